import PyProof.Rows.All
import Wide.All
import OpenK.AllK
import Wide.FinOn
import HandS.ForMost
import HandS.Walk
import HandS.Deep
import HandS.Conv
import HandS.Wide
import HandS.ListEq
import HandS.Iter
import KE.GoesEnum
import HandS.Style
import HandS.Dict
import HandS.SortInts
import HandS.WideBits
import HandS.RaiseMore
import HandS.BoundDict
import HandS.Ends
import HandS.Head0
import HandS.Head1
import HandS.Head2
import HandS.HeadEnd
import HandS.HeadHook1
import PyProof.Rows.RegFStrParts
import PyProof.Rows.ReprOcc
import PySem.Challenge.RW_suretrips_k46_whole_values_beside_all_fl
set_option Elab.async false
set_option linter.all false
set_option maxRecDepth 100000
set_option maxHeartbeats 0
/-! BV, first part: defs called where nothing is being shown (FnG), data by value (Is), the state of a body by value (Rep), what an expression gives. -/
namespace BV
open PySem PySem.Spec PyProof.Rows L2

abbrev D := PyData

/-! ### a def's promise, called where no repr runs -/
structure FnG (P : Program) (w : World) (K : PySem.W.Frag) (mg : Str → Option Value) (base : Heap) (CX : CXT) (k : Nat) (f : Addr) (fd : FuncData) (ps : List Str) (sp : Sp) : Prop where
  len : ∀ vs H Q E, sp vs H Q E → vs.length = ps.length
  run : ∀ (A : Around) (outer : List Env) (s : Shared) (H : Hp) (args : Args) (us : List Value) (vs : List V) (Q : VK) (E : XK),
    Room k A → A.guards = some [] → Env0 P w K mg base A outer s H → BindsTo s fd args (ps.zip us) → Vals vs us → sp vs H Q E →
    codeAny (model P w) A (.call (.ref f) args) (CR CX outer P w H s Q E) s

section
variable {P : Program} {w : World} {K : PySem.W.Frag} {mg : Str → Option Value} {base : Heap} {CX : CXT}

theorem FnG.mono {j k : Nat} {f : Addr} {fd : FuncData} {ps : List Str} {sp : Sp} (F : FnG P w K mg base CX j f fd ps sp) (h : j ≤ k) : FnG P w K mg base CX k f fd ps sp :=
  ⟨F.len, fun A o s H args us vs Q E hr => F.run A o s H args us vs Q E (hr.mono h)⟩

/-- a def of the text by its body -/
theorem fnG_of {k : Nat} {x qual : Str} {st : Stmt} {f : Addr} {fd : FuncData} {N ps : List Str} {sp : Sp} (F : Fun K x qual st f fd) (S : FnScope N ps (defScope st))
    (len : ∀ vs H Q E, sp vs H Q E → vs.length = ps.length)
    (body : ∀ (cdv : Value) (A : Around) (outer : List Env) (s : Shared) (H : Hp) (vs : List V) (Q : VK) (E : XK),
      Room k (A.deeper (envOfC qual (defScope st) s.heap.objs.size f cdv)) → A.guards = some [] → sp vs H Q E →
      ∃ t, PSs (cxOf CX P w K mg base N qual (defScope st) f cdv A outer s H E) (defBody st) t ∧ t { nx := fun _ H' => Q .non H', rt := Q } (start N vs) H) :
    FnG P w K mg base CX (k + 1) f fd ps sp := by
  obtain ⟨oc, od, kV, doc, pm, an, cdv, ct, osl, rfl, lk, hcd⟩ := F.ex
  refine ⟨len, ?_⟩
  intro A outer s H args us vs Q E hr hg e0 hb r hsp
  have hl := len _ _ _ _ hsp
  have ks : ∀ b o, base.get? b = some o → s.heap.get? b = some o := fun b o e => (e0.bs b o e).1
  have kx := e0.mod.kin.keeps ks
  have nl := e0.mod.nolimit.keeps ks
  have par : ∀ y ∈ ps.zip us, (defScope st).names.lookup y.1 = some .local ∨ ((defScope st).names.lookup y.1 = some .cell ∧
      ((cellsFrom (s.heap.objs.size + 1) (defScope st).names []).lookup y.1).isSome = true) := by
    rintro ⟨n, v⟩ hy
    have q := S.par n (List.of_mem_zip hy).1
    exact q.elim .inl fun q => .inr ⟨q, PySem.W.cellsFrom_some _ _ _ (.inl q)⟩
  refine codeAny_call_function hr.depth (kx _ _ lk) rfl S.co S.gen rfl (PySem.W.codeRec_of kx hcd) (hb _ _ _ _ ?_)
  refine wpAny_newFunctionEnv_cells S.kind par ?_
  intro env he s1 x
  subst he
  refine ⟨nl.keeps x.toInCall.keep, codeAny_func ?_⟩
  obtain ⟨t, ht, hq⟩ := body cdv A outer s H vs Q E (hr.deeper _) hg hsp
  have I := inv_start (CX := CX) (P := P) (K := K) (mg := mg) (base := base) (qual := qual) (f := f) (cd := cdv) (E := E) S hr.hd e0 hl r x
  refine wpAny_mono (ht.run [] s1 (start N vs) H _ I hq) ?_ fun _ _ z => z
  intro fl s' z
  cases fl with
  | ret u =>
    obtain ⟨v, _, H', J, rv, q⟩ := z
    exact ⟨v, H', J.os, J.bare, J.base, J.hok, rv, q⟩
  | next =>
    obtain ⟨_, H', J, q⟩ := z
    exact ⟨V.non, H', J.os, J.bare, J.base, J.hok, rfl, q⟩
  | brk => obtain ⟨_, _, _, q⟩ := z; exact q.elim
  | cont => obtain ⟨_, _, _, q⟩ := z; exact q.elim

/-- a global name that is a def with this promise -/
structure Cal (P : Program) (w : World) (K : PySem.W.Frag) (mg : Str → Option Value) (base : Heap) (CX : CXT) (k : Nat) (x : Str) (ps : List Str) (sp : Sp) : Prop where
  ex : ∃ f fd, FnG P w K mg base CX k f fd ps sp ∧ mg x = some (.ref f) ∧ PySem.W.keepIn K (.ref f) = true ∧ Binds K fd ps []
theorem Cal.mono {j k : Nat} {x : Str} {ps : List Str} {sp : Sp} (c : Cal P w K mg base CX j x ps sp) (h : j ≤ k) : Cal P w K mg base CX k x ps sp :=
  let ⟨f, fd, F, a, b, d⟩ := c.ex
  ⟨f, fd, F.mono h, a, b, d⟩
end

section
variable {X : Cx} {CX : CXT} {k : Nat} {f : Addr} {fd : FuncData} {ps : List Str} {sp : Sp} {E : XK} {x : Str} {p pos : Pos} {e : Expr} {es : List Expr} {t : TA}
theorem run_fnG {pins : List (Addr × Obj)} {σ : L2.St} {H : Hp} {s : Shared} {Q : VK} {us : List Value} {vs : List V} (F : FnG X.prog X.w X.K X.mg X.base CX k f fd ps sp) (hr : Room k X.A) (hg : X.A.guards = some []) (hb : Binds X.K fd ps [])
    (hx : Passes CX X E) (I : Inv X pins σ H s) (r : Vals vs us) (h : sp vs H Q E) : wpAny (model X.prog X.w) X.A (call (.ref f) us) (EP X pins σ Q) X.xe s := by
  have hl : (us ++ []).length = ps.length := by rw [List.append_nil, ← r.length]; exact F.len _ _ _ _ h
  have hb' := hb s us I.kIn hl
  rw [List.append_nil] at hb'
  refine wpAny_call (codeAny_mono (F.run X.A X.stack s H ⟨us, []⟩ us vs Q E hr hg I.env0 hb' r h) ?_)
  intro r s' z
  cases r with
  | error e => exact hx pins σ H s e s' I z
  | ok fl =>
    cases fl with
    | ret u => exact I.after z
    | next => exact False.elim z
    | brk => exact False.elim z
    | cont => exact False.elim z
theorem pe_callG (c : Cal X.prog X.w X.K X.mg X.base CX k x ps sp) (hr : Room k X.A) (hu : X.A.guards = some []) (hg : Gl X x) (hx : Passes CX X E)
    (ha : PA X (e :: es) t) (hdb : (x == ("__debug__" : Str)) = false) (he : starEach (e :: es) X.env = (false, eval e X.env) :: starEach es X.env) (hpl : (backTo pos (starEach es X.env)).any (·.1) = false) :
    PE X (.Call (.Name x p) (e :: es) [] pos) (tCall sp [] E t) := by
  obtain ⟨f, fd, F, hm, hk, hb⟩ := c.ex
  refine ⟨fun pins s σ H Q I h => wpAny_Call_Name_kw (ld_glob I hg hm ?_ hdb)⟩
  refine PySem.W.callWith_K (h₀ := X.base) I.ok.mod.kin hk (thn (ha.run pos pins s σ H _ I h) ?_) he hpl
  intro us s1 ⟨vs, H1, I1, r, q⟩
  have q' : sp (vs ++ []) H1 Q E := q
  rw [List.append_nil] at q'
  exact ⟨I1.kIn, run_fnG F hr hu hb hx I1 r q'⟩
end

/-! ### data by value -/
def kD : Key → D
  | .inl i => .int i
  | .inr s => .str s
mutual
inductive Is (B : Hp) : V → D → Prop
  | non : Is B .non .none
  | bl (b : Bool) : Is B (.bl b) (.bool b)
  | int (i : Int) : Is B (.int i) (.int i)
  | str (x : Str) : Is B (.str x) (.str x)
  | lst {a : Addr} {xs : List V} {ds : List D} : B a = some (.lst xs) → xs.length ≤ sizeLine → IsL B xs ds → Is B (.ref a) (.list ds)
  | tup {a : Addr} {xs : List V} {ds : List D} : B a = some (.tup xs) → xs.length ≤ sizeLine → IsL B xs ds → Is B (.ref a) (.tuple ds)
  | dK {a : Addr} {ob : Obj} {kvs : List (Key × V)} {ps : List (D × D)} : B a = some (.frz ob (.dK kvs)) → IsKV B kvs ps → Is B (.ref a) (.dict ps)
  | dT {a : Addr} {ob : Obj} {kvs : List (List Key × V)} {ps : List (D × D)} : B a = some (.frz ob (.dT kvs)) → kvs ≠ [] → IsKT B kvs ps → Is B (.ref a) (.dict ps)
inductive IsL (B : Hp) : List V → List D → Prop
  | nil : IsL B [] []
  | cons {v : V} {vs : List V} {d : D} {ds : List D} : Is B v d → IsL B vs ds → IsL B (v :: vs) (d :: ds)
inductive IsKV (B : Hp) : List (Key × V) → List (D × D) → Prop
  | nil : IsKV B [] []
  | cons {k : Key} {v : V} {r : List (Key × V)} {d : D} {ds : List (D × D)} : Is B v d → IsKV B r ds → IsKV B ((k, v) :: r) ((kD k, d) :: ds)
inductive IsKT (B : Hp) : List (List Key × V) → List (D × D) → Prop
  | nil : IsKT B [] []
  | cons {k : List Key} {v : V} {r : List (List Key × V)} {d : D} {ds : List (D × D)} : Is B v d → IsKT B r ds → IsKT B ((k, v) :: r) ((.tuple (k.map kD), d) :: ds)
end

mutual
theorem Is.mono {B B' : Hp} (h : Same B B') : ∀ {v : V} {d : D}, Is B v d → Is B' v d
  | _, _, .non => .non
  | _, _, .bl b => .bl b
  | _, _, .int i => .int i
  | _, _, .str x => .str x
  | _, _, .lst a z b => .lst (h _ _ a) z (IsL.mono h b)
  | _, _, .tup a z b => .tup (h _ _ a) z (IsL.mono h b)
  | _, _, .dK a b => .dK (h _ _ a) (IsKV.mono h b)
  | _, _, .dT a n b => .dT (h _ _ a) n (IsKT.mono h b)
theorem IsL.mono {B B' : Hp} (h : Same B B') : ∀ {v : List V} {d : List D}, IsL B v d → IsL B' v d
  | _, _, .nil => .nil
  | _, _, .cons a b => .cons (Is.mono h a) (IsL.mono h b)
theorem IsKV.mono {B B' : Hp} (h : Same B B') : ∀ {v : List (Key × V)} {d : List (D × D)}, IsKV B v d → IsKV B' v d
  | _, _, .nil => .nil
  | _, _, .cons a b => .cons (Is.mono h a) (IsKV.mono h b)
theorem IsKT.mono {B B' : Hp} (h : Same B B') : ∀ {v : List (List Key × V)} {d : List (D × D)}, IsKT B v d → IsKT B' v d
  | _, _, .nil => .nil
  | _, _, .cons a b => .cons (Is.mono h a) (IsKT.mono h b)
end

theorem IsL.len {B : Hp} : ∀ {xs : List V} {ds : List D}, IsL B xs ds → xs.length = ds.length
  | _, _, .nil => rfl
  | _, _, .cons _ t => congrArg Nat.succ t.len
theorem IsL.get {B : Hp} : ∀ {xs : List V} {ds : List D} {i : Nat} {x : V}, IsL B xs ds → xs[i]? = some x → ∃ d, ds[i]? = some d ∧ Is B x d
  | _, _, _, _, .nil, e => by simp at e
  | _, _, 0, _, .cons r _, e => by simp at e; subst e; exact ⟨_, rfl, r⟩
  | _, _, i + 1, x, .cons _ t, e => by
    obtain ⟨u, h1, h2⟩ := t.get (i := i) (x := x) (by simpa using e)
    exact ⟨u, by simpa using h1, h2⟩
theorem IsL.get' {B : Hp} : ∀ {xs : List V} {ds : List D} {i : Nat} {d : D}, IsL B xs ds → ds[i]? = some d → ∃ x, xs[i]? = some x ∧ Is B x d
  | _, _, _, _, .nil, e => by simp at e
  | _, _, 0, _, .cons r _, e => by simp at e; subst e; exact ⟨_, rfl, r⟩
  | _, _, i + 1, x, .cons _ t, e => by
    obtain ⟨u, h1, h2⟩ := t.get' (i := i) (by simpa using e)
    exact ⟨u, by simpa using h1, h2⟩
theorem IsL.app {B : Hp} : ∀ {xs ys : List V} {ds es : List D}, IsL B xs ds → IsL B ys es → IsL B (xs ++ ys) (ds ++ es)
  | _, _, _, _, .nil, r => r
  | _, _, _, _, .cons a t, r => .cons a (t.app r)
theorem IsL.take {B : Hp} : ∀ {xs : List V} {ds : List D} (n : Nat), IsL B xs ds → IsL B (xs.take n) (ds.take n)
  | _, _, 0, _ => .nil
  | _, _, _ + 1, .nil => .nil
  | _, _, n + 1, .cons r t => .cons r (t.take n)
theorem IsL.drop {B : Hp} : ∀ {xs : List V} {ds : List D} (n : Nat), IsL B xs ds → IsL B (xs.drop n) (ds.drop n)
  | _, _, 0, r => r
  | _, _, _ + 1, .nil => .nil
  | _, _, n + 1, .cons _ t => t.drop n
theorem IsL.set {B : Hp} {x : V} {d : D} (r : Is B x d) : ∀ {xs : List V} {ds : List D} (i : Nat), IsL B xs ds → IsL B (xs.set i x) (ds.set i d)
  | _, _, _, .nil => .nil
  | _, _, 0, .cons _ t => .cons r t
  | _, _, i + 1, .cons q t => .cons q (t.set r i)
theorem IsL.erase {B : Hp} : ∀ {xs : List V} {ds : List D} (i : Nat), IsL B xs ds → IsL B (xs.eraseIdx i) (ds.eraseIdx i)
  | _, _, _, .nil => .nil
  | _, _, 0, .cons _ t => t
  | _, _, i + 1, .cons q t => .cons q (t.erase i)
theorem IsL.rev {B : Hp} : ∀ {xs : List V} {ds : List D}, IsL B xs ds → IsL B xs.reverse ds.reverse
  | _, _, .nil => .nil
  | _, _, .cons a t => by rw [List.reverse_cons, List.reverse_cons]; exact t.rev.app (.cons a .nil)
theorem IsL.dropLast {B : Hp} {xs : List V} {ds : List D} (h : IsL B xs ds) : IsL B xs.dropLast ds.dropLast := by
  rw [List.dropLast_eq_take, List.dropLast_eq_take, h.len]; exact h.take _
theorem IsL.rep {B : Hp} {xs : List V} {ds : List D} (h : IsL B xs ds) : ∀ k : Nat, IsL B (List.replicate k xs).flatten (List.replicate k ds).flatten
  | 0 => .nil
  | k + 1 => by rw [List.replicate_succ, List.replicate_succ, List.flatten_cons, List.flatten_cons]; exact h.app (h.rep k)
theorem IsL.ints {B : Hp} : ∀ {xs : List V} {ns : List Int}, IsL B xs (ns.map PyData.int) → xs = ns.map V.int
  | _, [], h => by cases h; rfl
  | _, n :: ns, h => by
    cases h with
    | cons a t => cases a; rw [t.ints]; rfl
theorem isL_ints {B : Hp} : ∀ (ns : List Int), IsL B (ns.map V.int) (ns.map PyData.int)
  | [] => .nil
  | n :: ns => .cons (.int n) (isL_ints ns)

/-! no dict within -/
mutual
def flatD : D → Bool
  | .list ds => flatDs ds
  | .tuple ds => flatDs ds
  | .dict _ => false
  | _ => true
def flatDs : List D → Bool
  | [] => true
  | d :: ds => flatD d && flatDs ds
end
mutual
theorem Is.dp {K : PySem.W.Frag} {B H : Hp} (s : Same B H) : ∀ {v : V} {d : D}, Is B v d → flatD d = true → Dp K H v d
  | _, _, .non, _ => .non
  | _, _, .bl b, _ => .bl b
  | _, _, .int b, _ => .int b
  | _, _, .str b, _ => .str b
  | _, _, .lst a _ b, f => (.lst (.inl (.inl (s _ _ a))) (b.dp s (by simpa [flatD] using f)))
  | _, _, .tup a _ b, f => (.tup (.inl (.inl (s _ _ a))) (b.dp s (by simpa [flatD] using f)))
  | _, _, .dK a b, f => by simp [flatD] at f
  | _, _, .dT a n b, f => by simp [flatD] at f
theorem IsL.dp {K : PySem.W.Frag} {B H : Hp} (s : Same B H) : ∀ {v : List V} {d : List D}, IsL B v d → flatDs d = true → DpAll K H v d
  | _, _, .nil, _ => .nil
  | _, _, .cons a b, f => by
    simp only [flatDs, Bool.and_eq_true] at f
    exact .cons (a.dp s f.1) (b.dp s f.2)
end

/-! ### the state of a body, by value -/
/-- what stands at a name: nothing, a datum that stays, a list or dict of the body's own, one lent by the caller, the draws' jar -/
inductive Cell where
  | no
  | val (d : D)
  | own (ds : List D)
  | bor (ds : List D)
  | dic (t : Bool) (kvs : List (D × D))
  | bdic (t : Bool) (kvs : List (D × D))
  | jar (key : D)
  | scr (K : PySem.W.Frag) (ns : List Int)
abbrev En := List Cell

/-- the draws' jar: its addresses, what holds of them, its value -/
structure Jr where
  on : Bool
  a : Addr
  l : Addr
  ne : a ≠ l
  k1 : Str
  k2 : Str
  k3 : Str
  /-- the script: where it stands, what it holds -/
  sa : Option (Addr × List Int)
def Jr.J (G : Jr) (x : Addr) : Prop := (G.on = true ∧ (x = G.a ∨ x = G.l)) ∨ ∃ ns, G.sa = some (x, ns)
/-- a dict of a list of great numbers, a mixed number and a count -/
def Jr.at_ (G : Jr) (H : Hp) (ns : List Int) (s t : Int) : Prop :=
  H G.a = some (.dK [(.inr G.k1, .ref G.l), (.inr G.k2, .int s), (.inr G.k3, .int t)]) ∧ H G.l = some (.lst (ns.map V.int)) ∧ ns.length ≤ 63
def Jr.ok (G : Jr) (H : Hp) : Prop := (G.on = true → ∃ ns s t, G.at_ H ns s t) ∧ ∀ x ns, G.sa = some (x, ns) → ∃ o, H x = some (.frz o (.lst (ns.map V.int)))
def Jr.v (G : Jr) : V := .ref G.a
def Jr.key (G : Jr) : D := .tuple [.str G.k1, .str G.k2, .str G.k3]
theorem Jr.loc (G : Jr) (H H' : Hp) (h : ∀ a, G.J a → H' a = H a) (o : G.ok H) : G.ok H' := by
  refine ⟨fun e => ?_, fun x ns e => ?_⟩
  · obtain ⟨ns, s, t, h1, h2, h3⟩ := o.1 e
    exact ⟨ns, s, t, by rw [h _ (.inl ⟨e, .inl rfl⟩)]; exact h1, by rw [h _ (.inl ⟨e, .inr rfl⟩)]; exact h2, h3⟩
  · rw [h x (.inr ⟨ns, e⟩)]
    exact o.2 x ns e
theorem Jr.tr (G : Jr) (H : Hp) (a : Addr) (o : G.ok H) (j : G.J a) : H a ≠ none := by
  rcases j with j | ⟨ns, e⟩
  · obtain ⟨ns, s, t, h1, h2, _⟩ := o.1 j.1
    rcases j.2 with e | e
    · rw [e, h1]; simp
    · rw [e, h2]; simp
  · obtain ⟨ob, h⟩ := o.2 a ns e
    rw [h]; simp
def offJar (sa : Option (Addr × List Int)) : Jr := ⟨false, 0, 1, by decide, "", "", "", sa⟩

structure Gd (G : Jr) (B H : Hp) : Prop where
  sub : Same B H
  ok : G.ok H
  nj : ∀ a, G.J a → B a = none
structure Ext (G : Jr) (B H B' H' : Hp) : Prop where
  b : Same B B'
  h : ∀ a o, ¬ G.J a → H a = some o → H' a = some o
  n : ∀ a, B a = none → H a ≠ none → B' a = none
theorem Ext.refl (G : Jr) (B H : Hp) : Ext G B H B H := ⟨.refl _, fun _ _ _ h => h, fun _ h _ => h⟩
theorem Ext.trans {G : Jr} {B H B1 H1 B2 H2 : Hp} (g : Gd G B1 H1) (x : Ext G B H B1 H1) (y : Ext G B1 H1 B2 H2) : Ext G B H B2 H2 :=
  ⟨x.b.trans y.b, fun a o j e => y.h a o j (x.h a o j e), fun a hb hh => by
    refine y.n a (x.n a hb hh) ?_
    by_cases j : G.J a
    · exact G.tr _ _ g.ok j
    · cases e : H a with
      | none => exact absurd e hh
      | some o => rw [x.h a o j e]; simp⟩

/-- a dict's content by value -/
def DicAt (B : Hp) (t : Bool) (o : Option HO) (ps : List (D × D)) : Prop := match t with
  | false => ∃ kvs, o = some (.dK kvs) ∧ IsKV B kvs ps
  | true => ∃ kvs, o = some (.dT kvs) ∧ IsKT B kvs ps
theorem DicAt.mono {B B' : Hp} {t : Bool} {o : Option HO} {ps : List (D × D)} (s : Same B B') (h : DicAt B t o ps) : DicAt B' t o ps := by
  cases t
  · obtain ⟨k, a, b⟩ := h; exact ⟨k, a, b.mono s⟩
  · obtain ⟨k, a, b⟩ := h; exact ⟨k, a, b.mono s⟩
def LstAt (B : Hp) (o : Option HO) (ds : List D) : Prop := ∃ xs, o = some (.lst xs) ∧ xs.length ≤ sizeLine ∧ IsL B xs ds
theorem LstAt.mono {B B' : Hp} {o : Option HO} {ds : List D} (s : Same B B') (h : LstAt B o ds) : LstAt B' o ds :=
  let ⟨x, a, z, b⟩ := h; ⟨x, a, z, b.mono s⟩

def CellOk (G : Jr) (B0 H0 B H : Hp) : Cell → Option V → Prop
  | .no, _ => True
  | .val d, v => ∃ x, v = some x ∧ Is B x d
  | .own ds, v => ∃ a, v = some (.ref a) ∧ H0 a = none ∧ B a = none ∧ LstAt B (H a) ds
  | .dic t ds, v => ∃ a, v = some (.ref a) ∧ H0 a = none ∧ B a = none ∧ DicAt B t (H a) ds
  | .bor ds, v => ∃ a, v = some (.ref a) ∧ ¬ G.J a ∧ LstAt B (H0 a) ds
  | .bdic t ds, v => ∃ a, v = some (.ref a) ∧ ¬ G.J a ∧ DicAt B t (H0 a) ds
  | .jar k, v => v = some G.v ∧ G.on = true ∧ G.key = k
  | .scr K ns, v => ∃ a, v = some (.ref a) ∧ (G.sa = some (a, ns) ∨ ∀ H, SqL K H a (ns.map V.int))
def Cell.mine : Cell → Bool
  | .own _ => true
  | .dic _ _ => true
  | _ => false
structure Rep (G : Jr) (B0 H0 : Hp) (σ : L2.St) (H : Hp) (ρ : En) (B : Hp) : Prop where
  g0 : Gd G B0 H0
  g : Gd G B H
  x : Ext G B0 H0 B H
  len : ρ.length = σ.length
  at_ : ∀ (i : Nat) (c : Cell), ρ[i]? = some c → CellOk G B0 H0 B H c (σ[i]?.join)
  ap : ∀ (i j : Nat) (c e : Cell) (a : Addr), i ≠ j → ρ[i]? = some c → ρ[j]? = some e → c.mine = true → e.mine = true → σ[i]? = some (some (.ref a)) → σ[j]? ≠ some (some (.ref a))

section
variable {G : Jr} {B0 H0 B H B' H' : Hp} {σ : L2.St} {ρ : En}
theorem Ext.keep {a : Addr} {o : HO} (g : Gd G B0 H0) (x : Ext G B0 H0 B H) (h : H0 a = some o) (j : ¬ G.J a) : H a = some o := x.h a o j h
/-- what stands at a cell, seen at H -/
theorem CellOk.step (g : Gd G B H) (y : Ext G B H B' H') (hx : Ext G B0 H0 B H) (g0 : Gd G B0 H0) {c : Cell} {v : Option V} (h : CellOk G B0 H0 B H c v) : CellOk G B0 H0 B' H' c v := by
  cases c with
  | no => trivial
  | val d => obtain ⟨x, a, b⟩ := h; exact ⟨x, a, b.mono y.b⟩
  | own ds =>
    obtain ⟨a, e, h0, hb, xs, hl, z, il⟩ := h
    have hn : H a ≠ none := by rw [hl]; simp
    have nj : ¬ G.J a := fun j => G.tr _ _ g0.ok j h0
    exact ⟨a, e, h0, y.n a hb hn, xs, y.h a _ nj hl, z, il.mono y.b⟩
  | dic t ds =>
    obtain ⟨a, e, h0, hb, hd⟩ := h
    have nj : ¬ G.J a := fun j => G.tr _ _ g0.ok j h0
    cases t
    · obtain ⟨kvs, hl, il⟩ := hd
      have hn : H a ≠ none := by rw [hl]; simp
      exact ⟨a, e, h0, y.n a hb hn, kvs, y.h a _ nj hl, il.mono y.b⟩
    · obtain ⟨kvs, hl, il⟩ := hd
      have hn : H a ≠ none := by rw [hl]; simp
      exact ⟨a, e, h0, y.n a hb hn, kvs, y.h a _ nj hl, il.mono y.b⟩
  | bor ds => obtain ⟨a, e, j, q⟩ := h; exact ⟨a, e, j, q.mono y.b⟩
  | bdic t ds => obtain ⟨a, e, j, q⟩ := h; exact ⟨a, e, j, q.mono y.b⟩
  | jar k => exact h
  | scr K ns => exact h
end
end BV

/-! BV, second part: expressions by value. -/
namespace BV
open PySem PySem.Spec L2

/-! ### steps of the state -/
section
variable {G : Jr} {B0 H0 B H B1 H1 B' H' : Hp} {σ : L2.St} {ρ : En}
theorem Rep.step (r : Rep G B0 H0 σ H ρ B) (y : Ext G B H B' H') (g : Gd G B' H') : Rep G B0 H0 σ H' ρ B' :=
  ⟨r.g0, g, r.x.trans r.g y, r.len, fun i c e => (r.at_ i c e).step r.g y r.x r.g0, r.ap⟩
theorem Gd.njf (g : Gd G B H) {a : Addr} (h : H a = none) : ¬ G.J a := fun j => G.tr _ _ g.ok j h
theorem Gd.nb (g : Gd G B H) {a : Addr} (h : H a = none) : B a = none := by
  cases q : B a with
  | none => rfl
  | some z => rw [g.sub a z q] at h; cases h
theorem Ext.new {p : Addr} {o : HO} (hp : H p = none) (g : Gd G B H) : Ext G B H (upd B p o) (upd H p o) where
  b := fun a u e => by
    have hb : B p = none := by
      cases q : B p with
      | none => rfl
      | some z => rw [g.sub p z q] at hp; cases hp
    rw [upd_ne (ne_of_none e hb)]; exact e
  h := fun a u _ e => by rw [upd_ne (ne_of_none e hp)]; exact e
  n := fun a hb hh => by
    have : a ≠ p := fun e => hh (by rw [e]; exact hp)
    rw [upd_ne this]; exact hb
theorem Gd.new {p : Addr} {o : HO} (hp : H p = none) (g : Gd G B H) : Gd G (upd B p o) (upd H p o) where
  sub := fun a u e => by
    by_cases h : a = p
    · subst h; rw [upd_same] at e ⊢; exact e
    · rw [upd_ne h] at e ⊢; exact g.sub a u e
  ok := G.loc H _ (fun a j => by rw [upd_ne (fun e => g.njf hp (show G.J p by rw [← e]; exact j))]) g.ok
  nj := fun a j => by rw [upd_ne (fun e => g.njf hp (show G.J p by rw [← e]; exact j))]; exact g.nj a j
/-- a new object that is not told by value -/
theorem Ext.junk {p : Addr} {o : HO} (hp : H p = none) : Ext G B H B (upd H p o) where
  b := Same.refl _
  h := fun a u _ e => by rw [upd_ne (ne_of_none e hp)]; exact e
  n := fun _ h _ => h
theorem Gd.junk {p : Addr} {o : HO} (hp : H p = none) (g : Gd G B H) : Gd G B (upd H p o) where
  sub := fun a u e => by
    have : a ≠ p := fun z => by rw [z] at e; rw [g.sub p u e] at hp; cases hp
    rw [upd_ne this]; exact g.sub a u e
  ok := G.loc H _ (fun a j => by rw [upd_ne (fun e => g.njf hp (show G.J p by rw [← e]; exact j))]) g.ok
  nj := g.nj
/-- an untold object is told from now on -/
theorem Gd.tell {a : Addr} {o : HO} (g : Gd G B H) (h : H a = some o) (j : ¬ G.J a) : Gd G (upd B a o) H where
  sub := fun c u e => by
    by_cases q : c = a
    · subst q; rw [upd_same] at e; rw [h]; exact e
    · rw [upd_ne q] at e; exact g.sub c u e
  ok := g.ok
  nj := fun c hj => by rw [upd_ne (fun e => j (show G.J a by rw [← e]; exact hj))]; exact g.nj c hj
/-- told, and laid at the same time -/
theorem Gd.put {a : Addr} {o : HO} (g : Gd G B H) (j : ¬ G.J a) : Gd G (upd B a o) (upd H a o) where
  sub := fun c u e => by
    by_cases h : c = a
    · subst h; rw [upd_same] at e ⊢; exact e
    · rw [upd_ne h] at e ⊢; exact g.sub c u e
  ok := G.loc H _ (fun c hj => by rw [upd_ne (fun e => j (show G.J a by rw [← e]; exact hj))]) g.ok
  nj := fun c hj => by rw [upd_ne (fun e => j (show G.J a by rw [← e]; exact hj))]; exact g.nj c hj
theorem same_tell {a : Addr} {o : HO} (hb : B a = none) : Same B (upd B a o) := fun c u e => by
  rw [upd_ne (ne_of_none e hb)]; exact e
end

/-! ### what an expression gives: a datum that stays, a view, a new list, a new dict -/
inductive Kd where
  | e | v | l | d (t : Bool)
def View (G : Jr) (B H : Hp) (v : V) (d : D) : Prop :=
  Is B v d ∨ (∃ a ds, v = .ref a ∧ d = .list ds ∧ ¬ G.J a ∧ LstAt B (H a) ds) ∨ ∃ a t ps, v = .ref a ∧ d = .dict ps ∧ ¬ G.J a ∧ (t = true → ps ≠ []) ∧ DicAt B t (H a) ps
def Ok (κ : Kd) (G : Jr) (H B' H' : Hp) (v : V) (d : D) : Prop :=
  match κ with
  | .e => Is B' v d
  | .v => View G B' H' v d
  | .l => ∃ a ds, v = .ref a ∧ d = .list ds ∧ H a = none ∧ B' a = none ∧ ¬ G.J a ∧ LstAt B' (H' a) ds
  | .d t => ∃ a ps, v = .ref a ∧ d = .dict ps ∧ H a = none ∧ B' a = none ∧ ¬ G.J a ∧ (t = true → ps ≠ []) ∧ DicAt B' t (H' a) ps
section
variable {G : Jr} {B H B1 H1 B' H' : Hp} {v : V} {d : D}
theorem LstAt.ne {o : Option HO} {ds : List D} (h : LstAt B o ds) : o ≠ none := by obtain ⟨_, e, _⟩ := h; rw [e]; simp
theorem DicAt.ne {t : Bool} {o : Option HO} {ds : List (D × D)} (h : DicAt B t o ds) : o ≠ none := by
  cases t <;> (obtain ⟨_, e, _⟩ := h; rw [e]; simp)
theorem LstAt.step {a : Addr} {ds : List D} (h : LstAt B (H a) ds) (j : ¬ G.J a) (y : Ext G B H B' H') : LstAt B' (H' a) ds :=
  let ⟨xs, e, z, q⟩ := h; ⟨xs, y.h a _ j e, z, q.mono y.b⟩
theorem DicAt.step {a : Addr} {t : Bool} {ds : List (D × D)} (h : DicAt B t (H a) ds) (j : ¬ G.J a) (y : Ext G B H B' H') : DicAt B' t (H' a) ds := by
  cases t
  · obtain ⟨xs, e, q⟩ := h; exact ⟨xs, y.h a _ j e, q.mono y.b⟩
  · obtain ⟨xs, e, q⟩ := h; exact ⟨xs, y.h a _ j e, q.mono y.b⟩
theorem View.step (h : View G B H v d) (y : Ext G B H B' H') : View G B' H' v d := by
  rcases h with h | ⟨a, ds, e1, e2, j, q⟩ | ⟨a, t, ps, e1, e2, j, nn, q⟩
  · exact .inl (h.mono y.b)
  · exact .inr (.inl ⟨a, ds, e1, e2, j, q.step j y⟩)
  · exact .inr (.inr ⟨a, t, ps, e1, e2, j, nn, q.step j y⟩)
theorem Ext.back {a : Addr} (g1 : Gd G B1 H1) (x : Ext G B H B1 H1) (h : H1 a = none) : H a = none := by
  cases e : H a with
  | none => rfl
  | some o => rw [x.h a o (g1.njf h) e] at h; cases h
theorem Ok.back {κ : Kd} (g1 : Gd G B1 H1) (x : Ext G B H B1 H1) (h : Ok κ G H1 B' H' v d) : Ok κ G H B' H' v d := by
  cases κ with
  | e => exact h
  | v => exact h
  | l => obtain ⟨a, ds, e1, e2, h1, q⟩ := h; exact ⟨a, ds, e1, e2, x.back g1 h1, q⟩
  | d t => obtain ⟨a, ds, e1, e2, h1, q⟩ := h; exact ⟨a, ds, e1, e2, x.back g1 h1, q⟩
theorem Ok.view {κ : Kd} (h : Ok κ G H B' H' v d) : View G B' H' v d := by
  cases κ with
  | e => exact .inl h
  | v => exact h
  | l => obtain ⟨a, ds, e1, e2, _, _, j, q⟩ := h; exact .inr (.inl ⟨a, ds, e1, e2, j, q⟩)
  | d t => obtain ⟨a, ds, e1, e2, _, _, j, q⟩ := h; exact .inr (.inr ⟨a, t, ds, e1, e2, j, q⟩)
/-! what a view shows -/
theorem View.list {ds : List D} (g : Gd G B H) (h : View G B H v (.list ds)) : ∃ a xs, v = .ref a ∧ H a = some (.lst xs) ∧ xs.length ≤ sizeLine ∧ IsL B xs ds := by
  rcases h with h | ⟨a, es, e1, e2, _, xs, e, z, q⟩ | ⟨a, t, ps, _, e2, _⟩
  · cases h with
    | lst e z q => exact ⟨_, _, rfl, g.sub _ _ e, z, q⟩
  · cases e2; exact ⟨a, xs, e1, e, z, q⟩
  · cases e2
theorem View.tup {ds : List D} (g : Gd G B H) (h : View G B H v (.tuple ds)) : ∃ a xs, v = .ref a ∧ H a = some (.tup xs) ∧ xs.length ≤ sizeLine ∧ IsL B xs ds := by
  rcases h with h | ⟨a, es, e1, e2, _⟩ | ⟨a, t, ps, _, e2, _⟩
  · cases h with
    | tup e z q => exact ⟨_, _, rfl, g.sub _ _ e, z, q⟩
  · cases e2
  · cases e2
/-- a dict to be read -/
def DicRd (B H : Hp) (a : Addr) (ps : List (D × D)) : Prop := (∃ kvs, Rd H a (.dK kvs) ∧ IsKV B kvs ps) ∨ ∃ kvs, Rd H a (.dT kvs) ∧ IsKT B kvs ps ∧ ps ≠ []
theorem View.dict {ps : List (D × D)} (g : Gd G B H) (h : View G B H v (.dict ps)) : ∃ a, v = .ref a ∧ DicRd B H a ps := by
  rcases h with h | ⟨a, es, e1, e2, _⟩ | ⟨a, t, qs, e1, e2, _, nn, q⟩
  · cases h with
    | dK e q => exact ⟨_, rfl, .inl ⟨_, .inr ⟨_, g.sub _ _ e⟩, q⟩⟩
    | dT e n q => exact ⟨_, rfl, .inr ⟨_, .inr ⟨_, g.sub _ _ e⟩, q, by cases q with
      | nil => exact absurd rfl n
      | cons a t => simp⟩⟩
  · cases e2
  · cases e2
    cases t
    · obtain ⟨k, e, i⟩ := q; exact ⟨a, e1, .inl ⟨k, .inl e, i⟩⟩
    · obtain ⟨k, e, i⟩ := q; exact ⟨a, e1, .inr ⟨k, .inl e, i, nn rfl⟩⟩
theorem View.int {i : Int} (h : View G B H v (.int i)) : v = .int i := by
  rcases h with h | ⟨a, es, _, e2, _⟩ | ⟨a, t, qs, _, e2, _⟩
  · cases h; rfl
  · cases e2
  · cases e2
theorem View.bl {i : Bool} (h : View G B H v (.bool i)) : v = .bl i := by
  rcases h with h | ⟨a, es, _, e2, _⟩ | ⟨a, t, qs, _, e2, _⟩
  · cases h; rfl
  · cases e2
  · cases e2
theorem View.str {i : Str} (h : View G B H v (.str i)) : v = .str i := by
  rcases h with h | ⟨a, es, _, e2, _⟩ | ⟨a, t, qs, _, e2, _⟩
  · cases h; rfl
  · cases e2
  · cases e2
theorem View.non (h : View G B H v .none) : v = .non := by
  rcases h with h | ⟨a, es, _, e2, _⟩ | ⟨a, t, qs, _, e2, _⟩
  · cases h; rfl
  · cases e2
  · cases e2
/-- a view without dicts, for == and its like -/
theorem View.dp {K : PySem.W.Frag} (g : Gd G B H) (h : View G B H v d) (f : flatD d = true) : Dp K H v d := by
  rcases h with h | ⟨a, ds, rfl, rfl, _, xs, e, _, q⟩ | ⟨a, t, qs, _, rfl, _⟩
  · exact h.dp g.sub f
  · exact .lst (.inl (.inl e)) (q.dp g.sub (by simpa [flatD] using f))
  · simp [flatD] at f
def isNoneD : D → Bool
  | .none => true
  | _ => false
theorem View.isNone (h : View G B H v d) : decide (v = V.non) = isNoneD d := by
  cases d with
  | none => cases h.non; rfl
  | bool b => cases h.bl; rfl
  | int i => cases h.int; rfl
  | str x => cases h.str; rfl
  | list ds =>
    rcases h with h | ⟨a, es, e1, _⟩ | ⟨a, t, qs, e1, _⟩
    · cases h; rfl
    · rw [e1]; rfl
    · rw [e1]; rfl
  | tuple ds =>
    rcases h with h | ⟨a, es, e1, _⟩ | ⟨a, t, qs, e1, _⟩
    · cases h; rfl
    · rw [e1]; rfl
    · rw [e1]; rfl
  | dict ds =>
    rcases h with h | ⟨a, es, e1, _⟩ | ⟨a, t, qs, e1, _⟩
    · cases h <;> rfl
    · rw [e1]; rfl
    · rw [e1]; rfl
end

/-! ### readings by value -/
abbrev BX := En → (D → Prop) → Prop
def T (κ : Kd) (b : BX) : TE := fun σ H R => ∃ G B0 H0 ρ B Q, Rep G B0 H0 σ H ρ B ∧ b ρ Q ∧ ∀ v d B' H', Ext G B H B' H' → Gd G B' H' → Ok κ G H B' H' v d → Q d → R v H'
abbrev BT := En → (Bool → Prop) → Prop
def Tt (b : BT) : TT := fun σ H R => ∃ G B0 H0 ρ B Q, Rep G B0 H0 σ H ρ B ∧ b ρ Q ∧ ∀ k B' H', Ext G B H B' H' → Gd G B' H' → Q k → R k H'
/-- arguments, as views -/
inductive Views (G : Jr) (B H : Hp) : List V → List D → Prop
  | nil : Views G B H [] []
  | cons {v : V} {vs : List V} {d : D} {ds : List D} : View G B H v d → Views G B H vs ds → Views G B H (v :: vs) (d :: ds)
theorem Views.step {G : Jr} {B H B' H' : Hp} (y : Ext G B H B' H') : ∀ {vs : List V} {ds : List D}, Views G B H vs ds → Views G B' H' vs ds
  | _, _, .nil => .nil
  | _, _, .cons a t => .cons (a.step y) (t.step y)
abbrev BXs := En → (List D → Prop) → Prop
def Ta (b : BXs) : TA := fun σ H R => ∃ G B0 H0 ρ B Q, Rep G B0 H0 σ H ρ B ∧ b ρ Q ∧ ∀ vs ds B' H', Ext G B H B' H' → Gd G B' H' → Views G B' H' vs ds → Q ds → R vs H'
/-- arguments that stay: the items of a display -/
def Td (b : BXs) : TA := fun σ H R => ∃ G B0 H0 ρ B Q, Rep G B0 H0 σ H ρ B ∧ b ρ Q ∧ ∀ vs ds B' H', Ext G B H B' H' → Gd G B' H' → IsL B' vs ds → Q ds → R vs H'

section
variable {X : Cx} {e a b c : Expr} {es : List Expr} {pos : Pos} {κ κ' : Kd} {ba bb : BX}
theorem PE.mono {t t' : TE} (h : PE X e t) (m : ∀ σ H R, t' σ H R → t σ H R) : PE X e t' := ⟨fun pins s σ H Q I q => h.run pins s σ H Q I (m σ H Q q)⟩
theorem PT.mono {t t' : TT} (h : PT X e t) (m : ∀ σ H R, t' σ H R → t σ H R) : PT X e t' := ⟨fun pins s σ H Q I q => h.run pins s σ H Q I (m σ H Q q)⟩
theorem PW.mono {t t' : TT} (h : PW X e t) (m : ∀ σ H R, t' σ H R → t σ H R) : PW X e t' := ⟨fun wh pins s σ H Q I q => h.run wh pins s σ H Q I (m σ H Q q)⟩
theorem PA.mono {t t' : TA} (h : PA X es t) (m : ∀ σ H R, t' σ H R → t σ H R) : PA X es t' := ⟨fun p pins s σ H Q I q => h.run p pins s σ H Q I (m σ H Q q)⟩

abbrev PB (X : Cx) (κ : Kd) (e : Expr) (b : BX) : Prop := PE X e (T κ b)
abbrev PBt (X : Cx) (e : Expr) (b : BT) : Prop := PT X e (Tt b)
abbrev PBa (X : Cx) (es : List Expr) (b : BXs) : Prop := PA X es (Ta b)
abbrev PBd (X : Cx) (es : List Expr) (b : BXs) : Prop := PA X es (Td b)

/-- any result as a view -/
theorem pb_v (h : PB X κ e ba) : PB X .v e ba := PE.mono h fun σ H R ⟨G, B0, H0, ρ, B, Q, r, q, k⟩ =>
  ⟨G, B0, H0, ρ, B, Q, r, q, fun v d B' H' y g o => k v d B' H' y g o.view⟩
/-- a new list, told from now on -/
theorem pb_le (h : PB X .l e ba) : PB X .e e ba := PE.mono h fun σ H R ⟨G, B0, H0, ρ, B, Q, r, q, k⟩ =>
  ⟨G, B0, H0, ρ, B, Q, r, q, fun v d B' H' y g o qd => by
    obtain ⟨a, ds, rfl, rfl, hn, bn, j, xs, e, z, il⟩ := o
    refine k _ _ (upd B' a (.lst xs)) H' ⟨y.b.trans (same_tell bn), y.h, fun c hb hh => ?_⟩ (g.tell e j) (.lst upd_same z (il.mono (same_tell bn))) qd
    rw [upd_ne (fun z => hh (by rw [z]; exact hn))]
    exact y.n c hb hh⟩
theorem ne_kt {B : Hp} {kvs : List (List Key × V)} {ps : List (D × D)} (h : IsKT B kvs ps) (n : ps ≠ []) : kvs ≠ [] := by
  cases h with
  | nil => exact absurd rfl n
  | cons a t => simp
theorem pe_lockR {t : TE} (h : PE X e t) : PE X e (fun σ H Q => t σ H fun x H1 => ∃ d u, x = .ref d ∧ H1 d = some u ∧ Mut (some u) ∧ ∀ od, Q x (upd H1 d (.frz od u))) :=
  ⟨fun pins s σ H Q I h' => thn (h.run pins s σ H _ I h') fun v s1 ⟨x, H1, I1, r, d, u, ex, hd, mu, q⟩ =>
    let ⟨od, I2⟩ := I1.lock hd mu; ⟨x, _, I2, r, q od⟩⟩
theorem pb_de {t : Bool} (h : PB X (.d t) e ba) : PB X .e e ba := PE.mono (pe_lockR h) fun σ H R ⟨G, B0, H0, ρ, B, Q, r, q, k⟩ =>
  ⟨G, B0, H0, ρ, B, Q, r, q, fun v d B' H' y g o qd => by
    obtain ⟨a, ds, rfl, rfl, hn, bn, j, nn, o⟩ := o
    have n : ∀ (z : HO) c, B c = none → H c ≠ none → upd B' a z c = none := fun z c hb hh => by
      rw [upd_ne (fun z => hh (by rw [z]; exact hn))]
      exact y.n c hb hh
    have hh : ∀ (z : HO) c u, ¬ G.J c → H c = some u → upd H' a z c = some u := fun z c u nj e => by
      rw [upd_ne (ne_of_none e hn)]; exact y.h c u nj e
    cases t
    · obtain ⟨xs, e, il⟩ := o
      exact ⟨a, _, rfl, e, trivial, fun od => k _ _ (upd B' a (.frz od (.dK xs))) (upd H' a (.frz od (.dK xs))) ⟨y.b.trans (same_tell bn), hh _, n _⟩ (g.put j) (.dK upd_same (il.mono (same_tell bn))) qd⟩
    · obtain ⟨xs, e, il⟩ := o
      exact ⟨a, _, rfl, e, trivial, fun od => k _ _ (upd B' a (.frz od (.dT xs))) (upd H' a (.frz od (.dT xs))) ⟨y.b.trans (same_tell bn), hh _, n _⟩ (g.put j) (.dT upd_same (ne_kt il (nn rfl)) (il.mono (same_tell bn))) qd⟩⟩

/-! ### names and constants -/
def bC (d : D) : BX := fun _ Q => Q d
def bVar (i : Nat) : BX := fun ρ Q => match ρ[i]? with
  | some (.val d) => Q d
  | _ => False
/-- a name, whatever it holds, to be looked at -/
def bSee (i : Nat) : BX := fun ρ Q => match ρ[i]? with
  | some (.val d) => Q d
  | some (.own ds) => Q (.list ds)
  | some (.bor ds) => Q (.list ds)
  | some (.dic t ps) => (t = true → ps ≠ []) ∧ Q (.dict ps)
  | some (.bdic t ps) => (t = true → ps ≠ []) ∧ Q (.dict ps)
  | _ => False
theorem T.stay {κ : Kd} {σ : L2.St} {H : Hp} {R : VK} {G : Jr} {B0 H0 B : Hp} {ρ : En} {Q : D → Prop} {v : V} {d : D} (r : Rep G B0 H0 σ H ρ B)
    (k : ∀ v d B' H', Ext G B H B' H' → Gd G B' H' → Ok κ G H B' H' v d → Q d → R v H') (o : Ok κ G H B H v d) (q : Q d) : R v H := k v d B H (.refl _ _ _) r.g o q
theorem join_some {α : Type} {l : List (Option α)} {i : Nat} {x : α} (h : l[i]?.join = some x) : l[i]? = some (some x) := by
  cases e : l[i]? with
  | none => rw [e] at h; cases h
  | some o => rw [e] at h; cases o with
    | none => cases h
    | some y => cases h; rfl
theorem pb_var' {i : Nat} (h : PE X e (tVar i)) : PB X .e e (bVar i) := PE.mono h fun σ H R ⟨G, B0, H0, ρ, B, Q, r, q, k⟩ => by
  unfold bVar at q
  split at q
  · rename_i d hd
    obtain ⟨x, e1, ix⟩ := r.at_ i _ hd
    exact ⟨x, join_some e1, T.stay (κ := .e) r k ix q⟩
  · exact q.elim
theorem pb_see' {i : Nat} (h : PE X e (tVar i)) : PB X .v e (bSee i) := PE.mono h fun σ H R ⟨G, B0, H0, ρ, B, Q, r, q, k⟩ => by
  unfold bSee at q
  split at q
  · rename_i d hd
    obtain ⟨x, e1, ix⟩ := r.at_ i _ hd
    exact ⟨x, join_some e1, T.stay (κ := .v) r k (.inl ix) q⟩
  · rename_i ds hd
    obtain ⟨a, e1, h0, _, la⟩ := r.at_ i _ hd
    exact ⟨_, join_some e1, T.stay (κ := .v) r k (.inr (.inl ⟨a, ds, rfl, rfl, r.g0.njf h0, la⟩)) q⟩
  · rename_i ds hd
    obtain ⟨a, e1, j, xs, e2, z, il⟩ := r.at_ i _ hd
    exact ⟨_, join_some e1, T.stay (κ := .v) r k (.inr (.inl ⟨a, ds, rfl, rfl, j, xs, r.x.h a _ j e2, z, il⟩)) q⟩
  · rename_i t ds hd
    obtain ⟨a, e1, h0, _, la⟩ := r.at_ i _ hd
    exact ⟨_, join_some e1, T.stay (κ := .v) r k (.inr (.inr ⟨a, t, ds, rfl, rfl, r.g0.njf h0, q.1, la⟩)) q.2⟩
  · rename_i t ds hd
    obtain ⟨a, e1, j, la⟩ := r.at_ i _ hd
    refine ⟨_, join_some e1, T.stay (κ := .v) r k (.inr (.inr ⟨a, t, ds, rfl, rfl, j, q.1, ?_⟩)) q.2⟩
    cases t
    · obtain ⟨kv, e2, il⟩ := la; exact ⟨kv, r.x.h a _ j e2, il⟩
    · obtain ⟨kv, e2, il⟩ := la; exact ⟨kv, r.x.h a _ j e2, il⟩
  · exact q.elim
theorem pb_c {v : V} {d : D} (h : PE X e (tC v)) (i : ∀ B, Is B v d) : PB X .e e (bC d) := PE.mono h fun σ H R ⟨G, B0, H0, ρ, B, Q, r, q, k⟩ => T.stay (κ := .e) r k (i B) q
theorem pb_int {i j pos} : PB X .e (.Constant (.int i) j pos) (bC (.int i)) := pb_c pe_int fun _ => .int i
theorem pb_bl {i j pos} : PB X .e (.Constant (.bool i) j pos) (bC (.bool i)) := pb_c pe_bl fun _ => .bl i
theorem pb_str {i j pos} : PB X .e (.Constant (.str i) j pos) (bC (.str i)) := pb_c pe_str fun _ => .str i
theorem pb_non {j pos} : PB X .e (.Constant .none j pos) (bC .none) := pb_c pe_non fun _ => .non
theorem pb_glob {v : V} {d : D} {x : Str} {u : Value} {pos : Pos} (hg : Gl X x) (hm : X.mg x = some u) (r : RelV v u) (i : ∀ B, Is B v d) (hd : (x == ("__debug__" : Str)) = false) : PB X .e (.Name x pos) (bC d) := pb_c (pe_glob hg hm r hd) i

/-! ### operators -/
/-- what a two-place operation does to views -/
def Op2 (κ : Kd) (r : R2) (o : D → D → (D → Prop) → Prop) : Prop :=
  ∀ (G : Jr) (B H : Hp) (x y : V) (dx dy : D) (Q : D → Prop) (R : VK), Gd G B H → View G B H x dx → View G B H y dy → o dx dy Q →
    (∀ v d B' H', Ext G B H B' H' → Gd G B' H' → Ok κ G H B' H' v d → Q d → R v H') → r x y H R
def Op1 (κ : Kd) (r : V → Hp → VK → Prop) (o : D → (D → Prop) → Prop) : Prop :=
  ∀ (G : Jr) (B H : Hp) (x : V) (dx : D) (Q : D → Prop) (R : VK), Gd G B H → View G B H x dx → o dx Q →
    (∀ v d B' H', Ext G B H B' H' → Gd G B' H' → Ok κ G H B' H' v d → Q d → R v H') → r x H R
def OpN (κ : Kd) (r : List V → Hp → VK → Prop) (o : List D → (D → Prop) → Prop) : Prop :=
  ∀ (G : Jr) (B H : Hp) (xs : List V) (ds : List D) (Q : D → Prop) (R : VK), Gd G B H → Views G B H xs ds → o ds Q →
    (∀ v d B' H', Ext G B H B' H' → Gd G B' H' → Ok κ G H B' H' v d → Q d → R v H') → r xs H R
def b2 (o : D → D → (D → Prop) → Prop) (ba bb : BX) : BX := fun ρ Q => ba ρ fun x => bb ρ fun y => o x y Q
def b1 (o : D → (D → Prop) → Prop) (ba : BX) : BX := fun ρ Q => ba ρ fun x => o x Q
def bN (o : List D → (D → Prop) → Prop) (ba : BXs) : BX := fun ρ Q => ba ρ fun x => o x Q

theorem two {κ1 κ2 : Kd} {r : R2} {o : D → D → (D → Prop) → Prop} (h : Op2 κ r o) {σ : L2.St} {H : Hp} {R : VK} (q : T κ (b2 o ba bb) σ H R) :
    T κ1 ba σ H fun x H1 => T κ2 bb σ H1 fun y H2 => r x y H2 R := by
  obtain ⟨G, B0, H0, ρ, B, Q, r1, q, k⟩ := q
  refine ⟨G, B0, H0, ρ, B, _, r1, q, fun x dx B1 H1 y1 g1 o1 q1 => ?_⟩
  refine ⟨G, B0, H0, ρ, B1, _, r1.step y1 g1, q1, fun y dy B2 H2 y2 g2 o2 q2 => ?_⟩
  exact h G B2 H2 x y dx dy Q R g2 (o1.view.step y2) o2.view q2 fun v d B' H' y3 g3 o3 => k v d B' H' ((y1.trans g1 y2).trans g2 y3) g3 ((o3.back g2 y2).back g1 y1)
theorem pb_op {κ1 κ2 : Kd} {op : Operator} {r : R2} {o : D → D → (D → Prop) → Prop} (ho : OpR X (binaryOp op) r) (h : Op2 κ r o) (ha : PB X κ1 a ba) (hb : PB X κ2 b bb) : PB X κ (.BinOp a op b pos) (b2 o ba bb) :=
  PE.mono (pe_op ho ha hb) fun _ _ _ q => two h q
theorem pb_cmp {κ1 κ2 : Kd} {op : CmpOp} {r : R2} {o : D → D → (D → Prop) → Prop} (ho : OpR X (compareOp op) r) (h : Op2 κ r o) (hm : behindInMarks op b = false) (ha : PB X κ1 a ba) (hb : PB X κ2 b bb) : PB X κ (.Compare a [op] [b] pos) (b2 o ba bb) :=
  PE.mono (pe_cmpR ho ha hb hm) fun _ _ _ q => two h q
theorem one {κ1 : Kd} {r : V → Hp → VK → Prop} {o : D → (D → Prop) → Prop} (h : Op1 κ r o) {σ : L2.St} {H : Hp} {R : VK} (q : T κ (b1 o ba) σ H R) :
    T κ1 ba σ H fun x H1 => r x H1 R := by
  obtain ⟨G, B0, H0, ρ, B, Q, r1, q, k⟩ := q
  refine ⟨G, B0, H0, ρ, B, _, r1, q, fun x dx B1 H1 y1 g1 o1 q1 => ?_⟩
  exact h G B1 H1 x dx Q R g1 o1.view q1 fun v d B' H' y3 g3 o3 => k v d B' H' (y1.trans g1 y3) g3 (o3.back g1 y1)
theorem pb_un {κ1 : Kd} {op : UnaryOp} {r : V → Hp → VK → Prop} {o : D → (D → Prop) → Prop} (ho : UnR X (unaryOp op) r) (h : Op1 κ r o) (ha : PB X κ1 a ba) : PB X κ (.UnaryOp op a pos) (b1 o ba) :=
  PE.mono (pe_un ho ha) fun _ _ _ q => one h q

/-! ### argument lists -/
def bNil : BXs := fun _ Q => Q []
def bCons (b : BX) (bs : BXs) : BXs := fun ρ Q => b ρ fun d => bs ρ fun ds => Q (d :: ds)
theorem pa_nil' : PBa X [] bNil := PA.mono pa_nil fun σ H R ⟨G, B0, H0, ρ, B, Q, r, q, k⟩ => k [] [] B H (.refl _ _ _) r.g .nil q
theorem pa_cons' {κ1 : Kd} {bs : BXs} (ha : PB X κ1 e ba) (hs : PBa X es bs) (he : starEach (e :: es) X.env = (false, eval e X.env) :: starEach es X.env := by rfl) : PBa X (e :: es) (bCons ba bs) :=
  PA.mono (pa_cons ha hs he) fun σ H R ⟨G, B0, H0, ρ, B, Q, r, q, k⟩ =>
    ⟨G, B0, H0, ρ, B, _, r, q, fun x dx B1 H1 y1 g1 o1 q1 => ⟨G, B0, H0, ρ, B1, _, r.step y1 g1, q1, fun vs ds B2 H2 y2 g2 o2 q2 =>
      k _ _ B2 H2 (y1.trans g1 y2) g2 (.cons (o1.view.step y2) o2) q2⟩⟩
theorem pd_nil : PBd X [] bNil := PA.mono pa_nil fun σ H R ⟨G, B0, H0, ρ, B, Q, r, q, k⟩ => k [] [] B H (.refl _ _ _) r.g .nil q
theorem pd_cons {bs : BXs} (ha : PB X .e e ba) (hs : PBd X es bs) (he : starEach (e :: es) X.env = (false, eval e X.env) :: starEach es X.env := by rfl) : PBd X (e :: es) (bCons ba bs) :=
  PA.mono (pa_cons ha hs he) fun σ H R ⟨G, B0, H0, ρ, B, Q, r, q, k⟩ =>
    ⟨G, B0, H0, ρ, B, _, r, q, fun x dx B1 H1 y1 g1 o1 q1 => ⟨G, B0, H0, ρ, B1, _, r.step y1 g1, q1, fun vs ds B2 H2 y2 g2 o2 q2 =>
      k _ _ B2 H2 (y1.trans g1 y2) g2 (.cons (Is.mono y2.b o1) o2) q2⟩⟩

/-! ### displays -/
def bTup (bs : BXs) : BX := fun ρ Q => bs ρ fun ds => ds.length ≤ sizeLine ∧ Q (.tuple ds)
def bLst (bs : BXs) : BX := fun ρ Q => bs ρ fun ds => ds.length ≤ sizeLine ∧ Q (.list ds)
theorem pb_tup {bs : BXs} {x1} (h : PBd X es bs) : PB X .e (.Tuple es x1 pos) (bTup bs) := PE.mono (pe_tup h) fun σ H R ⟨G, B0, H0, ρ, B, Q, r, q, k⟩ =>
  ⟨G, B0, H0, ρ, B, _, r, q, fun vs ds B1 H1 y1 g1 il ⟨z, q1⟩ => ⟨by rw [il.len]; exact z, fun p hp =>
    k _ _ (upd B1 p (.tup vs)) (upd H1 p (.tup vs)) (y1.trans g1 (.new hp g1)) (g1.new hp) (.tup upd_same (by rw [il.len]; exact z) (il.mono (Ext.new hp g1 (o := .tup vs)).b)) q1⟩⟩
theorem pb_lst {bs : BXs} (h : PBd X es bs) : PB X .l (.List es pos) (bLst bs) := PE.mono (pe_lst h) fun σ H R ⟨G, B0, H0, ρ, B, Q, r, q, k⟩ =>
  ⟨G, B0, H0, ρ, B, _, r, q, fun vs ds B1 H1 y1 g1 il ⟨z, q1⟩ => ⟨by rw [il.len]; exact z, fun p hp =>
    k _ _ B1 (upd H1 p (.lst vs)) (y1.trans g1 (.junk hp)) (g1.junk hp) ⟨p, ds, rfl, rfl, y1.back g1 hp, g1.nb hp, g1.njf hp, vs, upd_same, by rw [il.len]; exact z, il⟩ q1⟩⟩

/-! ### calls of built-ins -/
theorem many {r : List V → Hp → VK → Prop} {o : List D → (D → Prop) → Prop} {bs : BXs} (h : OpN κ r o) {σ : L2.St} {H : Hp} {R : VK} (q : T κ (bN o bs) σ H R) :
    Ta bs σ H fun x H1 => r x H1 R := by
  obtain ⟨G, B0, H0, ρ, B, Q, r1, q, k⟩ := q
  refine ⟨G, B0, H0, ρ, B, _, r1, q, fun x dx B1 H1 y1 g1 o1 q1 => ?_⟩
  exact h G B1 H1 x dx Q R g1 o1 q1 fun v d B' H' y3 g3 o3 => k v d B' H' (y1.trans g1 y3) g3 (o3.back g1 y1)
theorem pb_fn {x : Str} {p : Pos} {id : String} {r : List V → Hp → VK → Prop} {o : List D → (D → Prop) → Prop} {bs : BXs} (hc : CallR X (.builtin id) r) (h : OpN κ r o) (hg : Gl X x) (hm : X.mg x = none) (hv : bootBuiltins x = some (.builtin id))
    (ha : PBa X (e :: es) bs) (hn : x ≠ "__name__") (hdb : (x == ("__debug__" : Str)) = false)
    (he : starEach (e :: es) X.env = (false, eval e X.env) :: starEach es X.env := by rfl) (hpl : (backTo pos (starEach es X.env)).any (·.1) = false := by rfl) : PB X κ (.Call (.Name x p) (e :: es) [] pos) (bN o bs) :=
  PE.mono (pe_callB hc hg hm hv ha hn hdb he hpl) fun _ _ _ q => many h q
theorem pb_ty {x : Str} {p : Pos} {id : String} {r : List V → Hp → VK → Prop} {o : List D → (D → Prop) → Prop} {bs : BXs} (hc : CallR X (.type id) r) (h : OpN κ r o) (hg : Gl X x) (hm : X.mg x = none) (hv : bootBuiltins x = some (.type id))
    (ha : PBa X (e :: es) bs) (hn : x ≠ "__name__") (hdb : (x == ("__debug__" : Str)) = false)
    (he : starEach (e :: es) X.env = (false, eval e X.env) :: starEach es X.env := by rfl) (hpl : (backTo pos (starEach es X.env)).any (·.1) = false := by rfl) : PB X κ (.Call (.Name x p) (e :: es) [] pos) (bN o bs) :=
  PE.mono (pe_callTy hc hg hm hv ha hn hdb he hpl) fun _ _ _ q => many h q

/-! ### tests -/
/-- a datum that is a bool -/
def oB (d : D) (Q : Bool → Prop) : Prop := match d with
  | .bool k => Q k
  | _ => False
def tV (b : BX) : BT := fun ρ Q => b ρ fun d => oB d Q
theorem tv_of {κ1 : Kd} {σ : L2.St} {H : Hp} {R : Bool → Hp → Prop} (q : Tt (tV ba) σ H R) : T κ1 ba σ H fun x H1 => ∃ k, x = .bl k ∧ R k H1 := by
  obtain ⟨G, B0, H0, ρ, B, Q, r, q, k⟩ := q
  refine ⟨G, B0, H0, ρ, B, _, r, q, fun x dx B1 H1 y1 g1 o1 q1 => ?_⟩
  unfold oB at q1
  split at q1
  · exact ⟨_, o1.view.bl, k _ B1 H1 y1 g1 q1⟩
  · exact q1.elim
theorem pt_v {κ1 : Kd} (h : PB X κ1 e ba) (he : ∀ whole, isTrue e X.env whole = (do let v ← whole; standAt e.pos; holding [v] (truthy v)) := by intro _; rfl) : PBt X e (tV ba) :=
  PT.mono (pt_val h he) fun _ _ _ q => tv_of q
theorem pt_c {κ1 κ2 : Kd} {op : CmpOp} {r : R2} {o : D → D → (D → Prop) → Prop} (ho : OpR X (compareOp op) r) (h : Op2 κ r o) (hm : behindInMarks op b = false) (ha : PB X κ1 a ba) (hb : PB X κ2 b bb) : PBt X (.Compare a [op] [b] pos) (tV (b2 o ba bb)) :=
  PT.mono (pt_cmpR ho ha hb hm) fun _ _ _ q => two (κ := κ) h (tv_of q)
def tNotB (t : BT) : BT := fun ρ Q => t ρ fun k => Q (!k)
def tAndB (t u : BT) : BT := fun ρ Q => t ρ fun k => if k = true then u ρ Q else Q false
def tOrB (t u : BT) : BT := fun ρ Q => t ρ fun k => if k = true then Q true else u ρ Q
variable {ta tb : BT} {rest : List Expr}
theorem pt_n (h : PBt X a ta) : PBt X (.UnaryOp .Not a pos) (tNotB ta) := PT.mono (pt_not h) fun σ H R ⟨G, B0, H0, ρ, B, Q, r, q, k⟩ =>
  ⟨G, B0, H0, ρ, B, _, r, q, fun c B1 H1 y1 g1 q1 => k _ B1 H1 y1 g1 q1⟩
abbrev PBw (X : Cx) (e : Expr) (b : BT) : Prop := PW X e (Tt b)
theorem pw_a1 (h : PBt X a ta) : PBw X (.BoolOp .And [a] pos) ta := pw_and1 h
theorem pw_o1 (h : PBt X a ta) : PBw X (.BoolOp .Or [a] pos) ta := pw_or1 h
theorem pw_a (h : PBt X a ta) (hb : PBw X (.BoolOp .And (b :: rest) pos) tb) : PBw X (.BoolOp .And (a :: b :: rest) pos) (tAndB ta tb) :=
  PW.mono (pw_and h hb) fun σ H R ⟨G, B0, H0, ρ, B, Q, r, q, k⟩ => ⟨G, B0, H0, ρ, B, _, r, q, fun c B1 H1 y1 g1 q1 => by
    cases c with
    | true =>
      rw [if_pos rfl] at q1 ⊢
      exact ⟨G, B0, H0, ρ, B1, _, r.step y1 g1, q1, fun c B2 H2 y2 g2 q2 => k c B2 H2 (y1.trans g1 y2) g2 q2⟩
    | false =>
      rw [if_neg Bool.false_ne_true] at q1 ⊢
      exact k _ B1 H1 y1 g1 q1⟩
theorem pw_o (h : PBt X a ta) (hb : PBw X (.BoolOp .Or (b :: rest) pos) tb) : PBw X (.BoolOp .Or (a :: b :: rest) pos) (tOrB ta tb) :=
  PW.mono (pw_or h hb) fun σ H R ⟨G, B0, H0, ρ, B, Q, r, q, k⟩ => ⟨G, B0, H0, ρ, B, _, r, q, fun c B1 H1 y1 g1 q1 => by
    cases c with
    | true =>
      rw [if_pos rfl] at q1 ⊢
      exact k _ B1 H1 y1 g1 q1
    | false =>
      rw [if_neg Bool.false_ne_true] at q1 ⊢
      exact ⟨G, B0, H0, ρ, B1, _, r.step y1 g1, q1, fun c B2 H2 y2 g2 q2 => k c B2 H2 (y1.trans g1 y2) g2 q2⟩⟩
theorem pt_w (h : PBw X e ta) : PBt X e ta := h.pt
/-- and, or as values -/
def bAnd (a b : BX) : BX := fun ρ Q => a ρ fun d => oB d fun k => if k = true then b ρ Q else Q (.bool false)
def bOr (a b : BX) : BX := fun ρ Q => a ρ fun d => oB d fun k => if k = true then Q (.bool true) else b ρ Q
theorem pb_one {κ1 : Kd} {op} (h : PB X κ1 a ba) : PB X κ1 (.BoolOp op [a] pos) ba := pe_one h
theorem pb_and (ha : PB X .e a ba) (hb : PB X .e (.BoolOp .And (b :: rest) pos) bb) : PB X .e (.BoolOp .And (a :: b :: rest) pos) (bAnd ba bb) :=
  PE.mono (pe_and ha hb) fun σ H R ⟨G, B0, H0, ρ, B, Q, r, q, k⟩ => ⟨G, B0, H0, ρ, B, _, r, q, fun x dx B1 H1 y1 g1 o1 q1 => by
    unfold oB at q1
    split at q1
    · rename_i c
      refine ⟨c, (Ok.view (κ := .e) (G := G) (H := H) o1).bl, ?_⟩
      cases c with
      | true =>
        rw [if_pos rfl] at q1 ⊢
        exact ⟨G, B0, H0, ρ, B1, _, r.step y1 g1, q1, fun v d B2 H2 y2 g2 o2 q2 => k v d B2 H2 (y1.trans g1 y2) g2 o2 q2⟩
      | false =>
        rw [if_neg Bool.false_ne_true] at q1 ⊢
        exact k _ _ B1 H1 y1 g1 (.bl false) q1
    · exact q1.elim⟩
theorem pb_or (ha : PB X .e a ba) (hb : PB X .e (.BoolOp .Or (b :: rest) pos) bb) : PB X .e (.BoolOp .Or (a :: b :: rest) pos) (bOr ba bb) :=
  PE.mono (pe_or ha hb) fun σ H R ⟨G, B0, H0, ρ, B, Q, r, q, k⟩ => ⟨G, B0, H0, ρ, B, _, r, q, fun x dx B1 H1 y1 g1 o1 q1 => by
    unfold oB at q1
    split at q1
    · rename_i c
      refine ⟨c, (Ok.view (κ := .e) (G := G) (H := H) o1).bl, ?_⟩
      cases c with
      | true =>
        rw [if_pos rfl] at q1 ⊢
        exact k _ _ B1 H1 y1 g1 (.bl true) q1
      | false =>
        rw [if_neg Bool.false_ne_true] at q1 ⊢
        exact ⟨G, B0, H0, ρ, B1, _, r.step y1 g1, q1, fun v d B2 H2 y2 g2 o2 q2 => k v d B2 H2 (y1.trans g1 y2) g2 o2 q2⟩
    · exact q1.elim⟩
def bNot (a : BX) : BX := fun ρ Q => a ρ fun d => oB d fun k => Q (.bool (!k))
theorem pb_not {κ1 : Kd} (ha : PB X κ1 a ba) : PB X .e (.UnaryOp .Not a pos) (bNot ba) :=
  PE.mono (pe_not ha) fun σ H R ⟨G, B0, H0, ρ, B, Q, r, q, k⟩ => ⟨G, B0, H0, ρ, B, _, r, q, fun x dx B1 H1 y1 g1 o1 q1 => by
    unfold oB at q1
    split at q1
    · exact ⟨_, o1.view.bl, k _ _ B1 H1 y1 g1 (.bl _) q1⟩
    · exact q1.elim⟩
/-- a if t else b -/
def bIf (t : BT) (a b : BX) : BX := fun ρ Q => t ρ fun k => if k = true then a ρ Q else b ρ Q
theorem pb_if (hc : PBt X c ta) (ha : PB X κ a ba) (hb : PB X κ b bb) : PB X κ (.IfExp c a b pos) (bIf ta ba bb) :=
  PE.mono (pe_ifExp hc ha hb) fun σ H R ⟨G, B0, H0, ρ, B, Q, r, q, k⟩ => ⟨G, B0, H0, ρ, B, _, r, q, fun c B1 H1 y1 g1 q1 => by
    cases c with
    | true =>
      rw [if_pos rfl] at q1 ⊢
      exact ⟨G, B0, H0, ρ, B1, _, r.step y1 g1, q1, fun v d B2 H2 y2 g2 o2 q2 => k v d B2 H2 (y1.trans g1 y2) g2 (o2.back g1 y1) q2⟩
    | false =>
      rw [if_neg Bool.false_ne_true] at q1 ⊢
      exact ⟨G, B0, H0, ρ, B1, _, r.step y1 g1, q1, fun v d B2 H2 y2 g2 o2 q2 => k v d B2 H2 (y1.trans g1 y2) g2 (o2.back g1 y1) q2⟩⟩
end
end BV

/-! BV, third part: what loops walk: a list or a tuple, enumerate of one, zip of two of either kind. -/
namespace BV
open PySem PySem.Spec L2

/-! ### a list (false) or a tuple (true) -/
def hoS : Bool → List V → HO
  | true, xs => .tup xs
  | false, xs => .lst xs
def Src : Bool → Heap → Addr → Array Value → Prop
  | true, h, a, its => h.IsTuple a its
  | false, h, a, its => h.IsList a its
def IterS : Bool → Heap → Addr → Addr → Nat → Prop
  | true, h, it, a, i => h.IsTupleIter it a i
  | false, h, it, a, i => h.IsListIter it a i
def iterO : Bool → Addr → Obj
  | true, a => { cls := .type "tuple_iterator", data := .fields #[.ref a, .int 0 0] }
  | false, a => { cls := .type "list_iterator", data := .fields #[.ref a, .int 0 0] }
theorem IterS.new {k : Bool} {h : Heap} {it a : Addr} (e : h.get? it = some (iterO k a)) : IterS k h it a 0 := by
  cases k <;> exact ⟨_, e, rfl, rfl⟩
theorem IterS.ob {k : Bool} {h : Heap} {it a : Addr} {i : Nat} (e : IterS k h it a i) : ∃ o, h.get? it = some o ∧ ∀ v, o.data ≠ .cell v := by
  cases k <;> (obtain ⟨o, ho, _, hd⟩ := e; exact ⟨o, ho, fun v q => by rw [hd] at q; cases q⟩)
theorem IterS.keep {k : Bool} {h h' : Heap} {it a : Addr} {i : Nat} (e : IterS k h it a i) (q : ∀ o, h.get? it = some o → h'.get? it = some o) : IterS k h' it a i := by
  cases k <;> exact e.at q
theorem drawsS (k : Bool) {prog : Program} {w : World} {A : Around} (hh : A.handled = none) (it a : Addr) (hne : a ≠ it) (its : Array Value) :
    Draws prog w A it [it, a] its.size (fun i v => its[i]? = some v) (fun i h => IterS k h it a i ∧ Src k h a its) := by
  cases k
  · exact Draws.list hh it a hne its
  · exact Draws.tuple hh it a hne its
theorem beginsS (k : Bool) (a : Addr) (its : Array Value) : Begins (.ref a) (iterO k a) fun h => Src k h a its := by
  cases k
  · exact begins_list a its
  · exact begins_tuple a its
section
variable {X : Cx} {pins : List (Addr × Obj)} {σ : L2.St} {H : Hp} {s : Shared} {a : Addr} {xs : List V} {k : Bool}
theorem src_of (I : Inv X pins σ H s) (h : H a = some (hoS k xs)) : ∃ its : List Value, Vals xs its ∧ Src k s.heap a its.toArray ∧ xs.length ≤ sizeLine := by
  cases k
  · obtain ⟨its, r, p, z⟩ := I.list (a := a) (xs := xs) (.inl (.inl h))
    exact ⟨its, r, p.isList, z⟩
  · obtain ⟨its, r, p, z⟩ := I.tuple (a := a) (xs := xs) (.inl (.inl h))
    exact ⟨its, r, p, z⟩
theorem src_lt (I : Inv X pins σ H s) (h : H a = some (hoS k xs)) : a < s.heap.objs.size := I.hok.lt h
theorem hoS_inj {k : Bool} {xs ys : List V} (h : hoS k xs = hoS k ys) : xs = ys := by
  cases k <;> (cases h; rfl)
end

/-! ### enumerate -/
def ItE (k : Bool) (a : Addr) : It :=
  ⟨fun i H => ∃ xs, H a = some (hoS k xs) ∧ i < xs.length,
    fun i H v H' => ∃ T x xs, v = .ref T ∧ H T = none ∧ H' = upd H T (.tup [.int (i : Nat), x]) ∧ H a = some (hoS k xs) ∧ xs[i]? = some x,
    fun i H => ∃ xs, H a = some (hoS k xs) ∧ xs.length = i⟩
theorem turn_enumS {P : Program} {w : World} {K : PySem.W.Frag} {elts : List Expr} {kk : Nat} {tpos : Pos} (k : Bool) (a e it : Addr) :
    Turn P w K (.Tuple elts kk tpos) (ItE k a) [e, it] e (fun i h => (∃ old, IsEnum h e it ((i : Nat) : Int) old) ∧ IterS k h it a i ∧ e ≠ it ∧ a ≠ it ∧ a ≠ e) where
  mem := by simp
  obj := fun i h st b hb => by
    obtain ⟨⟨old, he⟩, hi, _⟩ := st
    have q : b = e ∨ b = it := by simpa using hb
    rcases q with rfl | rfl
    · exact ⟨_, he, fun v q => nomatch q⟩
    · exact hi.ob
  keep := fun i h h' st q => by
    obtain ⟨⟨old, he⟩, hi, r⟩ := st
    exact ⟨⟨old, q e (by simp) _ he⟩, hi.keep fun o z => q it (by simp) o z, r⟩
  item := by
    intro X hP hw hK hc i pins s σ H E I hf st hg
    subst hP hw hK
    obtain ⟨⟨old, he⟩, hit, n1, n2, n3⟩ := st
    obtain ⟨xs, hx, hlt⟩ := hg
    obtain ⟨its, rv, sr, _⟩ := src_of I hx
    have hl := rv.length
    have W := WalksT.enumerateD (drawsS k (prog := X.prog) (w := X.w) (A := X.A.in1) (I.ok.hd hc) it a n2 its.toArray) e n1 (by simp [n1, Ne.symm n3]) (by simp)
    refine W.item i s _ _ (by simp; omega) ⟨⟨old, he⟩, hit, sr⟩ ?_
    intro T vals h' tk hP hsz hT hm hk
    refine ⟨_, rfl, W.go elts kk tpos i T _ _ _ hm ?_⟩
    intro h2 st2 hk2
    obtain ⟨t, u, hu, rfl⟩ := hP
    obtain ⟨x, hxi⟩ : ∃ x, xs[i]? = some x := ⟨xs[i], List.getElem?_eq_getElem hlt⟩
    obtain ⟨u', hu', ru⟩ := rv.get hxi
    have eu : u = u' := by
      have : its[i]? = some u := by simpa using hu
      rw [hu'] at this; exact (Option.some.inj this).symm
    subst eu
    have hT2 : h2.IsTuple T #[.int (i : Nat) t, u] := hT.at fun o z => hk2 T o (W.apart i T h' hm) z
    obtain ⟨⟨old2, he2⟩, hit2, _⟩ := st2
    have nw : ObjOk X.prog X.w (upd H T (.tup [.int (i : Nat), x])) h2 T (.tup [.int (i : Nat), x]) :=
      ⟨by show 2 ≤ sizeLine; decide, [.int (i : Nat) t, u], .cons ⟨_, rfl⟩ (.cons ru .nil), hT2⟩
    have I1 : Inv X pins σ (upd H T (.tup [.int (i : Nat), x])) { s with heap := h2, toks := tk } :=
      I.turnedNew (ch := [e, it]) (fun b o hb z => hk2 b o hb (hk b o hb z)) hf hsz nw
    refine ⟨.ref T, _, I1, rfl, ⟨T, x, xs, rfl, I.hok.fresh hsz, rfl, hx, hxi⟩, ⟨⟨old2, he2⟩, hit2, n1, n2, n3⟩, ?_⟩
    intro b hb
    obtain ⟨o, hob⟩ : ∃ o, s.heap.get? b = some o := by
      have q : b = e ∨ b = it := by simpa using hb
      rcases q with rfl | rfl
      · exact ⟨_, he⟩
      · obtain ⟨o, q, _⟩ := hit.ob; exact ⟨o, q⟩
    rw [upd_ne (Nat.ne_of_lt (Nat.lt_of_lt_of_le (Heap.lt_size hob) hsz))]
    exact (hf b hb).1
  done := by
    intro X hP hw hK hc i pins s σ H E I hf st hg
    subst hP hw hK
    obtain ⟨⟨old, he⟩, hit, n1, n2, n3⟩ := st
    obtain ⟨xs, hx, rfl⟩ := hg
    obtain ⟨its, rv, sr, _⟩ := src_of I hx
    have hl : xs.length = its.toArray.size := by rw [rv.length, List.size_toArray]
    have D := drawsS k (prog := X.prog) (w := X.w) (A := X.A.in1) (I.ok.hd hc) it a n2 its.toArray
    refine wpAny_pyNext_enum_endD D he (by rw [hl] at hit; exact ⟨hit, sr⟩) fun h' eb => ⟨rfl, ?_⟩
    exact I.turnedL (t' := s.toks) (ch := [it]) (fun b o hb z => eb b o (by simpa using hb) z) fun b hb => hf b (by simp at hb; simp [hb])
  self := fun A i s Q E st h => let ⟨⟨_, he⟩, _⟩ := st; wpAny_pyIter_enum he h

/-- enumerate(v): its two new objects -/
theorem meets_enum1 {v : Value} {o : Obj} {H : Heap → Prop} (B : Begins v o H) :
    Meets (Builtin.«enumerate.__new__» ⟨[.type "enumerate", v], []⟩) (fun _ R s => H s.heap ∧
      R (.ok (.ret (.ref (s.heap.push o).objs.size))) { s with heap := (s.heap.push o).push { cls := .type "enumerate", data := .fields #[.none, .bool false, .ref s.heap.objs.size, rawInt 0, .none, .none] } }) :=
  .of_wp fun prog w A R s h => by
    obtain ⟨hp, g, d, tk, os⟩ := s
    obtain ⟨h1, h⟩ := h
    have hsub := sub_enumerate
    have it1 : ∀ {A' : Around} {E : Value → Shared → Prop} {Q : Value → Shared → Prop}, Q (.ref hp.objs.size) ⟨hp.push o, g, d, tk, os⟩ → wpAny (model prog w) A' (pyIter v) Q E ⟨hp, g, d, tk, os⟩ :=
      fun q => B.iter prog w _ _ ⟨hp, g, d, tk, os⟩ _ h1 q
    wp_walk using it1
    refine wpAny_stack_any fun st => wpAny_pure ?_
    split
    · rename_i c _ _ _ _ _
      cases (c == Value.type "enumerate")
      · wp_walk using it1
        exact ⟨_, rfl, h⟩
      · wp_walk using it1
        exact ⟨_, rfl, h⟩
    · wp_walk using it1
      exact ⟨_, rfl, h⟩
theorem enum_begins1 {prog : Program} {w : World} {A : Around} {E : Value → Shared → Prop} {s : Shared} {v : Value} {o : Obj} {H : Heap → Prop} {Q : Value → Shared → Prop} (B : Begins v o H) (h1 : H s.heap)
    (h : ∀ h', IsEnum h' (s.heap.objs.size + 1) s.heap.objs.size 0 .none → h'.get? s.heap.objs.size = some o → (∀ b o, s.heap.get? b = some o → h'.get? b = some o) → Q (.ref (s.heap.objs.size + 1)) { s with heap := h' }) :
    wpAny (model prog w) A (call (.type "enumerate") [v]) Q E s := by
  refine callType_new F.called_enumerate (by decide) (F.typeCall_enumerate_1 _) (F.newCall_enumerate_1 _) (fun obj => F.args_object_init_2 obj _) F.entry_enumerate_new (meets_enum1 B) ⟨h1, ?_⟩
  have hz : (s.heap.push o).objs.size = s.heap.objs.size + 1 := Heap.size_push ..
  show _ ∧ _
  rw [hz]
  have he := Heap.get?_push_size (s.heap.push o) (o := { cls := .type "enumerate", data := .fields #[.none, .bool false, .ref s.heap.objs.size, rawInt 0, .none, .none] }) rfl
  rw [hz] at he
  refine ⟨⟨_, he, rfl⟩, h _ he (Heap.get?_push_of_some _ (Heap.get?_push_size _ B.free)) ?_⟩
  intro b o z
  exact Heap.get?_push_of_some _ (Heap.get?_push_of_some _ z)
def iEnumS (ta : TA) : TI := fun σ H R => ta σ H fun vs H1 => ∃ a k xs, vs = [.ref a] ∧ H1 a = some (hoS k xs) ∧ R (ItE k a) H1
theorem pi_enumS {X : Cx} {e : Expr} {ta : TA} {p pos tpos : Pos} {elts : List Expr} {kk : Nat} (hg : Gl X "enumerate") (hm : X.mg "enumerate" = none) (ha : PA X [e] ta) (hs : starEach [e] X.env = [(false, eval e X.env)] := by rfl) :
    PI X (.Tuple elts kk tpos) (.Call (.Name "enumerate" p) [e] [] pos) (iEnumS ta) := by
  refine ⟨fun pins s σ H R I h => ?_⟩
  refine PyProof.Rows.Call_ (ld_blt I hg hm PyProof.Rows.boot_enumerate (PyProof.Rows.callWith_type1 (thn (ha.run pos pins s σ H _ I h) ?_) hs rfl))
  intro us s1 ⟨vs, H1, I1, r1, a, k, xs, ex, hx, q⟩
  subst ex
  obtain ⟨u, rfl, ru⟩ := vals1 r1
  cases ru
  obtain ⟨its, rv, sr, hz⟩ := src_of I1 hx
  have hlt := src_lt I1 hx
  refine enum_begins1 (beginsS k a its.toArray) sr fun h' he hit hk => wpAny_pyIter_enum he ?_
  have I2 : Inv X pins σ H1 { s1 with heap := h' } := I1.kept (t' := s1.toks) hk
  refine ⟨s1.heap.objs.size + 1, [s1.heap.objs.size + 1, s1.heap.objs.size], _, _, H1, rfl, I2, turn_enumS k a (s1.heap.objs.size + 1) s1.heap.objs.size, ⟨⟨.none, he⟩, .new hit, Nat.succ_ne_self _, Nat.ne_of_lt hlt, Nat.ne_of_lt (Nat.lt_succ_of_lt hlt)⟩, ?_, q⟩
  intro b hb
  have q2 : b = s1.heap.objs.size + 1 ∨ b = s1.heap.objs.size := by simpa using hb
  have hle : s1.heap.objs.size ≤ b := by rcases q2 with rfl | rfl <;> omega
  exact I1.fpOk hle (I1.hok.fresh hle)

/-! ### zip of two -/
def ItZ (k1 k2 : Bool) (a b : Addr) : It :=
  ⟨fun i H => ∃ xs ys, H a = some (hoS k1 xs) ∧ H b = some (hoS k2 ys) ∧ i < xs.length ∧ i < ys.length,
    fun i H v H' => ∃ T x y xs ys, v = .ref T ∧ H T = none ∧ H' = upd H T (.tup [x, y]) ∧ H a = some (hoS k1 xs) ∧ H b = some (hoS k2 ys) ∧ xs[i]? = some x ∧ ys[i]? = some y,
    fun i H => ∃ xs ys, H a = some (hoS k1 xs) ∧ H b = some (hoS k2 ys) ∧ min xs.length ys.length = i⟩
theorem turn_zipS {P : Program} {w : World} {K : PySem.W.Frag} {elts : List Expr} {kk : Nat} {tpos : Pos} (k1 k2 : Bool) {a b z TI TO i1 i2 : Addr} (S : ZipSep2 z TI TO i1 i2 [i1, a] [i2, b]) :
    Turn P w K (.Tuple elts kk tpos) (ItZ k1 k2 a b) [z, TI, TO, i1, i2] z (fun i h => IsZip h z TI TO .none ∧ IsTupOf2 h TI (.ref i1) (.ref i2) ∧ (∃ x y, IsTupOf2 h TO x y) ∧ IterS k1 h i1 a i ∧ IterS k2 h i2 b i) where
  mem := by simp
  obj := fun i h st c hc => by
    obtain ⟨hz, hTI, ⟨x, y, hTO⟩, h1, h2⟩ := st
    have q : c = z ∨ c = TI ∨ c = TO ∨ c = i1 ∨ c = i2 := by simpa using hc
    rcases q with rfl | rfl | rfl | rfl | rfl
    · exact ⟨_, hz, fun v q => nomatch q⟩
    · exact ⟨_, hTI, fun v q => nomatch q⟩
    · exact ⟨_, hTO, fun v q => nomatch q⟩
    · exact h1.ob
    · exact h2.ob
  keep := fun i h h' st q => by
    obtain ⟨hz, hTI, ⟨x, y, hTO⟩, h1, h2⟩ := st
    exact ⟨q z (by simp) _ hz, q TI (by simp) _ hTI, ⟨x, y, q TO (by simp) _ hTO⟩, h1.keep fun o r => q i1 (by simp) o r, h2.keep fun o r => q i2 (by simp) o r⟩
  item := by
    intro X hP hw hK hc i pins s σ H E I hf st hg
    subst hP hw hK
    obtain ⟨hz, hTI, hTO, h1, h2⟩ := st
    obtain ⟨xs, ys, hx, hy, hlx, hly⟩ := hg
    obtain ⟨its, rv, sr, _⟩ := src_of I hx
    obtain ⟨its2, rv2, sr2, _⟩ := src_of I hy
    have hl := rv.length
    have hl2 := rv2.length
    have n1 : a ≠ i1 := ne_of_none hx (hf i1 (by simp)).1
    have n2 : b ≠ i2 := ne_of_none hy (hf i2 (by simp)).1
    have D1 := drawsS k1 (prog := X.prog) (w := X.w) (A := X.A.in1) (I.ok.hd hc) i1 a n1 its.toArray
    have D2 := drawsS k2 (prog := X.prog) (w := X.w) (A := X.A.in1) (I.ok.hd hc) i2 b n2 its2.toArray
    have W := WalksT.zipD2 S D1 D2
    have old : ∀ c ∈ [z, TI, TO, i1, i2], c < s.heap.objs.size := by
      intro c hcm
      obtain ⟨x0, y0, q0⟩ := hTO
      have q : c = z ∨ c = TI ∨ c = TO ∨ c = i1 ∨ c = i2 := by simpa using hcm
      rcases q with rfl | rfl | rfl | rfl | rfl
      · exact Heap.lt_size hz
      · exact Heap.lt_size hTI
      · exact Heap.lt_size q0
      · obtain ⟨o, q, _⟩ := h1.ob; exact Heap.lt_size q
      · obtain ⟨o, q, _⟩ := h2.ob; exact Heap.lt_size q
    refine W.item i s _ _ (by simp; omega) ⟨hz, hTI, hTO, ⟨h1, sr⟩, h2, sr2⟩ ?_
    intro T vals h' tk hP hsz hT hm hk
    refine ⟨_, rfl, W.go elts kk tpos i T _ _ _ hm ?_⟩
    intro h3 st3 hk3
    obtain ⟨u, u2, hu, hu2, rfl⟩ := hP
    obtain ⟨x, hxi⟩ : ∃ x, xs[i]? = some x := ⟨xs[i], List.getElem?_eq_getElem hlx⟩
    obtain ⟨y, hyi⟩ : ∃ y, ys[i]? = some y := ⟨ys[i], List.getElem?_eq_getElem hly⟩
    obtain ⟨v, hv, ru⟩ := rv.get hxi
    obtain ⟨v2, hv2, ru2⟩ := rv2.get hyi
    have e1 : u = v := by
      have q : its[i]? = some u := by simpa using hu
      rw [hv] at q; exact (Option.some.inj q).symm
    have e2 : u2 = v2 := by
      have q : its2[i]? = some u2 := by simpa using hu2
      rw [hv2] at q; exact (Option.some.inj q).symm
    subst e1 e2
    have hT2 : h3.IsTuple T #[u, u2] := hT.at fun o q => hk3 T o (W.apart i T h' hm) q
    obtain ⟨a1, a2, a3, a4, a5⟩ := st3
    have nw : ObjOk X.prog X.w (upd H T (.tup [x, y])) h3 T (.tup [x, y]) := ⟨by show 2 ≤ sizeLine; decide, [u, u2], .cons ru (.cons ru2 .nil), hT2⟩
    have I1 : Inv X pins σ (upd H T (.tup [x, y])) { s with heap := h3, toks := tk } :=
      I.turnedNew (ch := [z, TO, i1, i2]) (fun c o hb q => hk3 c o hb (hk c o hb q)) (fun c hcm => hf c (by simp at hcm ⊢; rcases hcm with q | q | q | q <;> simp [q])) hsz nw
    refine ⟨.ref T, _, I1, rfl, ⟨T, x, y, xs, ys, rfl, I.hok.fresh hsz, rfl, hx, hy, hxi, hyi⟩, ⟨a1, a2, a3, a4.1, a5.1⟩, ?_⟩
    intro c hcm
    rw [upd_ne (Nat.ne_of_lt (Nat.lt_of_lt_of_le (old c hcm) hsz))]
    exact (hf c hcm).1
  done := by
    intro X hP hw hK hc i pins s σ H E I hf st hg
    subst hP hw hK
    obtain ⟨hz, hTI, hTO, h1, h2⟩ := st
    obtain ⟨xs, ys, hx, hy, rfl⟩ := hg
    obtain ⟨its, rv, sr, _⟩ := src_of I hx
    obtain ⟨its2, rv2, sr2, _⟩ := src_of I hy
    have hl : xs.length = its.toArray.size := by rw [rv.length, List.size_toArray]
    have hl2 : ys.length = its2.toArray.size := by rw [rv2.length, List.size_toArray]
    have n1 : a ≠ i1 := ne_of_none hx (hf i1 (by simp)).1
    have n2 : b ≠ i2 := ne_of_none hy (hf i2 (by simp)).1
    have D1 := drawsS k1 (prog := X.prog) (w := X.w) (A := X.A.in1) (I.ok.hd hc) i1 a n1 its.toArray
    have D2 := drawsS k2 (prog := X.prog) (w := X.w) (A := X.A.in1) (I.ok.hd hc) i2 b n2 its2.toArray
    have W := WalksT.zipD2 S D1 D2
    refine W.done s _ _ (by rw [hl, hl2] at h1 h2; exact ⟨hz, hTI, hTO, ⟨h1, sr⟩, h2, sr2⟩) fun h' tk hk => ⟨rfl, ?_⟩
    exact I.turnedL (ch := [z, TO, i1, i2]) (fun c o hb q => hk c o hb q) (fun c hcm => hf c (by simp at hcm ⊢; rcases hcm with q | q | q | q <;> simp [q]))
  self := fun A i s Q E st h => wpAny_pyIter_zip st.1 h
def iZipS (ta : TA) : TI := fun σ H R => ta σ H fun vs H1 => ∃ a b k1 k2 xs ys, vs = [.ref a, .ref b] ∧ H1 a = some (hoS k1 xs) ∧ H1 b = some (hoS k2 ys) ∧ R (ItZ k1 k2 a b) H1
theorem pi_zipS {X : Cx} {e e2 : Expr} {ta : TA} {p pos tpos : Pos} {elts : List Expr} {kk : Nat} (hg : Gl X "zip") (hm : X.mg "zip" = none) (ha : PA X [e, e2] ta)
    (hs : starEach [e, e2] X.env = (false, eval e X.env) :: starEach [e2] X.env := by rfl) (hpl : (backTo pos (starEach [e2] X.env)).any (·.1) = false := by rfl) :
    PI X (.Tuple elts kk tpos) (.Call (.Name "zip" p) [e, e2] [] pos) (iZipS ta) := by
  refine ⟨fun pins s σ H R I h => ?_⟩
  refine PyProof.Rows.Call_ (ld_blt I hg hm PyProof.Rows.boot_zip (PyProof.Rows.callWith_type1 (thn (ha.run pos pins s σ H _ I h) ?_) hs hpl))
  intro us s1 ⟨vs, H1, I1, r1, a, b, k1, k2, xs, ys, ex, hx, hy, q⟩
  subst ex
  obtain ⟨u, u2, rfl, ru, ru2⟩ := vals2 r1
  cases ru
  cases ru2
  obtain ⟨its, rv, sr, _⟩ := src_of I1 hx
  obtain ⟨its2, rv2, sr2, _⟩ := src_of I1 hy
  have l1 := src_lt I1 hx
  have l2 := src_lt I1 hy
  refine zip_begins2 (beginsS k1 a its.toArray) (beginsS k2 b its2.toArray) sr sr2 ?_
  intro h' hz hTI hTO h1 h2 hsz hk
  refine wpAny_pyIter_zip hz ?_
  have I2 : Inv X pins σ H1 { s1 with heap := h' } := I1.kept (t' := s1.toks) hk
  have sep := zip_sep2 (N := s1.heap.objs.size) (fp1 := [a]) (fp2 := [b]) (by simpa using l1) (by simpa using l2)
  refine ⟨s1.heap.objs.size + 4, [s1.heap.objs.size + 4, s1.heap.objs.size + 2, s1.heap.objs.size + 3, s1.heap.objs.size, s1.heap.objs.size + 1], _, _, H1, rfl, I2, turn_zipS k1 k2 sep, ⟨hz, hTI, ⟨_, _, hTO⟩, .new h1, .new h2⟩, ?_, q⟩
  intro c hcm
  have hle : s1.heap.objs.size ≤ c := by
    have q2 : c = s1.heap.objs.size + 4 ∨ c = s1.heap.objs.size + 2 ∨ c = s1.heap.objs.size + 3 ∨ c = s1.heap.objs.size ∨ c = s1.heap.objs.size + 1 := by simpa using hcm
    rcases q2 with z | z | z | z | z <;> rw [z] <;> first | exact Nat.le_refl _ | exact Nat.le_add_right _ _
  exact I1.fpOk hle (I1.hok.fresh hle)

/-! ### a list or a tuple itself -/
def iAnyS (K : PySem.W.Frag) (te : TE) : TI := fun σ H R => te σ H fun v H1 => ∃ a xs, v = .ref a ∧ ((H1 a = some (.lst xs) ∧ R (Itl K a) H1) ∨ (H1 a = some (.tup xs) ∧ R (Itt K a) H1))
theorem pi_anyS {X : Cx} {tg e : Expr} {te : TE} (he : PE X e te) : PI X tg e (iAnyS X.K te) := by
  refine ⟨fun pins s σ H R I h => ?_⟩
  refine thn (he.run pins s σ H _ I h) ?_
  intro v s1 ⟨x, H1, I1, r1, a, xs, ex, q⟩
  subst ex
  cases r1
  have new : ∀ b ∈ [s1.heap.objs.size], FpOk X pins H1 b := fun b hb => by
    rw [List.mem_singleton.mp hb]
    exact I1.fpOk (Nat.le_refl _) (I1.hok.fresh (Nat.le_refl _))
  rcases q with ⟨hx, q⟩ | ⟨hx, q⟩
  · obtain ⟨its, rv, p, _⟩ := I1.list (a := a) (xs := xs) (.inl (.inl hx))
    exact wpAny_pyIter_list p.isList ⟨s1.heap.objs.size, [s1.heap.objs.size], _, _, H1, rfl, I1.kept (t' := s1.toks) fun b o z => Heap.get?_push_of_some _ z, turn_list a _, ⟨_, Heap.get?_push_size _ rfl, rfl, rfl⟩, new, q⟩
  · obtain ⟨its, rv, p, _⟩ := I1.tuple (a := a) (xs := xs) (.inl (.inl hx))
    exact wpAny_pyIter_tuple (show s1.heap.IsTuple a its.toArray from p) ⟨s1.heap.objs.size, [s1.heap.objs.size], _, _, H1, rfl, I1.kept (t' := s1.toks) fun b o z => Heap.get?_push_of_some _ z, turn_tuple a _, ⟨_, Heap.get?_push_size _ rfl, rfl, rfl⟩, new, q⟩
end BV

/-! BV, fourth part: targets, statements, loops by value. -/
namespace BV
open PySem PySem.Spec L2

section
variable {G : Jr} {B0 H0 B H B1 H1 B' H' : Hp} {σ : L2.St} {ρ : En}
theorem get_set {α : Type} (l : List α) (i j : Nat) (a : α) : (l.set i a)[j]? = if i = j then (if i < l.length then some a else none) else l[j]? := by
  rw [List.getElem?_set]
/-- one name gets a new cell -/
theorem Rep.setC (r : Rep G B0 H0 σ H ρ B) {i : Nat} {c : Cell} {v : V} (hv : CellOk G B0 H0 B H c (some v))
    (ap : c.mine = true → ∀ j e a, j ≠ i → ρ[j]? = some e → e.mine = true → v = .ref a → σ[j]? ≠ some (some (.ref a))) : Rep G B0 H0 (σ.set i (some v)) H (ρ.set i c) B := by
  refine ⟨r.g0, r.g, r.x, by simpa using r.len, ?_, ?_⟩
  · intro j e he
    rw [get_set] at he
    by_cases h : i = j
    · subst h
      rw [if_pos rfl] at he
      by_cases hl : i < ρ.length
      · rw [if_pos hl] at he; cases he
        rw [get_set, if_pos rfl, if_pos (by rw [← r.len]; exact hl)]
        exact hv
      · rw [if_neg hl] at he; cases he
    · rw [if_neg h] at he
      rw [get_set, if_neg h]
      exact r.at_ j e he
  · intro j k c1 c2 a hjk h1 h2 m1 m2 s1 s2
    rw [get_set] at h1 h2 s1 s2
    by_cases e1 : i = j
    · by_cases e2 : i = k
      · exact hjk (e1.symm.trans e2)
      · subst e1
        rw [if_neg e2] at h2 s2
        rw [if_pos rfl] at h1 s1
        by_cases hl : i < ρ.length
        · rw [if_pos hl] at h1; cases h1
          rw [if_pos (by rw [← r.len]; exact hl)] at s1
          have ev : v = .ref a := Option.some.inj (Option.some.inj s1)
          exact ap m1 k c2 a (Ne.symm e2) h2 m2 ev s2
        · rw [if_neg hl] at h1; cases h1
    · rw [if_neg e1] at h1 s1
      by_cases e2 : i = k
      · subst e2
        rw [if_pos rfl] at h2 s2
        by_cases hl : i < ρ.length
        · rw [if_pos hl] at h2; cases h2
          rw [if_pos (by rw [← r.len]; exact hl)] at s2
          have ev : v = .ref a := Option.some.inj (Option.some.inj s2)
          exact ap m2 j c1 a (Ne.symm e1) h1 m1 ev s1
        · rw [if_neg hl] at h2; cases h2
      · rw [if_neg e2] at h2 s2
        exact r.ap j k c1 c2 a hjk h1 h2 m1 m2 s1 s2
theorem Rep.setV (r : Rep G B0 H0 σ H ρ B) {i : Nat} {d : D} {v : V} (h : Is B v d) : Rep G B0 H0 (σ.set i (some v)) H (ρ.set i (.val d)) B :=
  r.setC (c := .val d) ⟨v, rfl, h⟩ fun m => by cases m
/-- an own object is new: no other own cell holds it -/
theorem Rep.mineAt (r : Rep G B0 H0 σ H ρ B) {j : Nat} {e : Cell} {a : Addr} (h : ρ[j]? = some e) (m : e.mine = true) (s : σ[j]? = some (some (.ref a))) : H a ≠ none := by
  have q := r.at_ j e h
  rw [s] at q
  cases e with
  | own ds => obtain ⟨b, e1, _, _, l⟩ := q; cases e1; exact l.ne
  | dic t ds => obtain ⟨b, e1, _, _, l⟩ := q; cases e1; exact l.ne
  | no => cases m
  | val d => cases m
  | bor d => cases m
  | bdic t d => cases m
  | jar k => cases m
  | scr K ns => cases m
theorem Rep.setNew (r : Rep G B0 H0 σ H ρ B) (y : Ext G B H B' H') (g : Gd G B' H') {i : Nat} {c : Cell} {a : Addr} (hn : H a = none) (hc : CellOk G B0 H0 B' H' c (some (.ref a))) :
    Rep G B0 H0 (σ.set i (some (.ref a))) H' (ρ.set i c) B' :=
  (r.step y g).setC hc fun m j e b hj he me ev s => by
    cases ev
    exact r.mineAt he me s hn
end

/-! ### targets -/
abbrev BP := D → En → (En → Prop) → Prop
abbrev BPs := List D → En → (En → Prop) → Prop
def Tg (S : List Nat) (p : BP) : TG := fun v σ H R => ∃ G B0 H0 ρ B d nx, Rep G B0 H0 σ H ρ B ∧ Is B v d ∧ p d ρ nx ∧
  ∀ σ' ρ', Rep G B0 H0 σ' H ρ' B → σ'.length = σ.length → (∀ j, j ∉ S → σ'[j]? = σ[j]?) → nx ρ' → R σ' H
def Tgs (S : List Nat) (p : BPs) : TGs := fun vs σ H R => ∃ G B0 H0 ρ B ds nx, Rep G B0 H0 σ H ρ B ∧ IsL B vs ds ∧ p ds ρ nx ∧
  ∀ σ' ρ', Rep G B0 H0 σ' H ρ' B → σ'.length = σ.length → (∀ j, j ∉ S → σ'[j]? = σ[j]?) → nx ρ' → R σ' H
abbrev PGb (X : Cx) (S : List Nat) (e : Expr) (p : BP) : Prop := PG X e (Tg S p)
abbrev PGsb (X : Cx) (S : List Nat) (e : List Expr) (p : BPs) : Prop := PGs X e (Tgs S p)
section
variable {X : Cx} {e : Expr} {es : List Expr} {pos : Pos} {S S' : List Nat} {p : BP} {ps : BPs}
theorem PG.mono {t t' : TG} (h : PG X e t) (m : ∀ v σ H R, t' v σ H R → t v σ H R) : PG X e t' := ⟨fun pins s σ H v u Q I r q => h.run pins s σ H v u Q I r (m v σ H Q q)⟩
theorem PGs.mono {t t' : TGs} (h : PGs X es t) (m : ∀ v σ H R, t' v σ H R → t v σ H R) : PGs X es t' := ⟨fun pins s σ H v u Q I r q => h.run pins s σ H v u Q I r (m v σ H Q q)⟩
def pName (i : Nat) : BP := fun d ρ nx => nx (ρ.set i (.val d))
def pNil : BPs := fun ds ρ nx => match ds with
  | [] => nx ρ
  | _ => False
def pCons (p : BP) (ps : BPs) : BPs := fun ds ρ nx => match ds with
  | d :: r => p d ρ fun ρ' => ps r ρ' nx
  | _ => False
def pTup (n : Nat) (ps : BPs) : BP := fun d ρ nx => match d with
  | .tuple ds => ds.length = n ∧ ps ds ρ nx
  | _ => False
theorem pg_n {i : Nat} (h : PG X e (gName i)) : PGb X [i] e (pName i) := PG.mono h fun v σ H R ⟨G, B0, H0, ρ, B, d, nx, r, iv, q, k⟩ =>
  k _ _ (r.setV iv) (by simp) (fun j hj => by rw [get_set, if_neg (fun z => hj (by simp [z]))]) q
theorem pgs_n : PGsb X [] [] pNil := PGs.mono pgs_nil fun v σ H R ⟨G, B0, H0, ρ, B, ds, nx, r, iv, q, k⟩ => by
  unfold pNil at q
  split at q
  · cases iv
    exact ⟨rfl, k _ _ r rfl (fun _ _ => rfl) q⟩
  · exact q.elim
theorem pgs_c (h : PGb X S e p) (hs : PGsb X S' es ps) (he : (assignEach (e :: es) X.env).map (·.2) = assign e X.env :: (assignEach es X.env).map (·.2) := by rfl) : PGsb X (S ++ S') (e :: es) (pCons p ps) :=
  PGs.mono (pgs_cons h hs he) fun v σ H R ⟨G, B0, H0, ρ, B, ds, nx, r, iv, q, k⟩ => by
    unfold pCons at q
    split at q
    · cases iv with
      | cons a t =>
        refine ⟨_, _, rfl, G, B0, H0, ρ, B, _, _, r, a, q, fun σ1 ρ1 r1 l1 s1 q1 => ?_⟩
        exact ⟨G, B0, H0, ρ1, B, _, _, r1, t, q1, fun σ2 ρ2 r2 l2 s2 q2 => k σ2 ρ2 r2 (l2.trans l1) (fun j hj => by
          rw [s2 j (fun z => hj (List.mem_append_right _ z)), s1 j (fun z => hj (List.mem_append_left _ z))]) q2⟩
    · exact q.elim
theorem pg_t {k n : Nat} (hc : X.calm = true) (h : PGsb X S es ps) (hn : (assignEach es X.env).length = n := by rfl) (hst : (assignEach es X.env).findIdx? (·.1) = none := by rfl) : PGb X S (.Tuple es k pos) (pTup n ps) :=
  PG.mono (pg_tup hc h hn hst) fun v σ H R ⟨G, B0, H0, ρ, B, d, nx, r, iv, q, kk⟩ => by
    unfold pTup at q
    split at q
    · cases iv with
      | tup e1 z il =>
        exact ⟨_, _, rfl, .inl (.inl (r.g.sub _ _ e1)), by rw [il.len]; exact q.1, G, B0, H0, ρ, B, _, nx, r, il, q.2, kk⟩
    · exact q.elim
end

/-! ### statements -/
abbrev BS := En → (En → Prop) → (D → Prop) → Prop
def Ts (κ : Kd) (s : BS) : TS := fun Dn σ H => ∃ G B0 H0 ρ B nx rt, Rep G B0 H0 σ H ρ B ∧ s ρ nx rt ∧
  (∀ σ' H' ρ' B', Rep G B0 H0 σ' H' ρ' B' → Same B B' → nx ρ' → Dn.nx σ' H') ∧
  (∀ v d B' H', Gd G B' H' → Ext G B0 H0 B' H' → Ok κ G H0 B' H' v d → rt d → Dn.rt v H')
abbrev PSb (X : Cx) (κ : Kd) (st : Stmt) (s : BS) : Prop := PS X st (Ts κ s)
abbrev PSsb (X : Cx) (κ : Kd) (st : List Stmt) (s : BS) : Prop := PSs X st (Ts κ s)
section
variable {X : Cx} {κ κ1 : Kd} {st : Stmt} {sts a b : List Stmt} {e c : Expr} {pos : Pos} {s t : BS} {ba : BX} {tc : BT} {S : List Nat} {p : BP}
theorem PS.mono {t t' : TS} (h : PS X st t) (m : ∀ D σ H, t' D σ H → t D σ H) : PS X st t' := ⟨fun pins s σ H D I q => h.run pins s σ H D I (m D σ H q)⟩
theorem PSs.mono {t t' : TS} (h : PSs X sts t) (m : ∀ D σ H, t' D σ H → t D σ H) : PSs X sts t' := ⟨fun pins s σ H D I q => h.run pins s σ H D I (m D σ H q)⟩
def sNext : BS := fun ρ nx _ => nx ρ
def sSeq (s t : BS) : BS := fun ρ nx rt => s ρ (fun ρ' => t ρ' nx rt) rt
theorem ss_nil : PSsb X κ [] sNext := PSs.mono pss_nil fun D σ H ⟨G, B0, H0, ρ, B, nx, rt, r, q, k1, k2⟩ => k1 _ _ _ _ r (.refl _) q
theorem ss_one (h : PSb X κ st s) : PSsb X κ [st] s := pss_one h
theorem ss_cons (h : PSb X κ st s) (hs : PSsb X κ sts t) : PSsb X κ (st :: sts) (sSeq s t) := PSs.mono (pss_cons h hs) fun D σ H ⟨G, B0, H0, ρ, B, nx, rt, r, q, k1, k2⟩ =>
  ⟨G, B0, H0, ρ, B, _, rt, r, q, fun σ' H' ρ' B' r' m q' => ⟨G, B0, H0, ρ', B', nx, rt, r', q', fun σ2 H2 ρ2 B2 r2 m2 q2 => k1 _ _ _ _ r2 (m.trans m2) q2, k2⟩, k2⟩
theorem ss_pass : PSb X κ (.Pass pos) sNext := PS.mono ps_pass fun D σ H ⟨G, B0, H0, ρ, B, nx, rt, r, q, k1, k2⟩ => k1 _ _ _ _ r (.refl _) q
/-- name = e: a datum, a new list, a new dict -/
def sSet (i : Nat) (b : BX) : BS := fun ρ nx _ => b ρ fun d => nx (ρ.set i (.val d))
def sSetL (i : Nat) (b : BX) : BS := fun ρ nx _ => b ρ fun d => match d with
  | .list ds => nx (ρ.set i (.own ds))
  | _ => False
def sSetD (t : Bool) (i : Nat) (b : BX) : BS := fun ρ nx _ => b ρ fun d => match d with
  | .dict ds => nx (ρ.set i (.dic t ds))
  | _ => False
theorem set_e {σ : L2.St} {H : Hp} {D : Ends} {i : Nat} (q : Ts κ (sSet i ba) D σ H) : T .e ba σ H fun x H1 => gName i x σ H1 D.nx := by
  obtain ⟨G, B0, H0, ρ, B, nx, rt, r, q, k1, k2⟩ := q
  exact ⟨G, B0, H0, ρ, B, _, r, q, fun v d B' H' y g o q1 => k1 _ _ _ _ ((r.step y g).setV o) y.b q1⟩
theorem set_l {σ : L2.St} {H : Hp} {D : Ends} {i : Nat} (q : Ts κ (sSetL i ba) D σ H) : T .l ba σ H fun x H1 => gName i x σ H1 D.nx := by
  obtain ⟨G, B0, H0, ρ, B, nx, rt, r, q, k1, k2⟩ := q
  refine ⟨G, B0, H0, ρ, B, _, r, q, fun v d B' H' y g o q1 => ?_⟩
  obtain ⟨a, ds, rfl, rfl, hn, bn, j, l⟩ := o
  have h0 : H0 a = none := r.x.back r.g hn
  exact k1 _ _ _ _ (r.setNew y g (c := .own ds) hn ⟨a, rfl, h0, bn, l⟩) y.b q1
theorem set_d {σ : L2.St} {H : Hp} {D : Ends} {i : Nat} {t : Bool} (q : Ts κ (sSetD t i ba) D σ H) : T (.d t) ba σ H fun x H1 => gName i x σ H1 D.nx := by
  obtain ⟨G, B0, H0, ρ, B, nx, rt, r, q, k1, k2⟩ := q
  refine ⟨G, B0, H0, ρ, B, _, r, q, fun v d B' H' y g o q1 => ?_⟩
  obtain ⟨a, ds, rfl, rfl, hn, bn, j, _, l⟩ := o
  have h0 : H0 a = none := r.x.back r.g hn
  exact k1 _ _ _ _ (r.setNew y g (c := .dic t ds) hn ⟨a, rfl, h0, bn, l⟩) y.b q1
theorem ss_set {i : Nat} {x : Str} {pos' : Pos} (he : PB X .e e ba) (hN : X.N.Nodup) (hi : X.N[i]? = some x) (hx : Loc X.env.scope x) (hs : swapsWith e (some (.Name x pos')) pos.line X.env = pure false) (hf : X.fn x = true ∨ X.env.scope.names.lookup x = some .local) :
    PSb X κ (.Assign [.Name x pos'] e pos) (sSet i ba) := PS.mono (ps_set hN hi hx he hs hf) fun D σ H q => set_e q
theorem ss_setL {i : Nat} {x : Str} {pos' : Pos} (he : PB X .l e ba) (hN : X.N.Nodup) (hi : X.N[i]? = some x) (hx : Loc X.env.scope x) (hs : swapsWith e (some (.Name x pos')) pos.line X.env = pure false) (hf : X.fn x = true ∨ X.env.scope.names.lookup x = some .local) :
    PSb X κ (.Assign [.Name x pos'] e pos) (sSetL i ba) := PS.mono (ps_set hN hi hx he hs hf) fun D σ H q => set_l q
theorem ss_setD {t : Bool} {i : Nat} {x : Str} {pos' : Pos} (he : PB X (.d t) e ba) (hN : X.N.Nodup) (hi : X.N[i]? = some x) (hx : Loc X.env.scope x) (hs : swapsWith e (some (.Name x pos')) pos.line X.env = pure false) (hf : X.fn x = true ∨ X.env.scope.names.lookup x = some .local) :
    PSb X κ (.Assign [.Name x pos'] e pos) (sSetD t i ba) := PS.mono (ps_set hN hi hx he hs hf) fun D σ H q => set_d q
/-- target = e, a datum -/
def sAsg (p : BP) (b : BX) : BS := fun ρ nx _ => b ρ fun d => p d ρ nx
theorem ss_asg {tg : Expr} (he : PB X .e e ba) (hg : PGb X S tg p) (hs : swapsWithSole [tg] e pos.line X.env = pure false) (hw : swappedStores [tg] e X.env = pure none) (h1 : (assignEach [tg] X.env).map (·.2) = [assign tg X.env]) :
    PSb X κ (.Assign [tg] e pos) (sAsg p ba) := PS.mono (ps_asg he hg hs hw h1) fun D σ H ⟨G, B0, H0, ρ, B, nx, rt, r, q, k1, k2⟩ =>
  ⟨G, B0, H0, ρ, B, _, r, q, fun v d B' H' y g o q1 => ⟨G, B0, H0, ρ, B', d, nx, r.step y g, o, q1, fun σ' ρ' r' _ _ q2 => k1 _ _ _ _ r' y.b q2⟩⟩
/-- return e -/
def sRet (b : BX) : BS := fun ρ _ rt => b ρ rt
theorem ss_ret (he : PB X κ e ba) : PSb X κ (.Return (some e) pos) (sRet ba) := PS.mono (ps_ret he) fun D σ H ⟨G, B0, H0, ρ, B, nx, rt, r, q, k1, k2⟩ =>
  ⟨G, B0, H0, ρ, B, _, r, q, fun v d B' H' y g o q1 => k2 v d B' H' g (r.x.trans r.g y) (o.back r.g r.x) q1⟩
/-- a list of one's own, a dict of one's own handed back -/
def sRetOwn (i : Nat) : BS := fun ρ _ rt => match ρ[i]? with
  | some (.own ds) => rt (.list ds)
  | _ => False
theorem ss_retOwn {i : Nat} (he : PE X e (tVar i)) : PSb X .l (.Return (some e) pos) (sRetOwn i) := PS.mono (ps_ret he) fun D σ H ⟨G, B0, H0, ρ, B, nx, rt, r, q, k1, k2⟩ => by
  unfold sRetOwn at q
  split at q
  · rename_i ds hd
    obtain ⟨a, e1, h0, hb, l⟩ := r.at_ i _ hd
    exact ⟨_, join_some e1, k2 _ _ B H r.g r.x ⟨a, ds, rfl, rfl, h0, hb, r.g0.njf h0, l⟩ q⟩
  · exact q.elim
/-- if -/
def sIf (c : BT) (s t : BS) : BS := fun ρ nx rt => c ρ fun k => if k = true then s ρ nx rt else t ρ nx rt
theorem ss_if (hc : PBt X c tc) (ha : PSsb X κ a s) (hb : PSsb X κ b t) : PSb X κ (.If c a b pos) (sIf tc s t) := PS.mono (ps_if hc ha hb) fun D σ H ⟨G, B0, H0, ρ, B, nx, rt, r, q, k1, k2⟩ =>
  ⟨G, B0, H0, ρ, B, _, r, q, fun k B1 H1 y1 g1 q1 => by
    cases k with
    | true =>
      rw [if_pos rfl] at q1 ⊢
      exact ⟨G, B0, H0, ρ, B1, nx, rt, r.step y1 g1, q1, fun σ2 H2 ρ2 B2 r2 m2 q2 => k1 _ _ _ _ r2 (y1.b.trans m2) q2, k2⟩
    | false =>
      rw [if_neg Bool.false_ne_true] at q1 ⊢
      exact ⟨G, B0, H0, ρ, B1, nx, rt, r.step y1 g1, q1, fun σ2 H2 ρ2 B2 r2 m2 q2 => k1 _ _ _ _ r2 (y1.b.trans m2) q2, k2⟩⟩
/-- an expression whose value is dropped -/
def sDrop (b : BX) : BS := fun ρ nx _ => b ρ fun _ => nx ρ
theorem ss_drop (he : PB X κ1 e ba) (hs : swapsWith e none pos.line X.env = pure false) : PSb X κ (.Expr e pos) (sDrop ba) := PS.mono (ps_expr he hs) fun D σ H ⟨G, B0, H0, ρ, B, nx, rt, r, q, k1, k2⟩ =>
  ⟨G, B0, H0, ρ, B, _, r, q, fun v d B' H' y g o q1 => k1 _ _ _ _ (r.step y g) y.b q1⟩
/-- while -/
def sWhile (c : BT) (s : BS) : BS := fun ρ nx rt => ∃ W : Nat → En → Prop, (∃ m, W m ρ) ∧ ∀ m ρ1, W m ρ1 → c ρ1 fun k => if k = true then s ρ1 (fun ρ2 => ∃ m', m' < m ∧ W m' ρ2) rt else nx ρ1
theorem ss_while (hp : PassesOwn (model X.prog X.w) X.A X.env X.xe) (hc : PBt X c tc) (hb : PSsb X κ b s) : PSb X κ (.While c b [] pos) (sWhile tc s) := PS.mono (ps_while hp hc hb) fun D σ H ⟨G, B0, H0, ρ, B, nx, rt, r, ⟨W, ⟨m, w⟩, q⟩, k1, k2⟩ => by
  refine ⟨fun m σ1 H1 => ∃ ρ1 B1, Rep G B0 H0 σ1 H1 ρ1 B1 ∧ Same B B1 ∧ W m ρ1, ⟨m, ρ, B, r, .refl _, w⟩, ?_⟩
  rintro m σ1 H1 ⟨ρ1, B1, r1, m1, w1⟩
  refine ⟨G, B0, H0, ρ1, B1, _, r1, q m ρ1 w1, fun k B2 H2 y2 g2 q2 => ?_⟩
  cases k with
  | true =>
    rw [if_pos rfl] at q2 ⊢
    refine ⟨fun σ3 H3 => ∃ ρ3 B3, Rep G B0 H0 σ3 H3 ρ3 B3 ∧ Same B B3 ∧ ∃ m', m' < m ∧ W m' ρ3, fun σ3 H3 ⟨ρ3, B3, r3, s3, m', lt, w3⟩ => ⟨m', lt, ρ3, B3, r3, s3, w3⟩, ?_⟩
    exact ⟨G, B0, H0, ρ1, B2, _, rt, r1.step y2 g2, q2, fun σ3 H3 ρ3 B3 r3 m3 q3 => ⟨ρ3, B3, r3, m1.trans (y2.b.trans m3), q3⟩, k2⟩
  | false =>
    rw [if_neg Bool.false_ne_true] at q2 ⊢
    exact k1 _ _ _ _ (r1.step y2 g2) (m1.trans y2.b) q2

/-! ### own objects told from now on (no step of the program) -/
def sTell (i : Nat) (s : BS) : BS := fun ρ nx rt => match ρ[i]? with
  | some (.own ds) => s (ρ.set i (.val (.list ds))) nx rt
  | some (.dic t ps) => (t = true → ps ≠ []) ∧ s (ρ.set i (.val (.dict ps))) nx rt
  | _ => False
theorem set_self {σ : L2.St} {i : Nat} {v : V} (h : σ[i]? = some (some v)) : σ.set i (some v) = σ := by
  apply List.ext_getElem?
  intro j
  rw [get_set]
  by_cases e : i = j
  · subst e
    rw [if_pos rfl, h, if_pos (List.getElem?_eq_some_iff.mp h).1]
  · rw [if_neg e]
theorem Rep.tell {G : Jr} {B0 H0 B H : Hp} {σ : L2.St} {ρ : En} (r : Rep G B0 H0 σ H ρ B) {i : Nat} {a : Addr} {o : HO} {d : D} (e : σ[i]? = some (some (.ref a))) (h0 : H0 a = none) (hb : B a = none) (ho : H a = some o) (hi : Is (upd B a o) (.ref a) d)
    (others : ∀ j c, j ≠ i → ρ[j]? = some c → c.mine = true → σ[j]? ≠ some (some (.ref a))) : Rep G B0 H0 σ H (ρ.set i (.val d)) (upd B a o) := by
  have j : ¬ G.J a := r.g0.njf h0
  have sm := same_tell (o := o) hb
  refine ⟨r.g0, r.g.tell ho j, ⟨r.x.b.trans sm, r.x.h, fun c hc hh => ?_⟩, by simpa using r.len, ?_, ?_⟩
  · rw [upd_ne (fun z => hh (by rw [z]; exact h0))]
    exact r.x.n c hc hh
  · intro k c hc
    rw [get_set] at hc
    by_cases q : i = k
    · subst q
      rw [if_pos rfl] at hc
      split at hc
      · cases hc
        exact ⟨.ref a, by rw [e]; rfl, hi⟩
      · cases hc
    · rw [if_neg q] at hc
      have z := r.at_ k c hc
      have oth := others k c (Ne.symm q) hc
      cases c with
      | no => trivial
      | val d => obtain ⟨x, e1, ix⟩ := z; exact ⟨x, e1, ix.mono sm⟩
      | own ds =>
        obtain ⟨b, e1, h1, b1, l⟩ := z
        refine ⟨b, e1, h1, ?_, l.mono sm⟩
        rw [upd_ne (fun z => oth rfl (by rw [← z]; exact join_some e1))]
        exact b1
      | dic t ds =>
        obtain ⟨b, e1, h1, b1, l⟩ := z
        refine ⟨b, e1, h1, ?_, l.mono sm⟩
        rw [upd_ne (fun z => oth rfl (by rw [← z]; exact join_some e1))]
        exact b1
      | bor ds => obtain ⟨b, e1, j1, l⟩ := z; exact ⟨b, e1, j1, l.mono sm⟩
      | bdic t ds => obtain ⟨b, e1, j1, l⟩ := z; exact ⟨b, e1, j1, l.mono sm⟩
      | jar k => exact z
      | scr K ns => exact z
  · intro k l c1 c2 b hkl h1 h2 m1 m2 s1
    rw [get_set] at h1 h2
    by_cases q1 : i = k
    · subst q1
      rw [if_pos rfl] at h1
      split at h1
      · cases h1; cases m1
      · cases h1
    · by_cases q2 : i = l
      · subst q2
        rw [if_pos rfl] at h2
        split at h2
        · cases h2; cases m2
        · cases h2
      · rw [if_neg q1] at h1
        rw [if_neg q2] at h2
        exact r.ap k l c1 c2 b hkl h1 h2 m1 m2 s1
/-- a dict of one's own, laid as it stands and told -/
theorem Rep.tellD {G : Jr} {B0 H0 B H : Hp} {σ : L2.St} {ρ : En} (r : Rep G B0 H0 σ H ρ B) {i : Nat} {a : Addr} {o : HO} {d : D} (e : σ[i]? = some (some (.ref a))) (h0 : H0 a = none) (hb : B a = none) (hi : Is (upd B a o) (.ref a) d)
    (others : ∀ j c, j ≠ i → ρ[j]? = some c → c.mine = true → σ[j]? ≠ some (some (.ref a))) : Rep G B0 H0 σ (upd H a o) (ρ.set i (.val d)) (upd B a o) := by
  have j : ¬ G.J a := r.g0.njf h0
  have sm := same_tell (o := o) hb
  refine ⟨r.g0, r.g.put j, ⟨r.x.b.trans sm, fun c u nj z => ?_, fun c hc hh => ?_⟩, by simpa using r.len, ?_, ?_⟩
  · rw [upd_ne (ne_of_none z h0)]
    exact r.x.h c u nj z
  · rw [upd_ne (fun z => hh (by rw [z]; exact h0))]
    exact r.x.n c hc hh
  · intro k c hc
    rw [get_set] at hc
    by_cases q : i = k
    · subst q
      rw [if_pos rfl] at hc
      split at hc
      · cases hc
        exact ⟨.ref a, by rw [e]; rfl, hi⟩
      · cases hc
    · rw [if_neg q] at hc
      have z := r.at_ k c hc
      have oth := others k c (Ne.symm q) hc
      cases c with
      | no => trivial
      | val d => obtain ⟨x, e1, ix⟩ := z; exact ⟨x, e1, ix.mono sm⟩
      | own ds =>
        obtain ⟨b, e1, h1, b1, l⟩ := z
        have nb : b ≠ a := fun z => oth rfl (by rw [← z]; exact join_some e1)
        refine ⟨b, e1, h1, ?_, ?_⟩
        · rw [upd_ne nb]; exact b1
        · rw [upd_ne nb]; exact l.mono sm
      | dic t ds =>
        obtain ⟨b, e1, h1, b1, l⟩ := z
        have nb : b ≠ a := fun z => oth rfl (by rw [← z]; exact join_some e1)
        refine ⟨b, e1, h1, ?_, ?_⟩
        · rw [upd_ne nb]; exact b1
        · rw [upd_ne nb]; exact l.mono sm
      | bor ds => obtain ⟨b, e1, j1, l⟩ := z; exact ⟨b, e1, j1, l.mono sm⟩
      | bdic t ds => obtain ⟨b, e1, j1, l⟩ := z; exact ⟨b, e1, j1, l.mono sm⟩
      | jar k => exact z
      | scr K ns => exact z
  · intro k l c1 c2 b hkl h1 h2 m1 m2 s1
    rw [get_set] at h1 h2
    by_cases q1 : i = k
    · subst q1
      rw [if_pos rfl] at h1
      split at h1
      · cases h1; cases m1
      · cases h1
    · by_cases q2 : i = l
      · subst q2
        rw [if_pos rfl] at h2
        split at h2
        · cases h2; cases m2
        · cases h2
      · rw [if_neg q1] at h1
        rw [if_neg q2] at h2
        exact r.ap k l c1 c2 b hkl h1 h2 m1 m2 s1
theorem pss_lockR {X : Cx} {sts : List Stmt} {t : TS} (h : PSs X sts t) : PSs X sts (fun D σ H => t D σ H ∨ ∃ a u, H a = some u ∧ Mut (some u) ∧ ∀ od, t D σ (upd H a (.frz od u))) :=
  ⟨fun pins s σ H D I q => q.elim (fun q => h.run pins s σ H D I q) fun ⟨a, u, e, mu, q⟩ => let ⟨od, I2⟩ := I.lock e mu; h.run pins s σ _ D I2 (q od)⟩
theorem ss_tell {i : Nat} (h : PSsb X κ sts s) : PSsb X κ sts (sTell i s) := PSs.mono (pss_lockR h) fun D σ H ⟨G, B0, H0, ρ, B, nx, rt, r, q, k1, k2⟩ => by
  unfold sTell at q
  split at q
  · rename_i ds hd
    obtain ⟨a, e1, h0, hb, xs, l, z, il⟩ := r.at_ i _ hd
    have e2 := join_some e1
    have sm := same_tell (o := HO.lst xs) hb
    have r2 := r.tell e2 h0 hb l (d := .list ds) (.lst upd_same z (il.mono sm)) fun j c hj hc m z => r.ap j i c (.own ds) a hj hc hd m rfl z e2
    exact .inl ⟨G, B0, H0, _, _, nx, rt, r2, q, fun σ' H' ρ' B' r' m' q' => k1 _ _ _ _ r' (sm.trans m') q', k2⟩
  · rename_i t ds hd
    obtain ⟨a, e1, h0, hb, l⟩ := r.at_ i _ hd
    have e2 := join_some e1
    cases t
    · obtain ⟨kvs, l, il⟩ := l
      refine .inr ⟨a, _, l, trivial, fun od => ?_⟩
      have sm := same_tell (o := HO.frz od (.dK kvs)) hb
      have r2 := r.tellD e2 h0 hb (d := .dict ds) (.dK upd_same (il.mono sm)) fun j c hj hc m z => r.ap j i c (.dic _ ds) a hj hc hd m rfl z e2
      exact ⟨G, B0, H0, _, _, nx, rt, r2, q.2, fun σ' H' ρ' B' r' m' q' => k1 _ _ _ _ r' (sm.trans m') q', k2⟩
    · obtain ⟨kvs, l, il⟩ := l
      refine .inr ⟨a, _, l, trivial, fun od => ?_⟩
      have sm := same_tell (o := HO.frz od (.dT kvs)) hb
      have r2 := r.tellD e2 h0 hb (d := .dict ds) (.dT upd_same (ne_kt il (q.1 rfl)) (il.mono sm)) fun j c hj hc m z => r.ap j i c (.dic _ ds) a hj hc hd m rfl z e2
      exact ⟨G, B0, H0, _, _, nx, rt, r2, q.2, fun σ' H' ρ' B' r' m' q' => k1 _ _ _ _ r' (sm.trans m') q', k2⟩
  · exact q.elim
end
end BV

/-! BV, fifth part: loops and comprehensions by value. -/
namespace BV
open PySem PySem.Spec L2

/-! ### what is walked, by value -/
/-- J walks the items ds, whatever the body does -/
structure Wk (G : Jr) (B0 H0 B1 : Hp) (J : It) (ds : List D) : Prop where
  sz : ds.length ≤ sizeLine
  stop : ∀ B H, Same B1 B → Gd G B H → Ext G B0 H0 B H → J.stop ds.length H
  go : ∀ i B H, Same B1 B → Gd G B H → Ext G B0 H0 B H → i < ds.length → J.go i H
  yld : ∀ i B H x H' d, Same B1 B → Gd G B H → Ext G B0 H0 B H → ds[i]? = some d → J.yld i H x H' → ∃ B', Ext G B H B' H' ∧ Gd G B' H' ∧ Is B' x d
abbrev BI := En → (List D → Prop) → Prop
def Ti (b : BI) : TI := fun σ H R => ∃ G B0 H0 ρ B Q, Rep G B0 H0 σ H ρ B ∧ b ρ Q ∧ ∀ J ds B' H', Ext G B H B' H' → Gd G B' H' → Wk G B0 H0 B' J ds → Q ds → R J H'
abbrev PIb (X : Cx) (tg e : Expr) (b : BI) : Prop := PI X tg e (Ti b)
theorem PI.mono {X : Cx} {tg e : Expr} {t t' : TI} (h : PI X tg e t) (m : ∀ σ H R, t' σ H R → t σ H R) : PI X tg e t' := ⟨fun pins s σ H Q I q => h.run pins s σ H Q I (m σ H Q q)⟩

/-- the items of a list or of a tuple -/
def oSeq (d : D) (Q : List D → Prop) : Prop := match d with
  | .list ds => Q ds
  | .tuple ds => Q ds
  | _ => False
def iSeq (b : BX) : BI := fun ρ Q => b ρ fun d => oSeq d Q
/-- the keys of a dict -/
def iKey (b : BX) : BI := fun ρ Q => b ρ fun d => match d with
  | .dict ps => Q (ps.map (·.1))
  | _ => False
def iRng (lo : Int) (n : Nat) : List D := (List.range n).map fun (i : Nat) => PyData.int (lo + i)
def oR1 (ds : List D) (Q : List D → Prop) : Prop := match ds with
  | [.int j] => (-(2 ^ 61) ≤ j ∧ j ≤ sizeLine) ∧ Q (iRng 0 j.toNat)
  | _ => False
def oR2 (ds : List D) (Q : List D → Prop) : Prop := match ds with
  | [.int i, .int j] => (-(2 ^ 61) ≤ i ∧ i < 2 ^ 61 ∧ -(2 ^ 61) ≤ j ∧ j < 2 ^ 61 ∧ j - i ≤ sizeLine) ∧ Q (iRng i (j - i).toNat)
  | _ => False
def iRan (o : List D → (List D → Prop) → Prop) (bs : BXs) : BI := fun ρ Q => bs ρ fun ds => o ds Q
def enumD : Nat → List D → List D
  | _, [] => []
  | i, d :: ds => .tuple [.int i, d] :: enumD (i + 1) ds
def zipD : List D → List D → List D
  | a :: as, b :: bs => .tuple [a, b] :: zipD as bs
  | _, _ => []
theorem enumD_get : ∀ (ds : List D) (k i : Nat), (enumD k ds)[i]? = (ds[i]?).map fun d => PyData.tuple [.int ((k + i : Nat) : Int), d]
  | [], k, i => by simp [enumD]
  | d :: ds, k, 0 => by simp [enumD]
  | d :: ds, k, i + 1 => by
    rw [enumD, List.getElem?_cons_succ, enumD_get ds (k + 1) i, List.getElem?_cons_succ]
    have : k + 1 + i = k + (i + 1) := by omega
    rw [this]
theorem enumD_len : ∀ (ds : List D) (k : Nat), (enumD k ds).length = ds.length
  | [], _ => rfl
  | d :: ds, k => by rw [enumD, List.length_cons, List.length_cons, enumD_len]
theorem zipD_get : ∀ (as bs : List D) (i : Nat) (d : D), (zipD as bs)[i]? = some d → ∃ a b, as[i]? = some a ∧ bs[i]? = some b ∧ d = .tuple [a, b]
  | [], _, i, d, h => by simp [zipD] at h
  | _ :: _, [], i, d, h => by simp [zipD] at h
  | a :: as, b :: bs, 0, d, h => by simp [zipD] at h; exact ⟨a, b, rfl, rfl, h.symm⟩
  | a :: as, b :: bs, i + 1, d, h => by
    rw [zipD, List.getElem?_cons_succ] at h
    simpa using zipD_get as bs i d h
theorem zipD_len : ∀ (as bs : List D), (zipD as bs).length = min as.length bs.length
  | [], bs => by simp [zipD]
  | _ :: _, [] => by simp [zipD]
  | a :: as, b :: bs => by rw [zipD, List.length_cons, zipD_len]; simp only [List.length_cons]; omega
theorem iRng_get {lo : Int} {n i : Nat} {d : D} (h : (iRng lo n)[i]? = some d) : d = .int (lo + i) ∧ i < n := by
  unfold iRng at h
  rw [List.getElem?_map] at h
  by_cases q : i < n
  · rw [List.getElem?_range q] at h
    cases h
    exact ⟨rfl, q⟩
  · rw [List.getElem?_eq_none (by simpa using q)] at h
    cases h
theorem iRng_len {lo : Int} {n : Nat} : (iRng lo n).length = n := by simp [iRng]
def iEnu (b : BI) : BI := fun ρ Q => b ρ fun ds => Q (enumD 0 ds)
/-- zip of two that stay -/
def iZp (ba bb : BX) : BI := fun ρ Q => ba ρ fun a => bb ρ fun b => oSeq a fun as => oSeq b fun bs => Q (zipD as bs)

section
variable {X : Cx} {tg e e2 a b c : Expr} {es : List Expr} {pos p : Pos} {ba bb : BX} {bs : BXs}
theorem isSeq {B : Hp} {v : V} {d : D} (h : Is B v d) {Q : List D → Prop} (q : oSeq d Q) : ∃ a k xs ds, v = .ref a ∧ B a = some (hoS k xs) ∧ xs.length ≤ sizeLine ∧ IsL B xs ds ∧ Q ds := by
  unfold oSeq at q
  split at q
  · cases h with
    | lst e z il => exact ⟨_, false, _, _, rfl, e, z, il, q⟩
  · cases h with
    | tup e z il => exact ⟨_, true, _, _, rfl, e, z, il, q⟩
  · exact q.elim
theorem wk_l {G : Jr} {B0 H0 B : Hp} {K : PySem.W.Frag} {a : Addr} {xs : List V} {ds : List D} (e : B a = some (.lst xs)) (z : xs.length ≤ sizeLine) (il : IsL B xs ds) : Wk G B0 H0 B (Itl K a) ds where
  sz := by rw [← il.len]; exact z
  stop := fun B' H s g _ => ⟨xs, .of (g.sub _ _ (s _ _ e)), Nat.le_of_eq il.len⟩
  go := fun i B' H s g _ lt => by
    rw [← il.len] at lt
    exact ⟨xs, xs[i], .of (g.sub _ _ (s _ _ e)), by simp [lt]⟩
  yld := fun i B' H x H' d s g _ hd ⟨hh, y⟩ => by
    subst hh
    obtain ⟨x', e1, ix⟩ := il.get' hd
    have := y xs (.of (g.sub _ _ (s _ _ e)))
    rw [e1] at this; cases this
    exact ⟨B', .refl _ _ _, g, ix.mono s⟩
theorem wk_t {G : Jr} {B0 H0 B : Hp} {K : PySem.W.Frag} {a : Addr} {xs : List V} {ds : List D} (e : B a = some (.tup xs)) (z : xs.length ≤ sizeLine) (il : IsL B xs ds) : Wk G B0 H0 B (Itt K a) ds where
  sz := by rw [← il.len]; exact z
  stop := fun B' H s g _ => ⟨xs, .of (g.sub _ _ (s _ _ e)), Nat.le_of_eq il.len⟩
  go := fun i B' H s g _ lt => by
    rw [← il.len] at lt
    exact ⟨xs, xs[i], .of (g.sub _ _ (s _ _ e)), by simp [lt]⟩
  yld := fun i B' H x H' d s g _ hd ⟨hh, y⟩ => by
    subst hh
    obtain ⟨x', e1, ix⟩ := il.get' hd
    have := y xs (.of (g.sub _ _ (s _ _ e)))
    rw [e1] at this; cases this
    exact ⟨B', .refl _ _ _, g, ix.mono s⟩
theorem it_seq (h : PB X .e e ba) : PIb X tg e (iSeq ba) := PI.mono (pi_anyS h) fun σ H R ⟨G, B0, H0, ρ, B, Q, r, q, k⟩ =>
  ⟨G, B0, H0, ρ, B, _, r, q, fun v d B' H' y g o q1 => by
    obtain ⟨a, kk, xs, ds, rfl, e, z, il, q2⟩ := isSeq (show Is B' v d from o) q1
    cases kk
    · exact ⟨a, xs, rfl, .inl ⟨g.sub _ _ e, k _ ds B' H' y g (wk_l e z il) q2⟩⟩
    · exact ⟨a, xs, rfl, .inr ⟨g.sub _ _ e, k _ ds B' H' y g (wk_t e z il) q2⟩⟩⟩
theorem wk_r {G : Jr} {B0 H0 B : Hp} {lo : Int} {n : Nat} (z : n ≤ sizeLine) : Wk G B0 H0 B (Itr lo n) (iRng lo n) where
  sz := by rw [iRng_len]; exact z
  stop := fun B' H s g _ => by rw [iRng_len]; exact Nat.le_refl _
  go := fun i B' H s g _ lt => by rw [iRng_len] at lt; exact lt
  yld := fun i B' H x H' d s g _ hd ⟨hh, y⟩ => by
    subst hh
    obtain ⟨rfl, _⟩ := iRng_get hd
    rw [y]
    exact ⟨B', .refl _ _ _, g, .int _⟩
theorem views1 {G : Jr} {B H : Hp} {vs : List V} {d : D} (h : Views G B H vs [d]) : ∃ v, vs = [v] ∧ View G B H v d := by
  cases h with
  | cons a t => cases t; exact ⟨_, rfl, a⟩
theorem views2 {G : Jr} {B H : Hp} {vs : List V} {d d2 : D} (h : Views G B H vs [d, d2]) : ∃ v v2, vs = [v, v2] ∧ View G B H v d ∧ View G B H v2 d2 := by
  cases h with
  | cons a t =>
    obtain ⟨v, rfl, b⟩ := views1 t
    exact ⟨_, _, rfl, a, b⟩
theorem views3 {G : Jr} {B H : Hp} {vs : List V} {d d2 d3 : D} (h : Views G B H vs [d, d2, d3]) : ∃ v v2 v3, vs = [v, v2, v3] ∧ View G B H v d ∧ View G B H v2 d2 ∧ View G B H v3 d3 := by
  cases h with
  | cons a t =>
    obtain ⟨v, v2, rfl, b, c⟩ := views2 t
    exact ⟨_, _, _, rfl, a, b, c⟩
theorem isL1 {B : Hp} {vs : List V} {d : D} (h : IsL B vs [d]) : ∃ v, vs = [v] ∧ Is B v d := by
  cases h with
  | cons a t => cases t; exact ⟨_, rfl, a⟩
theorem isL2 {B : Hp} {vs : List V} {d d2 : D} (h : IsL B vs [d, d2]) : ∃ v v2, vs = [v, v2] ∧ Is B v d ∧ Is B v2 d2 := by
  cases h with
  | cons a t =>
    obtain ⟨v, rfl, b⟩ := isL1 t
    exact ⟨_, _, rfl, a, b⟩
def only1 (ds : List D) (Q : D → Prop) : Prop := match ds with
  | [d] => Q d
  | _ => False
def only2 (ds : List D) (Q : D → D → Prop) : Prop := match ds with
  | [d, e] => Q d e
  | _ => False
theorem of_only1 {ds : List D} {Q : D → Prop} (h : only1 ds Q) : ∃ d, ds = [d] ∧ Q d := by
  unfold only1 at h
  split at h
  · exact ⟨_, rfl, h⟩
  · exact h.elim
theorem of_only2 {ds : List D} {Q : D → D → Prop} (h : only2 ds Q) : ∃ d e, ds = [d, e] ∧ Q d e := by
  unfold only2 at h
  split at h
  · exact ⟨_, _, rfl, h⟩
  · exact h.elim
theorem it_r1 (hg : Gl X "range") (hm : X.mg "range" = none) (ha : PBa X [a] bs) (hs : starEach [a] X.env = [(false, eval a X.env)] := by rfl) : PIb X tg (.Call (.Name "range" p) [a] [] pos) (iRan oR1 bs) :=
  PI.mono (pi_range1 hg hm ha hs) fun σ H R ⟨G, B0, H0, ρ, B, Q, r, q, k⟩ =>
  ⟨G, B0, H0, ρ, B, _, r, q, fun vs ds B' H' y g o q1 => by
    unfold oR1 at q1
    split at q1
    · rename_i j
      obtain ⟨v, rfl, h⟩ := views1 o
      cases h.int
      have hz : sizeLine < 2 ^ 61 := by decide
      refine ⟨j, rfl, by have := q1.1; omega, by have := q1.1; omega, k _ _ B' H' y g (wk_r (by have := q1.1; omega)) q1.2⟩
    · exact q1.elim⟩
theorem it_r2 (hg : Gl X "range") (hm : X.mg "range" = none) (ha : PBa X [a, b] bs) (hs : starEach [a, b] X.env = [(false, eval a X.env), (false, eval b X.env)] := by rfl) (hs2 : starEach [b] X.env = [(false, eval b X.env)] := by rfl) :
    PIb X tg (.Call (.Name "range" p) [a, b] [] pos) (iRan oR2 bs) :=
  PI.mono (pi_range2 hg hm ha hs hs2) fun σ H R ⟨G, B0, H0, ρ, B, Q, r, q, k⟩ =>
  ⟨G, B0, H0, ρ, B, _, r, q, fun vs ds B' H' y g o q1 => by
    unfold oR2 at q1
    split at q1
    · rename_i i j
      obtain ⟨v, v2, rfl, h, h2⟩ := views2 o
      cases h.int
      cases h2.int
      obtain ⟨⟨q2, q3, q4, q5, q6⟩, q7⟩ := q1
      exact ⟨i, j, rfl, ⟨by omega, by omega, by omega, by omega⟩, k _ _ B' H' y g (wk_r (by omega)) q7⟩
    · exact q1.elim⟩
/-! enumerate, zip -/
theorem wk_e {G : Jr} {B0 H0 B : Hp} {kk : Bool} {a : Addr} {xs : List V} {ds : List D} (e : B a = some (hoS kk xs)) (z : xs.length ≤ sizeLine) (il : IsL B xs ds) : Wk G B0 H0 B (ItE kk a) (enumD 0 ds) where
  sz := by rw [enumD_len, ← il.len]; exact z
  stop := fun B' H s g _ => ⟨xs, g.sub _ _ (s _ _ e), by rw [enumD_len]; exact il.len⟩
  go := fun i B' H s g _ lt => by
    rw [enumD_len, ← il.len] at lt
    exact ⟨xs, g.sub _ _ (s _ _ e), lt⟩
  yld := fun i B' H x H' d s g _ hd ⟨T, v, ys, e1, e2, e3, e4, e5⟩ => by
    rw [g.sub _ _ (s _ _ e)] at e4
    cases hoS_inj (Option.some.inj e4)
    subst e1 e3
    rw [enumD_get] at hd
    obtain ⟨d', q1, ix⟩ := il.get e5
    rw [q1] at hd
    cases hd
    refine ⟨upd B' T (.tup [.int (i : Nat), v]), .new e2 g, g.new e2, .tup upd_same (by show 2 ≤ sizeLine; decide) ?_⟩
    have sm := (Ext.new e2 g (o := .tup [.int (i : Nat), v])).b
    rw [Nat.zero_add]
    exact .cons (.int _) (.cons ((ix.mono s).mono sm) .nil)
theorem it_enu {elts : List Expr} {kk : Nat} {tpos : Pos} (hg : Gl X "enumerate") (hm : X.mg "enumerate" = none) (h : PB X .e e ba) (hs : starEach [e] X.env = [(false, eval e X.env)] := by rfl) :
    PIb X (.Tuple elts kk tpos) (.Call (.Name "enumerate" p) [e] [] pos) (iEnu (iSeq ba)) :=
  PI.mono (pi_enumS hg hm (pd_cons h pd_nil hs) hs) fun σ H R ⟨G, B0, H0, ρ, B, Q, r, q, k⟩ =>
  ⟨G, B0, H0, ρ, B, (fun ds => only1 ds fun d => oSeq d fun es => Q (enumD 0 es)), r, q, fun vs ds B' H' y g o q1 => by
    obtain ⟨d, rfl, q1⟩ := of_only1 q1
    obtain ⟨v, rfl, o1⟩ := isL1 o
    obtain ⟨a, kk, xs, ds, rfl, e, z, il, q2⟩ := isSeq o1 q1
    exact ⟨a, kk, xs, rfl, g.sub _ _ e, k _ _ B' H' y g (wk_e e z il) q2⟩⟩
theorem wk_z {G : Jr} {B0 H0 B : Hp} {k1 k2 : Bool} {a b : Addr} {xs ys : List V} {ds es : List D} (e : B a = some (hoS k1 xs)) (z : xs.length ≤ sizeLine) (il : IsL B xs ds) (e' : B b = some (hoS k2 ys)) (il' : IsL B ys es) : Wk G B0 H0 B (ItZ k1 k2 a b) (zipD ds es) where
  sz := by rw [zipD_len, ← il.len]; exact Nat.le_trans (Nat.min_le_left _ _) z
  stop := fun B' H s g _ => ⟨xs, ys, g.sub _ _ (s _ _ e), g.sub _ _ (s _ _ e'), by rw [zipD_len, il.len, il'.len]⟩
  go := fun i B' H s g _ lt => by
    rw [zipD_len, ← il.len, ← il'.len] at lt
    exact ⟨xs, ys, g.sub _ _ (s _ _ e), g.sub _ _ (s _ _ e'), by omega, by omega⟩
  yld := fun i B' H x H' d s g _ hd ⟨T, v, v2, zs, ws, e1, e2, e3, e4, e5, e6, e7⟩ => by
    rw [g.sub _ _ (s _ _ e)] at e4
    rw [g.sub _ _ (s _ _ e')] at e5
    cases hoS_inj (Option.some.inj e4)
    cases hoS_inj (Option.some.inj e5)
    subst e1 e3
    obtain ⟨d1, d2, q1, q2, rfl⟩ := zipD_get _ _ _ _ hd
    obtain ⟨v', p1, ix⟩ := il.get' q1
    obtain ⟨v2', p2, ix2⟩ := il'.get' q2
    rw [e6] at p1; cases p1
    rw [e7] at p2; cases p2
    have sm := (Ext.new e2 g (o := .tup [v, v2])).b
    exact ⟨upd B' T (.tup [v, v2]), .new e2 g, g.new e2, .tup upd_same (by show 2 ≤ sizeLine; decide) (.cons ((ix.mono s).mono sm) (.cons ((ix2.mono s).mono sm) .nil))⟩
theorem it_zip {elts : List Expr} {kk : Nat} {tpos : Pos} (hg : Gl X "zip") (hm : X.mg "zip" = none) (h : PB X .e e ba) (h2 : PB X .e e2 bb)
    (hs : starEach [e, e2] X.env = (false, eval e X.env) :: starEach [e2] X.env := by rfl) (hs2 : starEach [e2] X.env = [(false, eval e2 X.env)] := by rfl) (hpl : (backTo pos (starEach [e2] X.env)).any (·.1) = false := by rfl) :
    PIb X (.Tuple elts kk tpos) (.Call (.Name "zip" p) [e, e2] [] pos) (iZp ba bb) :=
  PI.mono (pi_zipS hg hm (pd_cons h (pd_cons h2 pd_nil hs2) hs) hs hpl) fun σ H R ⟨G, B0, H0, ρ, B, Q, r, q, k⟩ =>
  ⟨G, B0, H0, ρ, B, (fun ds => only2 ds fun a b => oSeq a fun as => oSeq b fun bs => Q (zipD as bs)), r, q, fun vs ds B' H' y g o q1 => by
    obtain ⟨d, d2, rfl, q1⟩ := of_only2 q1
    obtain ⟨v, v2, rfl, o1, o2⟩ := isL2 o
    obtain ⟨a, kk, xs, ds, rfl, e, z, il, q2⟩ := isSeq o1 q1
    obtain ⟨a', kk', xs', ds', rfl, e', z', il', q3⟩ := isSeq o2 q2
    exact ⟨a, a', kk, kk', xs, xs', rfl, g.sub _ _ e, g.sub _ _ e', k _ _ B' H' y g (wk_z e z il e' il') q3⟩⟩
/-! the keys of a dict that stays -/
theorem isKV_key {B : Hp} : ∀ {kvs : List (Key × V)} {ps : List (D × D)} {i : Nat}, IsKV B kvs ps → ∀ {d : D}, (ps.map (·.1))[i]? = some d → ∃ k v, kvs[i]? = some (k, v) ∧ d = kD k
  | _, _, i, .nil, d, h => by simp at h
  | _, _, 0, .cons (k := k) a t, d, h => by simp at h; exact ⟨_, _, rfl, h.symm⟩
  | _, _, i + 1, .cons a t, d, h => by
    obtain ⟨k, v, q1, q2⟩ := isKV_key (i := i) t (d := d) (by simpa using h)
    exact ⟨k, v, by simpa using q1, q2⟩
theorem IsKV.len {B : Hp} : ∀ {kvs : List (Key × V)} {ps : List (D × D)}, IsKV B kvs ps → kvs.length = ps.length
  | _, _, .nil => rfl
  | _, _, .cons _ t => congrArg Nat.succ t.len
theorem IsKT.len {B : Hp} : ∀ {kvs : List (List Key × V)} {ps : List (D × D)}, IsKT B kvs ps → kvs.length = ps.length
  | _, _, .nil => rfl
  | _, _, .cons _ t => congrArg Nat.succ t.len
theorem isKT_key {B : Hp} : ∀ {kvs : List (List Key × V)} {ps : List (D × D)} {i : Nat}, IsKT B kvs ps → ∀ {d : D}, (ps.map (·.1))[i]? = some d → ∃ k v, kvs[i]? = some (k, v) ∧ d = .tuple (k.map kD)
  | _, _, i, .nil, d, h => by simp at h
  | _, _, 0, .cons (k := k) a t, d, h => by simp at h; exact ⟨_, _, rfl, h.symm⟩
  | _, _, i + 1, .cons a t, d, h => by
    obtain ⟨k, v, q1, q2⟩ := isKT_key (i := i) t (d := d) (by simpa using h)
    exact ⟨k, v, by simpa using q1, q2⟩
theorem is_kV {B : Hp} : ∀ k : Key, Is B (kV k) (kD k)
  | .inl i => .int i
  | .inr s => .str s
theorem isL_kV {B : Hp} : ∀ ks : List Key, IsL B (ks.map kV) (ks.map kD)
  | [] => .nil
  | k :: ks => .cons (is_kV k) (isL_kV ks)
/-- the keys of a dict of numbers or texts that stays -/
theorem wk_k {G : Jr} {B0 H0 B : Hp} {a : Addr} {o : Obj} {kvs : List (Key × V)} {ps : List (D × D)} (e : B a = some (.frz o (.dK kvs))) (z : kvs.length ≤ sizeLine) (il : IsKV B kvs ps) : Wk G B0 H0 B (Itk a o kvs) (ps.map (·.1)) where
  sz := by rw [List.length_map, ← il.len]; exact z
  stop := fun B' H s g _ => ⟨g.sub _ _ (s _ _ e), by rw [List.length_map, il.len]; exact Nat.le_refl _⟩
  go := fun i B' H s g _ lt => ⟨g.sub _ _ (s _ _ e), by rw [List.length_map] at lt; rw [il.len]; exact lt⟩
  yld := fun i B' H x H' d s g _ hd ⟨hh, k, v, y1, y2⟩ => by
    subst hh
    obtain ⟨k', v', q1, rfl⟩ := isKV_key il hd
    rw [y1] at q1
    cases q1
    rw [y2]
    exact ⟨B', .refl _ _ _, g, is_kV k⟩
def oKeys (d : D) (Q : List D → Prop) : Prop := match d with
  | .dict ps => (ps.length ≤ sizeLine ∧ ∀ p ∈ ps, ∃ k, p.1 = kD k) ∧ Q (ps.map (·.1))
  | _ => False
theorem it_key (h : PB X .e e ba) : PIb X tg e (fun ρ Q => ba ρ fun d => oKeys d Q) := PI.mono (pi_keys h) fun σ H R ⟨G, B0, H0, ρ, B, Q, r, q, k⟩ =>
  ⟨G, B0, H0, ρ, B, _, r, q, fun v d B' H' y g o q1 => by
    unfold oKeys at q1
    split at q1
    · have o1 : Is B' v _ := o
      cases o1 with
      | dK e il => exact ⟨_, _, rfl, .inl ⟨_, g.sub _ _ e, k _ _ B' H' y g (wk_k e (by rw [il.len]; exact q1.1.1) il) q1.2⟩⟩
      | dT e nn il =>
        cases il with
        | nil => exact ⟨_, _, rfl, .inr ⟨_, g.sub _ _ e, k _ _ B' H' y g ⟨by simp, fun _ _ s g _ => ⟨g.sub _ _ (s _ _ e), Nat.zero_le _⟩, fun _ _ _ _ _ _ lt => by simp at lt, fun _ _ _ _ _ _ _ _ _ hd => by simp at hd⟩ q1.2⟩⟩
        | cons a t =>
          obtain ⟨k', e'⟩ := q1.1.2 _ List.mem_cons_self
          cases k' <;> cases e'
    · exact q1.elim⟩
end

/-! ### for -/
def forGo (p : BP) (s : BS) : List D → BS
  | [] => sNext
  | d :: r => fun ρ nx rt => p d ρ fun ρ' => s ρ' (fun ρ'' => forGo p s r ρ'' nx rt) rt
def sFor (b : BI) (p : BP) (s : BS) : BS := fun ρ nx rt => b ρ fun ds => forGo p s ds ρ nx rt
theorem ss_for {X : Cx} {κ : Kd} {tg iter : Expr} {body : List Stmt} {pos : Pos} {b : BI} {p : BP} {s : BS} {S : List Nat} (hp : PassesOwn (model X.prog X.w) X.A X.env X.xe) (hc : X.calm = true) (hi : PIb X tg iter b) (hg : PGb X S tg p) (hb : PSsb X κ body s)
    (hs : ∀ x, foldedSetIterable iter X.env x = pure x := by intro _; rfl) : PSb X κ (.For tg iter body [] pos) (sFor b p s) := PS.mono (ps_for hp hc hi hg hb hs) fun D σ H ⟨G, B0, H0, ρ, B, nx, rt, r, q, k1, k2⟩ =>
  ⟨G, B0, H0, ρ, B, _, r, q, fun J ds B1 H1 y g w q1 => by
    refine ⟨fun i m σ' H' => ∃ ρ' B', Rep G B0 H0 σ' H' ρ' B' ∧ Same B1 B' ∧ i ≤ ds.length ∧ m = ds.length - i ∧ forGo p s (ds.drop i) ρ' nx rt, ⟨ds.length, ρ, B1, r.step y g, .refl _, Nat.zero_le _, rfl, q1⟩, ?_⟩
    rintro i m σ' H' ⟨ρ', B', r', sm, hi, rfl, q'⟩
    by_cases hl : i < ds.length
    · refine .inr ⟨w.go i B' H' sm r'.g r'.x hl, fun σ2 H2 => ∃ ρ2 B2, Rep G B0 H0 σ2 H2 ρ2 B2 ∧ Same B1 B2 ∧ forGo p s (ds.drop (i + 1)) ρ2 nx rt, ?_, ?_⟩
      · rintro σ2 H2 ⟨ρ2, B2, r2, sm2, q2⟩
        exact ⟨ds.length - (i + 1), by omega, ρ2, B2, r2, sm2, hl, rfl, q2⟩
      · intro x H2 hy
        obtain ⟨B2, y2, g2, ix⟩ := w.yld i B' H' x H2 ds[i] sm r'.g r'.x (List.getElem?_eq_getElem hl) hy
        rw [List.drop_eq_getElem_cons hl] at q'
        refine ⟨G, B0, H0, ρ', B2, ds[i], _, r'.step y2 g2, ix, q', fun σ3 ρ3 r3 _ _ q3 => ?_⟩
        exact ⟨G, B0, H0, ρ3, B2, _, rt, r3, q3, fun σ4 H4 ρ4 B4 r4 m4 q4 => ⟨ρ4, B4, r4, sm.trans (y2.b.trans m4), q4⟩, k2⟩
    · have e : i = ds.length := by omega
      subst e
      refine .inl ⟨w.stop B' H' sm r'.g r'.x, ?_⟩
      rw [List.drop_length] at q'
      exact k1 _ _ _ _ r' (y.b.trans sm) q'⟩

/-! ### comprehensions -/
def lcGo (p : BP) (t : BT) (b : BX) (ρ : En) : List D → (List D → Prop) → Prop
  | [], Q => Q []
  | d :: r, Q => p d ρ fun ρ' => t ρ' fun k => if k = true then b ρ' fun x => lcGo p t b ρ r fun acc => Q (x :: acc) else lcGo p t b ρ r Q
def wipeE (ρ : En) : List Nat → En
  | [] => ρ
  | v :: vs => (wipeE ρ vs).set v .no
def bLc (i : BI) (vs : List Nat) (p : BP) (t : BT) (b : BX) : BX := fun ρ Q => i ρ fun ds => lcGo p t b (wipeE ρ vs) ds fun acc => Q (.list acc)
def tYesB : BT := fun _ Q => Q true
theorem Rep.forget {G : Jr} {B0 H0 B H : Hp} {σ : L2.St} {ρ : En} (r : Rep G B0 H0 σ H ρ B) (v : Nat) : Rep G B0 H0 (σ.set v none) H (ρ.set v .no) B := by
  refine ⟨r.g0, r.g, r.x, by simpa using r.len, ?_, ?_⟩
  · intro i c hc
    rw [get_set] at hc
    by_cases e : v = i
    · subst e
      rw [if_pos rfl] at hc
      split at hc
      · cases hc; trivial
      · cases hc
    · rw [if_neg e] at hc
      rw [get_set, if_neg e]
      exact r.at_ i c hc
  · intro i j c e a hij h1 h2 m1 m2 s1 s2
    rw [get_set] at h1 h2 s1 s2
    by_cases e1 : v = i
    · subst e1
      rw [if_pos rfl] at h1
      split at h1
      · cases h1; cases m1
      · cases h1
    · by_cases e2 : v = j
      · subst e2
        rw [if_pos rfl] at h2
        split at h2
        · cases h2; cases m2
        · cases h2
      · rw [if_neg e1] at h1 s1
        rw [if_neg e2] at h2 s2
        exact r.ap i j c e a hij h1 h2 m1 m2 s1 s2
theorem Rep.wipe {G : Jr} {B0 H0 B H : Hp} {σ : L2.St} {ρ : En} (r : Rep G B0 H0 σ H ρ B) : ∀ vs : List Nat, Rep G B0 H0 (wipe σ vs) H (wipeE ρ vs) B
  | [] => r
  | v :: vs => (r.wipe vs).forget v
theorem wipe_at (σ : L2.St) (i : Nat) : ∀ vs : List Nat, i ∈ vs → i < σ.length → (wipe σ vs)[i]? = some none
  | v :: vs, h, hl => by
    unfold L2.wipe
    rw [get_set]
    by_cases e : v = i
    · rw [if_pos e, if_pos (by rw [wipe_length, e]; exact hl)]
    · rw [if_neg e]
      exact wipe_at σ i vs (by rcases List.mem_cons.mp h with z | z; exact absurd z.symm e; exact z) hl
theorem wipe_of (σ : L2.St) {i : Nat} {vs : List Nat} (h : i ∉ vs) : (wipe σ vs)[i]? = σ[i]? := wipe_out h
theorem wipe_eq {σ σ2 : L2.St} {vs S : List Nat} (hl : σ2.length = σ.length) (hs : ∀ j, j ∉ S → σ2[j]? = (wipe σ vs)[j]?) (sub : ∀ j ∈ S, j ∈ vs) : wipe σ2 vs = wipe σ vs := by
  apply List.ext_getElem?
  intro i
  by_cases h : i ∈ vs
  · by_cases l : i < σ.length
    · rw [wipe_at σ i vs h l, wipe_at σ2 i vs h (by rw [hl]; exact l)]
    · rw [List.getElem?_eq_none (by rw [wipe_length]; omega), List.getElem?_eq_none (by rw [wipe_length]; omega)]
  · rw [wipe_of σ2 h, hs i (fun z => h (sub i z))]

theorem lc_of {wi : BI} {p : BP} {t : BT} {b : BX} {vs S : List Nat} (sub : ∀ j ∈ S, j ∈ vs) {σ : L2.St} {H : Hp} {R : VK} (q : T .l (bLc wi vs p t b) σ H R) : tLc (Ti wi) (Tg S p) (Tt t) (T .e b) vs σ H R := by
  obtain ⟨G, B0, H0, ρ, B, Q, r, q, k⟩ := q
  refine ⟨G, B0, H0, ρ, B, _, r, q, fun J ds B1 H1 y g w q1 Da hD => ?_⟩
  have nj : ¬ G.J Da := g.njf hD
  have nb := g.nb hD
  have rw1 := ((r.step y g).wipe vs)
  refine ⟨fun i m H' => ∃ B' acc xs, Ext G B1 H1 B' H' ∧ Gd G B' H' ∧ B' Da = none ∧ H' Da = some (.lst xs) ∧ IsL B' xs acc ∧ xs.length ≤ i ∧ i ≤ ds.length ∧ m = ds.length - i ∧ lcGo p t b (wipeE ρ vs) (ds.drop i) fun more => Q (.list (acc ++ more)), ?_, ?_⟩
  · exact ⟨ds.length, B1, [], [], .junk hD, g.junk hD, nb, upd_same, .nil, Nat.le_refl _, Nat.zero_le _, rfl, q1⟩
  rintro i m H' ⟨B', acc, xs, y', g', nb', e', il, hx, hi, rfl, q'⟩
  have r' := rw1.step y' g'
  by_cases hl : i < ds.length
  · refine .inr ⟨w.go i B' H' y'.b g' r'.x hl, fun H2 => ∃ B2 acc xs, Ext G B1 H1 B2 H2 ∧ Gd G B2 H2 ∧ B2 Da = none ∧ H2 Da = some (.lst xs) ∧ IsL B2 xs acc ∧ xs.length ≤ i + 1 ∧ lcGo p t b (wipeE ρ vs) (ds.drop (i + 1)) fun more => Q (.list (acc ++ more)), ?_, ?_⟩
    · rintro H2 ⟨B2, acc2, xs2, y2, g2, nb2, e2, il2, hx2, q2⟩
      exact ⟨ds.length - (i + 1), by omega, B2, acc2, xs2, y2, g2, nb2, e2, il2, hx2, hl, rfl, q2⟩
    · intro x H2 hy
      obtain ⟨B2, y2, g2, ix⟩ := w.yld i B' H' x H2 ds[i] y'.b g' r'.x (List.getElem?_eq_getElem hl) hy
      rw [List.drop_eq_getElem_cons hl] at q'
      have y12 := y'.trans g' y2
      have e2 : H2 Da = some (.lst xs) := y2.h Da _ nj e'
      have nb2 : B2 Da = none := y2.n Da nb' (by rw [e']; simp)
      refine ⟨G, B0, H0, wipeE ρ vs, B2, ds[i], _, r'.step y2 g2, ix, q', fun σ3 ρ3 r3 l3 s3 q3 => ?_⟩
      refine ⟨wipe_eq (by rw [l3, wipe_length]) s3 sub, G, B0, H0, ρ3, B2, _, r3, q3, fun c B3 H3 y3 g3 q4 => ?_⟩
      have e3 : H3 Da = some (.lst xs) := y3.h Da _ nj e2
      have nb3 : B3 Da = none := y3.n Da nb2 (by rw [e2]; simp)
      cases c with
      | true =>
        rw [if_pos rfl] at q4
        show T Kd.e b σ3 H3 _
        refine ⟨G, B0, H0, ρ3, B3, _, r3.step y3 g3, q4, fun v d B4 H4 y4 g4 o4 q5 => ?_⟩
        have e4 : H4 Da = some (.lst xs) := y4.h Da _ nj e3
        have nb4 : B4 Da = none := y4.n Da nb3 (by rw [e3]; simp)
        have y14 := (y12.trans g2 y3).trans g3 y4
        have hz := w.sz
        refine ⟨xs, e4, by omega, B4, acc ++ [d], xs ++ [v], ⟨y14.b, fun c u cj hc => ?_, fun c hb hh => y14.n c hb hh⟩, ⟨fun c u hc => ?_, ?_, g4.nj⟩, nb4, upd_same, (((il.mono y2.b).mono y3.b).mono y4.b).app (.cons o4 .nil), by simp; omega, ?_⟩
        · rw [upd_ne (ne_of_none hc hD)]; exact y14.h c u cj hc
        · rw [upd_ne (ne_of_none hc nb4)]; exact g4.sub c u hc
        · exact G.loc H4 _ (fun c j => by rw [upd_ne (fun e => nj (show G.J Da by rw [← e]; exact j))]) g4.ok
        · simpa using q5
      | false =>
        rw [if_neg Bool.false_ne_true] at q4
        exact ⟨B3, acc, xs, y12.trans g2 y3, g3, nb3, e3, (il.mono y2.b).mono y3.b, by omega, q4⟩
  · have e : i = ds.length := by omega
    subst e
    refine .inl ⟨w.stop B' H' y'.b g' r'.x, ?_⟩
    rw [List.drop_length] at q'
    have hH : H Da = none := y.back g hD
    refine k _ _ B' H' (y.trans g y') g' ⟨Da, acc, rfl, rfl, hH, nb', nj, xs, e', by have := w.sz; omega, il⟩ ?_
    simpa [lcGo] using q'

section
variable {X : Cx} {elt tg iter c : Expr} {ifs : List Expr} {scope : Scope} {own : List (Str × Nat)} {pos spos : Pos} {wi : BI} {p : BP} {t : BT} {b : BX} {S : List Nat}
theorem pts_n : PTs X [] (Tt tYesB) := ⟨fun pins s σ H R I ⟨G, B0, H0, ρ, B, Q, r, q, k⟩ => pts_nil.run pins s σ H R I (k true B H (.refl _ _ _) r.g q)⟩
theorem pts_1 (h : PBt X c t) : PTs X [c] (Tt t) := pts_one h
theorem pb_lc (hc : X.calm = true) (hN : X.N.Nodup) (ok : BlkOk X.N X.env.scope scope own) (sub : ∀ j ∈ S, j ∈ own.map (·.2)) (hi : PIb X tg iter wi)
    (hg : ∀ (s : Shared) (H : Hp) (C : Addr) (cl : List (Str × Addr)) (fp : List Addr), PGb (X.blk s H scope (compEnvC scope cl C X.env) fp) S tg p) (ht : ∀ (s : Shared) (H : Hp) (C : Addr) (cl : List (Str × Addr)) (fp : List Addr), PTs (X.blk s H scope (compEnvC scope cl C X.env) fp) ifs (Tt t))
    (he : ∀ (s : Shared) (H : Hp) (C : Addr) (cl : List (Str × Addr)) (fp : List Addr), PB (X.blk s H scope (compEnvC scope cl C X.env) fp) .e elt b) (hs : ∀ x, foldedSetIterable iter X.env x = pure x := by intro _; rfl) :
    PB X .l (.ListComp elt [⟨tg, iter, ifs, 0⟩] scope pos) (bLc wi (own.map (·.2)) p t b) := PE.mono (pe_lc hc hN hi ok hg ht he hs) fun σ H R q => lc_of sub q
theorem ss_setLc {κ : Kd} {i : Nat} {y : Str} {py : Pos} (hc : X.calm = true) (hN : X.N.Nodup) (hy : X.N[i]? = some y) (hyl : X.env.scope.names.lookup y = some .local)
    (hsw : swapsWith (.ListComp elt [⟨tg, iter, ifs, 0⟩] scope pos) (some (.Name y py)) spos.line X.env = pure true) (ok : BlkOk X.N X.env.scope scope own) (sub : ∀ j ∈ S, j ∈ own.map (·.2)) (hi : PIb X tg iter wi)
    (hg : ∀ (s : Shared) (H : Hp) (C : Addr) (cl : List (Str × Addr)) (fp : List Addr), PGb (X.blk s H scope (compEnvC scope cl C X.env) fp) S tg p) (ht : ∀ (s : Shared) (H : Hp) (C : Addr) (cl : List (Str × Addr)) (fp : List Addr), PTs (X.blk s H scope (compEnvC scope cl C X.env) fp) ifs (Tt t))
    (he : ∀ (s : Shared) (H : Hp) (C : Addr) (cl : List (Str × Addr)) (fp : List Addr), PB (X.blk s H scope (compEnvC scope cl C X.env) fp) .e elt b) (hs : ∀ x, foldedSetIterable iter X.env x = pure x := by intro _; rfl) :
    PSb X κ (.Assign [.Name y py] (.ListComp elt [⟨tg, iter, ifs, 0⟩] scope pos) spos) (sSetL i (bLc wi (own.map (·.2)) p t b)) :=
  PS.mono (ps_setLc hc hN hy hyl hsw hi ok hg ht he hs) fun D σ H q => lc_of sub (set_l q)
end
end BV

/-! BV, sixth part: lists and dicts of one's own that change; several names at once. -/
namespace BV
open PySem PySem.Spec L2

section
variable {G : Jr} {B0 H0 B H B1 H1 B' H' : Hp} {σ : L2.St} {ρ : En}
/-- an own object rewritten -/
theorem Rep.wr (r : Rep G B0 H0 σ H ρ B) {i : Nat} {a : Addr} {o : HO} {c c' : Cell} (hc : ρ[i]? = some c) (m : c.mine = true) (m' : c'.mine = true) (hs : σ[i]? = some (some (.ref a)))
    (h0 : H0 a = none) (hb : B a = none) (ok : CellOk G B0 H0 B (upd H a o) c' (some (.ref a))) : Rep G B0 H0 σ (upd H a o) (ρ.set i c') B := by
  have j : ¬ G.J a := r.g0.njf h0
  refine ⟨r.g0, ⟨fun b u e => ?_, ?_, r.g.nj⟩, ⟨r.x.b, fun b u nj e => ?_, r.x.n⟩, by simpa using r.len, ?_, ?_⟩
  · rw [upd_ne (ne_of_none e hb)]; exact r.g.sub b u e
  · exact G.loc H _ (fun b hj => by rw [upd_ne (fun e => j (show G.J a by rw [← e]; exact hj))]) r.g.ok
  · rw [upd_ne (ne_of_none e h0)]; exact r.x.h b u nj e
  · intro k e he
    rw [get_set] at he
    by_cases q : i = k
    · subst q
      rw [if_pos rfl] at he
      split at he
      · cases he
        rw [hs]; exact ok
      · cases he
    · rw [if_neg q] at he
      have z := r.at_ k e he
      have nb : e.mine = true → ∀ b, σ[k]?.join = some (.ref b) → b ≠ a := fun me b eb z => r.ap i k c e a q hc he m me hs (by rw [← z]; exact join_some eb)
      cases e with
      | no => trivial
      | val d => exact z
      | own ds =>
        obtain ⟨b, e1, h1, b1, l⟩ := z
        exact ⟨b, e1, h1, b1, by rw [upd_ne (nb rfl b e1)]; exact l⟩
      | dic t ds =>
        obtain ⟨b, e1, h1, b1, l⟩ := z
        exact ⟨b, e1, h1, b1, by rw [upd_ne (nb rfl b e1)]; exact l⟩
      | bor ds => exact z
      | bdic t ds => exact z
      | jar k => exact z
      | scr K ns => exact z
  · intro k l c1 c2 b hkl h1 h2 m1 m2 s1 s2
    rw [get_set] at h1 h2
    by_cases q1 : i = k
    · subst q1
      rw [hs] at s1
      cases s1
      rw [if_neg hkl] at h2
      exact r.ap i l c c2 a hkl hc h2 m m2 hs s2
    · by_cases q2 : i = l
      · subst q2
        rw [hs] at s2
        cases s2
        rw [if_neg q1] at h1
        exact r.ap k i c1 c a hkl h1 hc m1 m s1 hs
      · rw [if_neg q1] at h1
        rw [if_neg q2] at h2
        exact r.ap k l c1 c2 b hkl h1 h2 m1 m2 s1 s2
theorem Rep.ownAt (r : Rep G B0 H0 σ H ρ B) {i : Nat} {ds : List D} (h : ρ[i]? = some (.own ds)) : ∃ a xs, σ[i]? = some (some (.ref a)) ∧ H0 a = none ∧ B a = none ∧ H a = some (.lst xs) ∧ xs.length ≤ sizeLine ∧ IsL B xs ds := by
  obtain ⟨a, e1, h0, hb, xs, l, z, il⟩ := r.at_ i _ h
  exact ⟨a, xs, join_some e1, h0, hb, l, z, il⟩
theorem Rep.wrL (r : Rep G B0 H0 σ H ρ B) {i : Nat} {a : Addr} {ds es : List D} {ys : List V} (hc : ρ[i]? = some (.own ds)) (hs : σ[i]? = some (some (.ref a))) (h0 : H0 a = none) (hb : B a = none) (z : ys.length ≤ sizeLine) (il : IsL B ys es) :
    Rep G B0 H0 σ (upd H a (.lst ys)) (ρ.set i (.own es)) B := r.wr hc rfl rfl hs h0 hb ⟨a, rfl, h0, hb, ys, upd_same, z, il⟩
end

/-! ### expressions that change own lists -/
abbrev BM := En → (D → En → Prop) → Prop
def TM (b : BM) : TE := fun σ H R => ∃ G B0 H0 ρ B Q, Rep G B0 H0 σ H ρ B ∧ b ρ Q ∧ ∀ v d ρ' B' H', Rep G B0 H0 σ H' ρ' B' → Same B B' → Is B' v d → Q d ρ' → R v H'
abbrev PM (X : Cx) (e : Expr) (b : BM) : Prop := PE X e (TM b)
def mE (b : BX) : BM := fun ρ Q => b ρ fun d => Q d ρ
section
variable {X : Cx} {κ : Kd} {e o : Expr} {pos apos cpos : Pos} {ba : BX} {bm : BM} {i : Nat} {S : List Nat} {p : BP}
theorem pm_e (h : PB X .e e ba) : PM X e (mE ba) := PE.mono h fun σ H R ⟨G, B0, H0, ρ, B, Q, r, q, k⟩ =>
  ⟨G, B0, H0, ρ, B, _, r, q, fun v d B' H' y g o q1 => k v d ρ B' H' (r.step y g) y.b o q1⟩
/-- x.pop() -/
def mPop (i : Nat) : BM := fun ρ Q => match ρ[i]? with
  | some (.own ds) => ∃ d, ds[ds.length - 1]? = some d ∧ Q d (ρ.set i (.own ds.dropLast))
  | _ => False
theorem pm_pop (ho : PE X o (tVar i)) (hbase : attributeBase o "pop" X.env (eval o X.env) = eval o X.env := by rfl) (hline : (apos.endLine == cpos.line) = true := by rfl) : PM X (.Call (.Attribute o "pop" apos) [] [] cpos) (mPop i) :=
  PE.mono (pe_bm0 PySem.F.plainAttrs_list PySem.F.slot_list_pop PySem.F.type_list_pop mt_pop ho hbase hline) fun σ H R ⟨G, B0, H0, ρ, B, Q, r, q, k⟩ => by
    unfold mPop at q
    split at q
    · rename_i ds hd
      obtain ⟨d, e, q⟩ := q
      obtain ⟨a, xs, s1, h0, hb, l, z, il⟩ := r.ownAt hd
      obtain ⟨y, e2, iy⟩ := il.get' e
      refine ⟨_, s1, .inl ⟨rfl, xs, .of l⟩, a, xs, y, rfl, rfl, l, by rw [il.len]; exact e2, ?_⟩
      exact k y d _ B _ (r.wrL hd s1 h0 hb (by rw [List.length_dropLast]; omega) il.dropLast) (.refl _) iy q
    · exact q.elim
/-- x.pop(e) -/
def mPopAt (i : Nat) (b : BX) : BM := fun ρ Q => (∃ ds, ρ[i]? = some (.own ds)) ∧ b ρ fun n => match n, ρ[i]? with
  | .int n, some (.own ds) => ∃ k d, ixN ds.length n = some k ∧ ds[k]? = some d ∧ Q d (ρ.set i (.own (ds.eraseIdx k)))
  | _, _ => False
theorem pm_popAt (ho : PE X o (tVar i)) (he : PB X .e e ba) (hbase : attributeBase o "pop" X.env (eval o X.env) = eval o X.env := by rfl)
    (hfew : ((backTo cpos (starEach [e] X.env)).all (fun x => !x.1) && (backToKw cpos (keywordEach [] X.env)).all (fun x => x.1.isSome)
      && decide (([e] : List Expr).length + ([] : List Keyword).length + (if ([] : List Keyword).isEmpty then 0 else 1) < 30)) = true := by rfl)
    (hline : (apos.endLine == cpos.line) = true := by rfl) (hs : starEach [e] X.env = (false, eval e X.env) :: starEach [] X.env := by rfl) : PM X (.Call (.Attribute o "pop" apos) [e] [] cpos) (mPopAt i ba) :=
  PE.mono (pe_bm PySem.F.plainAttrs_list PySem.F.slot_list_pop PySem.F.type_list_pop mt_popAt ho (pd_cons he pd_nil hs) hbase hfew hline hs rfl) fun σ H R ⟨G, B0, H0, ρ, B, Q, r, ⟨⟨ds, hd⟩, q⟩, k⟩ => by
    obtain ⟨a, xs, s1, h0, hb, l, z, il⟩ := r.ownAt hd
    refine ⟨_, s1, .inl ⟨rfl, xs, .of l⟩, G, B0, H0, ρ, B, (fun ds => only1 ds fun n => match n, ρ[i]? with
      | .int n, some (.own ds) => ∃ k d, ixN ds.length n = some k ∧ ds[k]? = some d ∧ Q d (ρ.set i (.own (ds.eraseIdx k)))
      | _, _ => False), r, q, fun vs es B1 H1 y g o q1 => ?_⟩
    obtain ⟨n, rfl, q3⟩ := of_only1 q1
    obtain ⟨v, rfl, o⟩ := isL1 o
    split at q3
    · rename_i m ds' hd' o
      obtain ⟨kk, d, e1, e2, q2⟩ := q3
      have o2 : Is B1 v (.int m) := by assumption
      cases o2
      have r1 := r.step y g
      obtain ⟨a', xs', s1', h0', hb', l', z', il'⟩ := r1.ownAt hd'
      rw [s1] at s1'
      cases s1'
      obtain ⟨w, e3, iw⟩ := il'.get' e2
      obtain ⟨k1, k2, k3, k4⟩ := ixN_seq e1
      have hz : (sizeLine : Int) < 2 ^ 62 := by decide
      refine ⟨a, xs', m, kk, w, rfl, rfl, l', ?_, ?_, by rw [il'.len]; exact k1, e3, ?_⟩
      · have := il'.len; omega
      · have := il'.len; omega
      · exact k w d _ B1 _ (r1.wrL hd' s1 h0 hb' (Nat.le_trans (len_erase xs' kk) z') (il'.erase kk)) y.b iw q2
    · exact q3.elim

/-! ### statements -/
def sApp (i : Nat) (b : BM) : BS := fun ρ nx _ => (∃ ds, ρ[i]? = some (.own ds)) ∧ b ρ fun d ρ' => match ρ'[i]? with
  | some (.own ds) => ds.length < sizeLine ∧ nx (ρ'.set i (.own (ds ++ [d])))
  | _ => False
theorem ss_app (ho : PE X o (tVar i)) (he : PM X e bm) (hsw : swapsWith (.Call (.Attribute o "append" apos) [e] [] cpos) none pos.line X.env = pure false := by rfl) (hbase : attributeBase o "append" X.env (eval o X.env) = eval o X.env := by rfl)
    (hfew : ((backTo cpos (starEach [e] X.env)).all (fun x => !x.1) && (backToKw cpos (keywordEach [] X.env)).all (fun x => x.1.isSome)
      && decide (([e] : List Expr).length + ([] : List Keyword).length + (if ([] : List Keyword).isEmpty then 0 else 1) < 30)) = true := by rfl)
    (hline : (apos.endLine == cpos.line) = true := by rfl) (hs : starEach [e] X.env = (false, eval e X.env) :: starEach [] X.env := by rfl) : PSb X κ (.Expr (.Call (.Attribute o "append" apos) [e] [] cpos) pos) (sApp i bm) :=
  PS.mono (ps_expr (pe_bm PySem.F.plainAttrs_list PySem.F.slot_list_append PySem.F.type_list_append mt_append ho (pa_cons he pa_nil hs) hbase hfew hline hs rfl) hsw) fun Dn σ H ⟨G, B0, H0, ρ, B, nx, rt, r, ⟨⟨ds, hd⟩, q⟩, k1, k2⟩ => by
    obtain ⟨a, xs, s1, h0, hb, l, z, il⟩ := r.ownAt hd
    refine ⟨_, s1, .inl ⟨rfl, xs, .of l⟩, G, B0, H0, ρ, B, _, r, q, fun v d ρ' B1 H1 r1 sm iv q1 => ?_⟩
    split at q1
    · rename_i ds' hd'
      obtain ⟨a', xs', s1', h0', hb', l', z', il'⟩ := r1.ownAt hd'
      rw [s1] at s1'
      cases s1'
      have q2 := q1.1
      rw [← il'.len] at q2
      exact ⟨a, xs', v, rfl, rfl, l', q2, k1 _ _ _ B1 (r1.wrL hd' s1 h0 hb' (by simp; omega) (il'.app (.cons iv .nil))) sm q1.2⟩
    · exact q1.elim
/-- x.extend(e) -/
def sExt (i : Nat) (b : BX) : BS := fun ρ nx _ => (∃ ds, ρ[i]? = some (.own ds)) ∧ b ρ fun d => match d, ρ[i]? with
  | .list es, some (.own ds) => ds.length + es.length ≤ sizeLine ∧ nx (ρ.set i (.own (ds ++ es)))
  | _, _ => False
theorem ss_ext {κ1 : Kd} (ho : PE X o (tVar i)) (he : PB X κ1 e ba) (hsw : swapsWith (.Call (.Attribute o "extend" apos) [e] [] cpos) none pos.line X.env = pure false := by rfl) (hbase : attributeBase o "extend" X.env (eval o X.env) = eval o X.env := by rfl)
    (hfew : ((backTo cpos (starEach [e] X.env)).all (fun x => !x.1) && (backToKw cpos (keywordEach [] X.env)).all (fun x => x.1.isSome)
      && decide (([e] : List Expr).length + ([] : List Keyword).length + (if ([] : List Keyword).isEmpty then 0 else 1) < 30)) = true := by rfl)
    (hline : (apos.endLine == cpos.line) = true := by rfl) (hs : starEach [e] X.env = (false, eval e X.env) :: starEach [] X.env := by rfl) : PSb X κ (.Expr (.Call (.Attribute o "extend" apos) [e] [] cpos) pos) (sExt i ba) :=
  PS.mono (ps_expr (pe_bm PySem.F.plainAttrs_list PySem.F.slot_list_extend PySem.F.type_list_extend mt_extend ho (pa_cons he pa_nil hs) hbase hfew hline hs rfl) hsw) fun Dn σ H ⟨G, B0, H0, ρ, B, nx, rt, r, ⟨⟨ds, hd⟩, q⟩, k1, k2⟩ => by
    obtain ⟨a, xs, s1, h0, hb, l, z, il⟩ := r.ownAt hd
    refine ⟨_, s1, .inl ⟨rfl, xs, .of l⟩, G, B0, H0, ρ, B, _, r, q, fun v d B1 H1 y g ov q1 => ?_⟩
    split at q1
    · rename_i es ds' hd'
      have r1 := r.step y g
      obtain ⟨a', xs', s1', h0', hb', l', z', il'⟩ := r1.ownAt hd'
      rw [s1] at s1'
      cases s1'
      obtain ⟨b, zs, rfl, eb, zb, ib⟩ := ov.view.list g
      have q2 := q1.1
      rw [← il'.len, ← ib.len] at q2
      exact ⟨a, b, xs', zs, rfl, rfl, l', eb, q2, k1 _ _ _ B1 (r1.wrL hd' s1 h0 hb' (by simp; omega) (il'.app ib)) y.b q1.2⟩
    · exact q1.elim
/-- target = an expression that changes own lists -/
def sAsgM (p : BP) (b : BM) : BS := fun ρ nx _ => b ρ fun d ρ' => p d ρ' nx
theorem ss_asgM {tg : Expr} (he : PM X e bm) (hg : PGb X S tg p) (hs : swapsWithSole [tg] e pos.line X.env = pure false) (hw : swappedStores [tg] e X.env = pure none) (h1 : (assignEach [tg] X.env).map (·.2) = [assign tg X.env]) :
    PSb X κ (.Assign [tg] e pos) (sAsgM p bm) := PS.mono (ps_asg he hg hs hw h1) fun D σ H ⟨G, B0, H0, ρ, B, nx, rt, r, q, k1, k2⟩ =>
  ⟨G, B0, H0, ρ, B, _, r, q, fun v d ρ' B' H' r' sm o q1 => ⟨G, B0, H0, ρ', B', d, nx, r', o, q1, fun σ' ρ' r' _ _ q2 => k1 _ _ _ _ r' sm q2⟩⟩
theorem ss_setM {x : Str} {pos' : Pos} (he : PM X e bm) (hN : X.N.Nodup) (hi : X.N[i]? = some x) (hx : Loc X.env.scope x) (hs : swapsWith e (some (.Name x pos')) pos.line X.env = pure false) (hf : X.fn x = true ∨ X.env.scope.names.lookup x = some .local) :
    PSb X κ (.Assign [.Name x pos'] e pos) (sAsgM (pName i) bm) := PS.mono (ps_set hN hi hx he hs hf) fun D σ H ⟨G, B0, H0, ρ, B, nx, rt, r, q, k1, k2⟩ =>
  ⟨G, B0, H0, ρ, B, _, r, q, fun v d ρ' B' H' r' sm o q1 => k1 _ _ _ _ (r'.setV o) sm q1⟩
/-- x[e] = e2, x an own list -/
def sPut (i : Nat) (bi be : BX) : BS := fun ρ nx _ => (∃ ds, ρ[i]? = some (.own ds)) ∧ be ρ fun d => bi ρ fun n => match n, ρ[i]? with
  | .int n, some (.own ds) => ∃ k, ixN ds.length n = some k ∧ nx (ρ.set i (.own (ds.set k d)))
  | _, _ => False
theorem ss_put {ix : Expr} {bi : BX} {p2 : Pos} (ho : PE X o (tVar i)) (hi : PB X .e ix bi) (he : PB X .e e ba) (hs : swapsWithSole [.Subscript o ix p2] e pos.line X.env = pure false) (hw : swappedStores [.Subscript o ix p2] e X.env = pure none) (h1 : (assignEach [.Subscript o ix p2] X.env).map (·.2) = [assign (.Subscript o ix p2) X.env])
    (ha : ∀ v, assign (.Subscript o ix p2) X.env v = (do
      let ov ← holding [v] (eval o X.env)
      let iv ← holding [v, ov] (eval ix X.env)
      standAt p2
      holding [v, ov, iv] (setItem ov iv v)
      release [v, ov, iv] []) := by intro _; rfl) : PSb X κ (.Assign [.Subscript o ix p2] e pos) (sPut i bi ba) :=
  PS.mono (ps_asg he (pg_sub ho hi set_list ha) hs hw h1) fun Dn σ H ⟨G, B0, H0, ρ, B, nx, rt, r, ⟨⟨ds0, hd0⟩, q⟩, k1, k2⟩ => by
    refine ⟨G, B0, H0, ρ, B, _, r, q, fun v d B1 H1 y g iv q1 => ?_⟩
    have r1 := r.step y g
    obtain ⟨a, _, s0, _⟩ := r.ownAt hd0
    refine ⟨_, s0, G, B0, H0, ρ, B1, _, r1, q1, fun w n B2 H2 y2 g2 iw q2 => ?_⟩
    split at q2
    · rename_i m ds hd
      obtain ⟨kk, e1, q3⟩ := q2
      have r2 := r1.step y2 g2
      obtain ⟨a', xs, s1, h0, hb, l, z, il⟩ := r2.ownAt hd
      rw [s0] at s1
      cases s1
      have iw' : Is B2 w (.int m) := iw
      cases iw'
      refine ⟨a, xs, m, kk, rfl, rfl, l, by rw [il.len]; exact e1, ?_⟩
      exact k1 _ _ _ B2 (r2.wrL hd s0 h0 hb (by rw [List.length_set]; exact z) (il.set (Is.mono y2.b iv) kk)) (y.b.trans y2.b) q3
    · exact q2.elim
end
end BV

/-! BV, seventh part: several names at once, dicts. -/
namespace BV
open PySem PySem.Spec L2

/-! ### values that wait to be stored -/
/-- the cell of a result of kind κ -/
def cellOf (κ : Kd) (d : D) (Q : Cell → Prop) : Prop := match κ, d with
  | .e, d => Q (.val d)
  | .l, .list ds => Q (.own ds)
  | .d t, .dict ps => Q (.dic t ps)
  | _, _ => False
inductive Pend (G : Jr) (B0 H0 H B' H' : Hp) : List V → List Cell → Prop
  | nil : Pend G B0 H0 H B' H' [] []
  | cons {v : V} {vs : List V} {c : Cell} {cs : List Cell} : CellOk G B0 H0 B' H' c (some v) →
      (c.mine = true → ∀ a : Addr, v = .ref a → H a = none ∧ ∀ (j : Nat) (e : Cell), cs[j]? = some e → e.mine = true → vs[j]? ≠ some (V.ref a)) → Pend G B0 H0 H B' H' vs cs → Pend G B0 H0 H B' H' (v :: vs) (c :: cs)
theorem Pend.back {G : Jr} {B0 H0 H B1 H1 B B' H' : Hp} (g1 : Gd G B1 H1) (x : Ext G B H B1 H1) : ∀ {vs : List V} {cs : List Cell}, Pend G B0 H0 H1 B' H' vs cs → Pend G B0 H0 H B' H' vs cs
  | _, _, .nil => .nil
  | _, _, .cons a n t => .cons a (fun m a e => ⟨x.back g1 (n m a e).1, (n m a e).2⟩) (t.back g1 x)
theorem Pend.new {G : Jr} {B0 H0 H B' H' : Hp} : ∀ {vs : List V} {cs : List Cell}, Pend G B0 H0 H B' H' vs cs → ∀ (j : Nat) (e : Cell) (a : Addr), cs[j]? = some e → e.mine = true → vs[j]? = some (.ref a) → H a = none
  | _, _, .nil, j, e, a, h, _, _ => by simp at h
  | _, _, .cons _ n t, 0, e, a, h, m, hv => by
    simp at h hv
    subst h
    exact (n m a hv).1
  | _, _, .cons _ n t, j + 1, e, a, h, m, hv => t.new j e a (by simpa using h) m (by simpa using hv)
theorem Pend.step {G : Jr} {B0 H0 H B' H' B2 H2 : Hp} (g0 : Gd G B0 H0) (g : Gd G B' H') (hx : Ext G B0 H0 B' H') (y : Ext G B' H' B2 H2) : ∀ {vs : List V} {cs : List Cell}, Pend G B0 H0 H B' H' vs cs → Pend G B0 H0 H B2 H2 vs cs
  | _, _, .nil => .nil
  | _, _, .cons a n t => .cons (a.step g y hx g0) n (t.step g0 g hx y)
abbrev BC := En → (List Cell → Prop) → Prop
def Tp (b : BC) : TA := fun σ H R => ∃ G B0 H0 ρ B Q, Rep G B0 H0 σ H ρ B ∧ b ρ Q ∧ ∀ vs cs B' H', Ext G B H B' H' → Gd G B' H' → Pend G B0 H0 H B' H' vs cs → Q cs → R vs H'
abbrev PBp (X : Cx) (es : List Expr) (b : BC) : Prop := PA X es (Tp b)
def cNil : BC := fun _ Q => Q []
def cCons (κ : Kd) (b : BX) (bs : BC) : BC := fun ρ Q => b ρ fun d => cellOf κ d fun c => bs ρ fun cs => Q (c :: cs)
theorem cell_ok {G : Jr} {B0 H0 H B' H' : Hp} {κ : Kd} {v : V} {d : D} {Q : Cell → Prop} (g0 : Gd G B0 H0) (h0 : ∀ a, H a = none → H0 a = none) (o : Ok κ G H B' H' v d) (q : cellOf κ d Q) : ∃ c, Q c ∧ CellOk G B0 H0 B' H' c (some v) ∧ (c.mine = true → ∃ a, v = .ref a ∧ H a = none ∧ H' a ≠ none) := by
  unfold cellOf at q
  split at q
  · exact ⟨_, q, ⟨v, rfl, o⟩, fun m => by cases m⟩
  · obtain ⟨a, ds, e1, e2, hn, bn, j, l⟩ := o
    cases e2
    exact ⟨_, q, ⟨a, by rw [e1], h0 a hn, bn, l⟩, fun _ => ⟨a, e1, hn, l.ne⟩⟩
  · obtain ⟨a, ds, e1, e2, hn, bn, j, _, l⟩ := o
    cases e2
    exact ⟨_, q, ⟨a, by rw [e1], h0 a hn, bn, l⟩, fun _ => ⟨a, e1, hn, l.ne⟩⟩
  · exact q.elim
section
variable {X : Cx} {κ : Kd} {e : Expr} {es : List Expr} {ba : BX} {bs : BC}
theorem pp_nil : PBp X [] cNil := PA.mono pa_nil fun σ H R ⟨G, B0, H0, ρ, B, Q, r, q, k⟩ => k [] [] B H (.refl _ _ _) r.g .nil q
theorem pp_cons (ha : PB X κ e ba) (hs : PBp X es bs) (he : starEach (e :: es) X.env = (false, eval e X.env) :: starEach es X.env := by rfl) : PBp X (e :: es) (cCons κ ba bs) :=
  PA.mono (pa_cons ha hs he) fun σ H R ⟨G, B0, H0, ρ, B, Q, r, q, k⟩ =>
    ⟨G, B0, H0, ρ, B, _, r, q, fun x dx B1 H1 y1 g1 o1 q1 => by
      obtain ⟨c, q2, ck, nw⟩ := cell_ok r.g0 (fun a ha => r.x.back r.g ha) o1 q1
      refine ⟨G, B0, H0, ρ, B1, _, r.step y1 g1, q2, fun vs cs B2 H2 y2 g2 p2 q3 => ?_⟩
      refine k _ _ B2 H2 (y1.trans g1 y2) g2 (.cons (ck.step g1 y2 (r.x.trans r.g y1) r.g0) (fun m a e => ?_) (p2.back g1 y1)) q3
      obtain ⟨b, e2, hn, hne⟩ := nw m
      rw [e2] at e
      cases e
      exact ⟨hn, fun j e' hj me hv => hne (p2.new j e' _ hj me hv)⟩⟩
end

/-- stored at names, from the left -/
def setAll {α : Type} : List α → List Nat → List α → List α
  | l, i :: is, x :: xs => setAll (l.set i x) is xs
  | l, _, _ => l
theorem Rep.setAll {G : Jr} {B0 H0 H B' H' : Hp} : ∀ {is : List Nat} {vs : List V} {cs : List Cell} {σ : L2.St} {ρ : En}, Rep G B0 H0 σ H' ρ B' → Pend G B0 H0 H B' H' vs cs →
    (∀ (j : Nat) (e : Cell) (a : Addr), ρ[j]? = some e → e.mine = true → σ[j]? = some (some (.ref a)) → ∀ (k : Nat) (c : Cell), cs[k]? = some c → c.mine = true → vs[k]? ≠ some (.ref a)) → is.length = vs.length → Rep G B0 H0 (BV.setAll σ is (vs.map some)) H' (BV.setAll ρ is cs) B'
  | [], [], [], σ, ρ, r, _, _, _ => r
  | i :: is, v :: vs, c :: cs, σ, ρ, r, .cons ck nw t, old, hl => by
    refine (r.setC ck fun m j e a hj he me ev s => old j e a he me s 0 c rfl m (by rw [ev]; rfl)).setAll t ?_ (by simpa using hl)
    intro j e a he me hs k c' hk mk hv
    rw [get_set] at he hs
    by_cases q : i = j
    · subst q
      rw [if_pos rfl] at he hs
      split at he
      · cases he
        split at hs
        · have e2 : v = .ref a := Option.some.inj (Option.some.inj hs)
          exact (nw me a e2).2 k c' hk mk hv
        · cases hs
      · cases he
    · rw [if_neg q] at he hs
      exact old j e a he me hs (k + 1) c' (by simpa using hk) mk (by simpa using hv)
  | _, _ :: _, [], _, _, _, p, _, _ => nomatch p
  | _, [], _ :: _, _, _, _, p, _, _ => nomatch p
  | [], _ :: _, _, _, _, _, _, _, hl => by simp at hl
  | _ :: _, [], _, _, _, _, _, _, hl => by simp at hl
theorem Pend.len {G : Jr} {B0 H0 H B' H' : Hp} : ∀ {vs : List V} {cs : List Cell}, Pend G B0 H0 H B' H' vs cs → vs.length = cs.length
  | _, _, .nil => rfl
  | _, _, .cons _ _ t => congrArg Nat.succ t.len
/-- names = expressions -/
def sPar (is : List Nat) (b : BC) : BS := fun ρ nx _ => b ρ fun cs => cs.length = is.length ∧ nx (setAll ρ is cs)
theorem par_of {κ : Kd} {is : List Nat} {bs : BC} {σ : L2.St} {H : Hp} {Dn : Ends} (q : Ts κ (sPar is bs) Dn σ H) : Tp bs σ H fun vs H1 => vs.length = is.length ∧ Dn.nx (setAll σ is (vs.map some)) H1 := by
  obtain ⟨G, B0, H0, ρ, B, nx, rt, r, q, k1, k2⟩ := q
  refine ⟨G, B0, H0, ρ, B, _, r, q, fun vs cs B1 H1 y g p q1 => ?_⟩
  have hl : is.length = vs.length := by rw [p.len]; exact q1.1.symm
  refine ⟨hl.symm, k1 _ _ _ B1 ((r.step y g).setAll p ?_ hl) y.b q1.2⟩
  intro j e a he me hs k c hk mk hv
  exact r.mineAt he me hs (p.new k c a hk mk hv)
section
variable {X : Cx} {κ : Kd} {a b c : Expr} {i j l : Nat} {x y z : Str} {px py pz pt pos : Pos} {kt k2 pt2} {bs : BC}
theorem ss_par2 (hc : X.calm = true) (hN : X.N.Nodup) (hi : X.N[i]? = some x) (hj : X.N[j]? = some y) (hij : i ≠ j)
    (hx : X.env.scope.names.lookup x = some .local) (hy : X.env.scope.names.lookup y = some .local) (ha : PBp X [a, b] bs)
    (hw : swappedStores [.Tuple [.Name x px, .Name y py] kt pt] (.Tuple [a, b] k2 pt2) X.env = pure (some [x, y]))
    (hs : swapsWithSole [.Tuple [.Name x px, .Name y py] kt pt] (.Tuple [a, b] k2 pt2) pos.line X.env = pure false) :
    PSb X κ (.Assign [.Tuple [.Name x px, .Name y py] kt pt] (.Tuple [a, b] k2 pt2) pos) (sPar [i, j] bs) :=
  PS.mono (ps_par hc hN hi hj hij hx hy ha hw hs) fun Dn σ H q => by
    obtain ⟨G, B0, H0, ρ, B, Q, r, q, k⟩ := par_of q
    refine ⟨G, B0, H0, ρ, B, Q, r, q, fun vs cs B1 H1 y g p q1 => ?_⟩
    obtain ⟨h1, h2⟩ := k vs cs B1 H1 y g p q1
    match vs, h1, h2 with
    | [v, w], _, h2 => exact ⟨v, w, rfl, h2⟩
theorem ss_par3 (hc : X.calm = true) (hN : X.N.Nodup) (hi : X.N[i]? = some x) (hj : X.N[j]? = some y) (hl : X.N[l]? = some z) (hij : i ≠ j) (hil : i ≠ l) (hjl : j ≠ l)
    (hx : X.env.scope.names.lookup x = some .local) (hy : X.env.scope.names.lookup y = some .local) (hz : X.env.scope.names.lookup z = some .local) (ha : PBp X [a, b, c] bs)
    (hw : swappedStores [.Tuple [.Name x px, .Name y py, .Name z pz] kt pt] (.Tuple [a, b, c] k2 pt2) X.env = pure (some [x, y, z]))
    (hs : swapsWithSole [.Tuple [.Name x px, .Name y py, .Name z pz] kt pt] (.Tuple [a, b, c] k2 pt2) pos.line X.env = pure false) :
    PSb X κ (.Assign [.Tuple [.Name x px, .Name y py, .Name z pz] kt pt] (.Tuple [a, b, c] k2 pt2) pos) (sPar [i, j, l] bs) :=
  PS.mono (ps_par3 hc hN hi hj hl hij hil hjl hx hy hz ha hw hs) fun Dn σ H q => by
    obtain ⟨G, B0, H0, ρ, B, Q, r, q, k⟩ := par_of q
    refine ⟨G, B0, H0, ρ, B, Q, r, q, fun vs cs B1 H1 y g p q1 => ?_⟩
    obtain ⟨h1, h2⟩ := k vs cs B1 H1 y g p q1
    match vs, h1, h2 with
    | [u, v, w], _, h2 => exact ⟨u, v, w, rfl, h2⟩
end
/-- targets that are all names -/
def gNames : List Nat → TGs
  | [] => gNil
  | i :: is => gCons (gName i) (gNames is)
theorem gNames_of : ∀ {is : List Nat} {vs : List V} {σ : L2.St} {H : Hp} {Q : L2.St → Hp → Prop}, vs.length = is.length → Q (setAll σ is (vs.map some)) H → gNames is vs σ H Q
  | [], [], σ, H, Q, _, q => ⟨rfl, q⟩
  | i :: is, v :: vs, σ, H, Q, hl, q => ⟨v, vs, rfl, gNames_of (is := is) (σ := σ.set i (some v)) (by simpa using hl) q⟩
  | [], _ :: _, _, _, _, hl, _ => by simp at hl
  | _ :: _, [], _, _, _, hl, _ => by simp at hl
theorem ss_parG {X : Cx} {κ : Kd} {es ts : List Expr} {is : List Nat} {kt : Nat} {pt pt2 pos : Pos} {bs : BC} {x1} (hc : X.calm = true) (ha : PBp X es bs) (hg : PGs X ts (gNames is)) (hz : is.length ≤ sizeLine)
    (hn : (assignEach ts X.env).length = is.length := by rfl) (hst : (assignEach ts X.env).findIdx? (·.1) = none := by rfl)
    (hs : swapsWithSole [.Tuple ts kt pt] (.Tuple es x1 pt2) pos.line X.env = pure false) (hw : swappedStores [.Tuple ts kt pt] (.Tuple es x1 pt2) X.env = pure none) (h1 : (assignEach [.Tuple ts kt pt] X.env).map (·.2) = [assign (.Tuple ts kt pt) X.env]) :
    PSb X κ (.Assign [.Tuple ts kt pt] (.Tuple es x1 pt2) pos) (sPar is bs) :=
  PS.mono (ps_asg (pe_tup ha) (pg_tup hc hg hn hst) hs hw h1) fun Dn σ H q => by
    obtain ⟨G, B0, H0, ρ, B, nx, rt, r, q, k1, k2⟩ := q
    refine ⟨G, B0, H0, ρ, B, _, r, q, fun vs cs B1 H1 y g p q1 => ?_⟩
    have hl : is.length = vs.length := by rw [p.len]; exact q1.1.symm
    refine ⟨by rw [← hl]; exact hz, fun T hT => ?_⟩
    refine ⟨T, vs, rfl, .of upd_same, hl.symm, gNames_of hl.symm ?_⟩
    have j2 : Ext G B1 H1 B1 (upd H1 T (.tup vs)) := .junk hT
    have g2 : Gd G B1 (upd H1 T (.tup vs)) := g.junk hT
    have p2 := p.step r.g0 g (r.x.trans r.g y) j2
    refine k1 _ _ _ B1 ((r.step (y.trans g j2) g2).setAll p2 ?_ hl) y.b q1.2
    intro j e a he me hs k c hk mk hv
    exact r.mineAt he me hs (p.new k c a hk mk hv)

/-! ### dicts -/
def kOf : D → Option Key
  | .int i => some (.inl i)
  | .str s => some (.inr s)
  | _ => none
def ksOf : List D → Option (List Key)
  | [] => some []
  | d :: ds => match kOf d, ksOf ds with
    | some k, some ks => some (k :: ks)
    | _, _ => none
theorem kOf_some {d : D} {k : Key} (h : kOf d = some k) : d = kD k := by
  unfold kOf at h
  split at h <;> cases h <;> rfl
theorem ksOf_some : ∀ {ds : List D} {ks : List Key}, ksOf ds = some ks → ds = ks.map kD
  | [], ks, h => by cases h; rfl
  | d :: ds, ks, h => by
    unfold ksOf at h
    split at h
    · rename_i k ks' h1 h2
      cases h
      rw [kOf_some h1, ksOf_some h2]; rfl
    · cases h
theorem kD_inj {a b : Key} (h : kD a = kD b) : a = b := by
  cases a <;> cases b <;> cases h <;> rfl
theorem kDs_inj : ∀ {a b : List Key}, a.map kD = b.map kD → a = b
  | [], [], _ => rfl
  | [], _ :: _, h => by simp at h
  | _ :: _, [], h => by simp at h
  | x :: a, y :: b, h => by
    simp only [List.map_cons, List.cons.injEq] at h
    rw [kD_inj h.1, kDs_inj h.2]
theorem is_kD {B : Hp} {v : V} {k : Key} (h : Is B v (kD k)) : v = kV k := by
  cases k <;> (cases h; rfl)
theorem isL_kD {B : Hp} : ∀ {vs : List V} {ks : List Key}, IsL B vs (ks.map kD) → vs = ks.map kV
  | _, [], h => by cases h; rfl
  | _, k :: ks, h => by
    cases h with
    | cons a t => rw [is_kD a, isL_kD t]; rfl
def kEq1 : D → D → Bool
  | .int i, .int j => decide (i = j)
  | .str s, .str t => decide (s = t)
  | _, _ => false
def kEqL : List D → List D → Bool
  | [], [] => true
  | a :: as, b :: bs => kEq1 a b && kEqL as bs
  | _, _ => false
def kEq : D → D → Bool
  | .tuple as, .tuple bs => kEqL as bs
  | .tuple _, _ => false
  | a, b => kEq1 a b
theorem kEq1_kD (a b : Key) : kEq1 (kD a) (kD b) = decide (a = b) := by
  cases a <;> cases b <;> simp [kEq1, kD]
theorem kEq_kD (a b : Key) : kEq (kD a) (kD b) = decide (a = b) := by
  rw [← kEq1_kD]
  cases a <;> cases b <;> rfl
theorem kEqL_kD : ∀ a b : List Key, kEqL (a.map kD) (b.map kD) = decide (a = b)
  | [], [] => by simp [kEqL]
  | [], _ :: _ => by simp [kEqL]
  | _ :: _, [] => by simp [kEqL]
  | x :: a, y :: b => by
    simp only [List.map_cons, kEqL, kEq1_kD, kEqL_kD a b, List.cons.injEq, Bool.decide_and]
theorem kEq_T (a b : List Key) : kEq (.tuple (a.map kD)) (.tuple (b.map kD)) = decide (a = b) := by
  show kEqL _ _ = _
  exact kEqL_kD a b
def valD (ps : List (D × D)) (k : D) : Option D := match ps with
  | [] => none
  | p :: r => if kEq p.1 k = true then some p.2 else valD r k
def repD (ps : List (D × D)) (k d : D) : List (D × D) := ps.map fun p => if kEq p.1 k = true then (p.1, d) else p
def putD (ps : List (D × D)) (k d : D) : List (D × D) := if (valD ps k).isSome = true then repD ps k d else ps ++ [(k, d)]
theorem IsKV.val {B : Hp} (k : Key) : ∀ {kvs : List (Key × V)} {ps : List (D × D)}, IsKV B kvs ps → (∃ v d, valV kvs k = some v ∧ valD ps (kD k) = some d ∧ Is B v d) ∨ (valV kvs k = none ∧ valD ps (kD k) = none)
  | _, _, .nil => .inr ⟨rfl, rfl⟩
  | _, _, .cons (k := k') (v := v) (d := d) a t => by
    by_cases e : k' = k
    · refine .inl ⟨v, d, valV_pos e, ?_, a⟩
      unfold valD
      rw [if_pos (by rw [kEq_kD]; exact decide_eq_true e)]
    · have e2 : ¬ kEq (kD k') (kD k) = true := by rw [kEq_kD]; simpa using e
      rcases t.val k with ⟨v, d, q1, q2, q3⟩ | ⟨q1, q2⟩
      · refine .inl ⟨v, d, by rw [valV_neg e]; exact q1, ?_, q3⟩
        unfold valD
        rw [if_neg e2]; exact q2
      · refine .inr ⟨by rw [valV_neg e]; exact q1, ?_⟩
        unfold valD
        rw [if_neg e2]; exact q2
theorem IsKT.val {B : Hp} (k : List Key) : ∀ {kvs : List (List Key × V)} {ps : List (D × D)}, IsKT B kvs ps → (∃ v d, valV kvs k = some v ∧ valD ps (.tuple (k.map kD)) = some d ∧ Is B v d) ∨ (valV kvs k = none ∧ valD ps (.tuple (k.map kD)) = none)
  | _, _, .nil => .inr ⟨rfl, rfl⟩
  | _, _, .cons (k := k') (v := v) (d := d) a t => by
    by_cases e : k' = k
    · refine .inl ⟨v, d, valV_pos e, ?_, a⟩
      unfold valD
      rw [if_pos (by rw [kEq_T]; exact decide_eq_true e)]
    · have e2 : ¬ kEq (.tuple (k'.map kD)) (.tuple (k.map kD)) = true := by rw [kEq_T]; simpa using e
      rcases t.val k with ⟨v, d, q1, q2, q3⟩ | ⟨q1, q2⟩
      · refine .inl ⟨v, d, by rw [valV_neg e]; exact q1, ?_, q3⟩
        unfold valD
        rw [if_neg e2]; exact q2
      · refine .inr ⟨by rw [valV_neg e]; exact q1, ?_⟩
        unfold valD
        rw [if_neg e2]; exact q2
theorem IsKV.rep {B : Hp} {v : V} {d : D} (k : Key) (h : Is B v d) : ∀ {kvs : List (Key × V)} {ps : List (D × D)}, IsKV B kvs ps → IsKV B (kvs.map fun kv => if kv.1 = k then (kv.1, v) else kv) (repD ps (kD k) d)
  | _, _, .nil => .nil
  | _, _, .cons (k := k') (v := w) (d := d') a t => by
    have ih := t.rep k h
    unfold repD at ih ⊢
    simp only [List.map_cons, kEq_kD, decide_eq_true_eq]
    by_cases e : k' = k
    · rw [if_pos e, if_pos e]; exact .cons h ih
    · rw [if_neg e, if_neg e]; exact .cons a ih
theorem IsKT.rep {B : Hp} {v : V} {d : D} (k : List Key) (h : Is B v d) : ∀ {kvs : List (List Key × V)} {ps : List (D × D)}, IsKT B kvs ps → IsKT B (kvs.map fun kv => if kv.1 = k then (kv.1, v) else kv) (repD ps (.tuple (k.map kD)) d)
  | _, _, .nil => .nil
  | _, _, .cons (k := k') (v := w) (d := d') a t => by
    have ih := t.rep k h
    unfold repD at ih ⊢
    simp only [List.map_cons, kEq_T, decide_eq_true_eq]
    by_cases e : k' = k
    · rw [if_pos e, if_pos e]; exact .cons h ih
    · rw [if_neg e, if_neg e]; exact .cons a ih
theorem IsKV.app {B : Hp} : ∀ {a b : List (Key × V)} {ps qs : List (D × D)}, IsKV B a ps → IsKV B b qs → IsKV B (a ++ b) (ps ++ qs)
  | _, _, _, _, .nil, h => h
  | _, _, _, _, .cons a t, h => .cons a (t.app h)
theorem IsKT.app {B : Hp} : ∀ {a b : List (List Key × V)} {ps qs : List (D × D)}, IsKT B a ps → IsKT B b qs → IsKT B (a ++ b) (ps ++ qs)
  | _, _, _, _, .nil, h => h
  | _, _, _, _, .cons a t, h => .cons a (t.app h)
theorem IsKV.put {B : Hp} {v : V} {d : D} (k : Key) (h : Is B v d) {kvs : List (Key × V)} {ps : List (D × D)} (t : IsKV B kvs ps) : IsKV B (putK kvs k v) (putD ps (kD k) d) := by
  unfold putK putD
  rw [valV_any]
  rcases t.val k with ⟨v, d, q1, q2, q3⟩ | ⟨q1, q2⟩
  · rw [q1, q2, Option.isSome_some, Option.isSome_some, if_pos rfl, if_pos rfl]; exact t.rep k h
  · rw [q1, q2, if_neg (by simp), if_neg (by simp)]; exact t.app (.cons h .nil)
theorem IsKT.put {B : Hp} {v : V} {d : D} (k : List Key) (h : Is B v d) {kvs : List (List Key × V)} {ps : List (D × D)} (t : IsKT B kvs ps) : IsKT B (putK kvs k v) (putD ps (.tuple (k.map kD)) d) := by
  unfold putK putD
  rw [valV_any]
  rcases t.val k with ⟨v, d, q1, q2, q3⟩ | ⟨q1, q2⟩
  · rw [q1, q2, Option.isSome_some, Option.isSome_some, if_pos rfl, if_pos rfl]; exact t.rep k h
  · rw [q1, q2, if_neg (by simp), if_neg (by simp)]; exact t.app (.cons h .nil)
/-- a key that fits the dict -/
def isT : D → Bool
  | .tuple _ => true
  | _ => false
def goodKey (t : Bool) (k : D) : Prop := match t with
  | false => (kOf k).isSome = true
  | true => match k with
    | .tuple ks => (ksOf ks).isSome = true
    | _ => False
/-- what kind of keys a dict holds, the empty one counting as plain -/
def tKind (ps : List (D × D)) : Bool := match ps with
  | [] => false
  | p :: _ => isT p.1
theorem isKV_kind {B : Hp} {kvs : List (Key × V)} {ps : List (D × D)} (h : IsKV B kvs ps) : tKind ps = false := by
  cases h with
  | nil => rfl
  | cons a t => rename_i k _ _ _ _; cases k <;> rfl
theorem isKT_kind {B : Hp} {kvs : List (List Key × V)} {ps : List (D × D)} (h : IsKT B kvs ps) (n : ps ≠ []) : tKind ps = true := by
  cases h with
  | nil => exact absurd rfl n
  | cons a t => rfl
theorem goodK {B : Hp} {v : V} {k : D} (h : goodKey false k) (i : Is B v k) : ∃ key, v = kV key ∧ k = kD key := by
  unfold goodKey at h
  obtain ⟨key, e⟩ := Option.isSome_iff_exists.mp h
  have e' := kOf_some e
  subst e'
  exact ⟨key, is_kD i, rfl⟩
theorem goodT {B : Hp} {v : V} {k : D} (h : goodKey true k) (i : Is B v k) : ∃ (b : Addr) (key : List Key), v = .ref b ∧ B b = some (.tup (key.map kV)) ∧ k = .tuple (key.map kD) := by
  cases i with
  | tup e z il =>
    unfold goodKey at h
    obtain ⟨key, e'⟩ := Option.isSome_iff_exists.mp h
    have e2 := ksOf_some e'
    subst e2
    rw [isL_kD il] at e
    exact ⟨_, key, rfl, e, rfl⟩
  | _ => exact False.elim h
theorem viewIs {G : Jr} {B H : Hp} {v : V} {k : D} {t : Bool} (h : View G B H v k) (g : goodKey t k) : Is B v k := by
  rcases h with h | ⟨a, ds, _, rfl, _⟩ | ⟨a, u, ps, _, rfl, _⟩
  · exact h
  · cases t
    · simp [goodKey, kOf] at g
    · exact g.elim
  · cases t
    · simp [goodKey, kOf] at g
    · exact g.elim
/-- what stands at a key -/
theorem dget_of {G : Jr} {B H : Hp} (g : Gd G B H) {a : Addr} {ps : List (D × D)} {v : V} {k : D} (d : DicRd B H a ps) (gk : goodKey (tKind ps) k) (ik : Is B v k) :
    (∃ x d, DGet H a v (some x) ∧ valD ps k = some d ∧ Is B x d) ∨ (DGet H a v none ∧ valD ps k = none) := by
  rcases d with ⟨kvs, e, il⟩ | ⟨kvs, e, il, n⟩
  · rw [isKV_kind il] at gk
    obtain ⟨key, rfl, rfl⟩ := goodK gk ik
    rcases il.val key with ⟨x, d, q1, q2, q3⟩ | ⟨q1, q2⟩
    · exact .inl ⟨x, d, .inl ⟨kvs, key, e, rfl, q1.symm⟩, q2, q3⟩
    · exact .inr ⟨.inl ⟨kvs, key, e, rfl, q1.symm⟩, q2⟩
  · rw [isKT_kind il n] at gk
    obtain ⟨b, key, rfl, hb, rfl⟩ := goodT gk ik
    rcases il.val key with ⟨x, d, q1, q2, q3⟩ | ⟨q1, q2⟩
    · exact .inl ⟨x, d, .inr ⟨kvs, key, b, e, rfl, g.sub _ _ hb, q1.symm⟩, q2, q3⟩
    · exact .inr ⟨.inr ⟨kvs, key, b, e, rfl, g.sub _ _ hb, q1.symm⟩, q2⟩
/-- the same for a dict of one's own -/
theorem dget_at {G : Jr} {B H : Hp} (g : Gd G B H) {a : Addr} {t : Bool} {ps : List (D × D)} {v : V} {k : D} (d : DicAt B t (H a) ps) (gk : goodKey t k) (ik : Is B v k) :
    (∃ x d, DGet H a v (some x) ∧ valD ps k = some d ∧ Is B x d) ∨ (DGet H a v none ∧ valD ps k = none) := by
  cases t
  · obtain ⟨kvs, e, il⟩ := d
    obtain ⟨key, rfl, rfl⟩ := goodK gk ik
    rcases il.val key with ⟨x, d, q1, q2, q3⟩ | ⟨q1, q2⟩
    · exact .inl ⟨x, d, .inl ⟨kvs, key, .inl e, rfl, q1.symm⟩, q2, q3⟩
    · exact .inr ⟨.inl ⟨kvs, key, .inl e, rfl, q1.symm⟩, q2⟩
  · obtain ⟨kvs, e, il⟩ := d
    obtain ⟨b, key, rfl, hb, rfl⟩ := goodT gk ik
    rcases il.val key with ⟨x, d, q1, q2, q3⟩ | ⟨q1, q2⟩
    · exact .inl ⟨x, d, .inr ⟨kvs, key, b, .inl e, rfl, g.sub _ _ hb, q1.symm⟩, q2, q3⟩
    · exact .inr ⟨.inr ⟨kvs, key, b, .inl e, rfl, g.sub _ _ hb, q1.symm⟩, q2⟩
theorem DicRd.isD {B H : Hp} {a : Addr} {ps : List (D × D)} (d : DicRd B H a ps) : IsD H a := by
  rcases d with ⟨kvs, e, _⟩ | ⟨kvs, e, _⟩
  · exact .inl ⟨kvs, e⟩
  · exact .inr ⟨kvs, e⟩
/-! the readings -/
def oDGet (dd k : D) (Q : D → Prop) : Prop := match dd with
  | .dict ps => goodKey (tKind ps) k ∧ ∃ x, valD ps k = some x ∧ Q x
  | _ => False
def oDIn (k dd : D) (Q : D → Prop) : Prop := match dd with
  | .dict ps => goodKey (tKind ps) k ∧ Q (.bool (valD ps k).isSome)
  | _ => False
def oDNot (k dd : D) (Q : D → Prop) : Prop := match dd with
  | .dict ps => goodKey (tKind ps) k ∧ Q (.bool (!(valD ps k).isSome))
  | _ => False
section
variable {X : Cx} {κ1 κ2 κ3 : Kd} {o i f : Expr} {pos apos cpos : Pos} {bo bi bf : BX}
theorem pb_dget (hu : X.A.units + 1 < cLine) (ho : PB X κ1 o bo) (hi : PB X κ2 i bi) (hs : NoSl i) : PB X .e (.Subscript o i pos) (b2 oDGet bo bi) :=
  PE.mono (pe_dget hu ho hi hs) fun σ H R q => two (κ := .e) (r := fun x y H2 Q => ∃ a v, x = .ref a ∧ DGet H2 a y (some v) ∧ Q v H2) (fun G B H x y dx dy Q R g vx vy q k => by
    unfold oDGet at q
    split at q
    · obtain ⟨gk, d, e, q⟩ := q
      obtain ⟨a, rfl, dr⟩ := vx.dict g
      rcases dget_of g dr gk (viewIs vy gk) with ⟨x, d', q1, q2, q3⟩ | ⟨_, q2⟩
      · rw [q2] at e; cases e
        exact ⟨a, x, rfl, q1, k _ _ B H (.refl _ _ _) g q3 q⟩
      · rw [q2] at e; cases e
    · exact q.elim) q
theorem pc_din' (hu : X.A.units + 1 < cLine) (hi : PB X κ1 i bi) (ho : PB X κ2 o bo) : PC X .In i o (T .e (b2 oDIn bi bo)) := ⟨fun pins s σ H Q I q => (pc_din hu hi ho).run pins s σ H Q I (two (κ := .e) (κ1 := κ1) (κ2 := κ2) (r := fun y x H2 Q => ∃ a o, x = .ref a ∧ DGet H2 a y o ∧ Q (.bl o.isSome) H2) (fun G B H y x dy dx Q R g vy vx q k => by
    unfold oDIn at q
    split at q
    · obtain ⟨gk, q⟩ := q
      obtain ⟨a, rfl, dr⟩ := vx.dict g
      rcases dget_of g dr gk (viewIs vy gk) with ⟨x, d', q1, q2, q3⟩ | ⟨q1, q2⟩
      · rw [q2] at q
        exact ⟨a, _, rfl, q1, k _ _ B H (.refl _ _ _) g (.bl _) q⟩
      · rw [q2] at q
        exact ⟨a, _, rfl, q1, k _ _ B H (.refl _ _ _) g (.bl _) q⟩
    · exact q.elim) q)⟩
theorem pc_dnot' (hu : X.A.units + 1 < cLine) (hi : PB X κ1 i bi) (ho : PB X κ2 o bo) : PC X .NotIn i o (T .e (b2 oDNot bi bo)) := ⟨fun pins s σ H Q I q => (pc_dnotin hu hi ho).run pins s σ H Q I (two (κ := .e) (κ1 := κ1) (κ2 := κ2) (r := fun y x H2 Q => ∃ a o, x = .ref a ∧ DGet H2 a y o ∧ Q (.bl (!o.isSome)) H2) (fun G B H y x dy dx Q R g vy vx q k => by
    unfold oDNot at q
    split at q
    · obtain ⟨gk, q⟩ := q
      obtain ⟨a, rfl, dr⟩ := vx.dict g
      rcases dget_of g dr gk (viewIs vy gk) with ⟨x, d', q1, q2, q3⟩ | ⟨q1, q2⟩
      · rw [q2] at q
        exact ⟨a, _, rfl, q1, k _ _ B H (.refl _ _ _) g (.bl _) q⟩
      · rw [q2] at q
        exact ⟨a, _, rfl, q1, k _ _ B H (.refl _ _ _) g (.bl _) q⟩
    · exact q.elim) q)⟩
theorem pb_din (hu : X.A.units + 1 < cLine) (hi : PB X κ1 i bi) (ho : PB X κ2 o bo) (hm : behindInMarks .In o = false := by rfl) : PB X .e (.Compare i [.In] [o] pos) (b2 oDIn bi bo) := pe_cmp (pc_din' hu hi ho) hm
theorem pb_dnot (hu : X.A.units + 1 < cLine) (hi : PB X κ1 i bi) (ho : PB X κ2 o bo) (hm : behindInMarks .NotIn o = false := by rfl) : PB X .e (.Compare i [.NotIn] [o] pos) (b2 oDNot bi bo) := pe_cmp (pc_dnot' hu hi ho) hm
theorem pt_din (hu : X.A.units + 1 < cLine) (hi : PB X κ1 i bi) (ho : PB X κ2 o bo) (hm : behindInMarks .In o = false := by rfl) : PBt X (.Compare i [.In] [o] pos) (tV (b2 oDIn bi bo)) := PT.mono (pt_cmp (pc_din' hu hi ho) hm) fun _ _ _ q => tv_of q
theorem pt_dnot (hu : X.A.units + 1 < cLine) (hi : PB X κ1 i bi) (ho : PB X κ2 o bo) (hm : behindInMarks .NotIn o = false := by rfl) : PBt X (.Compare i [.NotIn] [o] pos) (tV (b2 oDNot bi bo)) := PT.mono (pt_cmp (pc_dnot' hu hi ho) hm) fun _ _ _ q => tv_of q
def bDGet2 (bo bi bf : BX) : BX := fun ρ Q => bo ρ fun dd => (∃ ps, dd = .dict ps) ∧ bi ρ fun k => bf ρ fun z => match dd with
  | .dict ps => goodKey (tKind ps) k ∧ Q ((valD ps k).getD z)
  | _ => False
/-- d.get(k, f), d looked at ahead of the key: it must be a dict from the start -/
theorem pb_dget2 (hu : X.A.units + 1 < cLine) (ho : PB X κ1 o bo) (hi : PB X .e i bi) (hf : PB X .e f bf) (m : M2 X o "get" apos i f cpos) :
    PB X .e (.Call (.Attribute o "get" apos) [i, f] [] cpos) (bDGet2 bo bi bf) :=
  PE.mono (pe_dget2 hu ho hi hf m) fun σ H R ⟨G, B0, H0, ρ, B, Q, r, q, k⟩ =>
    ⟨G, B0, H0, ρ, B, _, r, q, fun v dd B1 H1 y1 g1 o1 ⟨⟨ps, e⟩, q1⟩ => by
      subst e
      obtain ⟨a, rfl, dr⟩ := o1.view.dict g1
      refine ⟨a, rfl, dr.isD, G, B0, H0, ρ, B1, _, r.step y1 g1, q1, fun y dk B2 H2 y2 g2 o2 q2 => ?_⟩
      refine ⟨G, B0, H0, ρ, B2, _, (r.step y1 g1).step y2 g2, q2, fun z dz B3 H3 y3 g3 o3 q3 => ?_⟩
      have v3 := (o1.view.step y2).step y3
      obtain ⟨a', e', dr3⟩ := v3.dict g3
      cases e'
      have ext := ((y1.trans g1 y2).trans g2 y3)
      have q3' : goodKey (tKind ps) dk ∧ Q ((valD ps dk).getD dz) := q3
      obtain ⟨gk, q3'⟩ := q3'
      rcases dget_of g3 dr3 gk (Is.mono y3.b o2) with ⟨x, d', q4, q5, q6⟩ | ⟨q4, q5⟩
      · rw [q5] at q3'
        exact ⟨_, q4, k _ _ B3 H3 ext g3 q6 q3'⟩
      · rw [q5] at q3'
        exact ⟨_, q4, k _ _ B3 H3 ext g3 o3 q3'⟩⟩
/-! a dict of one's own, its kind known -/
def bOwnD (i : Nat) (f : Bool → List (D × D) → (D → Prop) → Prop) : BX := fun ρ Q => match ρ[i]? with
  | some (.dic t ps) => f t ps Q
  | some (.bdic t ps) => f t ps Q
  | _ => False
theorem dic_at {G : Jr} {B0 H0 B H : Hp} {σ : L2.St} {ρ : En} (r : Rep G B0 H0 σ H ρ B) {n : Nat} {f : Bool → List (D × D) → (D → Prop) → Prop} {Q : D → Prop} (q : bOwnD n f ρ Q) :
    ∃ a t ps, σ[n]? = some (some (.ref a)) ∧ ¬ G.J a ∧ DicAt B t (H a) ps ∧ f t ps Q := by
  unfold bOwnD at q
  split at q
  · rename_i t ps h
    obtain ⟨a, e1, h0, hb, l⟩ := r.at_ n _ h
    exact ⟨a, t, ps, join_some e1, r.g0.njf h0, l, q⟩
  · rename_i t ps h
    obtain ⟨a, e1, j, l⟩ := r.at_ n _ h
    refine ⟨a, t, ps, join_some e1, j, ?_, q⟩
    cases t
    · obtain ⟨kvs, e2, il⟩ := l; exact ⟨kvs, r.x.h a _ j e2, il⟩
    · obtain ⟨kvs, e2, il⟩ := l; exact ⟨kvs, r.x.h a _ j e2, il⟩
  · exact q.elim
variable {n : Nat}
/-- d[k] -/
def bGetS (n : Nat) (bi : BX) : BX := fun ρ Q => bOwnD n (fun t ps Q => bi ρ fun k => goodKey t k ∧ ∃ x, valD ps k = some x ∧ Q x) ρ Q
theorem pb_dgetS (hu : X.A.units + 1 < cLine) (ho : PE X o (tVar n)) (hi : PB X .e i bi) (hs : NoSl i) : PB X .e (.Subscript o i pos) (bGetS n bi) :=
  PE.mono (pe_dget hu ho hi hs) fun σ H R ⟨G, B0, H0, ρ, B, Q, r, q, k⟩ => by
    obtain ⟨a, t, ps, s1, j, l, q⟩ := dic_at r q
    refine ⟨_, s1, G, B0, H0, ρ, B, _, r, q, fun y dk B1 H1 y1 g1 o1 ⟨gk, d, e, q1⟩ => ?_⟩
    rcases dget_at g1 (l.step j y1) gk o1 with ⟨x, d', q4, q5, q6⟩ | ⟨q4, q5⟩
    · rw [q5] at e; cases e
      exact ⟨a, x, rfl, q4, k _ _ B1 H1 y1 g1 q6 q1⟩
    · rw [q5] at e; cases e
/-- k in d -/
def bInS (n : Nat) (neg : Bool) (bi : BX) : BX := fun ρ Q => bi ρ fun k => bOwnD n (fun t ps Q => goodKey t k ∧ Q (.bool (neg ^^ (valD ps k).isSome))) ρ Q
theorem pc_dinS (hu : X.A.units + 1 < cLine) (ho : PE X o (tVar n)) (hi : PB X .e i bi) : PC X .In i o (T .e (bInS n false bi)) := ⟨fun pins s σ H R I ⟨G, B0, H0, ρ, B, Q, r, q, k⟩ => (pc_din hu hi ho).run pins s σ H R I
    ⟨G, B0, H0, ρ, B, _, r, q, fun y dk B1 H1 y1 g1 o1 q1 => by
      obtain ⟨a, t, ps, s1, j, l, gk, q1⟩ := dic_at (r.step y1 g1) q1
      rcases dget_at g1 l gk o1 with ⟨x, d', q4, q5, q6⟩ | ⟨q4, q5⟩
      · rw [q5] at q1
        exact ⟨_, s1, a, _, rfl, q4, k _ _ B1 H1 y1 g1 (.bl _) q1⟩
      · rw [q5] at q1
        exact ⟨_, s1, a, _, rfl, q4, k _ _ B1 H1 y1 g1 (.bl _) q1⟩⟩⟩
theorem pc_dnotS (hu : X.A.units + 1 < cLine) (ho : PE X o (tVar n)) (hi : PB X .e i bi) : PC X .NotIn i o (T .e (bInS n true bi)) := ⟨fun pins s σ H R I ⟨G, B0, H0, ρ, B, Q, r, q, k⟩ => (pc_dnotin hu hi ho).run pins s σ H R I
    ⟨G, B0, H0, ρ, B, _, r, q, fun y dk B1 H1 y1 g1 o1 q1 => by
      obtain ⟨a, t, ps, s1, j, l, gk, q1⟩ := dic_at (r.step y1 g1) q1
      rcases dget_at g1 l gk o1 with ⟨x, d', q4, q5, q6⟩ | ⟨q4, q5⟩
      · rw [q5] at q1
        exact ⟨_, s1, a, _, rfl, q4, k _ _ B1 H1 y1 g1 (.bl _) q1⟩
      · rw [q5] at q1
        exact ⟨_, s1, a, _, rfl, q4, k _ _ B1 H1 y1 g1 (.bl _) q1⟩⟩⟩
theorem pb_dinS (hu : X.A.units + 1 < cLine) (ho : PE X o (tVar n)) (hi : PB X .e i bi) (hm : behindInMarks .In o = false := by rfl) : PB X .e (.Compare i [.In] [o] pos) (bInS n false bi) := pe_cmp (pc_dinS hu ho hi) hm
theorem pb_dnotS (hu : X.A.units + 1 < cLine) (ho : PE X o (tVar n)) (hi : PB X .e i bi) (hm : behindInMarks .NotIn o = false := by rfl) : PB X .e (.Compare i [.NotIn] [o] pos) (bInS n true bi) := pe_cmp (pc_dnotS hu ho hi) hm
theorem pt_dinS (hu : X.A.units + 1 < cLine) (ho : PE X o (tVar n)) (hi : PB X .e i bi) (hm : behindInMarks .In o = false := by rfl) : PBt X (.Compare i [.In] [o] pos) (tV (bInS n false bi)) := PT.mono (pt_cmp (pc_dinS hu ho hi) hm) fun _ _ _ q => tv_of q
theorem pt_dnotS (hu : X.A.units + 1 < cLine) (ho : PE X o (tVar n)) (hi : PB X .e i bi) (hm : behindInMarks .NotIn o = false := by rfl) : PBt X (.Compare i [.NotIn] [o] pos) (tV (bInS n true bi)) := PT.mono (pt_cmp (pc_dnotS hu ho hi) hm) fun _ _ _ q => tv_of q
/-- d.get(k, f) -/
def bGet2S (n : Nat) (bi bf : BX) : BX := fun ρ Q => bOwnD n (fun t ps Q => bi ρ fun k => bf ρ fun z => goodKey t k ∧ Q ((valD ps k).getD z)) ρ Q
theorem DicAt.isD {B H : Hp} {a : Addr} {t : Bool} {ps : List (D × D)} (d : DicAt B t (H a) ps) : IsD H a := by
  cases t
  · obtain ⟨kvs, e, _⟩ := d; exact .inl ⟨kvs, .inl e⟩
  · obtain ⟨kvs, e, _⟩ := d; exact .inr ⟨kvs, .inl e⟩
theorem pb_dget2S (hu : X.A.units + 1 < cLine) (ho : PE X o (tVar n)) (hi : PB X .e i bi) (hf : PB X .e f bf) (m : M2 X o "get" apos i f cpos) : PB X .e (.Call (.Attribute o "get" apos) [i, f] [] cpos) (bGet2S n bi bf) :=
  PE.mono (pe_dget2 hu ho hi hf m) fun σ H R ⟨G, B0, H0, ρ, B, Q, r, q, k⟩ => by
    obtain ⟨a, t, ps, s1, j, l, q⟩ := dic_at r q
    refine ⟨_, s1, a, rfl, l.isD, G, B0, H0, ρ, B, _, r, q, fun y dk B1 H1 y1 g1 o1 q1 => ?_⟩
    refine ⟨G, B0, H0, ρ, B1, _, r.step y1 g1, q1, fun z dz B2 H2 y2 g2 o2 ⟨gk, q2⟩ => ?_⟩
    rcases dget_at g2 ((l.step j y1).step j y2) gk (Is.mono y2.b o1) with ⟨x, d', q4, q5, q6⟩ | ⟨q4, q5⟩
    · rw [q5] at q2
      exact ⟨_, q4, k _ _ B2 H2 (y1.trans g1 y2) g2 q6 q2⟩
    · rw [q5] at q2
      exact ⟨_, q4, k _ _ B2 H2 (y1.trans g1 y2) g2 o2 q2⟩
/-- d[k] = v -/
def sDPutB (n : Nat) (bi bv : BX) : BS := fun ρ nx _ => (∃ t ps, ρ[n]? = some (.dic t ps)) ∧ bv ρ fun d => bi ρ fun k => match ρ[n]? with
  | some (.dic t ps) => goodKey t k ∧ ps.length < sizeLine ∧ nx (ρ.set n (.dic t (putD ps k d)))
  | _ => False
theorem ss_dput {κ : Kd} {value : Expr} {pos' : Pos} {bv : BX} (hu : X.A.units + 1 < cLine) (ho : PE X o (tVar n)) (hi : PB X .e i bi) (hv : PB X .e value bv) (hs : swapsWith value (some (.Subscript o i pos')) pos.line X.env = pure false) :
    PSb X κ (.Assign [.Subscript o i pos'] value pos) (sDPutB n bi bv) := PS.mono (ps_dput hu ho hi hv hs) fun Dn σ H ⟨G, B0, H0, ρ, B, nx, rt, r, ⟨⟨t0, ps0, e0⟩, q⟩, k1, k2⟩ => by
  obtain ⟨a, e1, h0, _, _⟩ := r.at_ n _ e0
  have s1 := join_some e1
  refine ⟨G, B0, H0, ρ, B, _, r, q, fun v d B1 H1 y1 g1 iv q1 => ⟨_, s1, G, B0, H0, ρ, B1, _, r.step y1 g1, q1, fun y dk B2 H2 y2 g2 ik q2 => ?_⟩⟩
  split at q2
  · rename_i t ps hd
    obtain ⟨gk, hz, q3⟩ := q2
    have r2 := (r.step y1 g1).step y2 g2
    obtain ⟨a', e2, h0', hb, l⟩ := r2.at_ n _ hd
    rw [e1] at e2
    cases e2
    have iv2 : Is B2 v d := Is.mono y2.b iv
    have wr : ∀ (o : HO), CellOk G B0 H0 B2 (upd H2 a o) (.dic t (putD ps dk d)) (some (.ref a)) → Dn.nx σ (upd H2 a o) := fun o ok =>
      k1 _ _ _ B2 (r2.wr hd rfl rfl s1 h0 hb ok) (y1.b.trans y2.b) q3
    cases t
    · obtain ⟨kvs, e, il⟩ := l
      obtain ⟨key, rfl, rfl⟩ := goodK gk ik
      exact ⟨a, _, rfl, .inl ⟨kvs, key, e, rfl, by rw [il.len]; exact hz, rfl⟩, wr _ ⟨a, rfl, h0, hb, _, upd_same, il.put key iv2⟩⟩
    · obtain ⟨kvs, e, il⟩ := l
      obtain ⟨b, key, rfl, hb', rfl⟩ := goodT gk ik
      exact ⟨a, _, rfl, .inr ⟨kvs, key, b, e, rfl, r2.g.sub _ _ hb', by rw [il.len]; exact hz, rfl⟩, wr _ ⟨a, rfl, h0, hb, _, upd_same, il.put key iv2⟩⟩
  · exact q2.elim
/-- a new empty dict -/
def sNewD (t : Bool) (n : Nat) : BS := fun ρ nx _ => nx (ρ.set n (.dic t []))
theorem ss_newD {κ : Kd} {x : Str} {pos' p2 : Pos} (t : Bool) (hN : X.N.Nodup) (hi : X.N[n]? = some x) (hx : Loc X.env.scope x) (hs : swapsWith (.Dict [] [] p2) (some (.Name x pos')) pos.line X.env = pure false) (hf : X.fn x = true ∨ X.env.scope.names.lookup x = some .local) :
    PSb X κ (.Assign [.Name x pos'] (.Dict [] [] p2) pos) (sNewD t n) := by
  cases t
  · exact PS.mono (ps_set hN hi hx pe_dnewK hs hf) fun Dn σ H ⟨G, B0, H0, ρ, B, nx, rt, r, q, k1, k2⟩ p hp =>
      k1 _ _ _ B (r.setNew (.junk hp) (r.g.junk hp) (c := .dic false []) hp ⟨p, rfl, r.x.back r.g hp, r.g.nb hp, _, upd_same, .nil⟩) (.refl _) q
  · exact PS.mono (ps_set hN hi hx pe_dnewT hs hf) fun Dn σ H ⟨G, B0, H0, ρ, B, nx, rt, r, q, k1, k2⟩ p hp =>
      k1 _ _ _ B (r.setNew (.junk hp) (r.g.junk hp) (c := .dic true []) hp ⟨p, rfl, r.x.back r.g hp, r.g.nb hp, _, upd_same, .nil⟩) (.refl _) q
/-- {k: v, ..} with ints and texts as keys -/
def bPairs (ρ : En) : List (BX × BX) → (List (D × D) → Prop) → Prop
  | [], Q => Q []
  | (k, v) :: r, Q => k ρ fun dk => v ρ fun dv => bPairs ρ r fun ps => Q ((dk, dv) :: ps)
def mergeD (ps more : List (D × D)) : List (D × D) := more.foldl (fun acc kv => putD acc kv.1 kv.2) ps
def bDisp (bs : List (BX × BX)) : BX := fun ρ Q => bPairs ρ bs fun ps => (ps.length ≤ 15 ∧ ∀ p ∈ ps, (kOf p.1).isSome = true) ∧ Q (.dict (mergeD [] ps))
inductive IsP (B : Hp) : List (V × V) → List (D × D) → Prop
  | nil : IsP B [] []
  | cons {v w : V} {vs : List (V × V)} {d e : D} {ds : List (D × D)} : Is B v d → Is B w e → IsP B vs ds → IsP B ((v, w) :: vs) ((d, e) :: ds)
theorem pairs_of (G : Jr) (B0 H0 : Hp) (ρ : En) (σ : L2.St) : ∀ (bs : List (BX × BX)) (B H : Hp) (Q : List (D × D) → Prop) (R : List (V × V) → Hp → Prop), Rep G B0 H0 σ H ρ B → bPairs ρ bs Q →
    (∀ vs ds B' H', Ext G B H B' H' → Gd G B' H' → IsP B' vs ds → Q ds → R vs H') → tPairs (bs.map fun p => (T .e p.1, T .e p.2)) σ H R
  | [], B, H, Q, R, r, q, k => k [] [] B H (.refl _ _ _) r.g .nil q
  | (bk, bv) :: bs, B, H, Q, R, r, q, k =>
    ⟨G, B0, H0, ρ, B, _, r, q, fun x dx B1 H1 y1 g1 o1 q1 => ⟨G, B0, H0, ρ, B1, _, r.step y1 g1, q1, fun z dz B2 H2 y2 g2 o2 q2 =>
      pairs_of G B0 H0 ρ σ bs B2 H2 _ _ ((r.step y1 g1).step y2 g2) q2 fun vs ds B3 H3 y3 g3 p3 q3 =>
        k _ _ B3 H3 ((y1.trans g1 y2).trans g2 y3) g3 (.cons ((Is.mono y2.b o1).mono y3.b) (Is.mono y3.b o2) p3) q3⟩⟩
theorem isP_kvs {B : Hp} : ∀ {vs : List (V × V)} {ds : List (D × D)}, IsP B vs ds → (∀ p ∈ ds, (kOf p.1).isSome = true) → ∃ kvs : List (Key × V), vs = kvs.map (fun kv => (kV kv.1, kv.2)) ∧ kvs.length = ds.length ∧ ∃ ks : List (Key × D), ds = ks.map (fun kd => (kD kd.1, kd.2)) ∧ kvs.map (·.1) = ks.map (·.1) ∧ IsL B (kvs.map (·.2)) (ks.map (·.2))
  | _, _, .nil, _ => ⟨[], rfl, rfl, [], rfl, rfl, .nil⟩
  | _, _, .cons (w := w) (e := e) a b t, h => by
    obtain ⟨key, hk⟩ := Option.isSome_iff_exists.mp (h _ List.mem_cons_self)
    have := kOf_some hk
    simp only at this
    subst this
    obtain ⟨kvs, rfl, hl, ks, rfl, hm, il⟩ := isP_kvs t fun p hp => h p (List.mem_cons_of_mem _ hp)
    refine ⟨(key, w) :: kvs, by rw [is_kD a]; rfl, by simpa using hl, (key, e) :: ks, rfl, by simpa using hm, .cons b il⟩
theorem isKV_merge {B : Hp} : ∀ (kvs : List (Key × V)) (ks : List (Key × D)), kvs.map (·.1) = ks.map (·.1) → IsL B (kvs.map (·.2)) (ks.map (·.2)) → ∀ {acc : List (Key × V)} {ps : List (D × D)}, IsKV B acc ps → IsKV B (mergeK acc kvs) (mergeD ps (ks.map fun kd => (kD kd.1, kd.2)))
  | [], [], _, _, _, _, h => h
  | [], _ :: _, e, _, _, _, _ => by simp at e
  | _ :: _, [], e, _, _, _, _ => by simp at e
  | (k, v) :: kvs, (k', d) :: ks, e, il, acc, ps, h => by
    simp only [List.map_cons, List.cons.injEq] at e il
    obtain ⟨e1, e2⟩ := e
    subst e1
    cases il with
    | cons a t => exact isKV_merge kvs ks e2 t (h.put k a)
theorem pb_disp {keys : List (Option Expr)} {values : List Expr} {bs : List (BX × BX)} (h : PPs X pos keys values (bs.map fun p => (T .e p.1, T .e p.2))) (hall : keys.all (·.isSome) = true) (hl : keys.length = values.length) (h0 : keys ≠ []) (h15 : keys.length ≤ 15) :
    PB X (.d false) (.Dict keys values pos) (bDisp bs) := PE.mono (pe_disp h hall hl h0 h15) fun σ H R ⟨G, B0, H0, ρ, B, Q, r, q, k⟩ p hp => by
  have j := r.g.njf hp
  have r1 := r.step (.junk hp (o := .dK [])) (r.g.junk hp)
  refine pairs_of G B0 H0 ρ σ bs B _ _ _ r1 q fun vs ds B' H' y g ip ⟨⟨hz, hk⟩, q1⟩ => ?_
  obtain ⟨kvs, rfl, hl, ks, rfl, hm, il⟩ := isP_kvs ip hk
  have hpB : B' p = none := y.n p (r.g.nb hp) (by rw [upd_same]; simp)
  refine ⟨y.h p _ j upd_same, kvs, rfl, by rw [hl]; exact hz, ?_⟩
  refine k _ _ B' (upd H' p (.dK (mergeK [] kvs))) ⟨y.b, fun a o nj e => ?_, fun a hb hh => ?_⟩ ⟨fun a o e => ?_, ?_, g.nj⟩ ⟨p, _, rfl, rfl, hp, hpB, j, (fun z => by cases z), _, upd_same, isKV_merge kvs ks hm il .nil⟩ q1
  · have ne : a ≠ p := ne_of_none e hp
    rw [upd_ne ne]
    exact y.h a o nj (by rw [upd_ne ne]; exact e)
  · exact y.n a hb (by
      by_cases e : a = p
      · rw [e]; rw [upd_same]; simp
      · rw [upd_ne e]; exact hh)
  · rw [upd_ne (ne_of_none e hpB)]; exact g.sub a o e
  · exact G.loc H' _ (fun a hj => by rw [upd_ne (fun e => j (show G.J p by rw [← e]; exact hj))]) g.ok
end
end BV

/-! BV, eighth part: contexts, calls of defs. -/
namespace BV
open PySem PySem.Spec L2

/-! ### a def's promise by value -/
inductive Md where
  | val | bor | bdic (t : Bool) | jar
def ArgOk (G : Jr) (B H : Hp) : Md → V → D → Prop
  | .val, v, d => Is B v d
  | .bor, v, d => ∃ a ds, v = .ref a ∧ d = .list ds ∧ ¬ G.J a ∧ LstAt B (H a) ds
  | .bdic t, v, d => ∃ a ps, v = .ref a ∧ d = .dict ps ∧ ¬ G.J a ∧ DicAt B t (H a) ps
  | .jar, v, d => v = G.v ∧ G.on = true ∧ G.key = d
inductive Args (G : Jr) (B H : Hp) : List Md → List V → List D → Prop
  | nil : Args G B H [] [] []
  | cons {m : Md} {v : V} {d : D} {ms : List Md} {vs : List V} {ds : List D} : ArgOk G B H m v d → Args G B H ms vs ds → Args G B H (m :: ms) (v :: vs) (d :: ds)
theorem ArgOk.step {G : Jr} {B H B' H' : Hp} (y : Ext G B H B' H') {m : Md} {v : V} {d : D} (h : ArgOk G B H m v d) : ArgOk G B' H' m v d := by
  cases m with
  | val => exact Is.mono y.b h
  | bor => obtain ⟨a, ds, e1, e2, j, l⟩ := h; exact ⟨a, ds, e1, e2, j, l.step j y⟩
  | bdic t => obtain ⟨a, ds, e1, e2, j, l⟩ := h; exact ⟨a, ds, e1, e2, j, l.step j y⟩
  | jar => exact h
theorem Args.step {G : Jr} {B H B' H' : Hp} (y : Ext G B H B' H') : ∀ {ms : List Md} {vs : List V} {ds : List D}, Args G B H ms vs ds → Args G B' H' ms vs ds
  | _, _, _, .nil => .nil
  | _, _, _, .cons a t => .cons (a.step y) (t.step y)
theorem Args.len {G : Jr} {B H : Hp} : ∀ {ms : List Md} {vs : List V} {ds : List D}, Args G B H ms vs ds → vs.length = ms.length
  | _, _, _, .nil => rfl
  | _, _, _, .cons a t => congrArg Nat.succ t.len
theorem Args.len2 {G : Jr} {B H : Hp} : ∀ {ms : List Md} {vs : List V} {ds : List D}, Args G B H ms vs ds → ds.length = ms.length
  | _, _, _, .nil => rfl
  | _, _, _, .cons a t => congrArg Nat.succ t.len2
abbrev Spe := List D → (D → Prop) → Prop
def toSp (κ : Kd) (ms : List Md) (Φ : Spe) : Sp := fun vs H Q _ => ∃ G B ds Q', Gd G B H ∧ Args G B H ms vs ds ∧ Φ ds Q' ∧ ∀ v d B' H', Ext G B H B' H' → Gd G B' H' → Ok κ G H B' H' v d → Q' d → Q v H'
def cellMd : Md → D → Cell
  | .val, d => .val d
  | .bor, .list ds => .bor ds
  | .bdic t, .dict ps => .bdic t ps
  | .jar, d => .jar d
  | _, _ => .no
def cellsMd : List Md → List D → List Cell
  | m :: ms, d :: ds => cellMd m d :: cellsMd ms ds
  | _, _ => []
def Kd.falls : Kd → Bool
  | .e => true
  | .v => true
  | _ => false
def entry (n : Nat) (ms : List Md) (ds : List D) : En := cellsMd ms ds ++ List.replicate (n - ms.length) .no
theorem cellsMd_len : ∀ {ms : List Md} {ds : List D}, ds.length = ms.length → (cellsMd ms ds).length = ms.length
  | [], [], _ => rfl
  | m :: ms, d :: ds, h => by
    show (cellsMd ms ds).length + 1 = _
    rw [cellsMd_len (by simpa using h)]; rfl
  | [], _ :: _, h => by simp at h
  | _ :: _, [], h => by simp at h
theorem cells_at {G : Jr} {B H : Hp} : ∀ {ms : List Md} {vs : List V} {ds : List D}, Args G B H ms vs ds → ∀ (i : Nat) (c : Cell), (cellsMd ms ds)[i]? = some c → CellOk G B H B H c (vs[i]?) ∧ c.mine = false
  | _, _, _, .nil, i, c, h => by simp [cellsMd] at h
  | _, _, _, .cons (m := m) (d := d) a t, 0, c, h => by
    simp [cellsMd] at h
    subst h
    cases m with
    | val => exact ⟨⟨_, rfl, a⟩, rfl⟩
    | bor => obtain ⟨b, ds, e1, rfl, j, l⟩ := a; subst e1; exact ⟨⟨b, rfl, j, l⟩, rfl⟩
    | bdic t => obtain ⟨b, ds, e1, rfl, j, l⟩ := a; subst e1; exact ⟨⟨b, rfl, j, l⟩, rfl⟩
    | jar => exact ⟨by obtain ⟨e, e2⟩ := a; rw [e]; exact ⟨rfl, e2⟩, rfl⟩
  | _, _, _, .cons a t, i + 1, c, h => by
    have q := cells_at t i c (by simpa [cellsMd] using h)
    simpa using q
theorem rep_start {G : Jr} {B H : Hp} {N : List Str} {ms : List Md} {vs : List V} {ds : List D} (g : Gd G B H) (a : Args G B H ms vs ds) : Rep G B H (L2.start N vs) H (entry N.length ms ds) B := by
  have lv := a.len
  have lc := cellsMd_len a.len2
  have mine : ∀ (i : Nat) (c : Cell), (entry N.length ms ds)[i]? = some c → CellOk G B H B H c ((L2.start N vs)[i]?.join) ∧ c.mine = false := by
    intro i c h
    unfold entry at h
    unfold L2.start
    by_cases hi : i < (cellsMd ms ds).length
    · rw [List.getElem?_append_left hi] at h
      have hv : i < (vs.map some).length := by rw [List.length_map, lv, ← lc]; exact hi
      rw [List.getElem?_append_left hv, List.getElem?_map]
      obtain ⟨q1, q2⟩ := cells_at a i c h
      refine ⟨?_, q2⟩
      have : i < vs.length := by simpa using hv
      rw [List.getElem?_eq_getElem this] at q1 ⊢
      exact q1
    · rw [List.getElem?_append_right (by omega)] at h
      have := List.mem_of_getElem? h
      rw [List.mem_replicate] at this
      rw [this.2]
      exact ⟨trivial, rfl⟩
  refine ⟨g, g, .refl _ _ _, ?_, fun i c h => (mine i c h).1, fun i j c e b _ hc _ m => by rw [(mine i c hc).2] at m; cases m⟩
  unfold entry L2.start
  rw [List.length_append, List.length_append, lc, List.length_replicate, List.length_replicate, List.length_map, lv]

/-! ### contexts -/
structure Cz (X : Cx) (N : List Str) (sc : Scope) (k : Nat) : Prop where
  N : X.N = N
  sc : X.env.scope = sc
  calm : X.calm = true
  room : Room k X.A
  gu : X.A.guards = some []
  po : PassesOwn (model X.prog X.w) X.A X.env X.xe
theorem Cz.hu {X : Cx} {N : List Str} {sc : Scope} {k : Nat} (c : Cz X N sc k) : X.A.units + 1 < cLine := hu_of c.room
/-- the context of a comprehension -/
theorem Cz.blk {X : Cx} {N : List Str} {sc : Scope} {k : Nat} (c : Cz X N sc k) (s : Shared) (H : Hp) (scope : Scope) (C : Addr) (cl : List (Str × Addr)) (fp : List Addr) : Cz (X.blk s H scope (compEnvC scope cl C X.env) fp) N (relS scope sc) k :=
  ⟨c.N, by show relS scope X.env.scope = _; rw [c.sc], c.calm, c.room, c.gu, .never⟩
def visB (sc : Scope) (x : Str) : Bool := match sc.names.lookup x with
  | some .local => true
  | some .cell => true
  | some .free => true
  | _ => false
def locB (sc : Scope) (x : Str) : Bool := match sc.names.lookup x with
  | some .local => true
  | some .cell => true
  | _ => false
theorem vis_of {sc : Scope} {x : Str} (h : visB sc x = true) : Vis sc x := by
  unfold visB at h
  split at h
  · exact .inl (by assumption)
  · exact .inr (.inl (by assumption))
  · exact .inr (.inr (by assumption))
  · cases h
theorem loc_of {sc : Scope} {x : Str} (h : locB sc x = true) : Loc sc x := by
  unfold locB at h
  split at h
  · exact .inl (by assumption)
  · exact .inr (by assumption)
  · cases h
def varB (N : List Str) (sc : Scope) (i : Nat) (x : Str) : Bool := decide (N[i]? = some x) && visB sc x && !(x == ("__debug__" : Str)) && !(x == ("__classdict__" : Str))
def tgtB (N : List Str) (sc : Scope) (i : Nat) (x : Str) : Bool := decide (N[i]? = some x) && locB sc x && decide N.Nodup
section
variable {X : Cx} {N : List Str} {sc : Scope} {k : Nat} {i : Nat} {x : Str} {pos : Pos}
theorem pe_v (c : Cz X N sc k) (i : Nat) (h : varB N sc i x = true) : PE X (.Name x pos) (tVar i) := by
  unfold varB at h
  simp only [Bool.and_eq_true, decide_eq_true_eq, Bool.not_eq_true'] at h
  obtain ⟨⟨⟨h1, h2⟩, h3⟩, h4⟩ := h
  exact pe_var (by rw [c.N]; exact h1) (by rw [c.sc]; exact vis_of h2) h3 h4
theorem pb_var (c : Cz X N sc k) (i : Nat) (h : varB N sc i x = true) : PB X .e (.Name x pos) (bVar i) := pb_var' (pe_v c i h)
theorem pb_see (c : Cz X N sc k) (i : Nat) (h : varB N sc i x = true) : PB X .v (.Name x pos) (bSee i) := pb_see' (pe_v c i h)
theorem Cz.tgt (c : Cz X N sc k) (h : tgtB N sc i x = true) : X.N.Nodup ∧ X.N[i]? = some x ∧ Loc X.env.scope x := by
  unfold tgtB at h
  simp only [Bool.and_eq_true, decide_eq_true_eq] at h
  obtain ⟨⟨h1, h2⟩, h3⟩ := h
  exact ⟨by rw [c.N]; exact h3, by rw [c.N]; exact h1, by rw [c.sc]; exact loc_of h2⟩
theorem pg_v (c : Cz X N sc k) (i : Nat) (h : tgtB N sc i x = true) (hf : X.fn x = true ∨ X.env.scope.names.lookup x = some .local) : PGb X [i] (.Name x pos) (pName i) :=
  let ⟨a, b, d⟩ := c.tgt h
  pg_n (pg_name a b d hf)
/-- a name that is no name of the def -/
theorem Cz.gl (c : Cz X N sc k) (h : sc.names.lookup x = some .globalImplicit) : Gl X x := by
  show X.env.scope.names.lookup x = _
  rw [c.sc]; exact h
end

/-! ### calls -/
abbrev BQ := En → (List D → Prop) → Prop
def Tq (ms : List Md) (b : BQ) : TA := fun σ H R => ∃ G B0 H0 ρ B Q, Rep G B0 H0 σ H ρ B ∧ b ρ Q ∧ ∀ vs ds B' H', Ext G B H B' H' → Gd G B' H' → Args G B' H' ms vs ds → Q ds → R vs H'
abbrev PBq (X : Cx) (ms : List Md) (es : List Expr) (b : BQ) : Prop := PA X es (Tq ms b)
def qNil : BQ := fun _ Q => Q []
def qVal (b : BX) (bs : BQ) : BQ := fun ρ Q => b ρ fun d => bs ρ fun ds => Q (d :: ds)
def isListD (d : D) : Prop := match d with
  | .list _ => True
  | _ => False
def qBor (b : BX) (bs : BQ) : BQ := fun ρ Q => b ρ fun d => isListD d ∧ bs ρ fun ds => Q (d :: ds)
def qDic (t : Bool) (i : Nat) (bs : BQ) : BQ := fun ρ Q => match ρ[i]? with
  | some (.dic u ps) => u = t ∧ bs ρ fun ds => Q (.dict ps :: ds)
  | some (.bdic u ps) => u = t ∧ bs ρ fun ds => Q (.dict ps :: ds)
  | _ => False
def qJar (i : Nat) (bs : BQ) : BQ := fun ρ Q => match ρ[i]? with
  | some (.jar k) => bs ρ fun ds => Q (k :: ds)
  | _ => False
section
variable {X : Cx} {κ : Kd} {e : Expr} {es : List Expr} {ms : List Md} {ba : BX} {bs : BQ} {i : Nat}
theorem pq_nil : PBq X [] [] qNil := PA.mono pa_nil fun σ H R ⟨G, B0, H0, ρ, B, Q, r, q, k⟩ => k [] [] B H (.refl _ _ _) r.g .nil q
theorem pq_val (ha : PB X .e e ba) (hs : PBq X ms es bs) (he : starEach (e :: es) X.env = (false, eval e X.env) :: starEach es X.env := by rfl) : PBq X (.val :: ms) (e :: es) (qVal ba bs) :=
  PA.mono (pa_cons ha hs he) fun σ H R ⟨G, B0, H0, ρ, B, Q, r, q, k⟩ =>
    ⟨G, B0, H0, ρ, B, _, r, q, fun x dx B1 H1 y1 g1 o1 q1 => ⟨G, B0, H0, ρ, B1, _, r.step y1 g1, q1, fun vs ds B2 H2 y2 g2 o2 q2 =>
      k _ _ B2 H2 (y1.trans g1 y2) g2 (.cons (Is.mono y2.b o1) o2) q2⟩⟩
theorem view_bor {G : Jr} {B H : Hp} {v : V} {d : D} (g : Gd G B H) (h : View G B H v d) (l : isListD d) : ArgOk G B H .bor v d := by
  rcases h with h | ⟨a, ds, e1, e2, j, q⟩ | ⟨a, t, ps, e1, e2, _⟩
  · cases h with
    | lst e z il => exact ⟨_, _, rfl, rfl, (fun j => absurd (g.nj _ j) (by rw [e]; simp)), _, g.sub _ _ e, z, il⟩
    | _ => exact l.elim
  · exact ⟨a, ds, e1, e2, j, q⟩
  · rw [e2] at l; exact l.elim
theorem pq_bor (ha : PB X κ e ba) (hs : PBq X ms es bs) (he : starEach (e :: es) X.env = (false, eval e X.env) :: starEach es X.env := by rfl) : PBq X (.bor :: ms) (e :: es) (qBor ba bs) :=
  PA.mono (pa_cons ha hs he) fun σ H R ⟨G, B0, H0, ρ, B, Q, r, q, k⟩ =>
    ⟨G, B0, H0, ρ, B, _, r, q, fun x dx B1 H1 y1 g1 o1 ⟨l, q1⟩ => ⟨G, B0, H0, ρ, B1, _, r.step y1 g1, q1, fun vs ds B2 H2 y2 g2 o2 q2 =>
      k _ _ B2 H2 (y1.trans g1 y2) g2 (.cons ((view_bor g1 o1.view l).step y2) o2) q2⟩⟩
theorem pq_dic {t : Bool} (ha : PE X e (tVar i)) (hs : PBq X ms es bs) (he : starEach (e :: es) X.env = (false, eval e X.env) :: starEach es X.env := by rfl) : PBq X (.bdic t :: ms) (e :: es) (qDic t i bs) :=
  PA.mono (pa_cons ha hs he) fun σ H R ⟨G, B0, H0, ρ, B, Q, r, q, k⟩ => by
    unfold qDic at q
    split at q
    · rename_i u ps h
      obtain ⟨rfl, q⟩ := q
      obtain ⟨a, e1, h0, _, l⟩ := r.at_ i _ h
      exact ⟨_, join_some e1, G, B0, H0, ρ, B, _, r, q, fun vs ds B2 H2 y2 g2 o2 q2 => k _ _ B2 H2 y2 g2 (.cons (ArgOk.step y2 (m := .bdic u) ⟨a, ps, rfl, rfl, r.g0.njf h0, l⟩) o2) q2⟩
    · rename_i u ps h
      obtain ⟨rfl, q⟩ := q
      obtain ⟨a, e1, j, l⟩ := r.at_ i _ h
      have l' : DicAt B u (H a) ps := by
        cases u
        · obtain ⟨kvs, e2, il⟩ := l; exact ⟨kvs, r.x.h a _ j e2, il⟩
        · obtain ⟨kvs, e2, il⟩ := l; exact ⟨kvs, r.x.h a _ j e2, il⟩
      exact ⟨_, join_some e1, G, B0, H0, ρ, B, _, r, q, fun vs ds B2 H2 y2 g2 o2 q2 => k _ _ B2 H2 y2 g2 (.cons (ArgOk.step y2 (m := .bdic u) ⟨a, ps, rfl, rfl, j, l'⟩) o2) q2⟩
    · exact q.elim
theorem pq_jar (ha : PE X e (tVar i)) (hs : PBq X ms es bs) (he : starEach (e :: es) X.env = (false, eval e X.env) :: starEach es X.env := by rfl) : PBq X (.jar :: ms) (e :: es) (qJar i bs) :=
  PA.mono (pa_cons ha hs he) fun σ H R ⟨G, B0, H0, ρ, B, Q, r, q, k⟩ => by
    unfold qJar at q
    split at q
    · rename_i kk h
      obtain ⟨e1, e2⟩ := r.at_ i _ h
      exact ⟨_, join_some e1, G, B0, H0, ρ, B, _, r, q, fun vs ds B2 H2 y2 g2 o2 q2 => k _ _ B2 H2 y2 g2 (.cons ⟨rfl, e2⟩ o2) q2⟩
    · exact q.elim
/-- f(e, ..) -/
def bCall (Φ : Spe) (b : BQ) : BX := fun ρ Q => b ρ fun ds => Φ ds Q
theorem pb_call {x : Str} {p pos : Pos} {ps N : List Str} {sc : Scope} {Φ : Spe} {k k' : Nat} (c : Cz X N sc k) (f : Cal X.prog X.w X.K X.mg X.base CX0 k' x ps (toSp κ ms Φ)) (hk : k' ≤ k) (hg : sc.names.lookup x = some .globalImplicit) (ha : PBq X ms (e :: es) bs)
    (hdb : (x == ("__debug__" : Str)) = false := by decide) (he : starEach (e :: es) X.env = (false, eval e X.env) :: starEach es X.env := by rfl) (hpl : (backTo pos (starEach es X.env)).any (·.1) = false := by rfl) :
    PB X κ (.Call (.Name x p) (e :: es) [] pos) (bCall Φ bs) :=
  PE.mono (pe_callG (f.mono hk) c.room c.gu (c.gl hg) (E := E0) pass0 ha hdb he hpl) fun σ H R ⟨G, B0, H0, ρ, B, Q, r, q, k⟩ =>
    ⟨G, B0, H0, ρ, B, _, r, q, fun vs ds B1 H1 y1 g1 a1 q1 => by
      show toSp κ ms Φ (vs ++ []) H1 R _
      rw [List.append_nil]
      exact ⟨G, B1, ds, Q, g1, a1, q1, fun v d B2 H2 y2 g2 o2 q2 => k v d B2 H2 (y1.trans g1 y2) g2 (o2.back g1 y1) q2⟩⟩
end

/-! ### a def of the text -/
section
variable {P : Program} {w : World} {K : PySem.W.Frag} {mg : Str → Option Value} {base : Heap}
theorem fn_bv {k : Nat} {x qual : Str} {st : Stmt} {f : Addr} {fd : FuncData} {N ps : List Str} {κ : Kd} {ms : List Md} {Φ : Spe} {b : BS} (F : Fun K x qual st f fd) (S : FnScope N ps (defScope st)) (hl : ms.length = ps.length)
    (walk : ∀ X : Cx, X.prog = P → X.w = w → X.K = K → X.mg = mg → X.base = base → (∀ y, X.fn y = true) → X.env.scope.kind = .function → Cz X N (defScope st) k → PSsb X κ (defBody st) b)
    (law : ∀ ds Q, ds.length = ms.length → Φ ds Q → b (entry N.length ms ds) (fun _ => κ.falls = true ∧ Q .none) Q) : FnG P w K mg base CX0 (k + 1) f fd ps (toSp κ ms Φ) := by
  refine fnG_of F S (fun vs H Q E ⟨G, B, ds, Q', g, a, _⟩ => a.len.trans hl) fun cdv A outer s H vs Q E hr hg ⟨G, B, ds, Q', g, a, q, hk⟩ => ?_
  refine ⟨_, (walk (cxOf CX0 P w K mg base N qual (defScope st) f cdv A outer s H E).nox rfl rfl rfl rfl rfl (fun _ => rfl) S.kind ⟨rfl, rfl, rfl, hr, ?_, .never⟩).nox, G, B, H, entry N.length ms ds, B, _, Q', rep_start g a, law ds Q' a.len2 q, ?_, ?_⟩
  · show (A.deeper _).guards = some []
    rw [← hg]
    rfl
  · intro σ' H' ρ' B' r' _ ⟨hf, q'⟩
    have o : Ok κ G H B' H' .non .none := by
      cases κ with
      | e => exact Is.non
      | v => exact .inl .non
      | l => cases hf
      | d t => cases hf
    exact hk .non .none B' H' r'.x r'.g o q'
  · intro v d B' H' g' x' o q'
    exact hk v d B' H' x' g' o q'
theorem cal_of {k : Nat} {x : Str} {f : Addr} {fd : FuncData} {ps : List Str} {sp : Sp} (F : FnG P w K mg base CX0 k f fd ps sp) (hm : mg x = some (.ref f)) (hk : PySem.W.keepIn K (.ref f) = true) (hb : Binds K fd ps []) : Cal P w K mg base CX0 k x ps sp := ⟨⟨f, fd, F, hm, hk, hb⟩⟩
end
end BV

/-! BV, ninth part: operators and built-ins by value. -/
namespace BV
open PySem PySem.Spec L2

theorem OpR.or {X : Cx} {f : Value → Value → Sem Value} {r r' : R2} (h : OpR X f r) (h' : OpR X f r') : OpR X f (fun x y H Q => r x y H Q ∨ r' x y H Q) := by
  intro pins s σ H x y v u Q I rx ry q
  rcases q with q | q
  · exact h pins s σ H x y v u Q I rx ry q
  · exact h' pins s σ H x y v u Q I rx ry q
theorem Op2.l {κ : Kd} {r r' : R2} {o : D → D → (D → Prop) → Prop} (h : Op2 κ r o) : Op2 κ (fun x y H Q => r x y H Q ∨ r' x y H Q) o := fun G B H x y dx dy Q R g vx vy q k => .inl (h G B H x y dx dy Q R g vx vy q k)
theorem Op2.r {κ : Kd} {r r' : R2} {o : D → D → (D → Prop) → Prop} (h : Op2 κ r' o) : Op2 κ (fun x y H Q => r x y H Q ∨ r' x y H Q) o := fun G B H x y dx dy Q R g vx vy q k => .inr (h G B H x y dx dy Q R g vx vy q k)
theorem Op2.or {κ : Kd} {r r' : R2} {o o' : D → D → (D → Prop) → Prop} (h : Op2 κ r o) (h' : Op2 κ r' o') : Op2 κ (fun x y H Q => r x y H Q ∨ r' x y H Q) (fun x y Q => o x y Q ∨ o' x y Q) := fun G B H x y dx dy Q R g vx vy q k => q.elim (fun q => .inl (h G B H x y dx dy Q R g vx vy q k)) fun q => .inr (h' G B H x y dx dy Q R g vx vy q k)
/-- the condition is by value: another way to say it -/
theorem Op2.imp {κ : Kd} {r : R2} {o o' : D → D → (D → Prop) → Prop} (h : Op2 κ r o) (m : ∀ x y Q, o' x y Q → o x y Q) : Op2 κ r o' := fun G B H x y dx dy Q R g vx vy q k => h G B H x y dx dy Q R g vx vy (m _ _ _ q) k
/-- a new list told at once -/
theorem Op2.le {r : R2} {o : D → D → (D → Prop) → Prop} (h : Op2 .l r o) : Op2 .e r o := fun G B H x y dx dy Q R g vx vy q k => h G B H x y dx dy Q R g vx vy q fun v d B' H' y' g' o qd => by
  obtain ⟨a, ds, rfl, rfl, hn, bn, j, xs, e, z, il⟩ := o
  refine k _ _ (upd B' a (.lst xs)) H' ⟨y'.b.trans (same_tell bn), y'.h, fun c hb hh => ?_⟩ (g'.tell e j) (.lst upd_same z (il.mono (same_tell bn))) qd
  rw [upd_ne (fun z => hh (by rw [z]; exact hn))]
  exact y'.n c hb hh

/-! ### ints -/
def oI (C : Int → Int → Prop) (g : Int → Int → D) (x y : D) (Q : D → Prop) : Prop := match x, y with
  | .int i, .int j => C i j ∧ Q (g i j)
  | _, _ => False
def dV : V → D
  | .int i => .int i
  | .bl b => .bool b
  | .str s => .str s
  | _ => .none
theorem op2_I {C : Int → Int → Prop} {g : Int → Int → V} {h : Int → Int → D} (e : ∀ B i j, Is B (g i j) (h i j)) : Op2 .e (rI C g) (oI C h) := fun G B H x y dx dy Q R gd vx vy q k => by
  unfold oI at q
  split at q
  · cases vx.int
    cases vy.int
    exact ⟨_, _, rfl, rfl, q.1, k _ _ B H (.refl _ _ _) gd (e _ _ _) q.2⟩
  · exact q.elim
theorem op2_I0 {g : Int → Int → V} {h : Int → Int → D} (e : ∀ B i j, Is B (g i j) (h i j)) : Op2 .e (rI0 g) (oI (fun _ _ => True) h) := fun G B H x y dx dy Q R gd vx vy q k => by
  unfold oI at q
  split at q
  · cases vx.int
    cases vy.int
    exact ⟨_, _, rfl, rfl, k _ _ B H (.refl _ _ _) gd (e _ _ _) q.2⟩
  · exact q.elim
def oTrue : Int → Int → Prop := fun _ _ => True
theorem o_sub : Op2 .e (rI0 fun i j => .int (i - j)) (oI (fun _ _ => True) fun i j => .int (i - j)) := op2_I0 fun _ _ _ => .int _
theorem o_lt : Op2 .e (rI0 fun i j => .bl (decide (i < j))) (oI (fun _ _ => True) fun i j => .bool (decide (i < j))) := op2_I0 fun _ _ _ => .bl _
theorem o_le : Op2 .e (rI0 fun i j => .bl (decide (i ≤ j))) (oI (fun _ _ => True) fun i j => .bool (decide (i ≤ j))) := op2_I0 fun _ _ _ => .bl _
theorem o_gt : Op2 .e (rI0 fun i j => .bl (decide (j < i))) (oI (fun _ _ => True) fun i j => .bool (decide (j < i))) := op2_I0 fun _ _ _ => .bl _
theorem o_ge : Op2 .e (rI0 fun i j => .bl (decide (j ≤ i))) (oI (fun _ _ => True) fun i j => .bool (decide (j ≤ i))) := op2_I0 fun _ _ _ => .bl _
theorem o_fdiv : Op2 .e (rI CDiv fun i j => .int (i / j)) (oI CDiv fun i j => .int (i / j)) := op2_I fun _ _ _ => .int _
theorem o_mod : Op2 .e (rI (fun _ j => 0 < j) fun i j => .int (i % j)) (oI (fun _ j => 0 < j) fun i j => .int (i % j)) := op2_I fun _ _ _ => .int _
theorem o_pow : Op2 .e (rI CPow fun i j => .int (i ^ j.toNat)) (oI CPow fun i j => .int (i ^ j.toNat)) := op2_I fun _ _ _ => .int _
theorem op_mulA {X : Cx} : OpR X (binaryOp .Mult) (rI IntMulOk fun i j => .int (i * j)) := opI fun _ _ _ _ _ _ _ hc q => PyProof.Rows.mul_int q hc
theorem o_mulX : Op2 .e (rI IntMulOk fun i j => .int (i * j)) (oI IntMulOk fun i j => .int (i * j)) := op2_I fun _ _ _ => .int _
def oNeg (d : D) (Q : D → Prop) : Prop := match d with
  | .int i => Q (.int (-i))
  | _ => False
theorem o_neg : Op1 .e (rU fun i => .int (-i)) oNeg := fun G B H x dx Q R g vx q k => by
  unfold oNeg at q
  split at q
  · cases vx.int
    exact ⟨_, rfl, k _ _ B H (.refl _ _ _) g (.int _) q⟩
  · exact q.elim

/-! ### + -/
def oCatL (x y : D) (Q : D → Prop) : Prop := match x, y with
  | .list xs, .list ys => xs.length + ys.length ≤ sizeLine ∧ Q (.list (xs ++ ys))
  | _, _ => False
def oCatT (x y : D) (Q : D → Prop) : Prop := match x, y with
  | .tuple xs, .tuple ys => (xs ≠ [] ∧ xs.length + ys.length ≤ sizeLine) ∧ Q (.tuple (xs ++ ys))
  | _, _ => False
/-- a new list of those items -/
theorem ok_newL {G : Jr} {B H : Hp} {p : Addr} {xs : List V} {ds : List D} (g : Gd G B H) (hp : H p = none) (z : xs.length ≤ sizeLine) (il : IsL B xs ds) : Ok .l G H B (upd H p (.lst xs)) (.ref p) (.list ds) :=
  ⟨p, ds, rfl, rfl, hp, g.nb hp, g.njf hp, xs, upd_same, z, il⟩
theorem ok_newT {G : Jr} {B H : Hp} {p : Addr} {xs : List V} {ds : List D} (g : Gd G B H) (hp : H p = none) (z : xs.length ≤ sizeLine) (il : IsL B xs ds) : Ok .e G H (upd B p (.tup xs)) (upd H p (.tup xs)) (.ref p) (.tuple ds) :=
  .tup upd_same z (il.mono (Ext.new hp g (o := .tup xs)).b)
theorem o_catL : Op2 .l rCat oCatL := fun G B H x y dx dy Q R g vx vy q k => by
  unfold oCatL at q
  split at q
  · obtain ⟨a, xs, rfl, e1, z1, i1⟩ := vx.list g
    obtain ⟨b, ys, rfl, e2, z2, i2⟩ := vy.list g
    rw [← i1.len, ← i2.len] at q
    exact ⟨a, b, xs, ys, rfl, rfl, e1, e2, q.1, fun p hp => k _ _ B _ (.junk hp) (g.junk hp) (ok_newL g hp (by rw [List.length_append]; exact q.1) (i1.app i2)) q.2⟩
  · exact q.elim
theorem o_catT {K : PySem.W.Frag} : Op2 .e (rCatT K) oCatT := fun G B H x y dx dy Q R g vx vy q k => by
  unfold oCatT at q
  split at q
  · obtain ⟨a, xs, rfl, e1, z1, i1⟩ := vx.tup g
    obtain ⟨b, ys, rfl, e2, z2, i2⟩ := vy.tup g
    obtain ⟨⟨n, z⟩, q⟩ := q
    rw [← i1.len, ← i2.len] at z
    refine ⟨a, b, xs, ys, rfl, rfl, .of e1, .of e2, fun e => ?_, z, fun e => ?_, fun _ p hp => ?_⟩
    · subst e; cases i1; exact n rfl
    · subst e
      cases i2
      rw [List.append_nil] at q
      rcases vx with h | ⟨_, _, _, h, _⟩ | ⟨_, _, _, _, h, _⟩
      · exact k _ _ B H (.refl _ _ _) g h q
      · cases h
      · cases h
    · exact k _ _ _ _ (.new hp g) (g.new hp) (ok_newT g hp (by rw [List.length_append]; exact z) (i1.app i2)) q
  · exact q.elim
/-- ints, tuples, lists (told at once) -/
def oAdd (x y : D) (Q : D → Prop) : Prop := match x, y with
  | .int i, .int j => Q (.int (i + j))
  | .list xs, .list ys => xs.length + ys.length ≤ sizeLine ∧ Q (.list (xs ++ ys))
  | .tuple xs, .tuple ys => (xs ≠ [] ∧ xs.length + ys.length ≤ sizeLine) ∧ Q (.tuple (xs ++ ys))
  | _, _ => False
theorem op_addU {X : Cx} : OpR X (binaryOp .Add) (fun x y H Q => (rI0 (fun i j => .int (i + j)) x y H Q ∨ rCat x y H Q) ∨ rCatT X.K x y H Q) := (op_add.or op_cat).or op_catT
theorem o_add {K : PySem.W.Frag} : Op2 .e (fun x y H Q => (rI0 (fun i j => .int (i + j)) x y H Q ∨ rCat x y H Q) ∨ rCatT K x y H Q) oAdd :=
  (((op2_I0 (h := fun i j => .int (i + j)) fun _ _ _ => .int _).or o_catL.le).or o_catT).imp fun x y Q q => by
    unfold oAdd at q
    split at q
    · exact .inl (.inl ⟨trivial, q⟩)
    · exact .inl (.inr q)
    · exact .inr q
    · exact q.elim

/-! ### * -/
def oRepL (x y : D) (Q : D → Prop) : Prop := match x, y with
  | .list xs, .int k => (-(2 ^ 63) ≤ k ∧ k < 2 ^ 63 ∧ xs.length * k.toNat ≤ sizeLine) ∧ Q (.list (List.replicate k.toNat xs).flatten)
  | _, _ => False
theorem o_repL : Op2 .l rRep oRepL := fun G B H x y dx dy Q R g vx vy q k => by
  unfold oRepL at q
  split at q
  · obtain ⟨a, xs, rfl, e1, z1, i1⟩ := vx.list g
    cases vy.int
    obtain ⟨⟨h1, h2, h3⟩, q⟩ := q
    rw [← i1.len] at h3
    refine ⟨a, _, xs, rfl, rfl, e1, h1, h2, h3, fun p hp => k _ _ B _ (.junk hp) (g.junk hp) (ok_newL g hp ?_ (i1.rep _)) q⟩
    rw [List.length_flatten, List.map_replicate, List.sum_replicate_nat]
    rw [Nat.mul_comm]; exact h3
  · exact q.elim
def oMul (x y : D) (Q : D → Prop) : Prop := match x, y with
  | .int i, .int j => IntMulOk i j ∧ Q (.int (i * j))
  | .list xs, .int k => (-(2 ^ 63) ≤ k ∧ k < 2 ^ 63 ∧ xs.length * k.toNat ≤ sizeLine) ∧ Q (.list (List.replicate k.toNat xs).flatten)
  | _, _ => False
theorem op_mulU {X : Cx} : OpR X (binaryOp .Mult) (fun x y H Q => rI IntMulOk (fun i j => .int (i * j)) x y H Q ∨ rRep x y H Q) := op_mulA.or op_rep
theorem o_mul : Op2 .e (fun x y H Q => rI IntMulOk (fun i j => .int (i * j)) x y H Q ∨ rRep x y H Q) oMul :=
  (o_mulX.or o_repL.le).imp fun x y Q q => by
    unfold oMul at q
    split at q
    · exact .inl q
    · exact .inr q
    · exact q.elim

/-! ### ==, != -/
def eqOk (x y : D) : Prop := flatD x = true ∧ flatD y = true ∧ SeqAt.shaped x = true ∧ SeqAt.shaped y = true
def oEqS (x y : D) (Q : D → Prop) : Prop := match x, y with
  | .int i, .int j => Q (.bool (decide (i = j)))
  | .str i, .str j => Q (.bool (decide (i = j)))
  | .bool i, .bool j => Q (.bool (decide (i = j)))
  | _, _ => False
def oEq (x y : D) (Q : D → Prop) : Prop := eqOk x y ∧ Q (.bool (PyData.eqv x y))
def oNe (x y : D) (Q : D → Prop) : Prop := eqOk x y ∧ Q (.bool (!PyData.eqv x y))
theorem o_eq {K : PySem.W.Frag} : Op2 .e (rEqD K) oEq := fun G B H x y dx dy Q R g vx vy ⟨⟨f1, f2, s1, s2⟩, q⟩ k =>
  ⟨dx, dy, vx.dp g f1, vy.dp g f2, s1, s2, k _ _ B H (.refl _ _ _) g (.bl _) q⟩
theorem o_ne {K : PySem.W.Frag} : Op2 .e (rNeD K) oNe := fun G B H x y dx dy Q R g vx vy ⟨⟨f1, f2, s1, s2⟩, q⟩ k =>
  ⟨dx, dy, vx.dp g f1, vy.dp g f2, s1, s2, k _ _ B H (.refl _ _ _) g (.bl _) q⟩
def oIn (x y : D) (Q : D → Prop) : Prop := match y with
  | .list ds => eqOk x (.list ds) ∧ Q (.bool (ds.any fun z => PyData.eqv z x))
  | _ => False
def oNotIn (x y : D) (Q : D → Prop) : Prop := match y with
  | .list ds => eqOk x (.list ds) ∧ Q (.bool (!ds.any fun z => PyData.eqv z x))
  | _ => False
theorem o_in {K : PySem.W.Frag} : Op2 .e (rInD K) oIn := fun G B H x y dx dy Q R g vx vy q k => by
  unfold oIn at q
  split at q
  · obtain ⟨⟨f1, f2, s1, s2⟩, q⟩ := q
    exact ⟨dx, _, vx.dp g f1, vy.dp g f2, s1, s2, k _ _ B H (.refl _ _ _) g (.bl _) q⟩
  · exact q.elim
theorem o_notIn {K : PySem.W.Frag} : Op2 .e (rNotInD K) oNotIn := fun G B H x y dx dy Q R g vx vy q k => by
  unfold oNotIn at q
  split at q
  · obtain ⟨⟨f1, f2, s1, s2⟩, q⟩ := q
    exact ⟨dx, _, vx.dp g f1, vy.dp g f2, s1, s2, k _ _ B H (.refl _ _ _) g (.bl _) q⟩
  · exact q.elim

/-! ### subscripts -/
def oIx (x y : D) (Q : D → Prop) : Prop := match x, y with
  | .list ds, .int i => ∃ d, atI ds i = some d ∧ Q d
  | .tuple ds, .int i => ∃ d, atI ds i = some d ∧ Q d
  | _, _ => False
theorem isL_atI {B : Hp} {xs : List V} {ds : List D} {i : Int} {d : D} (il : IsL B xs ds) (h : atI ds i = some d) : ∃ v, atI xs i = some v ∧ Is B v d := by
  unfold atI at h ⊢
  rw [il.len]
  cases e : ixN ds.length i with
  | none => rw [e] at h; cases h
  | some j =>
    rw [e] at h
    obtain ⟨v, q1, q2⟩ := il.get' (i := j) h
    exact ⟨v, q1, q2⟩
theorem ix_U {X : Cx} : IxR X (fun x y H Q => rIxL X.K x y H Q ∨ rIxT X.K x y H Q) := ix_list.or ix_tup
theorem o_ix {K : PySem.W.Frag} : Op2 .e (fun x y H Q => rIxL K x y H Q ∨ rIxT K x y H Q) oIx := fun G B H x y dx dy Q R g vx vy q k => by
  unfold oIx at q
  split at q
  · obtain ⟨d, e, q⟩ := q
    obtain ⟨a, xs, rfl, e1, z1, i1⟩ := vx.list g
    cases vy.int
    obtain ⟨v, q1, q2⟩ := isL_atI i1 e
    exact .inl ⟨a, xs, _, v, rfl, rfl, .of e1, q1, k _ _ B H (.refl _ _ _) g q2 q⟩
  · obtain ⟨d, e, q⟩ := q
    obtain ⟨a, xs, rfl, e1, z1, i1⟩ := vx.tup g
    cases vy.int
    obtain ⟨v, q1, q2⟩ := isL_atI i1 e
    exact .inr ⟨a, xs, _, v, rfl, rfl, .of e1, q1, k _ _ B H (.refl _ _ _) g q2 q⟩
  · exact q.elim
section
variable {X : Cx} {κ κ1 κ2 : Kd} {a b e : Expr} {pos p2 : Pos} {ba bb : BX} {lo hi : Option Expr}
theorem pb_ix (ha : PB X κ1 a ba) (hb : PB X κ2 b bb) (hs : PlainIx b) : PB X .e (.Subscript a b pos) (b2 oIx ba bb) :=
  PE.mono (pe_ix ix_U ha hb hs) fun _ _ _ q => two o_ix q
/-! slices -/
def cutD (ds : List D) (lo hi : Option Int) : List D := (ds.drop (HT.sIx ds.length 0 lo)).take (HT.sIx ds.length ds.length hi - HT.sIx ds.length 0 lo)
theorem isL_cut {B : Hp} {xs : List V} {ds : List D} (il : IsL B xs ds) (lo hi : Option Int) : IsL B (cutV xs lo hi) (cutD ds lo hi) := by
  unfold cutV cutD
  rw [il.len]
  exact (il.drop _).take _
abbrev BO := En → (Option Int → Prop) → Prop
def Tow (b : BO) : TO := fun σ H R => ∃ G B0 H0 ρ B Q, Rep G B0 H0 σ H ρ B ∧ b ρ Q ∧ ∀ o B' H', Ext G B H B' H' → Gd G B' H' → Q o → R o H'
abbrev PBo (X : Cx) (e : Option Expr) (b : BO) : Prop := PO X e (Tow b)
def wNo : BO := fun _ Q => Q none
def wAt (b : BX) : BO := fun ρ Q => b ρ fun d => match d with
  | .int i => Q (some i)
  | _ => False
theorem PO.mono {e : Option Expr} {t t' : TO} (h : PO X e t) (m : ∀ σ H R, t' σ H R → t σ H R) : PO X e t' := ⟨fun pins s σ H Q I q => h.run pins s σ H Q I (m σ H Q q)⟩
theorem bo_no : PBo X none wNo := PO.mono po_none fun σ H R ⟨G, B0, H0, ρ, B, Q, r, q, k⟩ => k none B H (.refl _ _ _) r.g q
theorem bo_at (h : PB X κ e ba) : PBo X (some e) (wAt ba) := PO.mono (po_some h) fun σ H R ⟨G, B0, H0, ρ, B, Q, r, q, k⟩ =>
  ⟨G, B0, H0, ρ, B, _, r, q, fun v d B1 H1 y g o q1 => by
    split at q1
    · exact ⟨_, o.view.int, k _ B1 H1 y g q1⟩
    · exact q1.elim⟩
def bSlL (bs : BX) (bl bh : BO) : BX := fun ρ Q => bs ρ fun d => bl ρ fun l => bh ρ fun h => match d with
  | .list ds => Q (.list (cutD ds l h))
  | _ => False
def bSlT (bs : BX) (bl bh : BO) : BX := fun ρ Q => bs ρ fun d => bl ρ fun l => bh ρ fun h => match d with
  | .tuple ds => ¬ (HT.sIx ds.length 0 l = 0 ∧ HT.sIx ds.length ds.length h = ds.length) ∧ Q (.tuple (cutD ds l h))
  | _ => False
theorem pb_slL {bl bh : BO} (he : PB X κ1 e ba) (hl : PBo X lo bl) (hu : PBo X hi bh) : PB X .l (.Subscript e (.Slice lo hi none p2) pos) (bSlL ba bl bh) :=
  PE.mono (pe_slice sl_list he hl hu) fun σ H R ⟨G, B0, H0, ρ, B, Q, r, q, k⟩ =>
    ⟨G, B0, H0, ρ, B, _, r, q, fun v d B1 H1 y1 g1 o1 q1 => ⟨G, B0, H0, ρ, B1, _, r.step y1 g1, q1, fun l B2 H2 y2 g2 q2 => ⟨G, B0, H0, ρ, B2, _, (r.step y1 g1).step y2 g2, q2, fun h B3 H3 y3 g3 q3 => by
      have v3 := (o1.view.step y2).step y3
      split at q3
      · obtain ⟨a, xs, rfl, e1, z1, i1⟩ := v3.list g3
        have ext := (y1.trans g1 y2).trans g2 y3
        refine ⟨a, xs, rfl, .of e1, fun p hp => k _ _ B3 _ (ext.trans g3 (.junk hp)) (g3.junk hp) ?_ q3⟩
        exact (ok_newL g3 hp (Nat.le_trans (cutV_length xs l h) z1) (isL_cut i1 l h)).back g3 ext
      · exact q3.elim⟩⟩⟩
theorem pb_slT {bl bh : BO} (he : PB X κ1 e ba) (hl : PBo X lo bl) (hu : PBo X hi bh) : PB X .e (.Subscript e (.Slice lo hi none p2) pos) (bSlT ba bl bh) :=
  PE.mono (pe_slice sl_tup he hl hu) fun σ H R ⟨G, B0, H0, ρ, B, Q, r, q, k⟩ =>
    ⟨G, B0, H0, ρ, B, _, r, q, fun v d B1 H1 y1 g1 o1 q1 => ⟨G, B0, H0, ρ, B1, _, r.step y1 g1, q1, fun l B2 H2 y2 g2 q2 => ⟨G, B0, H0, ρ, B2, _, (r.step y1 g1).step y2 g2, q2, fun h B3 H3 y3 g3 q3 => by
      have v3 := (o1.view.step y2).step y3
      split at q3
      · obtain ⟨a, xs, rfl, e1, z1, i1⟩ := v3.tup g3
        have ext := (y1.trans g1 y2).trans g2 y3
        rw [← i1.len] at q3
        refine ⟨a, xs, rfl, .of e1, q3.1, fun p hp => k _ _ _ _ (ext.trans g3 (.new hp g3)) (g3.new hp) ?_ q3.2⟩
        exact ok_newT g3 hp (Nat.le_trans (cutV_length xs l h) z1) (isL_cut i1 l h)
      · exact q3.elim⟩⟩⟩
/-! is None -/
def bIsN (b : BX) : BX := fun ρ Q => b ρ fun d => Q (.bool (isNoneD d))
def bNotN (b : BX) : BX := fun ρ Q => b ρ fun d => Q (.bool (!isNoneD d))
end
end BV

/-! BV, tenth part: more operators and built-ins by value. -/
namespace BV
open PySem PySem.Spec L2

section
variable {X : Cx} {κ κ1 κ2 κ3 : Kd} {a b c e : Expr} {es : List Expr} {pos p p2 p3 : Pos} {ba bb bc : BX} {bs : BXs}
/-! ### is None -/
theorem isn_of {G : Jr} {B H : Hp} {v : V} {d : D} (h : View G B H v d) : (V.bl (decide (v = .non))) = .bl (isNoneD d) := by rw [h.isNone]
theorem pb_isN {j pos'} (ha : PB X κ1 a ba) : PB X .e (.Compare a [.Is] [.Constant .none j pos'] pos) (bIsN ba) :=
  PE.mono (pe_cmp (pc_isN ha)) fun σ H R ⟨G, B0, H0, ρ, B, Q, r, q, k⟩ => ⟨G, B0, H0, ρ, B, _, r, q, fun v d B1 H1 y g o q1 => by
    have e := o.view.isNone
    show R (V.bl (decide (v = V.non))) H1
    rw [e]; exact k _ _ B1 H1 y g (.bl _) q1⟩
theorem pb_notN {j pos'} (ha : PB X κ1 a ba) : PB X .e (.Compare a [.IsNot] [.Constant .none j pos'] pos) (bNotN ba) :=
  PE.mono (pe_cmp (pc_notN ha)) fun σ H R ⟨G, B0, H0, ρ, B, Q, r, q, k⟩ => ⟨G, B0, H0, ρ, B, _, r, q, fun v d B1 H1 y g o q1 => by
    have e := o.view.isNone
    show R (V.bl (!decide (v = V.non))) H1
    rw [e]; exact k _ _ B1 H1 y g (.bl _) q1⟩
theorem pt_isN {j pos'} (ha : PB X κ1 a ba) : PBt X (.Compare a [.Is] [.Constant .none j pos'] pos) (tV (bIsN ba)) :=
  PT.mono (pt_cmp (pc_isN ha)) fun σ H R q => by
    obtain ⟨G, B0, H0, ρ, B, Q, r, q, k⟩ := q
    exact ⟨G, B0, H0, ρ, B, _, r, q, fun v d B1 H1 y g o q1 => ⟨_, rfl, by rw [o.view.isNone]; exact k _ B1 H1 y g q1⟩⟩
theorem pt_notN {j pos'} (ha : PB X κ1 a ba) : PBt X (.Compare a [.IsNot] [.Constant .none j pos'] pos) (tV (bNotN ba)) :=
  PT.mono (pt_cmp (pc_notN ha)) fun σ H R q => by
    obtain ⟨G, B0, H0, ρ, B, Q, r, q, k⟩ := q
    exact ⟨G, B0, H0, ρ, B, _, r, q, fun v d B1 H1 y g o q1 => ⟨_, rfl, by rw [o.view.isNone]; exact k _ B1 H1 y g q1⟩⟩

/-! ### in a list or a tuple -/
def rInT (K : PySem.W.Frag) (neg : Bool) : R2 := fun x y H Q => ∃ d ds, Dp K H x d ∧ Dp K H y (.tuple ds) ∧ SeqAt.shaped d = true ∧ SeqAt.shaped (.tuple ds) = true ∧ Q (.bl (neg ^^ ds.any fun z => PyData.eqv z d)) H
theorem op_inT (hu : X.A.units + 65 < cLine) : OpR X (compareOp .In) (rInT X.K false) := by
  intro pins s σ H x y v u Q I rx ry h
  obtain ⟨d, ds, hd, he, sd, se, q⟩ := h
  obtain ⟨as, r1⟩ := Dp.reads I d x v hd rx
  obtain ⟨bs, r2⟩ := Dp.reads I (.tuple ds) y u he ry
  rw [Bool.false_xor] at q
  exact SeqAt.in_tuple_reads r2 r1 (SeqAt.canLay_of_shaped se) (SeqAt.canLay_of_shaped sd) (PyProof.Rows.room_in_shaped sd hu) ⟨.bl _, H, I, rfl, q⟩
theorem op_notInT (hu : X.A.units + 65 < cLine) : OpR X (compareOp .NotIn) (rInT X.K true) := by
  intro pins s σ H x y v u Q I rx ry h
  obtain ⟨d, ds, hd, he, sd, se, q⟩ := h
  obtain ⟨as, r1⟩ := Dp.reads I d x v hd rx
  obtain ⟨bs, r2⟩ := Dp.reads I (.tuple ds) y u he ry
  rw [Bool.true_xor] at q
  exact SeqAt.notIn_tuple_reads r2 r1 (SeqAt.canLay_of_shaped se) (SeqAt.canLay_of_shaped sd) (PyProof.Rows.room_in_shaped sd hu) ⟨.bl _, H, I, rfl, q⟩
def oInU (x y : D) (Q : D → Prop) : Prop := eqOk x y ∧ match y with
  | .list ds => Q (.bool (ds.any fun z => PyData.eqv z x))
  | .tuple ds => Q (.bool (ds.any fun z => PyData.eqv z x))
  | _ => False
def oNotInU (x y : D) (Q : D → Prop) : Prop := eqOk x y ∧ match y with
  | .list ds => Q (.bool (!ds.any fun z => PyData.eqv z x))
  | .tuple ds => Q (.bool (!ds.any fun z => PyData.eqv z x))
  | _ => False
theorem op_inU (hu : X.A.units + 65 < cLine) : OpR X (compareOp .In) (fun x y H Q => rInD X.K x y H Q ∨ rInT X.K false x y H Q) := (op_inD hu).or (op_inT hu)
theorem op_notInU (hu : X.A.units + 65 < cLine) : OpR X (compareOp .NotIn) (fun x y H Q => rNotInD X.K x y H Q ∨ rInT X.K true x y H Q) := (op_notInD hu).or (op_notInT hu)
theorem o_inU {K : PySem.W.Frag} : Op2 .e (fun x y H Q => rInD K x y H Q ∨ rInT K false x y H Q) oInU := fun G B H x y dx dy Q R g vx vy q k => by
  obtain ⟨⟨f1, f2, s1, s2⟩, q⟩ := q
  split at q
  · exact .inl ⟨dx, _, vx.dp g f1, vy.dp g f2, s1, s2, k _ _ B H (.refl _ _ _) g (.bl _) q⟩
  · exact .inr ⟨dx, _, vx.dp g f1, vy.dp g f2, s1, s2, by rw [Bool.false_xor]; exact k _ _ B H (.refl _ _ _) g (.bl _) q⟩
  · exact q.elim
theorem o_notInU {K : PySem.W.Frag} : Op2 .e (fun x y H Q => rNotInD K x y H Q ∨ rInT K true x y H Q) oNotInU := fun G B H x y dx dy Q R g vx vy q k => by
  obtain ⟨⟨f1, f2, s1, s2⟩, q⟩ := q
  split at q
  · exact .inl ⟨dx, _, vx.dp g f1, vy.dp g f2, s1, s2, k _ _ B H (.refl _ _ _) g (.bl _) q⟩
  · exact .inr ⟨dx, _, vx.dp g f1, vy.dp g f2, s1, s2, by rw [Bool.true_xor]; exact k _ _ B H (.refl _ _ _) g (.bl _) q⟩
  · exact q.elim

/-! ### a op b op c -/
def bChain (o o' : D → D → (D → Prop) → Prop) (ba bb bc : BX) : BX := fun ρ Q => ba ρ fun x => bb ρ fun y => o x y fun z => oB z fun k => if k = true then bc ρ fun w => o' y w Q else Q (.bool false)
theorem chain_of {r r' : R2} {o o' : D → D → (D → Prop) → Prop} (h : Op2 .e r o) (h' : Op2 .e r' o') {σ : L2.St} {H : Hp} {R : VK} (q : T .e (bChain o o' ba bb bc) σ H R) : tChain r r' (T κ1 ba) (T κ2 bb) (T κ3 bc) σ H R := by
  obtain ⟨G, B0, H0, ρ, B, Q, r1, q, k⟩ := q
  refine ⟨G, B0, H0, ρ, B, _, r1, q, fun x dx B1 H1 y1 g1 o1 q1 => ⟨G, B0, H0, ρ, B1, _, r1.step y1 g1, q1, fun y dy B2 H2 y2 g2 o2 q2 => ?_⟩⟩
  refine h G B2 H2 x y dx dy _ _ g2 (o1.view.step y2) o2.view q2 fun z dz B3 H3 y3 g3 o3 q3 => ?_
  unfold oB at q3
  split at q3
  · rename_i kk
    refine ⟨kk, (show View G B3 H3 z (.bool kk) from .inl o3).bl, ?_⟩
    have ext := (y1.trans g1 y2).trans g2 y3
    cases kk with
    | true =>
      rw [if_pos rfl] at q3 ⊢
      refine ⟨G, B0, H0, ρ, B3, _, ((r1.step y1 g1).step y2 g2).step y3 g3, q3, fun w dw B4 H4 y4 g4 o4 q4 => ?_⟩
      exact h' G B4 H4 y w dy dw Q R g4 ((o2.view.step y3).step y4) o4.view q4 fun v d B5 H5 y5 g5 o5 q5 => k v d B5 H5 ((ext.trans g3 y4).trans g4 y5) g5 o5 q5
    | false =>
      rw [if_neg Bool.false_ne_true] at q3 ⊢
      exact k _ _ B3 H3 ext g3 (.bl false) q3
  · exact q3.elim
theorem pb_chain {op op' : CmpOp} {r r' : R2} {o o' : D → D → (D → Prop) → Prop} (ho : OpR X (compareOp op) r) (ho' : OpR X (compareOp op') r') (h : Op2 .e r o) (h' : Op2 .e r' o') (ha : PB X κ1 a ba) (hb : PB X κ2 b bb) (hc : PB X κ3 c bc)
    (hm : lastMarks [op, op'] [b, c] = false := by with_unfolding_all rfl) : PB X .e (.Compare a [op, op'] [b, c] pos) (bChain o o' ba bb bc) := PE.mono (pe_chain ho ho' ha hb hc hm) fun _ _ _ q => chain_of h h' q
theorem pt_chainB {op op' : CmpOp} {r r' : R2} {o o' : D → D → (D → Prop) → Prop} (ho : OpR X (compareOp op) r) (ho' : OpR X (compareOp op') r') (h : Op2 .e r o) (h' : Op2 .e r' o') (ha : PB X κ1 a ba) (hb : PB X κ2 b bb) (hc : PB X κ3 c bc)
    (hm : lastMarks [op, op'] [b, c] = false := by with_unfolding_all rfl) : PBt X (.Compare a [op, op'] [b, c] pos) (tV (bChain o o' ba bb bc)) := PT.mono (pt_chain ho ho' ha hb hc hm) fun _ _ _ q => chain_of h h' (tv_of q)

/-! ### len, list, tuple, sum, min, max, abs, int, sorted -/
def oLen (ds : List D) (Q : D → Prop) : Prop := match ds with
  | [.list xs] => Q (.int xs.length)
  | [.tuple xs] => Q (.int xs.length)
  | [.str s] => s.length ≤ sizeLine ∧ Q (.int s.length)
  | _ => False
theorem o_len {K : PySem.W.Frag} : OpN .e (fun xs H Q => ∃ x n, xs = [x] ∧ LenV K x H n ∧ Q (.int n) H) oLen := fun G B H xs ds Q R g vs q k => by
  unfold oLen at q
  split at q
  · obtain ⟨v, rfl, h⟩ := views1 vs
    obtain ⟨a, ys, rfl, e, z, il⟩ := h.list g
    rw [← il.len] at q
    exact ⟨_, _, rfl, .inl ⟨ys, .of e, rfl⟩, k _ _ B H (.refl _ _ _) g (.int _) q⟩
  · obtain ⟨v, rfl, h⟩ := views1 vs
    obtain ⟨a, ys, rfl, e, z, il⟩ := h.tup g
    rw [← il.len] at q
    exact ⟨_, _, rfl, .inr ⟨ys, .of e, rfl⟩, k _ _ B H (.refl _ _ _) g (.int _) q⟩
  · obtain ⟨v, rfl, h⟩ := views1 vs
    cases h.str
    exact ⟨_, _, rfl, ⟨q.1, rfl⟩, k _ _ B H (.refl _ _ _) g (.int _) q.2⟩
  · exact q.elim
def oListOf (ds : List D) (Q : D → Prop) : Prop := match ds with
  | [.list xs] => Q (.list xs)
  | [.tuple xs] => Q (.list xs)
  | _ => False
theorem o_list {K : PySem.W.Frag} : OpN .l (fun xs H Q => ∃ p ys, xs = [.ref p] ∧ (SqL K H p ys ∨ SqT K H p ys) ∧ ∀ l, H l = none → Q (.ref l) (upd H l (.lst ys))) oListOf := fun G B H xs ds Q R g vs q k => by
  unfold oListOf at q
  split at q
  · obtain ⟨v, rfl, h⟩ := views1 vs
    obtain ⟨a, ys, rfl, e, z, il⟩ := h.list g
    exact ⟨a, ys, rfl, .inl (.of e), fun p hp => k _ _ B _ (.junk hp) (g.junk hp) (ok_newL g hp z il) q⟩
  · obtain ⟨v, rfl, h⟩ := views1 vs
    obtain ⟨a, ys, rfl, e, z, il⟩ := h.tup g
    exact ⟨a, ys, rfl, .inr (.of e), fun p hp => k _ _ B _ (.junk hp) (g.junk hp) (ok_newL g hp z il) q⟩
  · exact q.elim
def oTupOf (ds : List D) (Q : D → Prop) : Prop := match ds with
  | [.list xs] => Q (.tuple xs)
  | [.tuple xs] => Q (.tuple xs)
  | _ => False
theorem o_tup {K : PySem.W.Frag} : OpN .e (fun xs H Q => ∃ p ys, xs = [.ref p] ∧ ((SqL K H p ys ∧ ∀ l, H l = none → Q (.ref l) (upd H l (.tup ys))) ∨ (SqT K H p ys ∧ Q (.ref p) H))) oTupOf := fun G B H xs ds Q R g vs q k => by
  unfold oTupOf at q
  split at q
  · obtain ⟨v, rfl, h⟩ := views1 vs
    obtain ⟨a, ys, rfl, e, z, il⟩ := h.list g
    exact ⟨a, ys, rfl, .inl ⟨.of e, fun p hp => k _ _ _ _ (.new hp g) (g.new hp) (ok_newT g hp z il) q⟩⟩
  · obtain ⟨v, rfl, h⟩ := views1 vs
    have h' := h
    obtain ⟨a, ys, rfl, e, z, il⟩ := h'.tup g
    rcases h with h | ⟨_, _, _, h, _⟩ | ⟨_, _, _, _, h, _⟩
    · exact ⟨a, ys, rfl, .inr ⟨.of e, k _ _ B H (.refl _ _ _) g h q⟩⟩
    · cases h
    · cases h
  · exact q.elim
/-- the ints of a list -/
def oInts (ds : List D) (P : List Int → Prop) : Prop := match ds with
  | [.list xs] => ∃ ns : List Int, xs = ns.map PyData.int ∧ P ns
  | _ => False
theorem ints_of {K : PySem.W.Frag} {G : Jr} {B H : Hp} {vs : List V} {ds : List D} {P : List Int → Prop} (g : Gd G B H) (v : Views G B H vs ds) (q : oInts ds P) : ∃ a ns, vs = [.ref a] ∧ SqL K H a (ns.map V.int) ∧ ns.length ≤ sizeLine ∧ P ns := by
  unfold oInts at q
  split at q
  · obtain ⟨ns, rfl, p⟩ := q
    obtain ⟨v, rfl, h⟩ := views1 v
    obtain ⟨a, ys, rfl, e, z, il⟩ := h.list g
    rw [il.ints] at e z
    exact ⟨a, ns, rfl, .of e, by simpa using z, p⟩
  · exact q.elim
def oSum (ds : List D) (Q : D → Prop) : Prop := oInts ds fun ns => Q (.int ns.sum)
def oMaxL (ds : List D) (Q : D → Prop) : Prop := oInts ds fun ns => 0 < ns.length ∧ ∀ m, m ∈ ns → (∀ y, y ∈ ns → y ≤ m) → Q (.int m)
def oMinL (ds : List D) (Q : D → Prop) : Prop := oInts ds fun ns => 0 < ns.length ∧ ∀ m, m ∈ ns → (∀ y, y ∈ ns → m ≤ y) → Q (.int m)
def oSortI (ds : List D) (Q : D → Prop) : Prop := oInts ds fun ns => ∀ ns' : List Int, ns'.Perm ns → ns'.Pairwise (· ≤ ·) → Q (.list (ns'.map PyData.int))
theorem o_sum {K : PySem.W.Frag} : OpN .e (rSum K) oSum := fun G B H xs ds Q R g vs q k => by
  obtain ⟨a, ns, rfl, e, z, p⟩ := ints_of (K := K) g vs q
  exact ⟨a, ns, rfl, e, k _ _ B H (.refl _ _ _) g (.int _) p⟩
theorem o_maxL {K : PySem.W.Frag} : OpN .e (rMax K) oMaxL := fun G B H xs ds Q R g vs q k => by
  obtain ⟨a, ns, rfl, e, z, p1, p2⟩ := ints_of (K := K) g vs q
  exact ⟨a, ns, rfl, e, p1, fun m h1 h2 => k _ _ B H (.refl _ _ _) g (.int _) (p2 m h1 h2)⟩
theorem o_minL {K : PySem.W.Frag} : OpN .e (rMin K) oMinL := fun G B H xs ds Q R g vs q k => by
  obtain ⟨a, ns, rfl, e, z, p1, p2⟩ := ints_of (K := K) g vs q
  exact ⟨a, ns, rfl, e, p1, fun m h1 h2 => k _ _ B H (.refl _ _ _) g (.int _) (p2 m h1 h2)⟩
theorem o_sortI {K : PySem.W.Frag} : OpN .l (rSortedI K) oSortI := fun G B H xs ds Q R g vs q k => by
  obtain ⟨a, ns, rfl, e, z, p⟩ := ints_of (K := K) g vs q
  exact ⟨a, ns, rfl, e, fun ns' p' h1 h2 hp => k _ _ B _ (.junk hp) (g.junk hp) (ok_newL g hp (by rw [List.length_map, h1.length_eq]; exact z) (isL_ints ns')) (p ns' h1 h2)⟩
def oII (f : Int → Int → Int) (ds : List D) (Q : D → Prop) : Prop := match ds with
  | [.int i, .int j] => Q (.int (f i j))
  | _ => False
theorem o_max2 : OpN .e (fun xs H Q => ∃ i j, xs = [.int i, .int j] ∧ Q (.int (if j > i then j else i)) H) (oII fun i j => if j > i then j else i) := fun G B H xs ds Q R g vs q k => by
  unfold oII at q
  split at q
  · obtain ⟨v, v2, rfl, h1, h2⟩ := views2 vs
    cases h1.int
    cases h2.int
    exact ⟨_, _, rfl, k _ _ B H (.refl _ _ _) g (.int _) q⟩
  · exact q.elim
theorem o_min2 : OpN .e (fun xs H Q => ∃ i j, xs = [.int i, .int j] ∧ Q (.int (if j < i then j else i)) H) (oII fun i j => if j < i then j else i) := fun G B H xs ds Q R g vs q k => by
  unfold oII at q
  split at q
  · obtain ⟨v, v2, rfl, h1, h2⟩ := views2 vs
    cases h1.int
    cases h2.int
    exact ⟨_, _, rfl, k _ _ B H (.refl _ _ _) g (.int _) q⟩
  · exact q.elim
def oAbs (ds : List D) (Q : D → Prop) : Prop := match ds with
  | [.int i] => Q (.int (if i < 0 then -i else i))
  | _ => False
theorem o_abs : OpN .e (fun xs H Q => ∃ i, xs = [.int i] ∧ Q (.int (if i < 0 then -i else i)) H) oAbs := fun G B H xs ds Q R g vs q k => by
  unfold oAbs at q
  split at q
  · obtain ⟨v, rfl, h1⟩ := views1 vs
    cases h1.int
    exact ⟨_, rfl, k _ _ B H (.refl _ _ _) g (.int _) q⟩
  · exact q.elim
def oInt1 (ds : List D) (Q : D → Prop) : Prop := match ds with
  | [.int i] => Q (.int i)
  | [.bool b] => Q (.int (if b then 1 else 0))
  | _ => False
theorem o_int1 : OpN .e (fun xs H Q => (∃ i, xs = [.int i] ∧ Q (.int i) H) ∨ ∃ k, xs = [.bl k] ∧ Q (.int (if k then 1 else 0)) H) oInt1 := fun G B H xs ds Q R g vs q k => by
  unfold oInt1 at q
  split at q
  · obtain ⟨v, rfl, h1⟩ := views1 vs
    cases h1.int
    exact .inl ⟨_, rfl, k _ _ B H (.refl _ _ _) g (.int _) q⟩
  · obtain ⟨v, rfl, h1⟩ := views1 vs
    cases h1.bl
    exact .inr ⟨_, rfl, k _ _ B H (.refl _ _ _) g (.int _) q⟩
  · exact q.elim
/-! repr -/
def rRepr (K : PySem.W.Frag) : List V → Hp → VK → Prop := fun xs H Q => ∃ a d, xs = [.ref a] ∧ Dp K H (.ref a) d ∧ d.showable = true ∧ d.hasDict = false ∧ d.depth ≤ 60 ∧ d.shown.length ≤ sizeLine ∧ Q (.str d.shown) H
theorem call_repr (hg : X.A.guards = some []) (hu : X.A.units + 64 < cLine) : CallR X (.builtin "repr") (rRepr X.K) := by
  intro pins s σ H xs us Q I r h
  obtain ⟨a, d, rfl, hd, hs, hn, hdep, hz, q⟩ := h
  obtain ⟨u, rfl, ru⟩ := vals1 r
  cases ru
  obtain ⟨as, rd⟩ := Dp.reads I d (.ref a) (.ref a) hd rfl
  exact repr_of_reads' rd hs (PyData.noDict_hsm hn) hg (by omega) (fun _ _ e => e) (fun h' u tk hk => ⟨.str d.shown, H, I.kept hk, ⟨_, rfl⟩, q⟩) hz
def seqD : D → Bool
  | .list _ => true
  | .tuple _ => true
  | _ => false
/-- what may be shown -/
def shOk (d : D) : Prop := seqD d = true ∧ flatD d = true ∧ d.showable = true ∧ d.hasDict = false ∧ d.depth ≤ 60 ∧ d.shown.length ≤ sizeLine
def oRepr (ds : List D) (Q : D → Prop) : Prop := match ds with
  | [.int i] => i.natAbs.log2 < 1920 ∧ Q (.str (toString i))
  | [d] => shOk d ∧ Q (.str d.shown)
  | _ => False
theorem call_reprU (hg : X.A.guards = some []) (hu : X.A.units + 64 < cLine) : CallR X (.builtin "repr") (fun xs H Q => rRepr X.K xs H Q ∨ ∃ i, xs = [.int i] ∧ i.natAbs.log2 < 1920 ∧ Q (.str (toString i)) H) := (call_repr hg hu).or SkE.call_repr_int
theorem o_repr {K : PySem.W.Frag} : OpN .e (fun xs H Q => rRepr K xs H Q ∨ ∃ i, xs = [.int i] ∧ i.natAbs.log2 < 1920 ∧ Q (.str (toString i)) H) oRepr := fun G B H xs ds Q R g vs q k => by
  unfold oRepr at q
  split at q
  · obtain ⟨v, rfl, h1⟩ := views1 vs
    cases h1.int
    exact .inr ⟨_, rfl, q.1, k _ _ B H (.refl _ _ _) g (.str _) q.2⟩
  · obtain ⟨v, rfl, h1⟩ := views1 vs
    obtain ⟨⟨s1, s2, s3, s4, s5, s6⟩, q⟩ := q
    have hd := h1.dp (K := K) g s2
    have e : ∃ a, v = .ref a := by
      rename_i d _
      cases d with
      | list ds => obtain ⟨a, _, e, _⟩ := h1.list g; exact ⟨a, e⟩
      | tuple ds => obtain ⟨a, _, e, _⟩ := h1.tup g; exact ⟨a, e⟩
      | _ => cases s1
    obtain ⟨a, rfl⟩ := e
    exact .inl ⟨a, _, rfl, hd, s3, s4, s5, s6, k _ _ B H (.refl _ _ _) g (.str _) q⟩
  · exact q.elim
/-! xs[::-1] -/
def bRevL (b : BX) : BX := fun ρ Q => b ρ fun d => match d with
  | .list ds => Q (.list ds.reverse)
  | _ => False
theorem pb_revL {k : Nat} {p4 : Pos} (he : PB X κ1 e ba) : PB X .l (.Subscript e (.Slice none none (some (.UnaryOp .USub (.Constant (.int 1) k p) p2)) p3) p4) (bRevL ba) :=
  PE.mono (pe_revL he) fun σ H R ⟨G, B0, H0, ρ, B, Q, r, q, k⟩ => ⟨G, B0, H0, ρ, B, _, r, q, fun v d B1 H1 y g o q1 => by
    split at q1
    · obtain ⟨a, xs, rfl, e1, z1, i1⟩ := o.view.list g
      exact ⟨a, xs, rfl, .of e1, fun p hp => k _ _ B1 _ (y.trans g (.junk hp)) (g.junk hp) ((ok_newL g hp (by rw [List.length_reverse]; exact z1) i1.rev).back g y) q1⟩
    · exact q1.elim⟩
/-! list(range(..)) -/
def bLstR1 (b : BX) : BX := fun ρ Q => b ρ fun d => match d with
  | .int n => (-(2 ^ 61) ≤ n ∧ n ≤ sizeLine) ∧ Q (.list (iRng 0 n.toNat))
  | _ => False
def bLstR2 (ba bb : BX) : BX := fun ρ Q => ba ρ fun d => bb ρ fun e => match d, e with
  | .int i, .int j => (-(2 ^ 61) ≤ i ∧ i < 2 ^ 61 ∧ -(2 ^ 61) ≤ j ∧ j < 2 ^ 61 ∧ j - i ≤ sizeLine) ∧ Q (.list (iRng i (j - i).toNat))
  | _, _ => False
theorem rgV_is {B : Hp} (a b : Int) : IsL B (rgV a b) (iRng a (b - a).toNat) := by
  have e : rgV a b = (List.range (b - a).toNat).map fun (i : Nat) => V.int (a + i) := rfl
  rw [e]
  unfold iRng
  generalize List.range (b - a).toNat = l
  induction l with
  | nil => exact .nil
  | cons x r ih => exact .cons (.int _) ih
theorem rgV_len (a b : Int) : (rgV a b).length = (b - a).toNat := by
  have e : rgV a b = (List.range (b - a).toNat).map fun (i : Nat) => V.int (a + i) := rfl
  rw [e]; simp
theorem pb_lstR1 {p4 : Pos} (hc : X.calm = true) (hg : Gl X "list") (hm : X.mg "list" = none) (hg2 : Gl X "range") (hm2 : X.mg "range" = none) (ha : PB X κ1 a ba) (na : starEach [a] X.env = (false, eval a X.env) :: starEach [] X.env := by rfl) (nb : starEach [.Call (.Name "range" p) [a] [] p2] X.env = (false, eval (.Call (.Name "range" p) [a] [] p2) X.env) :: starEach [] X.env := by rfl) :
    PB X .l (.Call (.Name "list" p3) [.Call (.Name "range" p) [a] [] p2] [] p4) (bLstR1 ba) :=
  PE.mono (pe_listRg hc hg hm (prg_1 hg2 hm2 ha na) nb) fun σ H R ⟨G, B0, H0, ρ, B, Q, r, q, k⟩ => ⟨G, B0, H0, ρ, B, _, r, q, fun v d B1 H1 y g o q1 => by
    split at q1
    · rename_i n
      cases o.view.int
      have e0 : n - 0 = n := Int.sub_zero n
      have hz : (sizeLine : Int) = 16777216 := by rw [sizeLine_eq]; rfl
      refine ⟨n, rfl, ⟨by omega, by omega, by omega, by omega, by omega⟩, fun p hp => k _ _ B1 _ (y.trans g (.junk hp)) (g.junk hp) ((ok_newL g hp (by rw [rgV_len]; omega) (rgV_is 0 n)).back g y) ?_⟩
      rw [e0]
      exact q1.2
    · exact q1.elim⟩
theorem int2 {d e : D} {P : Int → Int → Prop} (h : match d, e with | .int i, .int j => P i j | _, _ => False) : ∃ i j, d = .int i ∧ e = .int j ∧ P i j := by
  split at h
  · exact ⟨_, _, rfl, rfl, h⟩
  · exact h.elim
theorem pb_lstR2 {p4 : Pos} (hc : X.calm = true) (hg : Gl X "list") (hm : X.mg "list" = none) (hg2 : Gl X "range") (hm2 : X.mg "range" = none) (ha : PB X κ1 a ba) (hb : PB X κ2 b bb) (na : starEach [a, b] X.env = (false, eval a X.env) :: starEach [b] X.env := by rfl)
    (nb : starEach [b] X.env = (false, eval b X.env) :: starEach [] X.env := by rfl) (hp : (backTo p2 (starEach [b] X.env)).any (·.1) = false := by rfl) (nc : starEach [.Call (.Name "range" p) [a, b] [] p2] X.env = (false, eval (.Call (.Name "range" p) [a, b] [] p2) X.env) :: starEach [] X.env := by rfl) :
    PB X .l (.Call (.Name "list" p3) [.Call (.Name "range" p) [a, b] [] p2] [] p4) (bLstR2 ba bb) :=
  PE.mono (pe_listRg hc hg hm (prg_2 hg2 hm2 ha hb na nb hp) nc) fun σ H R ⟨G, B0, H0, ρ, B, Q, r, q, k⟩ => ⟨G, B0, H0, ρ, B, _, r, q, fun v d B1 H1 y g o q1 => ⟨G, B0, H0, ρ, B1, _, r.step y g, q1, fun v2 d2 B2 H2 y2 g2 o2 q2 => by
    obtain ⟨i, j, rfl, rfl, q2⟩ := int2 (P := fun i j => (-(2 ^ 61) ≤ i ∧ i < 2 ^ 61 ∧ -(2 ^ 61) ≤ j ∧ j < 2 ^ 61 ∧ j - i ≤ sizeLine) ∧ Q (.list (iRng i (j - i).toNat))) q2
    cases o.view.int
    cases o2.view.int
    have hz : (sizeLine : Int) = 16777216 := by rw [sizeLine_eq]; rfl
    have ext := y.trans g y2
    exact ⟨i, j, rfl, rfl, ⟨by omega, by omega, by omega, by omega, by omega⟩, fun p hp => k _ _ B2 _ (ext.trans g2 (.junk hp)) (g2.junk hp) ((ok_newL g2 hp (by rw [rgV_len]; omega) (rgV_is i j)).back g2 ext) q2.2⟩⟩⟩
end
end BV

/-! BV, eleventh part: the rules with the context's facts filled in. -/
namespace BV
open PySem PySem.Spec L2

theorem Cz.hu64 {X : Cx} {N : List Str} {sc : Scope} {k : Nat} (c : Cz X N sc k) : X.A.units + 64 < cLine := c.room.units
theorem Cz.hu65 {X : Cx} {N : List Str} {sc : Scope} {k : Nat} (c : Cz X N sc k) : X.A.units + 65 < cLine := by have := c.room.un; omega
section
variable {X : Cx} {N : List Str} {sc : Scope} {k : Nat} {κ κ1 κ2 κ3 : Kd} {a b e : Expr} {es : List Expr} {p pos p2 p3 p4 : Pos} {ba bb : BX} {bs : BXs} {x : Str}
abbrev gi (sc : Scope) (x : Str) : Prop := sc.names.lookup x = some .globalImplicit
theorem q_len (c : Cz X N sc k) (hm : X.mg "len" = none) (hg : gi sc "len") (ha : PBa X [e] bs) (he : starEach [e] X.env = [(false, eval e X.env)] := by rfl) : PB X .e (.Call (.Name "len" p) [e] [] pos) (bN oLen bs) := pb_fn call_len o_len (c.gl hg) hm PySem.boot_len ha (by decide) (by decide) he
theorem q_sum (c : Cz X N sc k) (hm : X.mg "sum" = none) (hg : gi sc "sum") (ha : PBa X [e] bs) (he : starEach [e] X.env = [(false, eval e X.env)] := by rfl) : PB X .e (.Call (.Name "sum" p) [e] [] pos) (bN oSum bs) := pb_fn (cr_sum c.calm) o_sum (c.gl hg) hm PyProof.Rows.boot_sum ha (by decide) (by decide) he
theorem q_maxL (c : Cz X N sc k) (hm : X.mg "max" = none) (hg : gi sc "max") (ha : PBa X [e] bs) (he : starEach [e] X.env = [(false, eval e X.env)] := by rfl) : PB X .e (.Call (.Name "max" p) [e] [] pos) (bN oMaxL bs) := pb_fn (cr_max c.calm) o_maxL (c.gl hg) hm PyProof.Rows.boot_max ha (by decide) (by decide) he
theorem q_minL (c : Cz X N sc k) (hm : X.mg "min" = none) (hg : gi sc "min") (ha : PBa X [e] bs) (he : starEach [e] X.env = [(false, eval e X.env)] := by rfl) : PB X .e (.Call (.Name "min" p) [e] [] pos) (bN oMinL bs) := pb_fn (cr_min c.calm) o_minL (c.gl hg) hm PyProof.Rows.boot_min ha (by decide) (by decide) he
theorem q_max2 (c : Cz X N sc k) (hm : X.mg "max" = none) (hg : gi sc "max") (ha : PBa X [a, b] bs) (he : starEach [a, b] X.env = [(false, eval a X.env), (false, eval b X.env)] := by rfl) (he2 : starEach [b] X.env = [(false, eval b X.env)] := by rfl) : PB X .e (.Call (.Name "max" p) [a, b] [] pos) (bN (oII fun i j => if j > i then j else i) bs) := pb_fn (call_max2 c.calm) o_max2 (c.gl hg) hm PyProof.Rows.boot_max ha (by decide) (by decide) (by rw [he, he2]) (by rw [he2]; rfl)
theorem q_min2 (c : Cz X N sc k) (hm : X.mg "min" = none) (hg : gi sc "min") (ha : PBa X [a, b] bs) (he : starEach [a, b] X.env = [(false, eval a X.env), (false, eval b X.env)] := by rfl) (he2 : starEach [b] X.env = [(false, eval b X.env)] := by rfl) : PB X .e (.Call (.Name "min" p) [a, b] [] pos) (bN (oII fun i j => if j < i then j else i) bs) := pb_fn (call_min2 c.calm) o_min2 (c.gl hg) hm PyProof.Rows.boot_min ha (by decide) (by decide) (by rw [he, he2]) (by rw [he2]; rfl)
theorem q_abs (c : Cz X N sc k) (hm : X.mg "abs" = none) (hg : gi sc "abs") (ha : PBa X [e] bs) (he : starEach [e] X.env = [(false, eval e X.env)] := by rfl) : PB X .e (.Call (.Name "abs" p) [e] [] pos) (bN oAbs bs) := pb_fn call_abs o_abs (c.gl hg) hm PyProof.Rows.boot_abs ha (by decide) (by decide) he
theorem q_sorted (c : Cz X N sc k) (hm : X.mg "sorted" = none) (hg : gi sc "sorted") (ha : PBa X [e] bs) (he : starEach [e] X.env = [(false, eval e X.env)] := by rfl) : PB X .l (.Call (.Name "sorted" p) [e] [] pos) (bN oSortI bs) := pb_fn cr_sortedI o_sortI (c.gl hg) hm PyProof.Rows.boot_sorted ha (by decide) (by decide) he
theorem q_repr (c : Cz X N sc k) (hm : X.mg "repr" = none) (hg : gi sc "repr") (ha : PBa X [e] bs) (he : starEach [e] X.env = [(false, eval e X.env)] := by rfl) : PB X .e (.Call (.Name "repr" p) [e] [] pos) (bN oRepr bs) := pb_fn (call_reprU c.gu c.hu64) o_repr (c.gl hg) hm PyProof.Rows.boot_repr ha (by decide) (by decide) he
theorem q_int (c : Cz X N sc k) (hm : X.mg "int" = none) (hg : gi sc "int") (ha : PBa X [e] bs) (he : starEach [e] X.env = [(false, eval e X.env)] := by rfl) : PB X .e (.Call (.Name "int" p) [e] [] pos) (bN oInt1 bs) := pb_ty call_int1 o_int1 (c.gl hg) hm PyProof.Rows.boot_int ha (by decide) (by decide) he
theorem q_list (c : Cz X N sc k) (hm : X.mg "list" = none) (hg : gi sc "list") (ha : PBa X [e] bs) (he : starEach [e] X.env = [(false, eval e X.env)] := by rfl) : PB X .l (.Call (.Name "list" p) [e] [] pos) (bN oListOf bs) := pb_ty call_list_of o_list (c.gl hg) hm PyProof.Rows.boot_list ha (by decide) (by decide) he
theorem q_tuple (c : Cz X N sc k) (hm : X.mg "tuple" = none) (hg : gi sc "tuple") (ha : PBa X [e] bs) (he : starEach [e] X.env = [(false, eval e X.env)] := by rfl) : PB X .e (.Call (.Name "tuple" p) [e] [] pos) (bN oTupOf bs) := pb_ty call_tuple_of o_tup (c.gl hg) hm PyProof.Rows.boot_tuple ha (by decide) (by decide) he
theorem q_lstR1 (c : Cz X N sc k) (hm : X.mg "list" = none) (hm2 : X.mg "range" = none) (hg : gi sc "list") (hg2 : gi sc "range") (ha : PB X κ1 a ba) (he : starEach [a] X.env = [(false, eval a X.env)] := by rfl) : PB X .l (.Call (.Name "list" p3) [.Call (.Name "range" p) [a] [] p2] [] p4) (bLstR1 ba) := pb_lstR1 c.calm (c.gl hg) hm (c.gl hg2) hm2 ha he
theorem q_lstR2 (c : Cz X N sc k) (hm : X.mg "list" = none) (hm2 : X.mg "range" = none) (hg : gi sc "list") (hg2 : gi sc "range") (ha : PB X κ1 a ba) (hb : PB X κ2 b bb) (he : starEach [a, b] X.env = [(false, eval a X.env), (false, eval b X.env)] := by rfl) (he2 : starEach [b] X.env = [(false, eval b X.env)] := by rfl) : PB X .l (.Call (.Name "list" p3) [.Call (.Name "range" p) [a, b] [] p2] [] p4) (bLstR2 ba bb) := pb_lstR2 c.calm (c.gl hg) hm (c.gl hg2) hm2 ha hb (by rw [he, he2]) (by rw [he2]; rfl) (by rw [he2]; rfl)
/-! operators -/
theorem q_add (ha : PB X κ1 a ba) (hb : PB X κ2 b bb) : PB X .e (.BinOp a .Add b pos) (b2 oAdd ba bb) := pb_op op_addU o_add ha hb
theorem q_catL (ha : PB X κ1 a ba) (hb : PB X κ2 b bb) : PB X .l (.BinOp a .Add b pos) (b2 oCatL ba bb) := pb_op op_cat o_catL ha hb
abbrev oSub := oI (fun _ _ => True) fun i j => .int (i - j)
theorem q_sub (ha : PB X κ1 a ba) (hb : PB X κ2 b bb) : PB X .e (.BinOp a .Sub b pos) (b2 oSub ba bb) := pb_op op_sub o_sub ha hb
theorem q_mul (ha : PB X κ1 a ba) (hb : PB X κ2 b bb) : PB X .e (.BinOp a .Mult b pos) (b2 oMul ba bb) := pb_op op_mulU o_mul ha hb
theorem q_repL (ha : PB X κ1 a ba) (hb : PB X κ2 b bb) : PB X .l (.BinOp a .Mult b pos) (b2 oRepL ba bb) := pb_op op_rep o_repL ha hb
abbrev oFdiv := oI CDiv fun i j => .int (i / j)
abbrev oMod := oI (fun _ j => 0 < j) fun i j => .int (i % j)
abbrev oPow := oI CPow fun i j => .int (i ^ j.toNat)
theorem q_fdiv (ha : PB X κ1 a ba) (hb : PB X κ2 b bb) : PB X .e (.BinOp a .FloorDiv b pos) (b2 oFdiv ba bb) := pb_op op_fdiv o_fdiv ha hb
theorem q_mod (ha : PB X κ1 a ba) (hb : PB X κ2 b bb) : PB X .e (.BinOp a .Mod b pos) (b2 oMod ba bb) := pb_op op_mod o_mod ha hb
theorem q_pow (ha : PB X κ1 a ba) (hb : PB X κ2 b bb) : PB X .e (.BinOp a .Pow b pos) (b2 oPow ba bb) := pb_op op_pow o_pow ha hb
theorem q_neg (ha : PB X κ1 a ba) : PB X .e (.UnaryOp .USub a pos) (b1 oNeg ba) := pb_un un_neg o_neg ha
abbrev oLt := oI (fun _ _ => True) fun i j => .bool (decide (i < j))
abbrev oLe := oI (fun _ _ => True) fun i j => .bool (decide (i ≤ j))
abbrev oGt := oI (fun _ _ => True) fun i j => .bool (decide (j < i))
abbrev oGe := oI (fun _ _ => True) fun i j => .bool (decide (j ≤ i))
theorem q_lt (ha : PB X κ1 a ba) (hb : PB X κ2 b bb) : PB X .e (.Compare a [.Lt] [b] pos) (b2 oLt ba bb) := pb_cmp op_lt o_lt (nomark _) ha hb
theorem q_le (ha : PB X κ1 a ba) (hb : PB X κ2 b bb) : PB X .e (.Compare a [.LtE] [b] pos) (b2 oLe ba bb) := pb_cmp op_le o_le (nomark _) ha hb
theorem q_gt (ha : PB X κ1 a ba) (hb : PB X κ2 b bb) : PB X .e (.Compare a [.Gt] [b] pos) (b2 oGt ba bb) := pb_cmp op_gt o_gt (nomark _) ha hb
theorem q_ge (ha : PB X κ1 a ba) (hb : PB X κ2 b bb) : PB X .e (.Compare a [.GtE] [b] pos) (b2 oGe ba bb) := pb_cmp op_ge o_ge (nomark _) ha hb
theorem q_eq (c : Cz X N sc k) (ha : PB X κ1 a ba) (hb : PB X κ2 b bb) : PB X .e (.Compare a [.Eq] [b] pos) (b2 oEq ba bb) := pb_cmp (op_eqD c.hu64) o_eq (nomark _) ha hb
theorem q_ne (c : Cz X N sc k) (ha : PB X κ1 a ba) (hb : PB X κ2 b bb) : PB X .e (.Compare a [.NotEq] [b] pos) (b2 oNe ba bb) := pb_cmp (op_neD c.hu64) o_ne (nomark _) ha hb
theorem q_in (c : Cz X N sc k) (ha : PB X κ1 a ba) (hb : PB X κ2 b bb) (hm : behindInMarks .In b = false := by rfl) : PB X .e (.Compare a [.In] [b] pos) (b2 oInU ba bb) := pb_cmp (op_inU c.hu65) o_inU hm ha hb
theorem q_notIn (c : Cz X N sc k) (ha : PB X κ1 a ba) (hb : PB X κ2 b bb) (hm : behindInMarks .NotIn b = false := by rfl) : PB X .e (.Compare a [.NotIn] [b] pos) (b2 oNotInU ba bb) := pb_cmp (op_notInU c.hu65) o_notInU hm ha hb
theorem t_lt (ha : PB X κ1 a ba) (hb : PB X κ2 b bb) : PBt X (.Compare a [.Lt] [b] pos) (tV (b2 oLt ba bb)) := pt_c op_lt o_lt (nomark _) ha hb
theorem t_le (ha : PB X κ1 a ba) (hb : PB X κ2 b bb) : PBt X (.Compare a [.LtE] [b] pos) (tV (b2 oLe ba bb)) := pt_c op_le o_le (nomark _) ha hb
theorem t_gt (ha : PB X κ1 a ba) (hb : PB X κ2 b bb) : PBt X (.Compare a [.Gt] [b] pos) (tV (b2 oGt ba bb)) := pt_c op_gt o_gt (nomark _) ha hb
theorem t_ge (ha : PB X κ1 a ba) (hb : PB X κ2 b bb) : PBt X (.Compare a [.GtE] [b] pos) (tV (b2 oGe ba bb)) := pt_c op_ge o_ge (nomark _) ha hb
theorem t_eq (c : Cz X N sc k) (ha : PB X κ1 a ba) (hb : PB X κ2 b bb) : PBt X (.Compare a [.Eq] [b] pos) (tV (b2 oEq ba bb)) := pt_c (op_eqD c.hu64) o_eq (nomark _) ha hb
theorem t_ne (c : Cz X N sc k) (ha : PB X κ1 a ba) (hb : PB X κ2 b bb) : PBt X (.Compare a [.NotEq] [b] pos) (tV (b2 oNe ba bb)) := pt_c (op_neD c.hu64) o_ne (nomark _) ha hb
theorem t_in (c : Cz X N sc k) (ha : PB X κ1 a ba) (hb : PB X κ2 b bb) (hm : behindInMarks .In b = false := by rfl) : PBt X (.Compare a [.In] [b] pos) (tV (b2 oInU ba bb)) := pt_c (op_inU c.hu65) o_inU hm ha hb
theorem t_notIn (c : Cz X N sc k) (ha : PB X κ1 a ba) (hb : PB X κ2 b bb) (hm : behindInMarks .NotIn b = false := by rfl) : PBt X (.Compare a [.NotIn] [b] pos) (tV (b2 oNotInU ba bb)) := pt_c (op_notInU c.hu65) o_notInU hm ha hb
/-- a module's whole number -/
theorem q_globI {i : Int} (c : Cz X N sc k) (h : ∃ t, X.mg x = some (.int i t)) (hg : gi sc x) (hd : (x == ("__debug__" : Str)) = false := by decide) : PB X .e (.Name x pos) (bC (.int i)) := by
  obtain ⟨t, h⟩ := h
  exact pb_glob (v := .int i) (c.gl hg) h ⟨_, rfl⟩ (fun _ => .int i) hd
/-! iteration -/
theorem i_r1 {tg : Expr} (c : Cz X N sc k) (hm : X.mg "range" = none) (hg : gi sc "range") (ha : PBa X [a] bs) (he : starEach [a] X.env = [(false, eval a X.env)] := by rfl) : PIb X tg (.Call (.Name "range" p) [a] [] pos) (iRan oR1 bs) := it_r1 (c.gl hg) hm ha he
theorem i_r2 {tg : Expr} (c : Cz X N sc k) (hm : X.mg "range" = none) (hg : gi sc "range") (ha : PBa X [a, b] bs) (he : starEach [a, b] X.env = [(false, eval a X.env), (false, eval b X.env)] := by rfl) (he2 : starEach [b] X.env = [(false, eval b X.env)] := by rfl) : PIb X tg (.Call (.Name "range" p) [a, b] [] pos) (iRan oR2 bs) := it_r2 (c.gl hg) hm ha he he2
theorem i_enu {elts : List Expr} {kk : Nat} {tpos : Pos} (c : Cz X N sc k) (hm : X.mg "enumerate" = none) (hg : gi sc "enumerate") (h : PB X .e e ba) (he : starEach [e] X.env = [(false, eval e X.env)] := by rfl) : PIb X (.Tuple elts kk tpos) (.Call (.Name "enumerate" p) [e] [] pos) (iEnu (iSeq ba)) := it_enu (c.gl hg) hm h he
theorem i_zip {elts : List Expr} {kk : Nat} {tpos : Pos} (c : Cz X N sc k) (hm : X.mg "zip" = none) (hg : gi sc "zip") (h : PB X .e a ba) (h2 : PB X .e b bb) (he : starEach [a, b] X.env = [(false, eval a X.env), (false, eval b X.env)] := by rfl) (he2 : starEach [b] X.env = [(false, eval b X.env)] := by rfl) : PIb X (.Tuple elts kk tpos) (.Call (.Name "zip" p) [a, b] [] pos) (iZp ba bb) := it_zip (c.gl hg) hm h h2 (by rw [he, he2]) he2 (by rw [he2]; rfl)
/-! names stored -/
theorem g_v (c : Cz X N sc k) (hf : ∀ y, X.fn y = true) (i : Nat) (h : tgtB N sc i x = true) : PGb X [i] (.Name x pos) (pName i) := pg_v c i h (.inl (hf x))
def fnB (scope sc : Scope) (x : Str) : Bool := (scope.names.lookup x == some .cell) || decide ((relS scope sc).names.lookup x = some .local)
theorem g_b (c : Cz X N sc k) (s : Shared) (H : Hp) (scope : Scope) (C : Addr) (cl : List (Str × Addr)) (fp : List Addr) (i : Nat) (h : tgtB N (relS scope sc) i x = true) (hf : fnB scope sc x = true) : PGb (X.blk s H scope (compEnvC scope cl C X.env) fp) [i] (.Name x pos) (pName i) := by
  refine pg_v (c.blk s H scope C cl fp) i h ?_
  unfold fnB at hf
  rw [Bool.or_eq_true, decide_eq_true_eq] at hf
  rcases hf with h | h
  · exact .inl h
  · refine .inr ?_
    rw [(c.blk s H scope C cl fp).sc]
    exact h
theorem swap_eq {value : Expr} {target : Option Expr} {l : Nat} {env env' : Env} (h : env.scope = env'.scope) : swapsWith value target l env = swapsWith value target l env' := by
  unfold swapsWith Env.blockKind Env.kindOf
  rw [h]
theorem swapped_eq {ts : List Expr} {v : Expr} {env env' : Env} (h : env.scope = env'.scope) : swappedStores ts v env = swappedStores ts v env' := by
  unfold swappedStores Env.blockKind Env.kindOf
  rw [h]
theorem swapS_eq {ts : List Expr} {v : Expr} {l : Nat} {env env' : Env} (h : env.scope = env'.scope) : swapsWithSole ts v l env = swapsWithSole ts v l env' := by
  unfold swapsWithSole
  split
  · exact swap_eq h
  · rfl
def envSc (sc : Scope) : Env := { (default : Env) with scope := sc }
variable {S : List Nat} {pp : BP} {s t : BS}
theorem s_set (c : Cz X N sc k) (hf : ∀ y, X.fn y = true) (i : Nat) {pos' : Pos} (h : tgtB N sc i x = true) (he : PB X .e e ba) (hs : swapsWith e (some (.Name x pos')) pos.line (envSc sc) = pure false := by rfl) : PSb X κ (.Assign [.Name x pos'] e pos) (sSet i ba) :=
  let ⟨u, v, w⟩ := c.tgt h
  ss_set he u v w ((swap_eq (env' := envSc sc) c.sc).trans hs) (.inl (hf x))
theorem s_setL (c : Cz X N sc k) (hf : ∀ y, X.fn y = true) (i : Nat) {pos' : Pos} (h : tgtB N sc i x = true) (he : PB X .l e ba) (hs : swapsWith e (some (.Name x pos')) pos.line (envSc sc) = pure false := by rfl) : PSb X κ (.Assign [.Name x pos'] e pos) (sSetL i ba) :=
  let ⟨u, v, w⟩ := c.tgt h
  ss_setL he u v w ((swap_eq (env' := envSc sc) c.sc).trans hs) (.inl (hf x))
theorem s_setD (c : Cz X N sc k) (hf : ∀ y, X.fn y = true) (i : Nat) {t : Bool} {pos' : Pos} (h : tgtB N sc i x = true) (he : PB X (.d t) e ba) (hs : swapsWith e (some (.Name x pos')) pos.line (envSc sc) = pure false := by rfl) : PSb X κ (.Assign [.Name x pos'] e pos) (sSetD t i ba) :=
  let ⟨u, v, w⟩ := c.tgt h
  ss_setD he u v w ((swap_eq (env' := envSc sc) c.sc).trans hs) (.inl (hf x))
theorem s_newD (t : Bool) (c : Cz X N sc k) (hf : ∀ y, X.fn y = true) (i : Nat) {pos' : Pos} (h : tgtB N sc i x = true) : PSb X κ (.Assign [.Name x pos'] (.Dict [] [] p2) pos) (sNewD t i) :=
  let ⟨u, v, w⟩ := c.tgt h
  ss_newD t u v w rfl (.inl (hf x))
theorem s_setM {bm : BM} (c : Cz X N sc k) (hf : ∀ y, X.fn y = true) (i : Nat) {pos' : Pos} (h : tgtB N sc i x = true) (he : PM X e bm) (hs : swapsWith e (some (.Name x pos')) pos.line (envSc sc) = pure false := by rfl) : PSb X κ (.Assign [.Name x pos'] e pos) (sAsgM (pName i) bm) :=
  let ⟨u, v, w⟩ := c.tgt h
  ss_setM he u v w ((swap_eq (env' := envSc sc) c.sc).trans hs) (.inl (hf x))
theorem s_asg {tg : Expr} (c : Cz X N sc k) (he : PB X .e e ba) (hg : PGb X S tg pp) (hs : swapsWithSole [tg] e pos.line (envSc sc) = pure false := by rfl) (hw : swappedStores [tg] e (envSc sc) = pure none := by rfl) (h1 : (assignEach [tg] X.env).map (·.2) = [assign tg X.env] := by rfl) :
    PSb X κ (.Assign [tg] e pos) (sAsg pp ba) := ss_asg he hg ((swapS_eq (env' := envSc sc) c.sc).trans hs) ((swapped_eq (env' := envSc sc) c.sc).trans hw) h1
theorem s_asgM {tg : Expr} {bm : BM} (c : Cz X N sc k) (he : PM X e bm) (hg : PGb X S tg pp) (hs : swapsWithSole [tg] e pos.line (envSc sc) = pure false := by rfl) (hw : swappedStores [tg] e (envSc sc) = pure none := by rfl) (h1 : (assignEach [tg] X.env).map (·.2) = [assign tg X.env] := by rfl) :
    PSb X κ (.Assign [tg] e pos) (sAsgM pp bm) := ss_asgM he hg ((swapS_eq (env' := envSc sc) c.sc).trans hs) ((swapped_eq (env' := envSc sc) c.sc).trans hw) h1
theorem s_put {o ix : Expr} {i : Nat} {bi : BX} (c : Cz X N sc k) (ho : PE X o (tVar i)) (hi : PB X .e ix bi) (he : PB X .e e ba) (hs : swapsWithSole [.Subscript o ix p2] e pos.line (envSc sc) = pure false := by rfl) (hw : swappedStores [.Subscript o ix p2] e (envSc sc) = pure none := by rfl) (h1 : (assignEach [.Subscript o ix p2] X.env).map (·.2) = [assign (.Subscript o ix p2) X.env] := by rfl)
    (ha : ∀ v, assign (.Subscript o ix p2) X.env v = (do
      let ov ← holding [v] (eval o X.env)
      let iv ← holding [v, ov] (eval ix X.env)
      standAt p2
      holding [v, ov, iv] (setItem ov iv v)
      release [v, ov, iv] []) := by intro _; rfl) : PSb X κ (.Assign [.Subscript o ix p2] e pos) (sPut i bi ba) :=
  ss_put ho hi he ((swapS_eq (env' := envSc sc) c.sc).trans hs) ((swapped_eq (env' := envSc sc) c.sc).trans hw) h1 ha
theorem s_dput {o ix value : Expr} {i : Nat} {bi bv : BX} (c : Cz X N sc k) (ho : PE X o (tVar i)) (hi : PB X .e ix bi) (hv : PB X .e value bv) (hs : swapsWith value (some (.Subscript o ix p2)) pos.line (envSc sc) = pure false := by rfl) : PSb X κ (.Assign [.Subscript o ix p2] value pos) (sDPutB i bi bv) :=
  ss_dput c.hu ho hi hv ((swap_eq (env' := envSc sc) c.sc).trans hs)
theorem s_drop (c : Cz X N sc k) (he : PB X κ1 e ba) (hs : swapsWith e none pos.line (envSc sc) = pure false := by rfl) : PSb X κ (.Expr e pos) (sDrop ba) := ss_drop he ((swap_eq (env' := envSc sc) c.sc).trans hs)
theorem lc2_of {x y : Str} {l : Nat} : sc.names.lookup x = some .local → sc.names.lookup x = some .local := id
def par2B (N : List Str) (sc : Scope) (i j : Nat) (x y : Str) : Bool := decide (N[i]? = some x) && decide (N[j]? = some y) && decide (i ≠ j) && decide (sc.names.lookup x = some .local) && decide (sc.names.lookup y = some .local) && decide N.Nodup
theorem s_par2 {y : Str} {px py pt : Pos} {kt k2 pt2} {bs : BC} (c : Cz X N sc k) (i j : Nat) (h : par2B N sc i j x y = true) (ha : PBp X [a, b] bs)
    (hw : swappedStores [.Tuple [.Name x px, .Name y py] kt pt] (.Tuple [a, b] k2 pt2) (envSc sc) = pure (some [x, y]) := by rfl) :
    PSb X κ (.Assign [.Tuple [.Name x px, .Name y py] kt pt] (.Tuple [a, b] k2 pt2) pos) (sPar [i, j] bs) := by
  unfold par2B at h
  simp only [Bool.and_eq_true, decide_eq_true_eq] at h
  obtain ⟨⟨⟨⟨⟨h1, h2⟩, h3⟩, h4⟩, h5⟩, h6⟩ := h
  exact ss_par2 c.calm (by rw [c.N]; exact h6) (by rw [c.N]; exact h1) (by rw [c.N]; exact h2) h3 (by rw [c.sc]; exact h4) (by rw [c.sc]; exact h5) ha ((swapped_eq (env' := envSc sc) c.sc).trans hw) rfl
def par3B (N : List Str) (sc : Scope) (i j l : Nat) (x y z : Str) : Bool := decide (N[i]? = some x) && decide (N[j]? = some y) && decide (N[l]? = some z) && decide (i ≠ j) && decide (i ≠ l) && decide (j ≠ l) && decide (sc.names.lookup x = some .local) && decide (sc.names.lookup y = some .local) && decide (sc.names.lookup z = some .local) && decide N.Nodup
theorem s_par3 {d : Expr} {y z : Str} {px py pz pt : Pos} {kt k2 pt2} {bs : BC} (c : Cz X N sc k) (i j l : Nat) (h : par3B N sc i j l x y z = true) (ha : PBp X [a, b, d] bs)
    (hw : swappedStores [.Tuple [.Name x px, .Name y py, .Name z pz] kt pt] (.Tuple [a, b, d] k2 pt2) (envSc sc) = pure (some [x, y, z]) := by rfl) :
    PSb X κ (.Assign [.Tuple [.Name x px, .Name y py, .Name z pz] kt pt] (.Tuple [a, b, d] k2 pt2) pos) (sPar [i, j, l] bs) := by
  unfold par3B at h
  simp only [Bool.and_eq_true, decide_eq_true_eq] at h
  obtain ⟨⟨⟨⟨⟨⟨⟨⟨⟨h1, h2⟩, h3⟩, h4⟩, h5⟩, h6⟩, h7⟩, h8⟩, h9⟩, h10⟩ := h
  exact ss_par3 c.calm (by rw [c.N]; exact h10) (by rw [c.N]; exact h1) (by rw [c.N]; exact h2) (by rw [c.N]; exact h3) h4 h5 h6 (by rw [c.sc]; exact h7) (by rw [c.sc]; exact h8) (by rw [c.sc]; exact h9) ha ((swapped_eq (env' := envSc sc) c.sc).trans hw) rfl
def namesB (N : List Str) (sc : Scope) : List Nat → List Expr → Bool
  | [], [] => true
  | i :: is, .Name x _ :: ts => tgtB N sc i x && namesB N sc is ts
  | _, _ => false
theorem g_names (c : Cz X N sc k) (hf : ∀ y, X.fn y = true) : ∀ {is : List Nat} {ts : List Expr}, namesB N sc is ts = true → PGs X ts (gNames is)
  | [], [], _ => pgs_nil
  | i :: is, t :: ts, h => by
    unfold namesB at h
    split at h
    · rename_i h1 h2
      cases h1
    · rename_i h1 h2
      cases h1
      cases h2
      rw [Bool.and_eq_true] at h
      obtain ⟨u, v, w⟩ := c.tgt h.1
      exact pgs_cons (pg_name u v w (.inl (hf _))) (g_names c hf h.2) rfl
    · cases h
  | [], _ :: _, h => by simp [namesB] at h
  | _ :: _, [], h => by simp [namesB] at h
theorem s_parG {es ts : List Expr} {kt : Nat} {pt pt2 : Pos} {bs : BC} {x1} (c : Cz X N sc k) (hf : ∀ y, X.fn y = true) (is : List Nat) (h : namesB N sc is ts = true) (ha : PBp X es bs) (hz : is.length ≤ sizeLine := by decide)
    (hn : (assignEach ts X.env).length = is.length := by rfl) (hst : (assignEach ts X.env).findIdx? (·.1) = none := by rfl)
    (hs : swapsWithSole [.Tuple ts kt pt] (.Tuple es x1 pt2) pos.line (envSc sc) = pure false := by rfl) (hw : swappedStores [.Tuple ts kt pt] (.Tuple es x1 pt2) (envSc sc) = pure none := by rfl) (h1 : (assignEach [.Tuple ts kt pt] X.env).map (·.2) = [assign (.Tuple ts kt pt) X.env] := by rfl) :
    PSb X κ (.Assign [.Tuple ts kt pt] (.Tuple es x1 pt2) pos) (sPar is bs) :=
  ss_parG c.calm ha (g_names c hf h) hz hn hst ((swapS_eq (env' := envSc sc) c.sc).trans hs) ((swapped_eq (env' := envSc sc) c.sc).trans hw) h1
/-! comprehensions -/
section
variable {elt tg iter : Expr} {ifs : List Expr} {scope : Scope} {wi : BI} {pt : BP} {t : BT} {b : BX} {spos : Pos}
theorem q_lc (c : Cz X N sc k) (own : List (Str × Nat)) (ok : blkC N sc scope own = true) (sub : S.all (fun j => decide (j ∈ own.map (·.2))) = true) (nd : decide N.Nodup = true) (hi : PIb X tg iter wi)
    (hg : ∀ (s : Shared) (H : Hp) (C : Addr) (cl : List (Str × Addr)) (fp : List Addr), PGb (X.blk s H scope (compEnvC scope cl C X.env) fp) S tg pt) (ht : ∀ (s : Shared) (H : Hp) (C : Addr) (cl : List (Str × Addr)) (fp : List Addr), PTs (X.blk s H scope (compEnvC scope cl C X.env) fp) ifs (Tt t))
    (he : ∀ (s : Shared) (H : Hp) (C : Addr) (cl : List (Str × Addr)) (fp : List Addr), PB (X.blk s H scope (compEnvC scope cl C X.env) fp) .e elt b) (hs : ∀ x, foldedSetIterable iter X.env x = pure x := by intro _; rfl) :
    PB X .l (.ListComp elt [⟨tg, iter, ifs, 0⟩] scope pos) (bLc wi (own.map (·.2)) pt t b) :=
  pb_lc c.calm (by rw [c.N]; exact of_decide_eq_true nd) (by rw [c.N, c.sc]; exact blkOk_by ok) (fun j hj => of_decide_eq_true (List.all_eq_true.mp sub j hj)) hi hg ht he hs
def setLcB (N : List Str) (sc : Scope) (i : Nat) (y : Str) : Bool := decide (N[i]? = some y) && decide (sc.names.lookup y = some .local) && decide N.Nodup
theorem s_setLc {y : Str} {py : Pos} (c : Cz X N sc k) (i : Nat) (hy : setLcB N sc i y = true) (own : List (Str × Nat)) (ok : blkC N sc scope own = true) (sub : S.all (fun j => decide (j ∈ own.map (·.2))) = true) (hi : PIb X tg iter wi)
    (hg : ∀ (s : Shared) (H : Hp) (C : Addr) (cl : List (Str × Addr)) (fp : List Addr), PGb (X.blk s H scope (compEnvC scope cl C X.env) fp) S tg pt) (ht : ∀ (s : Shared) (H : Hp) (C : Addr) (cl : List (Str × Addr)) (fp : List Addr), PTs (X.blk s H scope (compEnvC scope cl C X.env) fp) ifs (Tt t))
    (he : ∀ (s : Shared) (H : Hp) (C : Addr) (cl : List (Str × Addr)) (fp : List Addr), PB (X.blk s H scope (compEnvC scope cl C X.env) fp) .e elt b)
    (hsw : swapsWith (.ListComp elt [⟨tg, iter, ifs, 0⟩] scope pos) (some (.Name y py)) spos.line (envSc sc) = pure true := by rfl) (hs : ∀ x, foldedSetIterable iter X.env x = pure x := by intro _; rfl) :
    PSb X κ (.Assign [.Name y py] (.ListComp elt [⟨tg, iter, ifs, 0⟩] scope pos) spos) (sSetL i (bLc wi (own.map (·.2)) pt t b)) := by
  unfold setLcB at hy
  simp only [Bool.and_eq_true, decide_eq_true_eq] at hy
  obtain ⟨⟨h1, h2⟩, h3⟩ := hy
  exact ss_setLc c.calm (by rw [c.N]; exact h3) (by rw [c.N]; exact h1) (by rw [c.sc]; exact h2) ((swap_eq (env' := envSc sc) c.sc).trans hsw) (by rw [c.N, c.sc]; exact blkOk_by ok) (fun j hj => of_decide_eq_true (List.all_eq_true.mp sub j hj)) hi hg ht he hs
end
/-! loops -/
theorem s_for {tg iter : Expr} {body : List Stmt} {bi : BI} {sb : BS} (c : Cz X N sc k) (hi : PIb X tg iter bi) (hg : PGb X S tg pp) (hb : PSsb X κ body sb) (hs : ∀ x, foldedSetIterable iter X.env x = pure x := by intro _; rfl) : PSb X κ (.For tg iter body [] pos) (sFor bi pp sb) := ss_for c.po c.calm hi hg hb hs
theorem s_while {cc : Expr} {tc : BT} {body : List Stmt} {sb : BS} (c : Cz X N sc k) (hc : PBt X cc tc) (hb : PSsb X κ body sb) : PSb X κ (.While cc body [] pos) (sWhile tc sb) := ss_while c.po hc hb
end
end BV

/-! BV, twelfth part: a dict of lists that grows by setdefault and append. -/
namespace BV
open PySem PySem.Spec L2

/-! ### d.setdefault(k, x) -/
def tSetd (td ty tx : TE) : TE := fun σ H Q => td σ H fun x H1 => ∃ a, x = .ref a ∧ IsD H1 a ∧ ty σ H1 fun y H2 => tx σ H2 fun z H3 => ∃ kvs k, H3 a = some (.dK kvs) ∧ y = kV k ∧ kvs.length < sizeLine ∧
  (∀ v, valV kvs k = some v → Q v H3) ∧ (valV kvs k = none → Q z (upd H3 a (.dK (putK kvs k z))))
theorem pe_setd {X : Cx} {o e f : Expr} {apos cpos : Pos} {td ty tx : TE} (ho : PE X o td) (he : PE X e ty) (hf : PE X f tx) (m : M2 X o "setdefault" apos e f cpos) : PE X (.Call (.Attribute o "setdefault" apos) [e, f] [] cpos) (tSetd td ty tx) := by
  refine ⟨fun pins s σ H Q I h => ?_⟩
  refine wpAny_Call_method m.base m.few m.line PySem.F.plainAttrs_dict PySem.F.slot_dict_setdefault PySem.F.type_dict_setdefault (thn (ho.run pins s σ H _ I h) fun u s1 ⟨x, H1, I1, rx, a, ex, d, q1⟩ => ?_)
  subst ex
  obtain rfl : u = Value.ref a := rx
  obtain ⟨t1, t2, _⟩ := isD_at I1 d
  refine ⟨t1, t2, ?_⟩
  rw [m.trees]
  refine Calls.callWith_builtin rfl (Calls.evalArgs_plain (Calls.spliced_cons (thn (he.run pins s1 σ H1 _ I1 q1) fun iv s2 ⟨y, H2, I2, ry, q2⟩ =>
    Calls.spliced_cons (thn (hf.run pins s2 σ H2 _ I2 q2) fun fv s3 ⟨z, H3, I3, rz, kvs, k, ea, ey, hl, w1, w2⟩ => Calls.spliced_nil ?_))))
  subst ey
  obtain ⟨zz, hd, vs0, rel, dd⟩ := dk_of I3.hok ea
  have hz : vs0.length ≤ sizeLine := by rw [← rel.length]; exact zz
  refine call_meetsIn PySem.F.slot_dict_setdefault dd.typeIs PySem.F.entry_dict_setdefault (PySem.F.args_dict_setdefault_3 _ _ _) (kt_meets_setdefault (mixKind X.prog X.w) a (kV_is ry) hd fv) ⟨vs0, dd, hz, fun u hu => ?_, fun hn h' dd' hs => ?_⟩
  · have rr := rel.val k
    rw [hu] at rr
    cases hv : valV kvs k with
    | none => rw [hv] at rr; exact False.elim rr
    | some x =>
      rw [hv] at rr
      exact (⟨x, H3, I3.tok _, rr, w1 x hv⟩ : EP X pins σ Q u _)
  · have rr := rel.val k
    rw [hn] at rr
    cases hv : valV kvs k with
    | some x => rw [hv] at rr; exact False.elim rr
    | none =>
      have hl2 : (putK kvs k z).length ≤ sizeLine := by have := length_putK kvs k z; omega
      exact (⟨z, _, d_write (t' := s3.toks + 1) I3 (by rw [ea]; exact True.intro) hs (let ⟨q, _, _, hq, _⟩ := dd'; ⟨q, hq⟩) (dk_new hl2 hd (rel.put k rz) dd'), rz, w2 hv⟩ : EP X pins σ Q _ _)

/-! ### the state -/
abbrev Tab := List (D × List D)
inductive DL (B H0 H : Hp) (a : Addr) : List (Key × V) → Tab → Prop
  | nil : DL B H0 H a [] []
  | cons {k : Key} {l : Addr} {ds : List D} {kvs : List (Key × V)} {ps : Tab} : H0 l = none → B l = none → LstAt B (H l) ds → l ≠ a → (∀ p ∈ kvs, p.2 ≠ .ref l) → DL B H0 H a kvs ps → DL B H0 H a ((k, .ref l) :: kvs) ((kD k, ds) :: ps)
def getT : Tab → D → Option (List D)
  | [], _ => none
  | p :: r, k => if kEq p.1 k = true then some p.2 else getT r k
def setT : Tab → D → List D → Tab
  | [], _, _ => []
  | p :: r, k, ds => if kEq p.1 k = true then (p.1, ds) :: r else p :: setT r k ds
/-- setdefault(k, []).append(d) -/
def sdT (ps : Tab) (k d : D) : Tab := match getT ps k with
  | some ds => setT ps k (ds ++ [d])
  | none => ps ++ [(k, [d])]
theorem DL.len {B H0 H : Hp} {a : Addr} {kvs : List (Key × V)} {ps : Tab} (h : DL B H0 H a kvs ps) : kvs.length = ps.length := by
  induction h with
  | nil => rfl
  | cons _ _ _ _ _ _ ih => simp [ih]
theorem DL.move {B H0 H B' H' : Hp} {a : Addr} {kvs : List (Key × V)} {ps : Tab} (h : DL B H0 H a kvs ps) (s : Same B B') (hb : ∀ l, H0 l = none → B l = none → H l ≠ none → B' l = none) (hh : ∀ l o, H0 l = none → l ≠ a → H l = some o → H' l = some o) : DL B' H0 H' a kvs ps := by
  induction h with
  | nil => exact .nil
  | cons h0 hbl l ne nr _ ih =>
    obtain ⟨xs, e, z, il⟩ := l
    exact .cons h0 (hb _ h0 hbl (by rw [e]; simp)) ⟨xs, hh _ _ h0 ne e, z, il.mono s⟩ ne nr ih
/-- one list rewritten -/
theorem DL.upd {B H0 H : Hp} {a l : Addr} {xs : List V} {es : List D} {kvs : List (Key × V)} {ps : Tab} (h : DL B H0 H a kvs ps) (z : xs.length ≤ sizeLine) (il : IsL B xs es) (k : Key) (hv : valV kvs k = some (.ref l)) : DL B H0 (L2.upd H l (.lst xs)) a kvs (setT ps (kD k) es) := by
  induction h with
  | nil => cases hv
  | @cons k' l' ds kvs ps h0 hb lst ne nr t ih =>
    by_cases e : k' = k
    · rw [valV_pos e] at hv
      cases hv
      unfold setT
      rw [if_pos (by rw [kEq_kD]; exact decide_eq_true e)]
      refine .cons h0 hb ⟨xs, upd_same, z, il⟩ ne nr ?_
      clear ih
      induction t with
      | nil => exact .nil
      | @cons k2 l2 ds2 kvs2 ps2 h0' hb' l'' ne' nr' _ ih' =>
        have hne : l2 ≠ l := fun e => nr (k2, .ref l2) List.mem_cons_self (by rw [e])
        exact .cons h0' hb' (by rw [upd_ne hne]; exact l'') ne' nr' (ih' (fun p hp => nr p (List.mem_cons_of_mem _ hp)))
    · rw [valV_neg e] at hv
      unfold setT
      rw [if_neg (by rw [kEq_kD]; simpa using e)]
      have hl : l' ≠ l := by
        intro el
        obtain ⟨p, hp, hp2⟩ : ∃ p ∈ kvs, p.2 = .ref l := by
          unfold valV at hv
          cases hf : kvs.find? (fun kv => decide (kv.1 = k)) with
          | none => rw [hf] at hv; cases hv
          | some p => rw [hf] at hv; exact ⟨p, List.mem_of_find?_eq_some hf, Option.some.inj hv⟩
        exact nr p hp (by rw [hp2, el])
      exact .cons h0 hb (by rw [upd_ne hl]; exact lst) ne nr (ih hv)
theorem DL.find {B H0 H : Hp} {a : Addr} {kvs : List (Key × V)} {ps : Tab} (h : DL B H0 H a kvs ps) (k : Key) : (∃ l ds, valV kvs k = some (.ref l) ∧ getT ps (kD k) = some ds ∧ H0 l = none ∧ B l = none ∧ LstAt B (H l) ds ∧ l ≠ a) ∨ (valV kvs k = none ∧ getT ps (kD k) = none) := by
  induction h with
  | nil => exact .inr ⟨rfl, rfl⟩
  | @cons k' l' ds kvs ps h0 hb lst ne nr t ih =>
    by_cases e : k' = k
    · refine .inl ⟨l', ds, valV_pos e, ?_, h0, hb, lst, ne⟩
      unfold getT
      rw [if_pos (by rw [kEq_kD]; exact decide_eq_true e)]
    · have e2 : ¬ kEq (kD k') (kD k) = true := by rw [kEq_kD]; simpa using e
      rcases ih with ⟨l, es, q1, q2, q3⟩ | ⟨q1, q2⟩
      · exact .inl ⟨l, es, by rw [valV_neg e]; exact q1, by unfold getT; rw [if_neg e2]; exact q2, q3⟩
      · exact .inr ⟨by rw [valV_neg e]; exact q1, by unfold getT; rw [if_neg e2]; exact q2⟩
theorem DL.snoc {B H0 H : Hp} {a l : Addr} {ds : List D} {kvs : List (Key × V)} {ps : Tab} (h : DL B H0 H a kvs ps) (k : Key) (h0 : H0 l = none) (hb : B l = none) (lst : LstAt B (H l) ds) (ne : l ≠ a) (nr : ∀ p ∈ kvs, p.2 ≠ .ref l) : DL B H0 H a (kvs ++ [(k, .ref l)]) (ps ++ [(kD k, ds)]) := by
  induction h with
  | nil => exact .cons h0 hb lst ne (by simp) .nil
  | @cons k' l' ds' kvs ps h0' hb' lst' ne' nr' t ih =>
    refine .cons h0' hb' lst' ne' (fun p hp => ?_) (ih fun p hp => nr p (List.mem_cons_of_mem _ hp))
    rcases List.mem_append.mp hp with hp | hp
    · exact nr' p hp
    · simp at hp
      subst hp
      intro e
      exact nr (k', .ref l') List.mem_cons_self e.symm
theorem DL.refs {B H0 H : Hp} {a l : Addr} {kvs : List (Key × V)} {ps : Tab} (h : DL B H0 H a kvs ps) (hn : H l = none) : ∀ p ∈ kvs, p.2 ≠ .ref l := by
  induction h with
  | nil => simp
  | cons h0 hb lst ne nr t ih =>
    intro p hp e
    rcases List.mem_cons.mp hp with rfl | hp
    · cases e
      exact lst.ne hn
    · exact ih p hp e

structure RepD (G : Jr) (B0 H0 : Hp) (i : Nat) (σ : L2.St) (H : Hp) (ρ : En) (B : Hp) (ps : Tab) : Prop where
  r : Rep G B0 H0 σ H ρ B
  no : ∀ (j : Nat) (c : Cell), ρ[j]? = some c → c.mine = false
  d : ∃ a kvs, σ[i]? = some (some (.ref a)) ∧ H0 a = none ∧ B a = none ∧ H a = some (.dK kvs) ∧ DL B H0 H a kvs ps
theorem RepD.step {G : Jr} {B0 H0 B H B' H' : Hp} {i : Nat} {σ : L2.St} {ρ : En} {ps : Tab} (r : RepD G B0 H0 i σ H ρ B ps) (y : Ext G B H B' H') (g : Gd G B' H') : RepD G B0 H0 i σ H' ρ B' ps := by
  obtain ⟨a, kvs, e1, h0, hb, e2, dl⟩ := r.d
  have nj := r.r.g0.njf h0
  exact ⟨r.r.step y g, r.no, a, kvs, e1, h0, y.n a hb (by rw [e2]; simp), y.h a _ nj e2, dl.move y.b (fun l h0 hb hn => y.n l hb hn) fun l o h0 ne e => y.h l o (r.r.g0.njf h0) e⟩
/-- a heap that differs only at objects of one's own -/
theorem Rep.own1 {G : Jr} {B0 H0 B H H' : Hp} {σ : L2.St} {ρ : En} (r : Rep G B0 H0 σ H ρ B) (no : ∀ (j : Nat) (c : Cell), ρ[j]? = some c → c.mine = false) (g : Gd G B H') (x : Ext G B0 H0 B H') : Rep G B0 H0 σ H' ρ B := by
  refine ⟨r.g0, g, x, r.len, fun j c hc => ?_, r.ap⟩
  have m := no j c hc
  have z := r.at_ j c hc
  cases c with
  | no => trivial
  | val d => exact z
  | own ds => cases m
  | dic t ds => cases m
  | bor ds => exact z
  | bdic t ds => exact z
  | jar k => exact z
  | scr K ns => exact z
theorem Gd.off {G : Jr} {B H : Hp} {a : Addr} {o : HO} (g : Gd G B H) (hb : B a = none) (j : ¬ G.J a) : Gd G B (upd H a o) :=
  ⟨fun b u e => by rw [upd_ne (ne_of_none e hb)]; exact g.sub b u e, G.loc H _ (fun b hj => by rw [upd_ne (fun e => j (show G.J a by rw [← e]; exact hj))]) g.ok, g.nj⟩
theorem Ext.off {G : Jr} {B0 H0 B H : Hp} {a : Addr} {o : HO} (x : Ext G B0 H0 B H) (h0 : H0 a = none) : Ext G B0 H0 B (upd H a o) :=
  ⟨x.b, fun b u nj e => by rw [upd_ne (ne_of_none e h0)]; exact x.h b u nj e, x.n⟩

/-! ### statements -/
abbrev BSd := En → Tab → (En → Tab → Prop) → (D → Prop) → Prop
def TsD (i : Nat) (κ : Kd) (s : BSd) : TS := fun Dn σ H => ∃ G B0 H0 ρ B ps nx rt, RepD G B0 H0 i σ H ρ B ps ∧ s ρ ps nx rt ∧
  (∀ σ' H' ρ' B' ps', RepD G B0 H0 i σ' H' ρ' B' ps' → Same B B' → nx ρ' ps' → Dn.nx σ' H') ∧
  (∀ v d B' H', Gd G B' H' → Ext G B0 H0 B' H' → Ok κ G H0 B' H' v d → rt d → Dn.rt v H')
section
variable {X : Cx} {κ : Kd} {i : Nat} {st : Stmt} {sts : List Stmt} {s t : BSd} {o e k : Expr} {pos p1 p2 p3 p4 p5 : Pos} {bk be : BX}
def dNext : BSd := fun ρ ps nx _ => nx ρ ps
def dSeq (s t : BSd) : BSd := fun ρ ps nx rt => s ρ ps (fun ρ' ps' => t ρ' ps' nx rt) rt
theorem sd_nil : PSs X [] (TsD i κ dNext) := PSs.mono pss_nil fun D σ H ⟨G, B0, H0, ρ, B, ps, nx, rt, r, q, k1, k2⟩ => k1 _ _ _ _ _ r (.refl _) q
theorem sd_cons (h : PS X st (TsD i κ s)) (hs : PSs X sts (TsD i κ t)) : PSs X (st :: sts) (TsD i κ (dSeq s t)) := PSs.mono (pss_cons h hs) fun D σ H ⟨G, B0, H0, ρ, B, ps, nx, rt, r, q, k1, k2⟩ =>
  ⟨G, B0, H0, ρ, B, ps, _, rt, r, q, fun σ' H' ρ' B' ps' r' m q' => ⟨G, B0, H0, ρ', B', ps', nx, rt, r', q', fun σ2 H2 ρ2 B2 ps2 r2 m2 q2 => k1 _ _ _ _ _ r2 (m.trans m2) q2, k2⟩, k2⟩
theorem getT_snoc {ps : Tab} {key : Key} {ds : List D} (h : getT ps (kD key) = none) : getT (ps ++ [(kD key, ds)]) (kD key) = some ds := by
  induction ps with
  | nil => simp [getT, kEq_kD]
  | cons p r ih =>
    unfold getT at h
    rw [List.cons_append]
    unfold getT
    by_cases e : kEq p.1 (kD key) = true
    · rw [if_pos e] at h; cases h
    · rw [if_neg e] at h ⊢; exact ih h
theorem setT_snoc {ps : Tab} {key : Key} {ds : List D} (h : getT ps (kD key) = none) (es : List D) : setT (ps ++ [(kD key, ds)]) (kD key) es = ps ++ [(kD key, es)] := by
  induction ps with
  | nil => simp [setT, kEq_kD]
  | cons p r ih =>
    unfold getT at h
    rw [List.cons_append]
    unfold setT
    by_cases e : kEq p.1 (kD key) = true
    · rw [if_pos e] at h; cases h
    · rw [if_neg e] at h ⊢; rw [ih h]; rfl
/-- the append, the list being found at l -/
theorem sd_fin {G : Jr} {B0 H0 B B1 H3 : Hp} {σ : L2.St} {ρ : En} {ps3 : Tab} {Dn : Ends} {nx : En → Tab → Prop} {key : Key} {a l : Addr} {ds : List D} {kvs : List (Key × V)} {vref : V} (he : PB X .e e be) (hs : starEach [e] X.env = (false, eval e X.env) :: starEach [] X.env)
    (k1 : ∀ σ' H' ρ' B' ps', RepD G B0 H0 i σ' H' ρ' B' ps' → Same B B' → nx ρ' ps' → Dn.nx σ' H') (r3 : RepD G B0 H0 i σ H3 ρ B1 ps3) (sm : Same B B1) (e1 : σ[i]? = some (some (.ref a))) (ed : H3 a = some (.dK kvs)) (f1 : valV kvs key = some (.ref l)) (f2 : getT ps3 (kD key) = some ds) (l0 : H0 l = none) (hsz : ds.length < sizeLine)
    (q1 : be ρ fun d => nx ρ (setT ps3 (kD key) (ds ++ [d]))) (ev : vref = .ref l) : Td (bCons be bNil) σ H3 (fun xs H2 => rAppend vref xs H2 (fun _ H' => Dn.nx σ H')) := by
  subst ev
  refine ⟨G, B0, H0, ρ, B1, (fun es => only1 es fun d => nx ρ (setT ps3 (kD key) (ds ++ [d]))), r3.r, q1, fun vs es B4 H4 y4 g4 il q4 => ?_⟩
  obtain ⟨d, rfl, q4⟩ := of_only1 q4
  obtain ⟨v, rfl, iv⟩ := isL1 il
  have r4 := r3.step y4 g4
  obtain ⟨a', kvs', e1', h0, hb, ed', dl⟩ := r4.d
  rw [e1] at e1'; cases e1'
  have ek : kvs' = kvs := by
    have := y4.h a _ (r3.r.g0.njf h0) ed
    rw [this] at ed'; cases ed'; rfl
  subst ek
  rcases dl.find key with ⟨l', ds', v1, v2, v3, v4, v5, v6⟩ | ⟨v1, _⟩
  · rw [f1] at v1
    cases v1
    rw [f2] at v2
    cases v2
    obtain ⟨xs, ex, z, ix⟩ := v5
    rw [← ix.len] at hsz
    refine ⟨l, xs, v, rfl, rfl, ex, hsz, k1 _ _ _ _ _ ⟨r4.r.own1 r4.no (g4.off v4 (r3.r.g0.njf l0)) (r4.r.x.off l0), r4.no, a, kvs', e1, h0, hb, ?_, ?_⟩ (sm.trans y4.b) q4⟩
    · rw [upd_ne (Ne.symm v6)]; exact ed'
    · exact dl.upd (by simp; omega) (ix.app (.cons iv .nil)) key f1
  · rw [f1] at v1; cases v1
/-- found.setdefault(k, []).append(e) -/
def dSd (bk be : BX) : BSd := fun ρ ps nx _ => bk ρ fun kd => (∃ key, kd = kD key) ∧ ps.length < sizeLine ∧ (∀ ds, getT ps kd = some ds → ds.length < sizeLine) ∧ be ρ fun d => nx ρ (sdT ps kd d)
theorem sd_app (ho : PE X o (tVar i)) (hk : PB X .e k bk) (he : PB X .e e be) (m : M2 X o "setdefault" p1 k (.List [] p2) p3)
    (hsw : swapsWith (.Call (.Attribute (.Call (.Attribute o "setdefault" p1) [k, .List [] p2] [] p3) "append" p4) [e] [] p5) none pos.line X.env = pure false := by rfl)
    (hbase : attributeBase (.Call (.Attribute o "setdefault" p1) [k, .List [] p2] [] p3) "append" X.env (eval (.Call (.Attribute o "setdefault" p1) [k, .List [] p2] [] p3) X.env) = eval (.Call (.Attribute o "setdefault" p1) [k, .List [] p2] [] p3) X.env := by rfl)
    (hfew : ((backTo p5 (starEach [e] X.env)).all (fun x => !x.1) && (backToKw p5 (keywordEach [] X.env)).all (fun x => x.1.isSome)
      && decide (([e] : List Expr).length + ([] : List Keyword).length + (if ([] : List Keyword).isEmpty then 0 else 1) < 30)) = true := by rfl)
    (hline : (p4.endLine == p5.line) = true := by rfl) (hs : starEach [e] X.env = (false, eval e X.env) :: starEach [] X.env := by rfl) :
    PS X (.Expr (.Call (.Attribute (.Call (.Attribute o "setdefault" p1) [k, .List [] p2] [] p3) "append" p4) [e] [] p5) pos) (TsD i κ (dSd bk be)) :=
  PS.mono (ps_expr (pe_bm PySem.F.plainAttrs_list PySem.F.slot_list_append PySem.F.type_list_append mt_append (pe_setd ho hk (pe_lst pa_nil) m) (pd_cons he pd_nil hs) hbase hfew hline hs rfl) hsw) fun Dn σ H ⟨G, B0, H0, ρ, B, ps, nx, rt, r, q, k1, k2⟩ => by
    obtain ⟨a, kvs, e1, h0, hb, e2, dl⟩ := r.d
    refine ⟨_, e1, a, rfl, .inl ⟨kvs, .inl e2⟩, G, B0, H0, ρ, B, _, r.r, q, fun y kd B1 H1 y1 g1 ik q1 => ?_⟩
    obtain ⟨⟨key, rfl⟩, hz1, hz2, q1⟩ := q1
    have r1 := r.step y1 g1
    refine ⟨Nat.zero_le _, fun l hl => ?_⟩
    have gl := g1.junk (o := .lst []) hl
    have yl : Ext G B1 H1 B1 (upd H1 l (.lst [])) := .junk hl
    have r2 := r1.step yl gl
    have hlB : B1 l = none := g1.nb hl
    have hl0 : H0 l = none := r1.r.x.back r1.r.g hl
    have hnr : ∀ kvs, H1 a = some (.dK kvs) → DL B1 H0 H1 a kvs ps → ∀ p ∈ kvs, p.2 ≠ .ref l := fun kvs _ dl => dl.refs hl
    obtain ⟨a1, kvs1, e1', _, hb1, ed1, dl1⟩ := r1.d
    rw [e1] at e1'; cases e1'
    have nl : l ≠ a := fun z => by rw [z] at hl; rw [hl] at ed1; cases ed1
    obtain ⟨a2, kvs2, e1'', _, hb2, ed2, dl2⟩ := r2.d
    rw [e1] at e1''; cases e1''
    have ek : kvs2 = kvs1 := by
      rw [upd_ne (Ne.symm nl), ed1] at ed2
      cases ed2; rfl
    subst ek
    refine ⟨kvs2, key, ed2, is_kD ik, by rw [dl2.len]; exact hz1, fun v hv => ?_, fun hv => ?_⟩
    · rcases dl2.find key with ⟨l', ds, f1, f2, f3, f4, f5, f6⟩ | ⟨f1, _⟩
      · rw [f1] at hv
        cases hv
        have hne : l' ≠ l := fun z => (hnr kvs2 ed1 dl1 (key, .ref l') (by
          have := f1
          unfold valV at this
          cases hf : kvs2.find? (fun kv => decide (kv.1 = key)) with
          | none => rw [hf] at this; cases this
          | some p =>
            rw [hf] at this
            have h1 := List.mem_of_find?_eq_some hf
            have h2 := List.find?_some hf
            simp at h2
            obtain ⟨p1, p2⟩ := p
            simp at h2
            subst h2
            have h3 : p2 = .ref l' := Option.some.inj this
            rw [← h3]; exact h1)) (by rw [z])
        obtain ⟨xs0, fx, _, _⟩ := f5
        refine ⟨.inl ⟨rfl, xs0, .of fx⟩, ?_⟩
        refine sd_fin he hs k1 r2 y1.b e1 ed2 f1 f2 f3 (hz2 ds f2) (q1 := ?_) rfl
        show be ρ fun d => nx ρ (setT ps (kD key) (ds ++ [d]))
        have : sdT ps (kD key) = fun d => setT ps (kD key) (ds ++ [d]) := by
          funext d; unfold sdT; rw [f2]
        rw [this] at q1
        exact q1
      · rw [f1] at hv; cases hv
    · rcases dl2.find key with ⟨l', ds, f1, f2, f3⟩ | ⟨_, f2⟩
      · rw [f1] at hv; cases hv
      · have r3 : RepD G B0 H0 i σ (upd (upd H1 l (.lst [])) a (.dK (putK kvs2 key (.ref l)))) ρ B1 (ps ++ [(kD key, [])]) := by
          refine ⟨r2.r.own1 r2.no (gl.off hb1 (r.r.g0.njf h0)) (r2.r.x.off h0), r2.no, a, putK kvs2 key (.ref l), e1, h0, hb1, upd_same, ?_⟩
          rw [putK_new _ hv]
          have dl3 : DL B1 H0 (upd (upd H1 l (.lst [])) a (.dK (kvs2 ++ [(key, .ref l)]))) a kvs2 ps := dl2.move (.refl _) (fun l _ h _ => h) fun l' o _ ne e => by rw [upd_ne ne]; exact e
          exact dl3.snoc key hl0 hlB ⟨[], by rw [upd_ne nl, upd_same], Nat.zero_le _, .nil⟩ nl (hnr kvs2 ed1 dl1)
        have hv3 : valV (putK kvs2 key (.ref l)) key = some (.ref l) := by rw [valV_put, if_pos rfl]
        have hg3 : getT (ps ++ [(kD key, [])]) (kD key) = some [] := getT_snoc f2
        refine ⟨.inl ⟨rfl, [], .of (by rw [upd_ne nl, upd_same])⟩, ?_⟩
        refine sd_fin he hs k1 r3 y1.b e1 upd_same hv3 hg3 hl0 (by decide) (q1 := ?_) rfl
        have : sdT ps (kD key) = fun d => setT (ps ++ [(kD key, [])]) (kD key) ([] ++ [d]) := by
          funext d; unfold sdT; rw [f2]; exact (setT_snoc f2 _).symm
        rw [this] at q1
        exact q1
/-! the loop -/
def noMine (ρ : En) : Bool := ρ.all fun c => !c.mine
theorem noMine_at {ρ : En} (h : noMine ρ = true) : ∀ (j : Nat) (c : Cell), ρ[j]? = some c → c.mine = false := fun j c e => by
  have := List.all_eq_true.mp h c (List.mem_of_getElem? e)
  simpa using this
def dForGo (p : BP) (s : BSd) : List D → BSd
  | [] => fun ρ ps nx _ => nx ρ ps
  | d :: r => fun ρ ps nx rt => p d ρ fun ρ' => noMine ρ' = true ∧ s ρ' ps (fun ρ'' ps'' => dForGo p s r ρ'' ps'' nx rt) rt
def dFor (b : BI) (p : BP) (s : BSd) : BSd := fun ρ ps nx rt => b ρ fun ds => dForGo p s ds ρ ps nx rt
theorem RepD.tgt {G : Jr} {B0 H0 B H : Hp} {σ σ' : L2.St} {ρ ρ' : En} {ps : Tab} (r : RepD G B0 H0 i σ H ρ B ps) (r' : Rep G B0 H0 σ' H ρ' B) (h : noMine ρ' = true) (e : σ'[i]? = σ[i]?) : RepD G B0 H0 i σ' H ρ' B ps := by
  obtain ⟨a, kvs, e1, q⟩ := r.d
  exact ⟨r', noMine_at h, a, kvs, by rw [e]; exact e1, q⟩
theorem sd_for {tg iter : Expr} {body : List Stmt} {b : BI} {p : BP} {s : BSd} {S : List Nat} (hp : PassesOwn (model X.prog X.w) X.A X.env X.xe) (hc : X.calm = true) (hi : PIb X tg iter b) (hg : PGb X S tg p) (hS : i ∉ S) (hb : PSs X body (TsD i κ s))
    (hs : ∀ x, foldedSetIterable iter X.env x = pure x := by intro _; rfl) : PS X (.For tg iter body [] pos) (TsD i κ (dFor b p s)) := PS.mono (ps_for hp hc hi hg hb hs) fun D σ H ⟨G, B0, H0, ρ, B, ps, nx, rt, r, q, k1, k2⟩ =>
  ⟨G, B0, H0, ρ, B, _, r.r, q, fun J ds B1 H1 y g w q1 => by
    refine ⟨fun n m σ' H' => ∃ ρ' B' ps', RepD G B0 H0 i σ' H' ρ' B' ps' ∧ Same B1 B' ∧ n ≤ ds.length ∧ m = ds.length - n ∧ dForGo p s (ds.drop n) ρ' ps' nx rt, ⟨ds.length, ρ, B1, ps, r.step y g, .refl _, Nat.zero_le _, rfl, q1⟩, ?_⟩
    rintro n m σ' H' ⟨ρ', B', ps', r', sm, hi, rfl, q'⟩
    by_cases hl : n < ds.length
    · refine .inr ⟨w.go n B' H' sm r'.r.g r'.r.x hl, fun σ2 H2 => ∃ ρ2 B2 ps2, RepD G B0 H0 i σ2 H2 ρ2 B2 ps2 ∧ Same B1 B2 ∧ dForGo p s (ds.drop (n + 1)) ρ2 ps2 nx rt, ?_, ?_⟩
      · rintro σ2 H2 ⟨ρ2, B2, ps2, r2, sm2, q2⟩
        exact ⟨ds.length - (n + 1), by omega, ρ2, B2, ps2, r2, sm2, hl, rfl, q2⟩
      · intro x H2 hy
        obtain ⟨B2, y2, g2, ix⟩ := w.yld n B' H' x H2 ds[n] sm r'.r.g r'.r.x (List.getElem?_eq_getElem hl) hy
        rw [List.drop_eq_getElem_cons hl] at q'
        have r2 := r'.step y2 g2
        refine ⟨G, B0, H0, ρ', B2, ds[n], _, r2.r, ix, q', fun σ3 ρ3 r3 _ hs3 q3 => ?_⟩
        exact ⟨G, B0, H0, ρ3, B2, ps', _, rt, r2.tgt r3 q3.1 (hs3 i hS), q3.2, fun σ4 H4 ρ4 B4 ps4 r4 m4 q4 => ⟨ρ4, B4, ps4, r4, sm.trans (y2.b.trans m4), q4⟩, k2⟩
    · have e : n = ds.length := by omega
      subst e
      refine .inl ⟨w.stop B' H' sm r'.r.g r'.r.x, ?_⟩
      rw [List.drop_length] at q'
      exact k1 _ _ _ _ _ r' (y.b.trans sm) q'⟩
/-! the end -/
def tabD (ps : Tab) : D := .dict (ps.map fun p => (p.1, .list p.2))
def dRet : BSd := fun ρ ps nx rt => rt (tabD ps)
theorem sd_ret (he : PE X e (tVar i)) : PSs X [.Return (some e) pos] (TsD i .e dRet) := PSs.mono (pss_lockR (pss_one (ps_ret he))) fun D σ H ⟨G, B0, H0, ρ, B, ps, nx, rt, r, q, k1, k2⟩ => by
  obtain ⟨a, kvs, e1, h0, hb, e2, dl⟩ := r.d
  refine .inr ⟨a, _, e2, trivial, fun od => ⟨_, e1, ?_⟩⟩
  have nj := r.r.g0.njf h0
  -- all lists told, the dict laid as it stands
  have key : ∀ (kvs : List (Key × V)) (ps : Tab), DL B H0 H a kvs ps → ∃ B1, Same B B1 ∧ (∀ c o, B1 c = some o → H c = some o) ∧ (∀ c, H0 c ≠ none → B c = none → B1 c = none) ∧ B1 a = none ∧ (∀ c, G.J c → B1 c = none) ∧ IsKV B1 kvs (ps.map fun p => (p.1, .list p.2)) := by
    intro kvs ps dl
    induction dl with
    | nil => exact ⟨B, .refl _, r.r.g.sub, fun _ _ h => h, hb, r.r.g.nj, .nil⟩
    | @cons k l ds kvs ps h0l hbl lst ne nr t ih =>
      obtain ⟨B1, s1, h1, n1, a1, j1, iv⟩ := ih
      obtain ⟨xs, ex, z, il⟩ := lst
      have hB1 : B1 l = none ∨ B1 l = some (.lst xs) := by
        cases q : B1 l with
        | none => exact .inl rfl
        | some o => exact .inr (by have := h1 l o q; rw [ex] at this; rw [this])
      have sm : Same B1 (upd B1 l (.lst xs)) := fun c o hc => by
        by_cases e : c = l
        · subst e
          rcases hB1 with h | h
          · rw [h] at hc; cases hc
          · rw [h] at hc; cases hc; exact upd_same
        · rw [upd_ne e]; exact hc
      refine ⟨upd B1 l (.lst xs), s1.trans sm, fun c o hc => ?_, fun c hc hbc => ?_, ?_, fun c jc => ?_, .cons (.lst upd_same z ((il.mono s1).mono sm)) (iv.mono sm)⟩
      · by_cases e : c = l
        · subst e; rw [upd_same] at hc; cases hc; exact ex
        · rw [upd_ne e] at hc; exact h1 c o hc
      · have : c ≠ l := fun e => hc (by rw [e]; exact h0l)
        rw [upd_ne this]; exact n1 c hc hbc
      · rw [upd_ne (Ne.symm ne)]; exact a1
      · have : c ≠ l := fun e => r.r.g0.njf h0l (by rw [← e]; exact jc)
        rw [upd_ne this]; exact j1 c jc
  obtain ⟨B1, s1, h1, n1, a1, j1, iv⟩ := key kvs ps dl
  have g1 : Gd G B1 H := ⟨h1, r.r.g.ok, j1⟩
  have sm : Same B1 (upd B1 a (.frz od (.dK kvs))) := same_tell a1
  refine k2 _ _ (upd B1 a (.frz od (.dK kvs))) _ (g1.put nj) ⟨r.r.x.b.trans (s1.trans sm), fun c o jc hc => ?_, fun c hc hh => ?_⟩ (show Is _ _ _ from .dK upd_same (iv.mono sm)) q
  · rw [upd_ne (ne_of_none hc h0)]; exact r.r.x.h c o jc hc
  · have : c ≠ a := fun e => hh (by rw [e]; exact h0)
    rw [upd_ne this]
    exact n1 c hh (r.r.x.n c hc hh)
/-! the beginning -/
theorem RepD.start {G : Jr} {B0 H0 B H : Hp} {σ : L2.St} {ρ : En} (r : Rep G B0 H0 σ H ρ B) (no : noMine ρ = true) {a : Addr} {kvs : List (Key × V)} {ps : Tab} (hi : i < ρ.length) (h0 : H0 a = none) (hb : B a = none) (e : H a = some (.dK kvs)) (dl : DL B H0 H a kvs ps) : RepD G B0 H0 i (σ.set i (some (.ref a))) H (ρ.set i .no) B ps := by
  refine ⟨?_, ?_, a, kvs, ?_, h0, hb, e, dl⟩
  · exact r.setC (c := .no) trivial fun m => by cases m
  · intro j c hc
    rw [get_set] at hc
    by_cases q : i = j
    · rw [if_pos q] at hc
      split at hc
      · cases hc; rfl
      · cases hc <;> rfl
    · rw [if_neg q] at hc; exact noMine_at no j c hc
  · rw [get_set, if_pos rfl, if_pos (by rw [← r.len]; exact hi)]
def dStart2 (i : Nat) (n1 n2 : Int) (s : BSd) : BS := fun ρ nx rt => (noMine ρ = true ∧ i < ρ.length) ∧ s (ρ.set i .no) [(.int n1, []), (.int n2, [])] (fun ρ' _ => nx ρ') rt
/-- found = {k1: [], k2: []} -/
theorem sd_start2 {x : Str} {pos' : Pos} {ka kb : Expr} {n1 n2 : Int} {s : BSd} {pa pb pd : Pos} (ha : PE X ka (tC (.int n1))) (hb : PE X kb (tC (.int n2))) (hne : n1 ≠ n2) (hN : X.N.Nodup) (hi : X.N[i]? = some x) (hx : Loc X.env.scope x) (hs : swapsWith (.Dict [some ka, some kb] [.List [] pa, .List [] pb] pd) (some (.Name x pos')) pos.line X.env = pure false) (hf : X.fn x = true ∨ X.env.scope.names.lookup x = some .local)
    (hr : PSs X sts (TsD i κ s)) : PSsb X κ (.Assign [.Name x pos'] (.Dict [some ka, some kb] [.List [] pa, .List [] pb] pd) pos :: sts) (dStart2 i n1 n2 s) :=
  PSs.mono (pss_cons (ps_set hN hi hx (pe_disp (pps_cons ha (pe_lst pa_nil) (pps_cons hb (pe_lst pa_nil) pps_nil)) rfl rfl (by simp) (show 2 ≤ 15 by decide)) hs hf) hr) fun D σ H ⟨G, B0, H0, ρ, B, nx, rt, r, ⟨⟨no, hlen⟩, q⟩, k1, k2⟩ => by
    intro p hp
    refine ⟨Nat.zero_le _, fun l1 hl1 => ⟨Nat.zero_le _, fun l2 hl2 => ?_⟩⟩
    have d1 : l1 ≠ p := fun e => by rw [e, upd_same] at hl1; cases hl1
    have d2 : l2 ≠ l1 := fun e => by rw [e, upd_same] at hl2; cases hl2
    have h1 : H l1 = none := by rw [upd_ne d1] at hl1; exact hl1
    have hl2' : (upd H p (.dK [])) l2 = none := by rw [upd_ne d2] at hl2; exact hl2
    have d3 : l2 ≠ p := fun e => by rw [e, upd_same] at hl2'; cases hl2'
    have h2 : H l2 = none := by rw [upd_ne d3] at hl2'; exact hl2'
    have gp := r.g.junk (o := .dK []) hp
    have g1 := gp.junk (o := .lst []) hl1
    have g2 := g1.junk (o := .lst []) hl2
    have y : Ext G B H B _ := ((Ext.junk (G := G) (B := B) (o := .dK []) hp).trans gp (.junk (o := .lst []) hl1)).trans g1 (.junk (o := .lst []) hl2)
    have r2 := r.step y g2
    refine ⟨by rw [upd_ne (Ne.symm d3), upd_ne (Ne.symm d1), upd_same], [(.inl n1, .ref l1), (.inl n2, .ref l2)], rfl, by simp, ?_⟩
    have bp := r.g.nb hp
    have b1 := r.g.nb h1
    have b2 := r.g.nb h2
    have z0 := r.x.back r.g hp
    have z1 := r.x.back r.g h1
    have z2 := r.x.back r.g h2
    have r3 := r2.own1 (noMine_at no) (g2.off (o := .dK (mergeK [] [(.inl n1, .ref l1), (.inl n2, .ref l2)])) bp (r.g0.njf z0)) (r2.x.off z0)
    have em : mergeK ([] : List (Key × V)) [(.inl n1, .ref l1), (.inl n2, .ref l2)] = [(.inl n1, .ref l1), (.inl n2, .ref l2)] := by
      have : ¬ n1 = n2 := hne
      simp [mergeK, putK, this]
    rw [em] at r3 ⊢
    refine ⟨G, B0, H0, _, B, _, _, rt, RepD.start r3 no hlen z0 bp upd_same ?_, q, fun σ' H' ρ' B' ps' r' m' q' => k1 _ _ _ _ r'.r m' q', k2⟩
    refine .cons z1 b1 ⟨[], by rw [upd_ne d1, upd_ne (Ne.symm d2), upd_same], Nat.zero_le _, .nil⟩ d1 (fun p hp => ?_) (.cons z2 b2 ⟨[], by rw [upd_ne d3, upd_same], Nat.zero_le _, .nil⟩ d3 (by simp) .nil)
    simp at hp
    subst hp
    intro e
    cases e
    exact d2 rfl
end
end BV

/-! BV, thirteenth part: what loops by value come to. -/
namespace BV
open PySem PySem.Spec L2
/-- a comprehension whose turns are plain -/
theorem lc_fm {α : Type} {p : BP} {t : BT} {b : BX} {ρ : En} (g : α → D) (f : α → Option D) : ∀ (l : List α) (Q : List D → Prop), (∀ x ∈ l, ∀ K : Option D → Prop, K (f x) → p (g x) ρ fun ρ' => t ρ' fun k => if k = true then b ρ' (fun y => K (some y)) else K none) →
    Q (l.filterMap f) → lcGo p t b ρ (l.map g) Q
  | [], Q, _, q => q
  | x :: l, Q, h, q => by
    have ih := fun Q' q' => lc_fm (p := p) (t := t) (b := b) (ρ := ρ) g f l Q' (fun y hy => h y (List.mem_cons_of_mem _ hy)) q'
    show p (g x) ρ fun ρ' => t ρ' fun k => if k = true then b ρ' (fun y => lcGo p t b ρ (l.map g) fun acc => Q (y :: acc)) else lcGo p t b ρ (l.map g) Q
    refine h x List.mem_cons_self (fun o => match o with
      | some y => lcGo p t b ρ (l.map g) fun acc => Q (y :: acc)
      | none => lcGo p t b ρ (l.map g) Q) ?_
    cases e : f x with
    | none =>
      rw [List.filterMap_cons_none e] at q
      exact ih _ q
    | some y =>
      rw [List.filterMap_cons_some e] at q
      exact ih _ q
/-- without a test -/
theorem lc_m {α : Type} {p : BP} {b : BX} {ρ : En} (g : α → D) (f : α → D) (l : List α) (Q : List D → Prop) (h : ∀ x ∈ l, ∀ K : D → Prop, K (f x) → p (g x) ρ fun ρ' => b ρ' K) (q : Q (l.map f)) : lcGo p tYesB b ρ (l.map g) Q := by
  refine lc_fm g (fun x => some (f x)) l Q (fun x hx K k => ?_) (by rw [show (fun x => some (f x)) = some ∘ f from rfl, List.filterMap_eq_map]; exact q)
  have := h x hx (fun y => K (some y)) k
  simpa [tYesB] using this
/-- a for loop, by an invariant over what is behind -/
theorem for_inv {α : Type} {p : BP} {s : BS} {nx : En → Prop} {rt : D → Prop} (g : α → D) (I : List α → En → Prop) : ∀ (l pre : List α) (ρ : En), I pre ρ →
    (∀ (pre : List α) (x : α) (ρ : En), I pre ρ → x ∈ l → ∀ nx' : En → Prop, (∀ ρ'', I (pre ++ [x]) ρ'' → nx' ρ'') → p (g x) ρ fun ρ' => s ρ' nx' rt) → (∀ ρ, I (pre ++ l) ρ → nx ρ) → forGo p s (l.map g) ρ nx rt
  | [], pre, ρ, h, _, k => k ρ (by simpa using h)
  | x :: l, pre, ρ, h, hs, k => hs pre x ρ h List.mem_cons_self _ fun ρ'' h2 =>
    for_inv g I l (pre ++ [x]) ρ'' h2 (fun pre y ρ h hy => hs pre y ρ h (List.mem_cons_of_mem _ hy)) (fun ρ h => k ρ (by simpa using h))
section
variable {xs : List D} {Q : D → Prop} {P : List D → Prop}
theorem oLen_l : oLen [.list xs] Q = Q (.int xs.length) := rfl
theorem oLen_t : oLen [.tuple xs] Q = Q (.int xs.length) := rfl
theorem oSeq_l : oSeq (.list xs) P = P xs := rfl
theorem oSeq_t : oSeq (.tuple xs) P = P xs := rfl
theorem oListOf_l : oListOf [.list xs] Q = Q (.list xs) := rfl
theorem oListOf_t : oListOf [.tuple xs] Q = Q (.list xs) := rfl
theorem oTupOf_l : oTupOf [.list xs] Q = Q (.tuple xs) := rfl
theorem oTupOf_t : oTupOf [.tuple xs] Q = Q (.tuple xs) := rfl
end
/-- a for loop, the whole list in view -/
theorem for_at {α : Type} {p : BP} {s : BS} {nx : En → Prop} {rt : D → Prop} (g : α → D) (I : List α → En → Prop) (l0 : List α) (hs : ∀ (pre : List α) (x : α) (post : List α) (ρ : En), l0 = pre ++ x :: post → I pre ρ → ∀ nx' : En → Prop, (∀ ρ'', I (pre ++ [x]) ρ'' → nx' ρ'') → p (g x) ρ fun ρ' => s ρ' nx' rt)
    (k : ∀ ρ, I l0 ρ → nx ρ) : ∀ (l pre : List α) (ρ : En), l0 = pre ++ l → I pre ρ → forGo p s (l.map g) ρ nx rt
  | [], pre, ρ, e, h => k ρ (by rw [e]; simpa using h)
  | x :: l, pre, ρ, e, h => hs pre x l ρ e h _ fun ρ'' h2 => for_at g I l0 hs k l (pre ++ [x]) ρ'' (by simpa using e) h2
theorem oEq_int {i j : Int} {Q : D → Prop} : oEq (.int i) (.int j) Q = Q (.bool (decide (i = j))) := by
  have e : PyData.eqv (.int i) (.int j) = decide (i = j) := by
    show (i == j) = _
    rw [Bool.eq_iff_iff]; simp
  unfold oEq
  rw [e]
  exact propext ⟨fun h => h.2, fun h => ⟨⟨rfl, rfl, rfl, rfl⟩, h⟩⟩
theorem oNe_int {i j : Int} {Q : D → Prop} : oNe (.int i) (.int j) Q = Q (.bool (!decide (i = j))) := by
  have e : PyData.eqv (.int i) (.int j) = decide (i = j) := by
    show (i == j) = _
    rw [Bool.eq_iff_iff]; simp
  unfold oNe
  rw [e]
  exact propext ⟨fun h => h.2, fun h => ⟨⟨rfl, rfl, rfl, rfl⟩, h⟩⟩
theorem perm_map_inv {α β : Type} (f : α → β) {l' : List β} {m : List β} (h : l'.Perm m) : ∀ {l : List α}, m = l.map f → ∃ k : List α, l' = k.map f ∧ k.Perm l := by
  induction h with
  | nil => intro l e; exact ⟨[], rfl, by cases l with | nil => exact .nil | cons a b => cases e⟩
  | @cons x l1 l2 _ ih =>
    intro l e
    cases l with
    | nil => cases e
    | cons a b =>
      simp at e
      obtain ⟨k, rfl, hk⟩ := ih e.2
      exact ⟨a :: k, by rw [e.1]; rfl, .cons a hk⟩
  | swap x y l1 =>
    intro l e
    cases l with
    | nil => cases e
    | cons a b =>
      cases b with
      | nil => simp at e
      | cons c b =>
        simp at e
        obtain ⟨rfl, rfl, rfl⟩ := e
        exact ⟨c :: a :: b, rfl, .swap a c b⟩
  | trans _ _ ih1 ih2 =>
    intro l e
    obtain ⟨k, e1, hk⟩ := ih2 e
    obtain ⟨k2, e2, hk2⟩ := ih1 e1
    exact ⟨k2, e2, hk2.trans hk⟩
theorem atI_c0 {α : Type} {a : α} {l : List α} : atI (a :: l) 0 = some a := atI_nat (j := 0) rfl
theorem atI_c1 {α : Type} {a b : α} {l : List α} : atI (a :: b :: l) 1 = some b := atI_nat (j := 1) rfl
theorem atI_c2 {α : Type} {a b c : α} {l : List α} : atI (a :: b :: c :: l) 2 = some c := atI_nat (j := 2) rfl
end BV

/-! BV, the law's entry, its promise being one of FnG's kind. -/
namespace BV
open PySem PySem.Spec PyProof.Rows L2
section
variable {P : Program} {w : World} {K : PySem.W.Frag} {mg mb : Str → Option Value} {k : Nat} {f0 a0 : Addr} {fd0 : FuncData} {x0 : Str} {sp0 : Sp} {s0 : Shared} {us0 : List Value} {ns0 : List Int}
/-- what the call is to reach -/
def Fine (s0 : Shared) (r : Result) (s' : Shared) : Prop := r = .ok (.ret (.bool true)) ∧ OldK s0.heap s'.heap ∧ s'.os = s0.os ∧ AllBare s'.gens
/-- the heap seen as H tells it: nothing, or the script's list alone -/
structure Seen (P : Program) (w : World) (K : PySem.W.Frag) (s0 : Shared) (a0 : Addr) (ns0 : List Int) (H : Hp) : Prop where
  only : Only H
  seq : SqL K H a0 (ns0.map V.int)
  ok : HOk P w H s0.heap
  at_ : ∀ b, H b ≠ none → b = a0
  out : H a0 ≠ none → K.lookup a0 = none
theorem seen_ex (kin : K.In s0.heap) (ha : s0.heap.get? a0 = some { cls := .type "list", data := .seq us0.toArray }) (hi : IntsAre us0 ns0) (hz : ns0.length ≤ sizeLine) : ∃ H, Seen P w K s0 a0 ns0 H := by
  have rv := vals_ints hi
  cases q : K.lookup a0 with
  | some o =>
    have e := (kin a0 o q).symm.trans ha
    cases e
    exact ⟨fun _ => none, fun _ => .inl rfl, .inr ⟨_, us0.toArray, _, q, rfl, rfl, rfl, by simpa [hi.length] using hz, by simpa using rv⟩, (fun b u z => nomatch (show (none : Option HO) = some u from z)), fun b z => (z rfl).elim, fun z => (z rfl).elim⟩
  | none =>
    let o : HO := .frz { cls := .type "list", data := .seq us0.toArray } (.lst (ns0.map V.int))
    let H : Hp := fun b => if b = a0 then some o else none
    have at0 : H a0 = some o := by simp [H]
    have off : ∀ b, b ≠ a0 → H b = none := fun b n => by simp [H, n]
    refine ⟨H, fun b => ?_, .inl (.inr ⟨_, at0⟩), fun b u z => ?_, fun b z => ?_, fun _ => q⟩
    · rcases Decidable.em (b = a0) with e | e
      · subst e; exact .inr ⟨_, _, at0⟩
      · exact .inl (off b e)
    · rcases Decidable.em (b = a0) with e | e
      · subst e
        rw [at0] at z
        cases z
        exact ⟨ha, by simpa using hz, us0, _, rv, ha⟩
      · rw [off b e] at z; cases z
    · rcases Decidable.em (b = a0) with e | e
      · exact e
      · exact (z (off b e)).elim
theorem law_callG (kin : K.In s0.heap) (nsm : s0.heap.Ns mainGlobals mg) (nsb : s0.heap.Ns builtinsNs mb) (boot : ∀ y : Str, y ≠ "__name__" → mb y = bootBuiltins y) (lim : s0.heap.NoLimit) (gn : s0.gens = #[])
    (ha : s0.heap.get? a0 = some { cls := .type "list", data := .seq us0.toArray }) (hi : IntsAre us0 ns0) (hz : ns0.length ≤ sizeLine) (room : Room k callerA)
    (F : ∀ base : Heap, K.In base → base.Ns mainGlobals mg → FnG P w K mg base CX0 k f0 fd0 [x0] sp0) (bind : ∀ (s : Shared) (u : Value), BindsTo s fd0 ⟨[u], []⟩ [(x0, u)])
    (hsp : ∀ H : Hp, Only H → SqL K H a0 (ns0.map V.int) → sp0 [.ref a0] H (fun v _ => v = .bl true) E0) : codeAny (model P w) callerA (.call (.ref f0) ⟨[.ref a0], []⟩) (Fine s0) s0 := by
  obtain ⟨H, S⟩ := seen_ex (P := P) (w := w) kin ha hi hz
  have keep : ∀ {b : Addr} {o : Obj}, s0.heap.get? b = some o → H b = none → (hidT s0.heap H).get? b = some o := fun e n => hidT_get e n
  have dict_off : ∀ {b : Addr} {o : Obj} {es : Array DictEntry} {ep : Nat}, s0.heap.get? b = some o → o.data = .dict es ep → H b = none := by
    intro b o es ep e d
    by_cases q : H b = none
    · exact q
    · have e2 := S.at_ b q
      subst e2
      rw [ha] at e
      cases e
      cases (show Data.seq us0.toArray _ = Data.dict es ep from d)
  have ns_of : ∀ {b : Addr} {m : Str → Option Value}, s0.heap.Ns b m → (hidT s0.heap H).Ns b m := fun ⟨o, es, ep, e, d, r⟩ => ⟨o, es, ep, keep e (dict_off e d), d, r⟩
  have kin2 : K.In (hidT s0.heap H) := by
    intro b o e
    refine keep (kin b o e) ?_
    by_cases q : H b = none
    · exact q
    · have e2 := S.at_ b q
      subst e2
      rw [S.out q] at e
      cases e
  obtain ⟨mc, l1, l2⟩ := lim
  have md : Mod K mg (hidT s0.heap H) := ⟨kin2, ns_of nsm, ⟨mb, ns_of nsb, boot⟩, mc, ns_of l1, l2⟩
  have env : Env0 P w K mg (hidT s0.heap H) callerA [] s0 H :=
    ⟨rfl, md, fun b o e => of_hidT e, Nat.le_of_eq (hidT_size _ _), trivial, fun b hb => by simp [frs] at hb, S.ok, .of_eq gn⟩
  have run := (F _ kin2 (ns_of nsm)).run callerA [] s0 H ⟨[.ref a0], []⟩ [.ref a0] [.ref a0] _ _ room rfl env (bind s0 (.ref a0)) (.cons rfl .nil) (hsp H S.only S.seq)
  refine codeAny_mono run ?_
  intro r s' z
  match r, z with
  | .error e, z => exact False.elim z
  | .ok .next, z => exact False.elim z
  | .ok .brk, z => exact False.elim z
  | .ok .cont, z => exact False.elim z
  | .ok (.ret u), z =>
    obtain ⟨v, H', os, bare, un, ok2, rv, qv⟩ := z
    have ev : v = .bl true := qv
    subst ev
    have eu : u = Value.bool true := rv
    subst eu
    refine ⟨rfl, .of_keep ?_, os, bare⟩
    intro b o e
    rcases S.only b with n | ⟨ob, xs, fz⟩
    · exact un.keep b o e n (by simp [frs]) (by simp)
    · have e1 := (S.ok b _ fz).1
      have e2 := (ok2 b _ (un.frzs b ob _ fz)).1
      rw [e] at e1
      cases e1
      exact e2
theorem walk_ofG {l : PySem.W.OpenLaw} {n k : Nat} {q : Program} {loose : List Str} {XP : (Str → Option Value) → Heap → Prop} {YP : World → Heap → Prop} {d : DefRec} {KK : Params → PySem.W.Frag} {spp : PySem.W.Frag → Sp} {x : Str}
    (most : l.most = some n) (small : n ≤ sizeLine) (dfl : d.params.defaults = []) (room : Room k callerA) (hY : ∀ (w : World) (h : Heap), YP w h → (KK w.params).In h)
    (F : ∀ (w : World) (mg : Str → Option Value) (fa : Addr) (h : Heap), (KK w.params).In h → h.Ns mainGlobals mg → mg d.name = some (.ref fa) → ∃ fd : FuncData, (∀ (s : Shared) (u : Value), BindsTo s fd ⟨[u], []⟩ [(x, u)]) ∧
      ∀ base : Heap, (KK w.params).In base → base.Ns mainGlobals mg → FnG l.prog w (KK w.params) mg base CX0 k fa fd [x] (spp (KK w.params)))
    (hsp : ∀ (K : PySem.W.Frag) (H : Hp) (a : Addr) (ns : List Int), ns.length ≤ n → Only H → SqL K H a (ns.map V.int) → spp K [.ref a] H (fun v _ => v = .bl true) E0) : PySem.W.WalkO q loose XP YP l.row.toRowW d [] (fun f vs => PySem.call f vs) := by
  refine Att.attach_call most dfl ?_
  intro w t0 t1 mg mb fa o pm cd doc a vs ns G Y ho hd hcd hmg hobj hints hlen hgn
  obtain ⟨fd, hb, hF⟩ := F w mg fa _ (hY w _ Y) G.T.g hmg
  exact law_callG (hY w _ Y) G.T.g G.T.b G.T.builtins G.T.nolimit hgn hobj hints (Nat.le_trans hlen small) room hF hb fun H hO hS => hsp (KK w.params) H a ns hlen hO hS
end
end BV

/-! BV, the script and the draws' jar. -/
namespace BV
open PySem PySem.Spec PyProof.Rows L2
/-- the script in a heap -/
def ScrAt (K : PySem.W.Frag) (H : Hp) (a : Addr) (ns : List Int) : Prop := (∃ o, H a = some (.frz o (.lst (ns.map V.int)))) ∨ ∀ H', SqL K H' a (ns.map V.int)
theorem scr_of {K : PySem.W.Frag} {H : Hp} {a : Addr} {ns : List Int} (only : Only H) (h : SqL K H a (ns.map V.int)) : ScrAt K H a ns := by
  rcases h with h | h
  · rcases h with h | ⟨o, h⟩
    · rcases only a with z | ⟨o, xs, z⟩
      · rw [z] at h; cases h
      · rw [z] at h; cases h
    · exact .inl ⟨o, h⟩
  · exact .inr fun H' => .inr h
section
variable {X : Cx} {e : Expr} {i : Nat} {pos p p2 : Pos}
theorem scr_seq {G : Jr} {B0 H0 B H : Hp} {σ : L2.St} {ρ : En} {K : PySem.W.Frag} {ns : List Int} (r : Rep G B0 H0 σ H ρ B) (h : ρ[i]? = some (.scr K ns)) : ∃ a, σ[i]? = some (some (.ref a)) ∧ SqL K H a (ns.map V.int) := by
  obtain ⟨a, e1, q⟩ := r.at_ i _ h
  refine ⟨a, join_some e1, ?_⟩
  rcases q with q | q
  · obtain ⟨o, ho⟩ := r.g.ok.2 a ns q
    exact .inl (.inr ⟨o, ho⟩)
  · exact q H
/-- script[:63] -/
def bScr (K : PySem.W.Frag) (i : Nat) : BX := fun ρ Q => ∃ ns : List Int, ρ[i]? = some (.scr K ns) ∧ ns.length ≤ 63 ∧ Q (.list (ns.map PyData.int))
theorem pb_scr {j : Nat} (he : PE X e (tVar i)) : PB X .l (.Subscript e (.Slice none (some (.Constant (.int 63) j p)) none p2) pos) (bScr X.K i) :=
  PE.mono (pe_slice sl_list he po_none (po_some pe_int)) fun σ H R ⟨G, B0, H0, ρ, B, Q, r, ⟨ns, hs, hz, q⟩, k⟩ => by
    obtain ⟨a, s1, sq⟩ := scr_seq r hs
    refine ⟨_, s1, 63, rfl, a, ns.map V.int, rfl, sq, fun p hp => ?_⟩
    have e : cutV (ns.map V.int) none (some 63) = ns.map V.int := by
      unfold cutV
      rw [show (63 : Int) = ((63 : Nat) : Int) from rfl, HT.sIx_nat, HT.sIx_none, List.length_map]
      have : min 63 ns.length = ns.length := by omega
      rw [this, List.drop_zero, Nat.sub_zero]
      exact List.take_of_length_le (by simp)
    rw [e]
    exact k _ _ B _ (.junk hp) (r.g.junk hp) (ok_newL r.g hp (by rw [List.length_map, sizeLine_eq]; omega) (isL_ints ns)) q
/-- len(script) -/
def bScrLen (K : PySem.W.Frag) (i : Nat) : BX := fun ρ Q => ∃ ns : List Int, ρ[i]? = some (.scr K ns) ∧ Q (.int ns.length)
theorem pb_scrLen {N : List Str} {sc : Scope} {k : Nat} (c : Cz X N sc k) (hm : X.mg "len" = none) (hg : gi sc "len") (he : PE X e (tVar i)) (hs : starEach [e] X.env = [(false, eval e X.env)] := by rfl) : PB X .e (.Call (.Name "len" p) [e] [] pos) (bScrLen X.K i) :=
  PE.mono (pe_callB call_len (c.gl hg) hm PySem.boot_len (pa_cons he pa_nil hs) (by decide) (by decide) hs rfl) fun σ H R ⟨G, B0, H0, ρ, B, Q, r, ⟨ns, hn, q⟩, k⟩ => by
    obtain ⟨a, s1, sq⟩ := scr_seq r hn
    exact ⟨_, s1, _, ns.length, rfl, .inl ⟨_, sq, by simp⟩, k _ _ B H (.refl _ _ _) r.g (.int _) q⟩
end
/-! ### a jar handed back -/
/-- a new jar at a, its list at l -/
structure NewJar (k1 k2 k3 : Str) (H0 H' : Hp) (a l : Addr) (ns : List Int) (s t : Int) : Prop where
  na : H0 a = none
  nl : H0 l = none
  ne : a ≠ l
  d : H' a = some (.dK [(.inr k1, .ref l), (.inr k2, .int s), (.inr k3, .int t)])
  ls : H' l = some (.lst (ns.map V.int))
  z : ns.length ≤ 63
abbrev BJ := En → (Prop → Prop) → Prop
def TsJ (k1 k2 k3 : Str) (t : En → Prop) : TS := fun Dn σ H => ∃ G B0 H0 ρ B, Rep G B0 H0 σ H ρ B ∧ t ρ ∧ ∀ a l ns s u H', NewJar k1 k2 k3 H0 H' a l ns s u → (∀ b o, ¬ G.J b → H0 b = some o → H' b = some o) → (∀ b, G.J b → H' b = H b ∨ True) → Dn.rt (.ref a) H'
section
variable {X : Cx} {κ : Kd} {st : Stmt} {sts : List Stmt} {s : BS} {t : En → Prop} {k1 k2 k3 : Str} {e1 e2 e3 : Expr} {b1 b2 b3 : BX} {pos p1 p2 p3 pd : Pos} {j1 j2 j3 : Nat}
theorem js_cons (h : PSb X κ st s) (hs : PSs X sts (TsJ k1 k2 k3 t)) : PSs X (st :: sts) (TsJ k1 k2 k3 fun ρ => s ρ t fun _ => False) := PSs.mono (pss_cons h hs) fun D σ H ⟨G, B0, H0, ρ, B, r, q, k⟩ =>
  ⟨G, B0, H0, ρ, B, t, fun _ => False, r, q, fun σ' H' ρ' B' r' m q' => ⟨G, B0, H0, ρ', B', r', q', fun a l ns s u H2 nj ex _ => k a l ns s u H2 nj ex fun _ _ => .inr trivial⟩, fun v d B' H' g x o f => f.elim⟩
/-- return {k1: a list of ints, k2: an int, k3: an int} -/
theorem js_ret (h1 : PB X .l e1 b1) (h2 : PB X .e e2 b2) (h3 : PB X .e e3 b3) (hk : k1 ≠ k2 ∧ k1 ≠ k3 ∧ k2 ≠ k3) :
    PSs X [.Return (some (.Dict [some (.Constant (.str k1) j1 p1), some (.Constant (.str k2) j2 p2), some (.Constant (.str k3) j3 p3)] [e1, e2, e3] pd)) pos] (TsJ k1 k2 k3 fun ρ => b1 ρ fun d1 => ∃ ns : List Int, d1 = .list (ns.map PyData.int) ∧ ns.length ≤ 63 ∧ b2 ρ fun d2 => ∃ s : Int, d2 = .int s ∧ b3 ρ fun d3 => ∃ u : Int, d3 = .int u) :=
  PSs.mono (pss_one (ps_ret (pe_disp (pps_cons pe_str h1 (pps_cons pe_str h2 (pps_cons pe_str h3 pps_nil))) rfl rfl (by simp) (show 3 ≤ 15 by decide)))) fun D σ H ⟨G, B0, H0, ρ, B, r, q, k⟩ p hp => by
    have gp := r.g.junk (o := .dK []) hp
    have r1 := r.step (.junk hp) gp
    have jp := r.g.njf hp
    refine ⟨G, B0, H0, ρ, B, _, r1, q, fun v d B1 H1 y1 g1 o1 ⟨ns, hd, hz, q1⟩ => ?_⟩
    obtain ⟨l, ds, rfl, hd2, hn, bn, jl, xs, el, zl, il⟩ := o1
    rw [hd2] at hd
    cases hd
    have hxs := il.ints
    subst hxs
    refine ⟨G, B0, H0, ρ, B1, _, r1.step y1 g1, q1, fun v2 d2 B2 H2 y2 g2 o2 ⟨s, hs, q2⟩ => ?_⟩
    subst hs
    cases (show Is B2 v2 (.int s) from o2)
    refine ⟨G, B0, H0, ρ, B2, _, (r1.step y1 g1).step y2 g2, q2, fun v3 d3 B3 H3 y3 g3 o3 ⟨u, hu⟩ => ?_⟩
    subst hu
    cases (show Is B3 v3 (.int u) from o3)
    have ext := (y1.trans g1 y2).trans g2 y3
    have hpp : H3 p = some (.dK []) := ext.h p _ jp upd_same
    refine ⟨hpp, [(.inr k1, .ref l), (.inr k2, .int s), (.inr k3, .int u)], rfl, by simp, ?_⟩
    have em : mergeK ([] : List (Key × V)) [(.inr k1, .ref l), (.inr k2, .int s), (.inr k3, .int u)] = [(.inr k1, .ref l), (.inr k2, .int s), (.inr k3, .int u)] := by
      have a1 := hk.1
      have a2 := hk.2.1
      have a3 := hk.2.2
      simp [mergeK, putK, a1, a2, a3]
    rw [em]
    have nlp : l ≠ p := fun e => by rw [e, upd_same] at hn; cases hn
    have hnl : H l = none := by rw [upd_ne nlp] at hn; exact hn
    have el3 : H3 l = some (.lst (ns.map V.int)) := y3.h l _ jl (y2.h l _ jl el)
    refine k p l ns s u _ ⟨r.x.back r.g hp, r.x.back r.g hnl, Ne.symm nlp, upd_same, by rw [upd_ne nlp]; exact el3, hz⟩ (fun b o jb hb => ?_) fun _ _ => .inr trivial
    have : b ≠ p := ne_of_none (r.x.h b o jb hb) hp
    rw [upd_ne this]
    exact ext.h b o jb (by rw [upd_ne this]; exact r.x.h b o jb hb)
end
/-- the jar's def keeps this promise -/
def spJar (k1 k2 k3 : Str) (K : PySem.W.Frag) : Sp := fun vs H Q _ => ∃ (a : Addr) (ns : List Int), vs = [.ref a] ∧ ns.length ≤ 63 ∧ ScrAt K H a ns ∧ ∀ a l ms s u H', NewJar k1 k2 k3 H H' a l ms s u → Q (.ref a) H'
section
variable {P : Program} {w : World} {K : PySem.W.Frag} {mg : Str → Option Value} {base : Heap}
theorem rep_scr {N : List Str} {a : Addr} {ns : List Int} {H : Hp} (h : ScrAt K H a ns) : ∃ G B, Rep G B H (L2.start N [.ref a]) H (.scr K ns :: List.replicate (N.length - 1) .no) B := by
  have mk : ∀ (sa : Option (Addr × List Int)), (∀ x ms, sa = some (x, ms) → ∃ o, H x = some (.frz o (.lst (ms.map V.int)))) → (sa = some (a, ns) ∨ ∀ H', SqL K H' a (ns.map V.int)) → Rep (offJar sa) (fun _ => none) H (L2.start N [.ref a]) H (.scr K ns :: List.replicate (N.length - 1) .no) (fun _ => none) := by
    intro sa hsa hq
    have g : Gd (offJar sa) (fun _ => none) H := ⟨(fun c o e => nomatch (show (none : Option HO) = some o from e)), ⟨(fun e => nomatch (show false = true from e)), hsa⟩, fun _ _ => rfl⟩
    have no : ∀ (i : Nat) (c : Cell), (Cell.scr K ns :: List.replicate (N.length - 1) .no)[i]? = some c → CellOk (offJar sa) (fun _ => none) H (fun _ => none) H c ((L2.start N [.ref a])[i]?.join) ∧ c.mine = false := by
      intro i c h
      cases i with
      | zero =>
        simp at h
        subst h
        exact ⟨⟨a, rfl, hq⟩, rfl⟩
      | succ i =>
        simp at h
        have := List.mem_of_getElem? h
        rw [List.mem_replicate] at this
        rw [this.2]
        exact ⟨trivial, rfl⟩
    refine ⟨g, g, .refl _ _ _, by simp [L2.start], fun i c h => (no i c h).1, fun i j c e b _ hc _ m => by rw [(no i c hc).2] at m; cases m⟩
  rcases h with ⟨o, h⟩ | h
  · exact ⟨_, _, mk (some (a, ns)) (fun x ms e => by cases e; exact ⟨o, h⟩) (.inl rfl)⟩
  · exact ⟨_, _, mk none (fun x ms e => by cases e) (.inr h)⟩
theorem fn_jar {k : Nat} {x qual : Str} {st : Stmt} {f : Addr} {fd : FuncData} {N : List Str} {y : Str} {k1 k2 k3 : Str} {t : PySem.W.Frag → En → Prop} (F : Fun K x qual st f fd) (S : FnScope N [y] (defScope st))
    (walk : ∀ X : Cx, X.prog = P → X.w = w → X.K = K → X.mg = mg → X.base = base → (∀ y, X.fn y = true) → Cz X N (defScope st) k → PSs X (defBody st) (TsJ k1 k2 k3 (t X.K)))
    (law : ∀ ns : List Int, ns.length ≤ 63 → t K (.scr K ns :: List.replicate (N.length - 1) .no)) : FnG P w K mg base CX0 (k + 1) f fd [y] (spJar k1 k2 k3 K) := by
  refine fnG_of F S (fun vs H Q E ⟨a, ns, e, _⟩ => by rw [e]; rfl) fun cdv A outer s H vs Q E hr hg ⟨a, ns, e, hz, hs, hk⟩ => ?_
  subst e
  obtain ⟨G, B, r⟩ := rep_scr (N := N) hs
  refine ⟨_, (walk (cxOf CX0 P w K mg base N qual (defScope st) f cdv A outer s H E).nox rfl rfl rfl rfl rfl (fun _ => rfl) ⟨rfl, rfl, rfl, hr, ?_, .never⟩).nox, G, B, H, _, B, r, law ns hz, fun a l ms s u H' nj _ _ => hk a l ms s u H' nj⟩
  show (A.deeper _).guards = some []
  rw [← hg]
  rfl
/-! ### the law itself -/
def spLaw (K : PySem.W.Frag) : Sp := fun vs H Q _ => ∃ (a : Addr) (ns : List Int), vs = [.ref a] ∧ ns.length ≤ 63 ∧ ScrAt K H a ns ∧ ∀ H', Q (.bl true) H'
theorem rep_jar {k1 k2 k3 : Str} {N : List Str} {a b l : Addr} {i : Nat} {H0 H : Hp} {ns : List Int} {s u : Int} (hi : i < N.length) (h1 : 0 < N.length) (nj : NewJar k1 k2 k3 H0 H b l ns s u) : ∃ G, G.key = .tuple [.str k1, .str k2, .str k3] ∧ Rep G (fun _ => none) H ((L2.start N [.ref a]).set i (some (.ref b))) H ((List.replicate N.length Cell.no).set i (.jar (.tuple [.str k1, .str k2, .str k3]))) (fun _ => none) := by
  let G : Jr := ⟨true, b, l, nj.ne, k1, k2, k3, none⟩
  have g : Gd G (fun _ => none) H := ⟨(fun c o e => nomatch (show (none : Option HO) = some o from e)), ⟨fun _ => ⟨ns, s, u, nj.d, nj.ls, nj.z⟩, fun x ms e => by cases e⟩, fun _ _ => rfl⟩
  have ll : (L2.start N [V.ref a]).length = N.length := by simp [L2.start]; omega
  have no : ∀ (j : Nat) (c : Cell), ((List.replicate N.length Cell.no).set i (.jar (.tuple [.str k1, .str k2, .str k3])))[j]? = some c → CellOk G (fun _ => none) H (fun _ => none) H c (((L2.start N [.ref a]).set i (some (.ref b)))[j]?.join) ∧ c.mine = false := by
    intro j c h
    rw [get_set] at h
    by_cases e : i = j
    · subst e
      rw [if_pos rfl, if_pos (by simpa using hi)] at h
      cases h
      rw [get_set, if_pos rfl, if_pos (by rw [ll]; exact hi)]
      exact ⟨⟨rfl, rfl, rfl⟩, rfl⟩
    · rw [if_neg e] at h
      have := List.mem_of_getElem? h
      rw [List.mem_replicate] at this
      rw [this.2]
      exact ⟨trivial, rfl⟩
  exact ⟨G, rfl, g, g, .refl _ _ _, by simp [ll], fun j c h => (no j c h).1, fun i j c e b _ hc _ m => by rw [(no i c hc).2] at m; cases m⟩
/-- the law: its jar first, the rest by value -/
theorem fn_law {k kj : Nat} {x qual y jn : Str} {st : Stmt} {f : Addr} {fd : FuncData} {N : List Str} {i : Nat} {k1 k2 k3 : Str} {b : BS} {rest : List Stmt} {p1 p2 p3 p4 p5 : Pos} {xj : Str} (F : Fun K x qual st f fd) (S : FnScope N [y] (defScope st))
    (body : defBody st = .Assign [.Name xj p1] (.Call (.Name jn p2) [.Name y p3] [] p4) p5 :: rest) (hj : Cal P w K mg base CX0 kj jn [y] (spJar k1 k2 k3 K)) (hkj : kj ≤ k) (hgl : gi (defScope st) jn) (hdb : (jn == ("__debug__" : Str)) = false) (hv : varB N (defScope st) 0 y = true) (ht : tgtB N (defScope st) i xj = true) (hi : i < N.length)
    (walk : ∀ X : Cx, X.prog = P → X.w = w → X.K = K → X.mg = mg → X.base = base → (∀ y, X.fn y = true) → Cz X N (defScope st) k → PSsb X .e rest b)
    (law : b ((List.replicate N.length Cell.no).set i (.jar (.tuple [.str k1, .str k2, .str k3]))) (fun _ => False) (fun d => d = .bool true)) : FnG P w K mg base CX0 (k + 1) f fd [y] (spLaw K) := by
  refine fnG_of F S (fun vs H Q E ⟨a, ns, e, _⟩ => by rw [e]; rfl) fun cdv A outer s H vs Q E hr hg ⟨a, ns, e, hz, hs, hk⟩ => ?_
  subst e
  rw [body]
  have c : Cz (cxOf CX0 P w K mg base N qual (defScope st) f cdv A outer s H E).nox N (defScope st) k := ⟨rfl, rfl, rfl, hr, by show (A.deeper _).guards = some []; rw [← hg]; rfl, .never⟩
  obtain ⟨u1, u2, u3⟩ := c.tgt ht
  have hN : 0 < N.length := by omega
  refine ⟨_, (pss_cons (ps_set u1 u2 u3 (pe_callG (hj.mono hkj) c.room c.gu (c.gl hgl) (E := E0) pass0 (pa_cons (pe_v c 0 hv) pa_nil) hdb rfl rfl) rfl (.inl rfl)) (walk _ rfl rfl rfl rfl rfl (fun _ => rfl) c)).nox, ?_⟩
  refine ⟨.ref a, rfl, a, ns, rfl, hz, hs, fun b l ms s u H' nj => ?_⟩
  obtain ⟨G, _, r⟩ := rep_jar (a := a) (N := N) hi hN nj
  refine ⟨G, _, _, _, _, _, _, r, law, fun _ _ _ _ _ _ f => f.elim, fun v d B' H2 g2 x2 o hd => ?_⟩
  subst hd
  cases (show Is B' v (.bool true) from o)
  exact hk H2
end
end BV

/-! BV, what the jar's def comes to. -/
namespace BV
open PySem PySem.Spec L2
def tSeq (s : BS) (t : En → Prop) : En → Prop := fun ρ => s ρ t fun _ => False
def bJar (b1 b2 b3 : BX) : En → Prop := fun ρ => b1 ρ fun d1 => ∃ ns : List Int, d1 = .list (ns.map PyData.int) ∧ ns.length ≤ 63 ∧ b2 ρ fun d2 => ∃ s : Int, d2 = .int s ∧ b3 ρ fun d3 => ∃ u : Int, d3 = .int u
end BV

/-! BV, the law's walk behind a head with facts. -/
namespace BV
open PySem PySem.Spec PyProof.Rows L2
theorem walk_ofE {l : PySem.W.OpenLaw} {n k : Nat} {q : Program} {loose : List Str} {XP : (Str → Option Value) → Heap → Prop} {YP : World → Heap → Prop} {d : DefRec} {spp : PySem.W.Frag → Sp} {x : Str}
  (most : l.most = some n) (small : n ≤ sizeLine) (dfl : d.params.defaults = []) (room : Room k callerA)
  (F : ∀ (w : World) (mg : Str → Option Value) (fa : Addr) (h : Heap), YP w h → h.Ns mainGlobals mg → mg d.name = some (.ref fa) → ∃ (K : PySem.W.Frag) (fd : FuncData), K.In h ∧ (∀ (s : Shared) (u : Value), BindsTo s fd ⟨[u], []⟩ [(x, u)]) ∧
      ∀ base : Heap, K.In base → base.Ns mainGlobals mg → FnG l.prog w K mg base CX0 k fa fd [x] (spp K))
  (hsp : ∀ (K : PySem.W.Frag) (H : Hp) (a : Addr) (ns : List Int), ns.length ≤ n → Only H → SqL K H a (ns.map V.int) → spp K [.ref a] H (fun v _ => v = .bl true) E0) : PySem.W.WalkO q loose XP YP l.row.toRowW d [] (fun f vs => PySem.call f vs) := by
  refine Att.attach_call most dfl ?_
  intro w t0 t1 mg mb fa o pm cd doc a vs ns G Y ho hd hcd hmg hobj hints hlen hgn
  obtain ⟨K, fd, hK, hb, hF⟩ := F w mg fa _ Y G.T.g hmg
  exact law_callG hK G.T.g G.T.b G.T.builtins G.T.nolimit hgn hobj hints (Nat.le_trans hlen small) room hF hb fun H hO hS => hsp K H a ns hlen hO hS
end BV

/-! BV, small data: what repr and == take. -/
namespace BV
open PySem PySem.Spec L2
/-- a text of Python's signs -/
def okS (t : Str) : Prop := ∀ c ∈ t.cps.toList, c < 0x110000
theorem okS_str {t : Str} (h : okS t) : PyData.canLay0 (.str t) = true := by
  simp only [PyData.canLay0, PyData.strOk]
  rw [Array.all_eq_true_iff_forall_mem]
  intro c hc
  simpa using h c (Array.mem_toList_iff.mpr hc)
theorem okS_of (s : String) : okS (Str.ofString s) := by
  intro c hc
  rw [PyProof.Rows.signs_ofString] at hc
  obtain ⟨ch, _, rfl⟩ := List.mem_map.mp hc
  have := ch.valid
  show ch.val.toNat < _
  have h : ch.val.toNat.isValidChar := ch.valid
  rcases h with h | h <;> omega
theorem okS_app {a b : Str} (ha : okS a) (hb : okS b) : okS (a ++ b) := fun c hc => (PyProof.Rows.mem_cps_append.mp hc).elim (ha c) (hb c)
theorem okS_join {sep : Str} (hs : okS sep) (ts : List Str) (h : ∀ t ∈ ts, okS t) : okS (Str.join sep ts) := fun c hc => by
  rcases (PyProof.Rows.mem_join sep c ts).mp hc with ⟨t, ht, hc⟩ | ⟨_, hc⟩
  · exact h t ht c hc
  · exact hs c hc
theorem okS_from : ∀ (ts : List Str) (k : Nat) (acc : Str), okS acc → (∀ t ∈ ts, okS t) → okS (textFrom k acc ts)
  | [], _, _, ha, _ => ha
  | t :: ts, k, acc, ha, h => by
    show okS (textFrom (k + 1) (acc ++ (if k > 0 then ", " else "" : String) ++ t) ts)
    exact okS_from ts (k + 1) _ (okS_app (okS_app ha (okS_of _)) (h t List.mem_cons_self)) fun u hu => h u (List.mem_cons_of_mem _ hu)
theorem okS_list {ts : List Str} (h : ∀ t ∈ ts, okS t) : okS (listText ts) := okS_app (okS_from ts 0 _ (okS_of _) h) (okS_of _)
theorem okS_tup {ts : List Str} (h : ∀ t ∈ ts, okS t) : okS (tupleText ts) := okS_app (okS_app (okS_of _) (okS_join (okS_of _) ts h)) (okS_of _)
structure Sm (d : D) (k w : Nat) : Prop where
  fl : flatD d = true
  sh : d.showable = true
  nd : d.hasDict = false
  dp : d.depth ≤ k
  ls : d.leavesShort 13 = true
  wt : d.weight ≤ w
  ly : d.canLay0 = true
  tx : okS d.shown
theorem Sm.int {i : Int} (h : i.natAbs < 10 ^ 12) : Sm (.int i) 0 41 := by
  have l : i.natAbs.log2 < 40 := by
    by_cases z : i.natAbs = 0
    · rw [z]; decide
    · exact (Nat.log2_lt z).mpr (Nat.lt_of_lt_of_le h (by decide))
  refine ⟨rfl, ?_, rfl, Nat.le_refl _, ?_, ?_, rfl, ?_⟩
  · simp only [PyData.showable, decide_eq_true_eq]; omega
  · simp only [PyData.leavesShort, decide_eq_true_eq]; exact PyData.shown_int_le h
  · simp only [PyData.weight]; split <;> omega
  · exact okS_of _
theorem sm_all {xs : List D} {k w : Nat} (h : ∀ x ∈ xs, Sm x k w) : flatDs xs = true ∧ PyData.showableAll xs = true ∧ PyData.hasDictAll xs = false ∧ PyData.depthAll xs ≤ k ∧ PyData.leavesShortAll 13 xs = true ∧ PyData.weightAll xs ≤ xs.length * (w + 1) ∧ PyData.canLayAll0 xs = true := by
  induction xs with
  | nil => exact ⟨rfl, rfl, rfl, Nat.zero_le _, rfl, Nat.zero_le _, rfl⟩
  | cons x xs ih =>
    obtain ⟨a1, a2, a3, a4, a5, a6, a7⟩ := ih fun y hy => h y (List.mem_cons_of_mem _ hy)
    have s := h x List.mem_cons_self
    refine ⟨?_, ?_, ?_, ?_, ?_, ?_, ?_⟩
    · simp [flatDs, s.fl, a1]
    · simp [PyData.showableAll, s.sh, a2]
    · simp [PyData.hasDictAll, s.nd, a3]
    · have := s.dp; simp only [PyData.depthAll]; omega
    · simp [PyData.leavesShortAll, s.ls, a5]
    · have := s.wt; simp only [PyData.weightAll, List.length_cons, Nat.add_mul]; omega
    · simp [PyData.canLayAll0, s.ly, a7]
theorem tx_all {xs : List D} {k w : Nat} (h : ∀ x ∈ xs, Sm x k w) : ∀ t ∈ PyData.shownAll xs, okS t := by
  rw [PyProof.Rows.shownAll_eq_map]
  intro t ht
  obtain ⟨x, hx, rfl⟩ := List.mem_map.mp ht
  exact (h x hx).tx
theorem Sm.tup {xs : List D} {k w : Nat} (h : ∀ x ∈ xs, Sm x k w) : Sm (.tuple xs) (k + 1) (xs.length * (w + 1)) := by
  obtain ⟨a1, a2, a3, a4, a5, a6, a7⟩ := sm_all h
  exact ⟨by simp only [flatD]; exact a1, by simp only [PyData.showable]; exact a2, by simp only [PyData.hasDict]; exact a3, by simp only [PyData.depth]; omega, by simp only [PyData.leavesShort]; exact a5, by simp only [PyData.weight]; exact a6, by simp only [PyData.canLay0]; exact a7, by simp only [PyData.shown]; exact okS_tup (tx_all h)⟩
theorem Sm.lst {xs : List D} {k w : Nat} (h : ∀ x ∈ xs, Sm x k w) : Sm (.list xs) (k + 1) (xs.length * (w + 1)) := by
  obtain ⟨a1, a2, a3, a4, a5, a6, a7⟩ := sm_all h
  exact ⟨by simp only [flatD]; exact a1, by simp only [PyData.showable]; exact a2, by simp only [PyData.hasDict]; exact a3, by simp only [PyData.depth]; omega, by simp only [PyData.leavesShort]; exact a5, by simp only [PyData.weight]; exact a6, by simp only [PyData.canLay0]; exact a7, by simp only [PyData.shown]; exact okS_list (tx_all h)⟩
theorem Sm.mono {d : D} {k w k2 w2 : Nat} (s : Sm d k w) (hk : k ≤ k2) (hw : w ≤ w2) : Sm d k2 w2 := ⟨s.fl, s.sh, s.nd, Nat.le_trans s.dp hk, s.ls, Nat.le_trans s.wt hw, s.ly, s.tx⟩
theorem Sm.ints {ns : List Int} (h : ∀ n ∈ ns, n.natAbs < 10 ^ 12) : ∀ x ∈ ns.map PyData.int, Sm x 0 41 := by
  intro x hx
  obtain ⟨n, hn, rfl⟩ := List.mem_map.mp hx
  exact .int (h n hn)
theorem Sm.ok {d : D} {k w : Nat} (s : Sm d k w) (hs : seqD d = true) (hk : k ≤ 60) (hw : w ≤ 1000000) : shOk d :=
  ⟨hs, s.fl, s.sh, s.nd, Nat.le_trans s.dp hk, PyData.shown_fits (by decide) (by decide) s.ls (Nat.le_trans s.wt (Nat.le_trans hw (by decide)))⟩
theorem str_eqOk {a b : Str} (ha : okS a) (hb : okS b) : eqOk (.str a) (.str b) :=
  ⟨rfl, rfl, by unfold SeqAt.shaped; rw [okS_str ha]; rfl, by unfold SeqAt.shaped; rw [okS_str hb]; rfl⟩
theorem eqv_str (a b : Str) : PyData.eqv (.str a) (.str b) = decide (a = b) := by
  show (a == b) = _
  rw [Bool.eq_iff_iff]; simp
theorem oNe_str {a b : Str} {Q : D → Prop} (ha : okS a) (hb : okS b) (q : Q (.bool (!decide (a = b)))) : oNe (.str a) (.str b) Q := ⟨str_eqOk ha hb, by rw [eqv_str]; exact q⟩
theorem oEq_str {a b : Str} {Q : D → Prop} (ha : okS a) (hb : okS b) (q : Q (.bool (decide (a = b)))) : oEq (.str a) (.str b) Q := ⟨str_eqOk ha hb, by rw [eqv_str]; exact q⟩
theorem strs_in (ss : List Str) (h : ∀ t ∈ ss, okS t) : flatDs (ss.map PyData.str) = true ∧ PyData.canLayAll0 (ss.map PyData.str) = true ∧ PyData.depthAll (ss.map PyData.str) = 0 := by
  induction ss with
  | nil => exact ⟨rfl, rfl, rfl⟩
  | cons t ss ih =>
    obtain ⟨a1, a2, a3⟩ := ih fun u hu => h u (List.mem_cons_of_mem _ hu)
    refine ⟨?_, ?_, ?_⟩
    · simp [flatDs, flatD, a1]
    · simp only [List.map_cons, PyData.canLayAll0, okS_str (h t List.mem_cons_self), a2]; rfl
    · simp [PyData.depthAll, PyData.depth, a3]
theorem oNotIn_strs {a : Str} {ss : List Str} {Q : D → Prop} (ha : okS a) (h : ∀ t ∈ ss, okS t) (q : Q (.bool (!decide (a ∈ ss)))) : oNotInU (.str a) (.list (ss.map PyData.str)) Q := by
  obtain ⟨a1, a2, a3⟩ := strs_in ss h
  refine ⟨⟨rfl, by simp only [flatD]; exact a1, by unfold SeqAt.shaped; rw [okS_str ha]; rfl, by unfold SeqAt.shaped; simp [PyData.canLay0, a2, PyData.depth, a3]⟩, ?_⟩
  have e : ((ss.map PyData.str).any fun z => PyData.eqv z (.str a)) = decide (a ∈ ss) := by
    rw [Bool.eq_iff_iff, List.any_eq_true, decide_eq_true_iff]
    constructor
    · rintro ⟨z, hz, e⟩
      obtain ⟨t, ht, rfl⟩ := List.mem_map.mp hz
      rw [eqv_str, decide_eq_true_iff] at e
      rw [← e]; exact ht
    · intro ht
      exact ⟨.str a, List.mem_map.mpr ⟨a, ht, rfl⟩, by rw [eqv_str]; simp⟩
  show Q (.bool (!((ss.map PyData.str).any fun z => PyData.eqv z (.str a))))
  rw [e]
  exact q
end BV

/-! Fl: flows along arcs, in plain lists of whole numbers. -/
namespace Fl

/-! ### sums -/
theorem len_le_of_nodup {α : Type} [DecidableEq α] : ∀ {l m : List α}, l.Nodup → (∀ x ∈ l, x ∈ m) → l.length ≤ m.length
  | [], m, _, _ => Nat.zero_le _
  | x :: l, m, nd, h => by
    have hx := h x List.mem_cons_self
    obtain ⟨nx, nl⟩ := List.nodup_cons.mp nd
    have := len_le_of_nodup (l := l) (m := m.erase x) nl fun y hy => by
      have : y ≠ x := fun e => nx (by rw [← e]; exact hy)
      exact (List.mem_erase_of_ne this).mpr (h y (List.mem_cons_of_mem _ hy))
    have hl := List.length_erase_of_mem hx
    have : 0 < m.length := List.length_pos_of_mem hx
    simp only [List.length_cons]
    omega
def ind (b : Bool) : Int := if b then 1 else 0

abbrev Arc := Int × Int
/-- the sum of a weight over arcs with their numbers -/
def tot (w : Arc → Int) : List Arc → List Int → Int
  | a :: as, x :: xs => w a * x + tot w as xs
  | _, _ => 0
theorem tot_set (w : Arc → Int) (d : Int) : ∀ (as : List Arc) (xs : List Int) (k : Nat) (a : Arc) (x : Int), as[k]? = some a → xs[k]? = some x → tot w as (xs.set k (x + d)) = tot w as xs + w a * d
  | [], _, _, _, _, h, _ => by simp at h
  | _ :: _, [], _, _, _, _, h => by simp at h
  | b :: as, y :: xs, 0, a, x, h1, h2 => by
    simp at h1 h2
    subst h1 h2
    simp only [List.set_cons_zero, tot]
    rw [Int.mul_add]; omega
  | b :: as, y :: xs, k + 1, a, x, h1, h2 => by
    simp only [List.set_cons_succ, tot]
    rw [tot_set w d as xs k a x (by simpa using h1) (by simpa using h2)]; omega
theorem tot_add (w v : Arc → Int) : ∀ (as : List Arc) (xs : List Int), tot (fun a => w a + v a) as xs = tot w as xs + tot v as xs
  | [], _ => by simp [tot]
  | _ :: _, [] => by simp [tot]
  | a :: as, x :: xs => by simp only [tot, tot_add w v as xs, Int.add_mul]; omega
theorem tot_smul (c : Int) (w : Arc → Int) : ∀ (as : List Arc) (xs : List Int), tot (fun a => c * w a) as xs = c * tot w as xs
  | [], _ => by simp [tot]
  | _ :: _, [] => by simp [tot]
  | a :: as, x :: xs => by simp only [tot, tot_smul c w as xs, Int.mul_add, Int.mul_assoc]
theorem tot_zero : ∀ (as : List Arc) (xs : List Int), tot (fun _ => 0) as xs = 0
  | [], _ => by simp [tot]
  | _ :: _, [] => by simp [tot]
  | a :: as, x :: xs => by simp only [tot, tot_zero as xs, Int.zero_mul, Int.add_zero]
theorem tot_congr {w v : Arc → Int} : ∀ (as : List Arc) (xs : List Int), (∀ a ∈ as, w a = v a) → tot w as xs = tot v as xs
  | [], _, _ => by simp [tot]
  | _ :: _, [], _ => by simp [tot]
  | a :: as, x :: xs, h => by simp only [tot, h a List.mem_cons_self, tot_congr as xs fun b hb => h b (List.mem_cons_of_mem _ hb)]
theorem tot_le {w v : Arc → Int} : ∀ (as : List Arc) (xs ys : List Int), xs.length = ys.length → (∀ (k : Nat) (a : Arc) (x y : Int), as[k]? = some a → xs[k]? = some x → ys[k]? = some y → w a * x ≤ v a * y) → tot w as xs ≤ tot v as ys
  | [], _, _, _, _ => by simp [tot]
  | _ :: _, [], [], _, _ => by simp [tot]
  | _ :: _, [], _ :: _, h, _ => by simp at h
  | _ :: _, _ :: _, [], h, _ => by simp at h
  | a :: as, x :: xs, y :: ys, h, hh => by
    have h0 := hh 0 a x y rfl rfl rfl
    have := tot_le (w := w) (v := v) as xs ys (by simpa using h) fun k a x y h1 h2 h3 => hh (k + 1) a x y (by simpa using h1) (by simpa using h2) (by simpa using h3)
    simp only [tot]; omega

/-- what goes away from a place less what comes to it -/
def out (as : List Arc) (xs : List Int) (v : Int) : Int := tot (fun a => ind (a.1 == v) - ind (a.2 == v)) as xs
/-- what leaves a set of places less what comes into it -/
def across (S : Int → Bool) (as : List Arc) (xs : List Int) : Int := tot (fun a => ind (S a.1) - ind (S a.2)) as xs
def sumOn (S : Int → Bool) (f : Int → Int) : List Int → Int
  | [] => 0
  | v :: vs => ind (S v) * f v + sumOn S f vs
theorem sumOn_ind (S : Int → Bool) (u : Int) : ∀ vs : List Int, vs.Nodup → sumOn S (fun v => ind (u == v)) vs = if u ∈ vs then ind (S u) else 0
  | [], _ => by simp [sumOn]
  | v :: vs, nd => by
    obtain ⟨nv, nd⟩ := List.nodup_cons.mp nd
    simp only [sumOn, sumOn_ind S u vs nd]
    by_cases e : u = v
    · subst e
      simp [ind, nv]
    · have : (u == v) = false := by simpa using e
      simp [this, ind, e]
theorem sumOn_add (S : Int → Bool) (f g : Int → Int) : ∀ vs : List Int, sumOn S (fun v => f v + g v) vs = sumOn S f vs + sumOn S g vs
  | [] => rfl
  | v :: vs => by simp only [sumOn, sumOn_add S f g vs, Int.mul_add]; omega
theorem sumOn_mul (S : Int → Bool) (c : Int) (f : Int → Int) : ∀ vs : List Int, sumOn S (fun v => f v * c) vs = sumOn S f vs * c
  | [] => by simp [sumOn]
  | v :: vs => by simp only [sumOn, sumOn_mul S c f vs, Int.add_mul, Int.mul_assoc]
theorem sumOn_sub (S : Int → Bool) (f g : Int → Int) : ∀ vs : List Int, sumOn S (fun v => f v - g v) vs = sumOn S f vs - sumOn S g vs
  | [] => rfl
  | v :: vs => by simp only [sumOn, sumOn_sub S f g vs, Int.mul_sub]; omega
theorem sumOn_zero (S : Int → Bool) : ∀ vs : List Int, sumOn S (fun _ => 0) vs = 0
  | [] => rfl
  | v :: vs => by simp only [sumOn, sumOn_zero S vs, Int.mul_zero, Int.add_zero]
/-- counted by arcs or by places, it is the same -/
theorem across_sum (S : Int → Bool) {vs : List Int} (nd : vs.Nodup) : ∀ (as : List Arc) (xs : List Int), (∀ a ∈ as, a.1 ∈ vs ∧ a.2 ∈ vs) → across S as xs = sumOn S (out as xs) vs
  | [], xs, _ => by
    have : out [] xs = fun _ => 0 := by funext v; simp [out, tot]
    rw [this, sumOn_zero]; simp [across, tot]
  | a :: as, [], _ => by
    have : out (a :: as) [] = fun _ => 0 := by funext v; simp [out, tot]
    rw [this, sumOn_zero]; simp [across, tot]
  | a :: as, x :: xs, h => by
    have ih := across_sum S nd as xs fun b hb => h b (List.mem_cons_of_mem _ hb)
    have h1 := h a List.mem_cons_self
    have e : out (a :: as) (x :: xs) = fun v => (ind (a.1 == v) - ind (a.2 == v)) * x + out as xs v := by funext v; simp [out, tot]
    rw [e, sumOn_add, sumOn_mul, sumOn_sub, sumOn_ind S _ vs nd, sumOn_ind S _ vs nd, if_pos h1.1, if_pos h1.2, ← ih]
    simp [across, tot]
def places (as : List Arc) : List Int := (as.map (·.1) ++ as.map (·.2)).eraseDups
theorem sumOn_two {S : Int → Bool} {f : Int → Int} {b e : Int} (hS : S b = true) (hE : S e = false) : ∀ {vs : List Int}, vs.Nodup → (∀ v ∈ vs, v ≠ b → v ≠ e → f v = 0) → (b ∉ vs → f b = 0) → sumOn S f vs = f b
  | [], _, _, h => by simp [sumOn, h]
  | v :: vs, nd, h0, h => by
    obtain ⟨nv, nd⟩ := List.nodup_cons.mp nd
    by_cases e1 : v = b
    · subst e1
      have : ∀ ws : List Int, (∀ w ∈ ws, w ∈ vs) → sumOn S f ws = 0 := by
        intro ws
        induction ws with
        | nil => intro _; rfl
        | cons w ws ih =>
          intro hw
          have hw' := hw w List.mem_cons_self
          simp only [sumOn, ih fun x hx => hw x (List.mem_cons_of_mem _ hx)]
          by_cases ew : w = e
          · subst ew; simp [hE, ind]
          · have := h0 w (List.mem_cons_of_mem _ hw') (fun z => nv (by rw [← z]; exact hw')) ew
            simp [this]
      simp only [sumOn, this vs fun _ h => h]
      simp [hS, ind]
    · have ih := sumOn_two hS hE nd (fun w hw => h0 w (List.mem_cons_of_mem _ hw)) fun hb => h (by simp only [List.mem_cons, not_or]; exact ⟨fun z => e1 z.symm, hb⟩)
      simp only [sumOn, ih]
      by_cases e2 : v = e
      · subst e2; simp [hE, ind]
      · have := h0 v List.mem_cons_self e1 e2
        simp [this]
theorem out_zero {as : List Arc} {v : Int} (h : ∀ a ∈ as, a.1 ≠ v ∧ a.2 ≠ v) (xs : List Int) : out as xs v = 0 := by
  unfold out
  rw [tot_congr (v := fun _ => 0) as xs fun a ha => ?_, tot_zero]
  obtain ⟨h1, h2⟩ := h a ha
  simp [ind, h1, h2]
theorem dedup_sub (l : List Int) : ∃ m : List Int, m.Nodup ∧ ∀ x, x ∈ m ↔ x ∈ l := by
  induction l with
  | nil => exact ⟨[], .nil, by simp⟩
  | cons a l ih =>
    obtain ⟨m, nd, h⟩ := ih
    by_cases e : a ∈ m
    · exact ⟨m, nd, fun x => by rw [h, List.mem_cons]; constructor; exact .inr; rintro (rfl | z); exact (h _).mp e; exact z⟩
    · exact ⟨a :: m, List.nodup_cons.mpr ⟨e, nd⟩, fun x => by simp [h]⟩
/-- across a cut goes what the begin gives -/
theorem across_eq {as : List Arc} {xs : List Int} {S : Int → Bool} {b e : Int} (hS : S b = true) (hE : S e = false) (h0 : ∀ v, v ≠ b → v ≠ e → out as xs v = 0) : across S as xs = out as xs b := by
  obtain ⟨vs, nd, hv⟩ := dedup_sub (as.map (·.1) ++ as.map (·.2))
  rw [across_sum S nd as xs fun a ha => ⟨(hv _).mpr (List.mem_append_left _ (List.mem_map.mpr ⟨a, ha, rfl⟩)), (hv _).mpr (List.mem_append_right _ (List.mem_map.mpr ⟨a, ha, rfl⟩))⟩]
  refine sumOn_two hS hE nd (fun v _ => h0 v) fun hb => out_zero (fun a ha => ?_) xs
  constructor <;> intro z
  · exact hb ((hv _).mpr (List.mem_append_left _ (List.mem_map.mpr ⟨a, ha, z⟩)))
  · exact hb ((hv _).mpr (List.mem_append_right _ (List.mem_map.mpr ⟨a, ha, z⟩)))

/-! ### flows within room -/
def below (x : Int) : Option Int → Prop
  | none => True
  | some r => x ≤ r
structure Flow (as : List Arc) (room : List (Option Int)) (b e : Int) (xs : List Int) : Prop where
  len : xs.length = as.length
  nn : ∀ (k : Nat) (x : Int), xs[k]? = some x → 0 ≤ x
  le : ∀ (k : Nat) (x : Int) (r : Option Int), xs[k]? = some x → room[k]? = some r → below x r
  cons : ∀ v, v ≠ b → v ≠ e → out as xs v = 0
/-- what the roads out of a cut let through; 0 at roads without bound -/
def capOf (S : Int → Bool) : List Arc → List (Option Int) → Int
  | a :: as, r :: rs => (if S a.1 = true ∧ S a.2 = false then r.getD 0 else 0) + capOf S as rs
  | _, _ => 0
/-- no road without bound leaves it -/
def Tight (S : Int → Bool) (as : List Arc) (room : List (Option Int)) : Prop := ∀ (k : Nat) (a : Arc), as[k]? = some a → S a.1 = true → S a.2 = false → ∃ r, room[k]? = some (some r)
theorem across_le {S : Int → Bool} : ∀ (as : List Arc) (room : List (Option Int)) (xs : List Int), xs.length = as.length → room.length = as.length → (∀ (k : Nat) (x : Int), xs[k]? = some x → 0 ≤ x) → (∀ (k : Nat) (x : Int) (r : Option Int), xs[k]? = some x → room[k]? = some r → below x r) → Tight S as room → across S as xs ≤ capOf S as room
  | [], _, _, _, _, _, _, _ => by simp [across, tot, capOf]
  | a :: as, [], _, _, h, _, _, _ => by simp at h
  | a :: as, _ :: _, [], h, _, _, _, _ => by simp at h
  | a :: as, r :: rs, x :: xs, h1, h2, h3, h4, h5 => by
    have ih := across_le (S := S) as rs xs (by simpa using h1) (by simpa using h2) (fun k y h => h3 (k + 1) y (by simpa using h)) (fun k y r h h' => h4 (k + 1) y r (by simpa using h) (by simpa using h')) fun k a h => by
      have := h5 (k + 1) a (by simpa using h)
      simpa using this
    have n0 := h3 0 x rfl
    have l0 := h4 0 x r rfl rfl
    have t0 := h5 0 a rfl
    simp only [across, tot, capOf] at ih ⊢
    cases e1 : S a.1 <;> cases e2 : S a.2 <;> simp only [e1, e2, ind] at * <;> simp only [Bool.false_eq_true, if_false, if_true, and_true, and_false, reduceCtorEq, true_and, false_and] at *
    · omega
    · omega
    · obtain ⟨q, hq⟩ := t0 trivial trivial
      simp at hq
      subst hq
      have : x ≤ q := l0
      simp only [Option.getD_some]
      omega
    · omega
theorem across_full {S : Int → Bool} : ∀ (as : List Arc) (room : List (Option Int)) (xs : List Int), xs.length = as.length → room.length = as.length → (∀ (k : Nat) (a : Arc) (x : Int), as[k]? = some a → xs[k]? = some x → S a.1 = true → S a.2 = false → room[k]? = some (some x)) → (∀ (k : Nat) (a : Arc) (x : Int), as[k]? = some a → xs[k]? = some x → S a.1 = false → S a.2 = true → x = 0) → across S as xs = capOf S as room
  | [], _, _, _, _, _, _ => by simp [across, tot, capOf]
  | a :: as, [], _, _, h, _, _ => by simp at h
  | a :: as, _ :: _, [], h, _, _, _ => by simp at h
  | a :: as, r :: rs, x :: xs, h1, h2, h3, h4 => by
    have ih := across_full (S := S) as rs xs (by simpa using h1) (by simpa using h2) (fun k a y h h' => by have := h3 (k + 1) a y (by simpa using h) (by simpa using h'); simpa using this) (fun k a y h h' => by have := h4 (k + 1) a y (by simpa using h) (by simpa using h'); simpa using this)
    have t3 := h3 0 a x rfl rfl
    have t4 := h4 0 a x rfl rfl
    simp only [across, tot, capOf] at ih ⊢
    cases e1 : S a.1 <;> cases e2 : S a.2 <;> simp only [e1, e2, ind] at * <;> simp only [Bool.false_eq_true, if_false, if_true, and_true, and_false, reduceCtorEq, true_and, false_and] at *
    · omega
    · have := t4 trivial trivial
      subst this
      omega
    · have := t3 trivial trivial
      simp at this
      subst this
      simp only [Option.getD_some]
      omega
    · omega
/-- no flow gives more than a cut lets through -/
theorem flow_le {as : List Arc} {room : List (Option Int)} {b e : Int} {xs : List Int} {S : Int → Bool} (f : Flow as room b e xs) (hl : room.length = as.length) (hS : S b = true) (hE : S e = false) (t : Tight S as room) : out as xs b ≤ capOf S as room := by
  rw [← across_eq hS hE f.cons]
  exact across_le as room xs f.len hl f.nn f.le t

/-! ### ways with something left -/
def step (as : List Arc) (q : Int) (k : Nat) (p : Int) (f : Bool) : Prop := (f = true ∧ as[k]? = some (q, p)) ∨ (f = false ∧ as[k]? = some (p, q))
def has (room : List (Option Int)) (xs : List Int) (k : Nat) (f : Bool) : Bool :=
  if f = true then (match room.getD k none with
    | none => true
    | some r => decide (xs.getD k 0 < r)) else decide (0 < xs.getD k 0)
abbrev Steps := List (Nat × Bool)
/-- steps, the last one first -/
inductive Way (as : List Arc) (b : Int) : Steps → Int → Prop
  | nil : Way as b [] b
  | cons {q p : Int} {k : Nat} {f : Bool} {r : Steps} : step as q k p f → Way as b r q → Way as b ((k, f) :: r) p
inductive Walk (as : List Arc) (room : List (Option Int)) (xs : List Int) (g : Int → Nat) (b : Int) : Steps → Int → Prop
  | nil : Walk as room xs g b [] b
  | cons {q p : Int} {k : Nat} {f : Bool} {r : Steps} : step as q k p f → has room xs k f = true → g q < g p → Walk as room xs g b r q → Walk as room xs g b ((k, f) :: r) p
section
variable {as : List Arc} {room : List (Option Int)} {xs : List Int} {g : Int → Nat} {b e p : Int} {st : Steps}
theorem Walk.way (w : Walk as room xs g b st p) : Way as b st p := by
  induction w with
  | nil => exact .nil
  | cons h _ _ _ ih => exact .cons h ih
theorem Walk.has (w : Walk as room xs g b st p) : ∀ s ∈ st, Fl.has room xs s.1 s.2 = true ∧ ∃ a, as[s.1]? = some a := by
  induction w with
  | nil => simp
  | cons h hh _ _ ih =>
    intro s hs
    rcases List.mem_cons.mp hs with rfl | hs
    · refine ⟨hh, ?_⟩
      rcases h with ⟨_, h⟩ | ⟨_, h⟩
      · exact ⟨_, h⟩
      · exact ⟨_, h⟩
    · exact ih s hs
theorem Walk.low (w : Walk as room xs g b st p) : ∀ s ∈ st, ∃ a, as[s.1]? = some a ∧ g a.1 ≤ g p ∧ g a.2 ≤ g p := by
  induction w with
  | nil => simp
  | cons h hh lt _ ih =>
    intro s hs
    rcases List.mem_cons.mp hs with rfl | hs
    · rcases h with ⟨_, h⟩ | ⟨_, h⟩
      · exact ⟨_, h, by simp; omega, Nat.le_refl _⟩
      · exact ⟨_, h, Nat.le_refl _, by simp; omega⟩
    · obtain ⟨a, h1, h2, h3⟩ := ih s hs
      exact ⟨a, h1, by omega, by omega⟩
theorem Walk.nodup (w : Walk as room xs g b st p) : (st.map (·.1)).Nodup := by
  induction w with
  | nil => exact .nil
  | @cons q p k f r h hh lt w ih =>
    refine List.nodup_cons.mpr ⟨fun hk => ?_, ih⟩
    obtain ⟨s, hs, e⟩ := List.mem_map.mp hk
    obtain ⟨a, h1, h2, h3⟩ := w.low s hs
    simp only at e
    rw [e] at h1
    rcases h with ⟨_, h⟩ | ⟨_, h⟩ <;> (rw [h] at h1; cases h1; simp at h2 h3; omega)
/-- more along a step -/
def push1 (d : Int) (xs : List Int) (s : Nat × Bool) : List Int := xs.set s.1 (xs.getD s.1 0 + if s.2 = true then d else -d)
def push (d : Int) (xs : List Int) (st : Steps) : List Int := st.foldl (push1 d) xs
theorem push1_len (d : Int) (xs : List Int) (s : Nat × Bool) : (push1 d xs s).length = xs.length := by simp [push1]
theorem push_len (d : Int) : ∀ (st : Steps) (xs : List Int), (push d xs st).length = xs.length
  | [], _ => rfl
  | s :: st, xs => by
    show (push d (push1 d xs s) st).length = _
    rw [push_len d st, push1_len]
theorem push_out (d v : Int) (w : Way as b st p) : ∀ xs : List Int, xs.length = as.length → out as (push d xs st) v = out as xs v + d * (ind (b == v) - ind (p == v)) := by
  induction w with
  | nil => intro xs _; simp [push]
  | @cons q p k f r h w ih =>
    intro xs hl
    show out as (push d (push1 d xs (k, f)) r) v = _
    rw [ih _ (by rw [push1_len]; exact hl)]
    have hk : k < xs.length := by
      rcases h with ⟨_, h⟩ | ⟨_, h⟩ <;> (have := (List.getElem?_eq_some_iff.mp h).1; omega)
    have hx : xs[k]? = some (xs.getD k 0) := by rw [List.getD_eq_getElem?_getD, List.getElem?_eq_getElem hk]; rfl
    unfold out push1
    rcases h with ⟨rfl, h⟩ | ⟨rfl, h⟩
    · simp only [if_true]
      rw [tot_set _ d as xs k (q, p) _ h hx]
      simp only [Int.mul_sub, Int.sub_mul]
      have := Int.mul_comm (ind (q == v)) d
      have := Int.mul_comm (ind (p == v)) d
      omega
    · simp only [Bool.false_eq_true, if_false]
      rw [tot_set _ (-d) as xs k (p, q) _ h hx]
      simp only [Int.mul_sub, Int.sub_mul]
      have := Int.mul_comm (ind (q == v)) d
      have := Int.mul_comm (ind (p == v)) d
      rw [Int.mul_neg, Int.mul_neg]
      omega
theorem push_get (d : Int) : ∀ (st : Steps) (xs : List Int) (k : Nat), k ∉ st.map (·.1) → (push d xs st)[k]? = xs[k]?
  | [], _, _, _ => rfl
  | s :: st, xs, k, h => by
    simp only [List.map_cons, List.mem_cons, not_or] at h
    show (push d (push1 d xs s) st)[k]? = _
    rw [push_get d st _ k h.2]
    unfold push1
    rw [List.getElem?_set, if_neg (Ne.symm h.1)]
theorem push_at (d : Int) : ∀ (st : Steps) (xs : List Int) (k : Nat) (f : Bool) (x : Int), (st.map (·.1)).Nodup → (k, f) ∈ st → xs[k]? = some x → (push d xs st)[k]? = some (x + if f = true then d else -d)
  | [], _, _, _, _, _, h, _ => by simp at h
  | s :: st, xs, k, f, x, nd, h, hx => by
    simp only [List.map_cons, List.nodup_cons] at nd
    show (push d (push1 d xs s) st)[k]? = _
    rcases List.mem_cons.mp h with e | h
    · subst e
      rw [push_get d st _ k nd.1]
      unfold push1
      have hk := (List.getElem?_eq_some_iff.mp hx).1
      rw [List.getElem?_set, if_pos rfl, if_pos hk]
      simp only [List.getD_eq_getElem?_getD, hx, Option.getD_some]
    · have hne : s.1 ≠ k := fun e => nd.1 (by rw [e]; exact List.mem_map.mpr ⟨_, h, rfl⟩)
      refine push_at d st _ k f x nd.2 h ?_
      unfold push1
      rw [List.getElem?_set, if_neg hne]
      exact hx
/-- what is left along a step -/
def left (room : List (Option Int)) (xs : List Int) (s : Nat × Bool) : Option Int := if s.2 = true then (room.getD s.1 none).map fun r => r - xs.getD s.1 0 else some (xs.getD s.1 0)
theorem left_pos {s : Nat × Bool} {y : Int} (h : has room xs s.1 s.2 = true) (l : left room xs s = some y) : 1 ≤ y := by
  unfold has at h
  unfold left at l
  cases hs : s.2 with
  | true =>
    rw [hs, if_pos rfl] at h l
    cases hr : room.getD s.1 none with
    | none => rw [hr] at l; cases l
    | some r =>
      rw [hr] at h l
      simp at h l
      omega
  | false =>
    rw [hs, if_neg Bool.false_ne_true] at h l
    simp at h l
    omega
theorem Flow.push (fl : Flow as room b e xs) (hl : room.length = as.length) (w : Walk as room xs g b st e) {d : Int} (d0 : 0 ≤ d) (dl : ∀ s ∈ st, ∀ y, left room xs s = some y → d ≤ y) (hbe : b ≠ e) : Flow as room b e (push d xs st) ∧ out as (Fl.push d xs st) b = out as xs b + d := by
  have nd := w.nodup
  have at_ : ∀ (k : Nat) (x : Int), (Fl.push d xs st)[k]? = some x → ∃ y, xs[k]? = some y ∧ (x = y ∨ ((k, true) ∈ st ∧ x = y + d) ∨ ((k, false) ∈ st ∧ x = y - d)) := by
    intro k x h
    by_cases hk : k ∈ st.map (·.1)
    · obtain ⟨s, hs, rfl⟩ := List.mem_map.mp hk
      have hlt := (List.getElem?_eq_some_iff.mp h).1
      rw [push_len] at hlt
      have hx : xs[s.1]? = some xs[s.1] := List.getElem?_eq_getElem hlt
      rw [push_at d st xs s.1 s.2 _ nd hs hx] at h
      refine ⟨_, hx, ?_⟩
      obtain ⟨k, f⟩ := s
      cases f with
      | true => exact .inr (.inl ⟨hs, by simp at h; exact h.symm⟩)
      | false => exact .inr (.inr ⟨hs, by simp at h; simp; omega⟩)
    · rw [push_get d st xs k hk] at h
      exact ⟨x, h, .inl rfl⟩
  refine ⟨⟨by rw [push_len]; exact fl.len, fun k x h => ?_, fun k x r h hr => ?_, fun v h1 h2 => ?_⟩, ?_⟩
  · obtain ⟨y, hy, e | ⟨hs, e⟩ | ⟨hs, e⟩⟩ := at_ k x h
    · rw [e]; exact fl.nn k y hy
    · have := fl.nn k y hy; omega
    · have := dl _ hs y (by simp [left, List.getD_eq_getElem?_getD, hy])
      omega
  · obtain ⟨y, hy, e | ⟨hs, e⟩ | ⟨hs, e⟩⟩ := at_ k x h
    · rw [e]; exact fl.le k y r hy hr
    · cases r with
      | none => trivial
      | some r =>
        have := dl _ hs (r - y) (by simp [left, List.getD_eq_getElem?_getD, hy, hr])
        show x ≤ r
        omega
    · have q := fl.le k y r hy hr
      cases r with
      | none => trivial
      | some r => have : y ≤ r := q; show x ≤ r; omega
  · rw [push_out d v w.way xs fl.len, fl.cons v h1 h2]
    have e1 : (b == v) = false := by simpa using Ne.symm h1
    have e2 : (e == v) = false := by simpa using Ne.symm h2
    simp [e1, e2, ind]
  · rw [push_out d b w.way xs fl.len]
    have e2 : (e == b) = false := by simpa using Ne.symm hbe
    simp [e2, ind]
/-- out of a cut a way goes back along a road, or by a road with a bound -/
theorem Walk.cross {S : Int → Bool} (w : Walk as room xs g b st p) (hS : S b = true) (hP : S p = false) (t : Tight S as room) : ∃ s ∈ st, ∃ y, left room xs s = some y := by
  induction w with
  | nil => rw [hS] at hP; cases hP
  | @cons q p k f r h hh lt w ih =>
    cases hq : S q with
    | true =>
      refine ⟨(k, f), List.mem_cons_self, ?_⟩
      rcases h with ⟨rfl, h⟩ | ⟨rfl, h⟩
      · obtain ⟨r', hr⟩ := t k (q, p) h hq hP
        exact ⟨_, by simp [left, List.getD_eq_getElem?_getD, hr]; rfl⟩
      · exact ⟨_, by simp [left]; rfl⟩
    | false =>
      obtain ⟨s, hs, y, hy⟩ := ih hq
      exact ⟨s, List.mem_cons_of_mem _ hs, y, hy⟩
end

/-! ### the tree of places reached -/
abbrev Tr := List (Int × Option (Nat × Int × Bool))
def keys (t : Tr) : List Int := t.map (·.1)
structure Tree (as : List Arc) (room : List (Option Int)) (xs : List Int) (b : Int) (t : Tr) : Prop where
  hd : t[0]? = some (b, none)
  nd : (keys t).Nodup
  st : ∀ (i : Nat) (p : Int) (k : Nat) (q : Int) (f : Bool), t[i]? = some (p, some (k, q, f)) → (∃ j, j < i ∧ (keys t)[j]? = some q) ∧ step as q k p f ∧ has room xs k f = true
  only : ∀ (i : Nat) (p : Int), t[i]? = some (p, none) → i = 0
theorem Tree.start (as : List Arc) (room : List (Option Int)) (xs : List Int) (b : Int) : Tree as room xs b [(b, none)] where
  hd := rfl
  nd := by simp [keys]
  st := fun i p k q f h => by
    cases i with
    | zero => simp at h
    | succ i => simp at h
  only := fun i p h => by
    cases i with
    | zero => rfl
    | succ i => simp at h
theorem Tree.grow {as : List Arc} {room : List (Option Int)} {xs : List Int} {b : Int} {t : Tr} (T : Tree as room xs b t) {p : Int} {k : Nat} {q : Int} {f : Bool} (hq : q ∈ keys t) (hp : p ∉ keys t) (s : step as q k p f) (h : has room xs k f = true) : Tree as room xs b (t ++ [(p, some (k, q, f))]) where
  hd := by
    have := (List.getElem?_eq_some_iff.mp T.hd).1
    rw [List.getElem?_append_left this]; exact T.hd
  nd := by
    unfold keys
    rw [List.map_append, List.nodup_append]
    refine ⟨T.nd, by simp, fun x hx y hy => ?_⟩
    simp at hy
    subst hy
    intro e
    exact hp (by rw [← e]; exact hx)
  st := fun i p' k' q' f' h' => by
    have hk : keys (t ++ [(p, some (k, q, f))]) = keys t ++ [p] := by simp [keys]
    by_cases hi : i < t.length
    · rw [List.getElem?_append_left hi] at h'
      obtain ⟨⟨j, h1, h2⟩, h3⟩ := T.st i p' k' q' f' h'
      refine ⟨⟨j, h1, ?_⟩, h3⟩
      rw [hk, List.getElem?_append_left (by simp [keys]; omega)]
      exact h2
    · rw [List.getElem?_append_right (by omega)] at h'
      have hi0 : i - t.length = 0 := by
        have := (List.getElem?_eq_some_iff.mp h').1
        simp at this; omega
      rw [hi0] at h'
      simp at h'
      obtain ⟨rfl, rfl, rfl, rfl⟩ := h'
      obtain ⟨j, hj, e⟩ := List.getElem_of_mem hq
      refine ⟨⟨j, by simp [keys] at hj; omega, ?_⟩, s, h⟩
      rw [hk, List.getElem?_append_left hj, List.getElem?_eq_getElem hj, e]
  only := fun i p' h' => by
    by_cases hi : i < t.length
    · rw [List.getElem?_append_left hi] at h'
      exact T.only i p' h'
    · rw [List.getElem?_append_right (by omega)] at h'
      have hi0 : i - t.length = 0 := by
        have := (List.getElem?_eq_some_iff.mp h').1
        simp at this; omega
      rw [hi0] at h'
      simp at h'
/-- the way back from a place -/
def idx (t : Tr) (p : Int) : Nat := (keys t).idxOf p
theorem Tree.walk {as : List Arc} {room : List (Option Int)} {xs : List Int} {b : Int} {t : Tr} (T : Tree as room xs b t) {p : Int} {k : Nat} {q : Int} {f : Bool} {i : Nat} (h : t[i]? = some (p, some (k, q, f))) : step as q k p f ∧ has room xs k f = true ∧ idx t q < idx t p ∧ q ∈ keys t := by
  obtain ⟨⟨j, h1, h2⟩, h3, h4⟩ := T.st i p k q f h
  have hi : (keys t)[i]? = some p := by simp [keys, h]
  have e1 : ∀ {i : Nat} {p : Int}, (keys t)[i]? = some p → idx t p = i := by
    intro i p h
    obtain ⟨hlt, e⟩ := List.getElem?_eq_some_iff.mp h
    unfold idx
    rw [← e]
    exact List.Nodup.idxOf_getElem T.nd i hlt
  refine ⟨h3, h4, by rw [e1 h2, e1 hi]; exact h1, List.mem_of_getElem? h2⟩
end Fl

namespace K46
open PySem PySem.Spec L2 BV
/-! the text, printed by gen.py -/
def topS (i : Nat) : Stmt := PySem.Challenge.pw_suretrips_k46_whole_values_beside_all_fl.main.body.getD i (.Pass ⟨0, 0, 0, 0⟩)
abbrev s_led_ways : Stmt := topS 3
abbrev N_led_ways : List Str := ["arcs", "found", "arc", "foot", "head"]
abbrev ps_led_ways : List Str := ["arcs"]
theorem sc_led_ways : FnScope N_led_ways ps_led_ways (defScope s_led_ways) := ⟨rfl, rfl, rfl, by decide +kernel, rfl, by decide +kernel, by decide +kernel⟩
abbrev ms_led_ways : List Md := [.val]
abbrev s_has_room : Stmt := topS 4
abbrev N_has_room : List Str := ["room", "flow", "arc", "is_forth"]
abbrev ps_has_room : List Str := ["room", "flow", "arc", "is_forth"]
theorem sc_has_room : FnScope N_has_room ps_has_room (defScope s_has_room) := ⟨rfl, rfl, rfl, by decide +kernel, rfl, by decide +kernel, by decide +kernel⟩
abbrev ms_has_room : List Md := [.bor, .bor, .val, .val]
def b_has_room : BS :=
    (sSeq (sIf (tNotB (tV (bVar 3))) (sRet (b2 oGt (b2 oIx (bSee 1) (bVar 2)) (bC (.int 0)))) sNext)
    (sRet (bOr (bIsN (b2 oIx (bSee 0) (bVar 2))) (b2 oLt (b2 oIx (bSee 1) (bVar 2)) (b2 oIx (bSee 0) (bVar 2))))))
theorem d_has_room {X : Cx} (c : Cz X N_has_room (defScope s_has_room) 0) (hf : ∀ y, X.fn y = true) :
    PSsb X .e (defBody s_has_room) (b_has_room) :=
  (ss_cons (ss_if (pt_n (pt_v (pb_var c 3 (by decide +kernel)))) (ss_one (ss_ret (q_gt (pb_ix (pb_see c 1 (by decide +kernel)) (pb_var c 2 (by decide +kernel)) (fun _ _ => rfl)) pb_int))) ss_nil)
      (ss_one (ss_ret (pb_or (pb_isN (pb_ix (pb_see c 0 (by decide +kernel)) (pb_var c 2 (by decide +kernel)) (fun _ _ => rfl))) (pb_one (q_lt (pb_ix (pb_see c 1 (by decide +kernel)) (pb_var c 2 (by decide +kernel)) (fun _ _ => rfl)) (pb_ix (pb_see c 0 (by decide +kernel)) (pb_var c 2 (by decide +kernel)) (fun _ _ => rfl))))))))
abbrev s_reached : Stmt := topS 5
abbrev N_reached : List Str := ["ways", "room", "flow", "begin", "end", "came", "waiting", "spot", "place", "arc", "other", "is_forth"]
abbrev ps_reached : List Str := ["ways", "room", "flow", "begin", "end"]
theorem sc_reached : FnScope N_reached ps_reached (defScope s_reached) := ⟨rfl, rfl, rfl, by decide +kernel, rfl, by decide +kernel, by decide +kernel⟩
abbrev ms_reached : List Md := [.val, .bor, .bor, .val, .val]
def b_reached (Φ_has_room : Spe) : BS :=
    (sSeq (sPar [5, 6, 7] (cCons (.d false) (bDisp [((bVar 3), (bC .none))]) (cCons .l (bLst (bCons (bVar 3) bNil)) (cCons .e (bC (.int 0)) cNil))))
    (sSeq (sWhile (tAndB (tV (b2 oLt (bVar 7) (bN oLen (bCons (bSee 6) bNil)))) (tV (bInS 5 true (bVar 4)))) (sSeq (sSet 8 (b2 oIx (bSee 6) (bVar 7)))
    (sSeq (sSet 7 (b2 oAdd (bVar 7) (bC (.int 1))))
    (sFor (iSeq (b2 oDGet (bVar 0) (bVar 8))) (pTup 3 (pCons (pName 9) (pCons (pName 10) (pCons (pName 11) pNil)))) (sIf (tAndB (tV (bInS 5 true (bVar 10))) (tV (bCall Φ_has_room (qBor (bSee 1) (qBor (bSee 2) (qVal (bVar 9) (qVal (bVar 11) qNil))))))) (sSeq (sDPutB 5 (bVar 10) (bTup (bCons (bVar 9) (bCons (bVar 8) (bCons (bVar 11) bNil)))))
    (sApp 6 (mE (bVar 10)))) sNext)))))
    (sTell 5 (sRet (bVar 5)))))
theorem d_reached {X : Cx} {Φ_has_room : Spe} (c : Cz X N_reached (defScope s_reached) 1) (hf : ∀ y, X.fn y = true) (f_has_room : Cal X.prog X.w X.K X.mg X.base CX0 1 "has_room" ps_has_room (toSp .e ms_has_room Φ_has_room)) (m_len : X.mg "len" = none) :
    PSsb X .e (defBody s_reached) (b_reached Φ_has_room) :=
  (ss_cons (s_par3 c 5 6 7 (by decide +kernel) (pp_cons (pb_disp (bs := [((bVar 3), (bC .none))]) (pps_cons (pb_var c 3 (by decide +kernel)) pb_non pps_nil) rfl rfl (by decide) (by decide)) (pp_cons (pb_lst (pd_cons (pb_var c 3 (by decide +kernel)) pd_nil)) (pp_cons pb_int pp_nil))))
      (ss_cons (s_while c (pt_w (pw_a (t_lt (pb_var c 7 (by decide +kernel)) (q_len c m_len (by decide +kernel) (pa_cons' (pb_see c 6 (by decide +kernel)) pa_nil'))) (pw_a1 (pt_dnotS c.hu (pe_v c 5 (by decide +kernel)) (pb_var c 4 (by decide +kernel)))))) (ss_cons (s_set c hf 8 (by decide +kernel) (pb_ix (pb_see c 6 (by decide +kernel)) (pb_var c 7 (by decide +kernel)) (fun _ _ => rfl)))
      (ss_cons (s_set c hf 7 (by decide +kernel) (q_add (pb_var c 7 (by decide +kernel)) pb_int))
      (ss_one (s_for c (it_seq (pb_dget c.hu (pb_var c 0 (by decide +kernel)) (pb_var c 8 (by decide +kernel)) (fun _ _ => rfl))) (pg_t c.calm (pgs_c (g_v c hf 9 (by decide +kernel)) (pgs_c (g_v c hf 10 (by decide +kernel)) (pgs_c (g_v c hf 11 (by decide +kernel)) pgs_n)))) (ss_one (ss_if (pt_w (pw_a (pt_dnotS c.hu (pe_v c 5 (by decide +kernel)) (pb_var c 10 (by decide +kernel))) (pw_a1 (pt_v (pb_call c f_has_room (by decide) (by decide +kernel) (pq_bor (pb_see c 1 (by decide +kernel)) (pq_bor (pb_see c 2 (by decide +kernel)) (pq_val (pb_var c 9 (by decide +kernel)) (pq_val (pb_var c 11 (by decide +kernel)) pq_nil))))))))) (ss_cons (s_dput c (pe_v c 5 (by decide +kernel)) (pb_var c 10 (by decide +kernel)) (pb_tup (pd_cons (pb_var c 9 (by decide +kernel)) (pd_cons (pb_var c 8 (by decide +kernel)) (pd_cons (pb_var c 11 (by decide +kernel)) pd_nil)))))
      (ss_one (ss_app (pe_v c 6 (by decide +kernel)) (pm_e (pb_var c 10 (by decide +kernel)))))) ss_nil)))))))
      (ss_tell (i := 5) (ss_one (ss_ret (pb_var c 5 (by decide +kernel)))))))
abbrev s_steps_back : Stmt := topS 6
abbrev N_steps_back : List Str := ["came", "end", "found", "arc", "is_forth"]
abbrev ps_steps_back : List Str := ["came", "end"]
theorem sc_steps_back : FnScope N_steps_back ps_steps_back (defScope s_steps_back) := ⟨rfl, rfl, rfl, by decide +kernel, rfl, by decide +kernel, by decide +kernel⟩
abbrev ms_steps_back : List Md := [.val, .val]
def b_steps_back : BS :=
    (sSeq (sSetL 2 (bLst bNil))
    (sSeq (sWhile (tV (bNotN (b2 oDGet (bVar 0) (bVar 1)))) (sSeq (sAsg (pTup 3 (pCons (pName 3) (pCons (pName 1) (pCons (pName 4) pNil)))) (b2 oDGet (bVar 0) (bVar 1)))
    (sApp 2 (mE (bTup (bCons (bVar 3) (bCons (bVar 4) bNil)))))))
    (sTell 2 (sRet (bVar 2)))))
theorem d_steps_back {X : Cx} (c : Cz X N_steps_back (defScope s_steps_back) 0) (hf : ∀ y, X.fn y = true) :
    PSsb X .e (defBody s_steps_back) (b_steps_back) :=
  (ss_cons (s_setL c hf 2 (by decide +kernel) (pb_lst pd_nil))
      (ss_cons (s_while c (pt_notN (pb_dget c.hu (pb_var c 0 (by decide +kernel)) (pb_var c 1 (by decide +kernel)) (fun _ _ => rfl))) (ss_cons (s_asg c (pb_dget c.hu (pb_var c 0 (by decide +kernel)) (pb_var c 1 (by decide +kernel)) (fun _ _ => rfl)) (pg_t c.calm (pgs_c (g_v c hf 3 (by decide +kernel)) (pgs_c (g_v c hf 1 (by decide +kernel)) (pgs_c (g_v c hf 4 (by decide +kernel)) pgs_n)))))
      (ss_one (ss_app (pe_v c 2 (by decide +kernel)) (pm_e (pb_tup (pd_cons (pb_var c 3 (by decide +kernel)) (pd_cons (pb_var c 4 (by decide +kernel)) pd_nil))))))))
      (ss_tell (i := 2) (ss_one (ss_ret (pb_var c 2 (by decide +kernel)))))))
abbrev s_least_left : Stmt := topS 7
abbrev N_least_left : List Str := ["room", "flow", "steps", "left", "arc", "is_forth"]
abbrev ps_least_left : List Str := ["room", "flow", "steps"]
theorem sc_least_left : FnScope N_least_left ps_least_left (defScope s_least_left) := ⟨rfl, rfl, rfl, by decide +kernel, rfl, by decide +kernel, by decide +kernel⟩
abbrev ms_least_left : List Md := [.bor, .bor, .val]
def b_least_left : BS :=
    (sSeq (sSetL 3 (bLc (iSeq (bVar 2)) ([("arc", 4), ("is_forth", 5)].map (·.2)) (pTup 2 (pCons (pName 4) (pCons (pName 5) pNil))) (tNotB (tV (bVar 5))) (b2 oIx (bSee 1) (bVar 4))))
    (sSeq (sExt 3 (bLc (iSeq (bVar 2)) ([("arc", 4), ("is_forth", 5)].map (·.2)) (pTup 2 (pCons (pName 4) (pCons (pName 5) pNil))) (tAndB (tV (bVar 5)) (tV (bNotN (b2 oIx (bSee 0) (bVar 4))))) (b2 oSub (b2 oIx (bSee 0) (bVar 4)) (b2 oIx (bSee 1) (bVar 4)))))
    (sRet (bIf (tV (b2 oNe (bSee 3) (bLst bNil))) (bN oMinL (bCons (bSee 3) bNil)) (bC .none)))))
theorem d_least_left {X : Cx} (c : Cz X N_least_left (defScope s_least_left) 0) (hf : ∀ y, X.fn y = true) (m_min : X.mg "min" = none) :
    PSsb X .e (defBody s_least_left) (b_least_left) :=
  (ss_cons (s_setLc c 3 (by decide +kernel) [("arc", 4), ("is_forth", 5)] (by decide +kernel) (by decide) (it_seq (pb_var c 2 (by decide +kernel))) (fun s0 h0 C0 l0 p0 => (pg_t (c.blk s0 h0 _ C0 l0 p0).calm (pgs_c (g_b c s0 h0 _ C0 l0 p0 4 (by decide +kernel) (by decide +kernel)) (pgs_c (g_b c s0 h0 _ C0 l0 p0 5 (by decide +kernel) (by decide +kernel)) pgs_n)))) (fun s0 h0 C0 l0 p0 => pts_1 (pt_n (pt_v (pb_var (c.blk s0 h0 _ C0 l0 p0) 5 (by decide +kernel))))) (fun s0 h0 C0 l0 p0 => (pb_ix (pb_see (c.blk s0 h0 _ C0 l0 p0) 1 (by decide +kernel)) (pb_var (c.blk s0 h0 _ C0 l0 p0) 4 (by decide +kernel)) (fun _ _ => rfl))))
      (ss_cons (ss_ext (pe_v c 3 (by decide +kernel)) (q_lc c [("arc", 4), ("is_forth", 5)] (by decide +kernel) (by decide) (by decide +kernel) (it_seq (pb_var c 2 (by decide +kernel))) (fun s0 h0 C0 l0 p0 => (pg_t (c.blk s0 h0 _ C0 l0 p0).calm (pgs_c (g_b c s0 h0 _ C0 l0 p0 4 (by decide +kernel) (by decide +kernel)) (pgs_c (g_b c s0 h0 _ C0 l0 p0 5 (by decide +kernel) (by decide +kernel)) pgs_n)))) (fun s0 h0 C0 l0 p0 => pts_1 (pt_w (pw_a (pt_v (pb_var (c.blk s0 h0 _ C0 l0 p0) 5 (by decide +kernel))) (pw_a1 (pt_notN (pb_ix (pb_see (c.blk s0 h0 _ C0 l0 p0) 0 (by decide +kernel)) (pb_var (c.blk s0 h0 _ C0 l0 p0) 4 (by decide +kernel)) (fun _ _ => rfl))))))) (fun s0 h0 C0 l0 p0 => (q_sub (pb_ix (pb_see (c.blk s0 h0 _ C0 l0 p0) 0 (by decide +kernel)) (pb_var (c.blk s0 h0 _ C0 l0 p0) 4 (by decide +kernel)) (fun _ _ => rfl)) (pb_ix (pb_see (c.blk s0 h0 _ C0 l0 p0) 1 (by decide +kernel)) (pb_var (c.blk s0 h0 _ C0 l0 p0) 4 (by decide +kernel)) (fun _ _ => rfl))))))
      (ss_one (ss_ret (pb_if (t_ne c (pb_see c 3 (by decide +kernel)) (pb_lst pd_nil)) (q_minL c m_min (by decide +kernel) (pa_cons' (pb_see c 3 (by decide +kernel)) pa_nil')) pb_non)))))
abbrev s_pushed : Stmt := topS 8
abbrev N_pushed : List Str := ["arcs", "room", "begin", "end", "came", "ways", "flow", "steps", "more", "arc", "is_forth"]
abbrev ps_pushed : List Str := ["arcs", "room", "begin", "end"]
theorem sc_pushed : FnScope N_pushed ps_pushed (defScope s_pushed) := ⟨rfl, rfl, rfl, by decide +kernel, rfl, by decide +kernel, by decide +kernel⟩
abbrev ms_pushed : List Md := [.val, .val, .val, .val]
def b_pushed (Φ_led_ways : Spe) (Φ_reached : Spe) (Φ_steps_back : Spe) (Φ_least_left : Spe) : BS :=
    (sSeq (sPar [5, 6] (cCons .e (bCall Φ_led_ways (qVal (bVar 0) qNil)) (cCons .l (b2 oRepL (bLst (bCons (bC (.int 0)) bNil)) (bN oLen (bCons (bVar 0) bNil))) cNil)))
    (sSeq (sSet 4 (bCall Φ_reached (qVal (bVar 5) (qBor (bVar 1) (qBor (bSee 6) (qVal (bVar 2) (qVal (bVar 3) qNil)))))))
    (sSeq (sWhile (tV (b2 oDIn (bVar 3) (bVar 4))) (sSeq (sSet 7 (bCall Φ_steps_back (qVal (bVar 4) (qVal (bVar 3) qNil))))
    (sSeq (sSet 8 (bCall Φ_least_left (qBor (bVar 1) (qBor (bSee 6) (qVal (bVar 7) qNil)))))
    (sSeq (sFor (iSeq (bVar 7)) (pTup 2 (pCons (pName 9) (pCons (pName 10) pNil))) (sPut 6 (bVar 9) (b2 oAdd (b2 oIx (bSee 6) (bVar 9)) (bIf (tV (bVar 10)) (bVar 8) (b1 oNeg (bVar 8))))))
    (sSet 4 (bCall Φ_reached (qVal (bVar 5) (qBor (bVar 1) (qBor (bSee 6) (qVal (bVar 2) (qVal (bVar 3) qNil)))))))))))
    (sTell 6 (sRet (bTup (bCons (bVar 6) (bCons (bVar 4) bNil))))))))
theorem d_pushed {X : Cx} {Φ_led_ways : Spe} {Φ_reached : Spe} {Φ_steps_back : Spe} {Φ_least_left : Spe} (c : Cz X N_pushed (defScope s_pushed) 2) (hf : ∀ y, X.fn y = true) (f_led_ways : Cal X.prog X.w X.K X.mg X.base CX0 1 "led_ways" ps_led_ways (toSp .e ms_led_ways Φ_led_ways)) (f_reached : Cal X.prog X.w X.K X.mg X.base CX0 2 "reached" ps_reached (toSp .e ms_reached Φ_reached)) (f_steps_back : Cal X.prog X.w X.K X.mg X.base CX0 1 "steps_back" ps_steps_back (toSp .e ms_steps_back Φ_steps_back)) (f_least_left : Cal X.prog X.w X.K X.mg X.base CX0 1 "least_left" ps_least_left (toSp .e ms_least_left Φ_least_left)) (m_len : X.mg "len" = none) :
    PSsb X .e (defBody s_pushed) (b_pushed Φ_led_ways Φ_reached Φ_steps_back Φ_least_left) :=
  (ss_cons (s_par2 c 5 6 (by decide +kernel) (pp_cons (pb_call c f_led_ways (by decide) (by decide +kernel) (pq_val (pb_var c 0 (by decide +kernel)) pq_nil)) (pp_cons (q_repL (pb_lst (pd_cons pb_int pd_nil)) (q_len c m_len (by decide +kernel) (pa_cons' (pb_var c 0 (by decide +kernel)) pa_nil'))) pp_nil)))
      (ss_cons (s_set c hf 4 (by decide +kernel) (pb_call c f_reached (by decide) (by decide +kernel) (pq_val (pb_var c 5 (by decide +kernel)) (pq_bor (pb_var c 1 (by decide +kernel)) (pq_bor (pb_see c 6 (by decide +kernel)) (pq_val (pb_var c 2 (by decide +kernel)) (pq_val (pb_var c 3 (by decide +kernel)) pq_nil)))))))
      (ss_cons (s_while c (pt_din c.hu (pb_var c 3 (by decide +kernel)) (pb_var c 4 (by decide +kernel))) (ss_cons (s_set c hf 7 (by decide +kernel) (pb_call c f_steps_back (by decide) (by decide +kernel) (pq_val (pb_var c 4 (by decide +kernel)) (pq_val (pb_var c 3 (by decide +kernel)) pq_nil))))
      (ss_cons (s_set c hf 8 (by decide +kernel) (pb_call c f_least_left (by decide) (by decide +kernel) (pq_bor (pb_var c 1 (by decide +kernel)) (pq_bor (pb_see c 6 (by decide +kernel)) (pq_val (pb_var c 7 (by decide +kernel)) pq_nil)))))
      (ss_cons (s_for c (it_seq (pb_var c 7 (by decide +kernel))) (pg_t c.calm (pgs_c (g_v c hf 9 (by decide +kernel)) (pgs_c (g_v c hf 10 (by decide +kernel)) pgs_n))) (ss_one (s_put c (pe_v c 6 (by decide +kernel)) (pb_var c 9 (by decide +kernel)) (q_add (pb_ix (pb_see c 6 (by decide +kernel)) (pb_var c 9 (by decide +kernel)) (fun _ _ => rfl)) (pb_if (pt_v (pb_var c 10 (by decide +kernel))) (pb_var c 8 (by decide +kernel)) (q_neg (pb_var c 8 (by decide +kernel))))))))
      (ss_one (s_set c hf 4 (by decide +kernel) (pb_call c f_reached (by decide) (by decide +kernel) (pq_val (pb_var c 5 (by decide +kernel)) (pq_bor (pb_var c 1 (by decide +kernel)) (pq_bor (pb_see c 6 (by decide +kernel)) (pq_val (pb_var c 2 (by decide +kernel)) (pq_val (pb_var c 3 (by decide +kernel)) pq_nil))))))))))))
      (ss_tell (i := 6) (ss_one (ss_ret (pb_tup (pd_cons (pb_var c 6 (by decide +kernel)) (pd_cons (pb_var c 4 (by decide +kernel)) pd_nil)))))))))
abbrev s_arcs_for : Stmt := topS 9
abbrev N_arcs_for : List Str := ["net", "feet", "heads", "ends", "found", "road", "place", "foot", "head"]
abbrev ps_arcs_for : List Str := ["net", "feet", "heads", "ends"]
theorem sc_arcs_for : FnScope N_arcs_for ps_arcs_for (defScope s_arcs_for) := ⟨rfl, rfl, rfl, by decide +kernel, rfl, by decide +kernel, by decide +kernel⟩
abbrev ms_arcs_for : List Md := [.val, .val, .val, .val]
def b_arcs_for : BS :=
    (sSeq (sSetL 4 (bLc (iEnu (iSeq (b2 oIx (bVar 0) (bC (.int 1))))) ([("road", 5), ("foot", 7), ("head", 8)].map (·.2)) (pTup 2 (pCons (pName 5) (pCons (pTup 2 (pCons (pName 7) (pCons (pName 8) pNil))) pNil))) tYesB (bTup (bCons (bVar 7) (bCons (bIf (tV (b2 oInU (bVar 5) (bVar 3))) (bC (.int (-2))) (bVar 8)) bNil)))))
    (sSeq (sExt 4 (bLc (iSeq (bVar 1)) ([("place", 6)].map (·.2)) (pName 6) tYesB (bTup (bCons (bC (.int (-1))) (bCons (bVar 6) bNil)))))
    (sSeq (sExt 4 (bLc (iSeq (bVar 2)) ([("place", 6)].map (·.2)) (pName 6) tYesB (bTup (bCons (bVar 6) (bCons (bC (.int (-2))) bNil)))))
    (sTell 4 (sRet (bVar 4))))))
theorem d_arcs_for {X : Cx} (c : Cz X N_arcs_for (defScope s_arcs_for) 0) (hf : ∀ y, X.fn y = true) (m_enumerate : X.mg "enumerate" = none) (m_END : ∃ t, X.mg "END" = some (.int (-2) t)) (m_BEGIN : ∃ t, X.mg "BEGIN" = some (.int (-1) t)) :
    PSsb X .e (defBody s_arcs_for) (b_arcs_for) :=
  (ss_cons (s_setLc c 4 (by decide +kernel) [("road", 5), ("foot", 7), ("head", 8)] (by decide +kernel) (by decide) (i_enu c m_enumerate (by decide +kernel) (pb_ix (pb_var c 0 (by decide +kernel)) pb_int (fun _ _ => rfl))) (fun s0 h0 C0 l0 p0 => (pg_t (c.blk s0 h0 _ C0 l0 p0).calm (pgs_c (g_b c s0 h0 _ C0 l0 p0 5 (by decide +kernel) (by decide +kernel)) (pgs_c (pg_t (c.blk s0 h0 _ C0 l0 p0).calm (pgs_c (g_b c s0 h0 _ C0 l0 p0 7 (by decide +kernel) (by decide +kernel)) (pgs_c (g_b c s0 h0 _ C0 l0 p0 8 (by decide +kernel) (by decide +kernel)) pgs_n))) pgs_n)))) (fun _ _ _ _ _ => pts_n) (fun s0 h0 C0 l0 p0 => (pb_tup (pd_cons (pb_var (c.blk s0 h0 _ C0 l0 p0) 7 (by decide +kernel)) (pd_cons (pb_if (t_in (c.blk s0 h0 _ C0 l0 p0) (pb_var (c.blk s0 h0 _ C0 l0 p0) 5 (by decide +kernel)) (pb_var (c.blk s0 h0 _ C0 l0 p0) 3 (by decide +kernel))) (q_globI (c.blk s0 h0 _ C0 l0 p0) m_END (by decide +kernel)) (pb_var (c.blk s0 h0 _ C0 l0 p0) 8 (by decide +kernel))) pd_nil)))))
      (ss_cons (ss_ext (pe_v c 4 (by decide +kernel)) (q_lc c [("place", 6)] (by decide +kernel) (by decide) (by decide +kernel) (it_seq (pb_var c 1 (by decide +kernel))) (fun s0 h0 C0 l0 p0 => (g_b c s0 h0 _ C0 l0 p0 6 (by decide +kernel) (by decide +kernel))) (fun _ _ _ _ _ => pts_n) (fun s0 h0 C0 l0 p0 => (pb_tup (pd_cons (q_globI (c.blk s0 h0 _ C0 l0 p0) m_BEGIN (by decide +kernel)) (pd_cons (pb_var (c.blk s0 h0 _ C0 l0 p0) 6 (by decide +kernel)) pd_nil))))))
      (ss_cons (ss_ext (pe_v c 4 (by decide +kernel)) (q_lc c [("place", 6)] (by decide +kernel) (by decide) (by decide +kernel) (it_seq (pb_var c 2 (by decide +kernel))) (fun s0 h0 C0 l0 p0 => (g_b c s0 h0 _ C0 l0 p0 6 (by decide +kernel) (by decide +kernel))) (fun _ _ _ _ _ => pts_n) (fun s0 h0 C0 l0 p0 => (pb_tup (pd_cons (pb_var (c.blk s0 h0 _ C0 l0 p0) 6 (by decide +kernel)) (pd_cons (q_globI (c.blk s0 h0 _ C0 l0 p0) m_END (by decide +kernel)) pd_nil))))))
      (ss_tell (i := 4) (ss_one (ss_ret (pb_var c 4 (by decide +kernel))))))))
abbrev s_endless_way : Stmt := topS 10
abbrev N_endless_way : List Str := ["net", "room", "feet", "heads", "ends", "arcs", "open_room", "came", "steps", "own", "arc", "is_forth"]
abbrev ps_endless_way : List Str := ["net", "room", "feet", "heads", "ends"]
theorem sc_endless_way : FnScope N_endless_way ps_endless_way (defScope s_endless_way) := ⟨rfl, rfl, rfl, by decide +kernel, rfl, by decide +kernel, by decide +kernel⟩
abbrev ms_endless_way : List Md := [.val, .val, .val, .val, .val]
def b_endless_way (Φ_arcs_for : Spe) (Φ_led_ways : Spe) (Φ_reached : Spe) (Φ_steps_back : Spe) : BS :=
    (sSeq (sSet 5 (bCall Φ_arcs_for (qVal (bVar 0) (qVal (bVar 2) (qVal (bVar 3) (qVal (bVar 4) qNil))))))
    (sSeq (sSet 6 (b2 oAdd (bLc (iSeq (bVar 1)) ([("own", 9)].map (·.2)) (pName 9) tYesB (bIf (tV (bIsN (bVar 9))) (bC .none) (bC (.int 0)))) (b2 oMul (bLst (bCons (bC .none) bNil)) (b2 oAdd (bN oLen (bCons (bVar 2) bNil)) (bN oLen (bCons (bVar 3) bNil))))))
    (sSeq (sSet 7 (bCall Φ_reached (qVal (bCall Φ_led_ways (qVal (bVar 5) qNil)) (qBor (bVar 6) (qBor (b2 oMul (bLst (bCons (bC (.int 0)) bNil)) (bN oLen (bCons (bVar 5) bNil))) (qVal (bC (.int (-1))) (qVal (bC (.int (-2))) qNil)))))))
    (sSeq (sIf (tV (b2 oDNot (bC (.int (-2))) (bVar 7))) (sRet (bC .none)) sNext)
    (sSeq (sSetL 8 (bLc (iSeq (bCall Φ_steps_back (qVal (bVar 7) (qVal (bC (.int (-2))) qNil)))) ([("arc", 10), ("is_forth", 11)].map (·.2)) (pTup 2 (pCons (pName 10) (pCons (pName 11) pNil))) (tV (b2 oLt (bVar 10) (bN oLen (bCons (bVar 1) bNil)))) (bVar 10)))
    (sRet (bN oTupOf (bCons (bRevL (bSee 8)) bNil))))))))
theorem d_endless_way {X : Cx} {Φ_arcs_for : Spe} {Φ_led_ways : Spe} {Φ_reached : Spe} {Φ_steps_back : Spe} (c : Cz X N_endless_way (defScope s_endless_way) 2) (hf : ∀ y, X.fn y = true) (f_arcs_for : Cal X.prog X.w X.K X.mg X.base CX0 1 "arcs_for" ps_arcs_for (toSp .e ms_arcs_for Φ_arcs_for)) (f_led_ways : Cal X.prog X.w X.K X.mg X.base CX0 1 "led_ways" ps_led_ways (toSp .e ms_led_ways Φ_led_ways)) (f_reached : Cal X.prog X.w X.K X.mg X.base CX0 2 "reached" ps_reached (toSp .e ms_reached Φ_reached)) (f_steps_back : Cal X.prog X.w X.K X.mg X.base CX0 1 "steps_back" ps_steps_back (toSp .e ms_steps_back Φ_steps_back)) (m_len : X.mg "len" = none) (m_END : ∃ t, X.mg "END" = some (.int (-2) t)) (m_BEGIN : ∃ t, X.mg "BEGIN" = some (.int (-1) t)) (m_tuple : X.mg "tuple" = none) :
    PSsb X .e (defBody s_endless_way) (b_endless_way Φ_arcs_for Φ_led_ways Φ_reached Φ_steps_back) :=
  (ss_cons (s_set c hf 5 (by decide +kernel) (pb_call c f_arcs_for (by decide) (by decide +kernel) (pq_val (pb_var c 0 (by decide +kernel)) (pq_val (pb_var c 2 (by decide +kernel)) (pq_val (pb_var c 3 (by decide +kernel)) (pq_val (pb_var c 4 (by decide +kernel)) pq_nil))))))
      (ss_cons (s_set c hf 6 (by decide +kernel) (q_add (q_lc c [("own", 9)] (by decide +kernel) (by decide) (by decide +kernel) (it_seq (pb_var c 1 (by decide +kernel))) (fun s0 h0 C0 l0 p0 => (g_b c s0 h0 _ C0 l0 p0 9 (by decide +kernel) (by decide +kernel))) (fun _ _ _ _ _ => pts_n) (fun s0 h0 C0 l0 p0 => (pb_if (pt_isN (pb_var (c.blk s0 h0 _ C0 l0 p0) 9 (by decide +kernel))) pb_non pb_int))) (q_mul (pb_lst (pd_cons pb_non pd_nil)) (q_add (q_len c m_len (by decide +kernel) (pa_cons' (pb_var c 2 (by decide +kernel)) pa_nil')) (q_len c m_len (by decide +kernel) (pa_cons' (pb_var c 3 (by decide +kernel)) pa_nil'))))))
      (ss_cons (s_set c hf 7 (by decide +kernel) (pb_call c f_reached (by decide) (by decide +kernel) (pq_val (pb_call c f_led_ways (by decide) (by decide +kernel) (pq_val (pb_var c 5 (by decide +kernel)) pq_nil)) (pq_bor (pb_var c 6 (by decide +kernel)) (pq_bor (q_mul (pb_lst (pd_cons pb_int pd_nil)) (q_len c m_len (by decide +kernel) (pa_cons' (pb_var c 5 (by decide +kernel)) pa_nil'))) (pq_val (q_globI c m_BEGIN (by decide +kernel)) (pq_val (q_globI c m_END (by decide +kernel)) pq_nil)))))))
      (ss_cons (ss_if (pt_dnot c.hu (q_globI c m_END (by decide +kernel)) (pb_var c 7 (by decide +kernel))) (ss_one (ss_ret pb_non)) ss_nil)
      (ss_cons (s_setLc c 8 (by decide +kernel) [("arc", 10), ("is_forth", 11)] (by decide +kernel) (by decide) (it_seq (pb_call c f_steps_back (by decide) (by decide +kernel) (pq_val (pb_var c 7 (by decide +kernel)) (pq_val (q_globI c m_END (by decide +kernel)) pq_nil)))) (fun s0 h0 C0 l0 p0 => (pg_t (c.blk s0 h0 _ C0 l0 p0).calm (pgs_c (g_b c s0 h0 _ C0 l0 p0 10 (by decide +kernel) (by decide +kernel)) (pgs_c (g_b c s0 h0 _ C0 l0 p0 11 (by decide +kernel) (by decide +kernel)) pgs_n)))) (fun s0 h0 C0 l0 p0 => pts_1 (t_lt (pb_var (c.blk s0 h0 _ C0 l0 p0) 10 (by decide +kernel)) (q_len (c.blk s0 h0 _ C0 l0 p0) m_len (by decide +kernel) (pa_cons' (pb_var (c.blk s0 h0 _ C0 l0 p0) 1 (by decide +kernel)) pa_nil')))) (fun s0 h0 C0 l0 p0 => (pb_var (c.blk s0 h0 _ C0 l0 p0) 10 (by decide +kernel))))
      (ss_one (ss_ret (q_tuple c m_tuple (by decide +kernel) (pa_cons' (pb_revL (pb_see c 8 (by decide +kernel))) pa_nil')))))))))
abbrev s_greatest_flow : Stmt := topS 11
abbrev N_greatest_flow : List Str := ["net", "room", "feet", "heads", "ends", "way", "value", "arcs", "many", "flow", "came", "place"]
abbrev ps_greatest_flow : List Str := ["net", "room", "feet", "heads", "ends"]
theorem sc_greatest_flow : FnScope N_greatest_flow ps_greatest_flow (defScope s_greatest_flow) := ⟨rfl, rfl, rfl, by decide +kernel, rfl, by decide +kernel, by decide +kernel⟩
abbrev ms_greatest_flow : List Md := [.val, .val, .val, .val, .val]
def b_greatest_flow (Φ_endless_way : Spe) (Φ_arcs_for : Spe) (Φ_pushed : Spe) : BS :=
    (sSeq (sSet 5 (bCall Φ_endless_way (qVal (bVar 0) (qVal (bVar 1) (qVal (bVar 2) (qVal (bVar 3) (qVal (bVar 4) qNil)))))))
    (sSeq (sIf (tV (bNotN (bVar 5))) (sRet (bTup (bCons (bC .none) (bCons (bVar 5) (bCons (bTup bNil) bNil))))) sNext)
    (sSeq (sPar [7, 8] (cCons .e (bCall Φ_arcs_for (qVal (bVar 0) (qVal (bVar 2) (qVal (bVar 3) (qVal (bVar 4) qNil))))) (cCons .e (bN oLen (bCons (bVar 1) bNil)) cNil)))
    (sSeq (sAsg (pTup 2 (pCons (pName 9) (pCons (pName 10) pNil))) (bCall Φ_pushed (qVal (bVar 7) (qVal (b2 oAdd (bN oListOf (bCons (bVar 1) bNil)) (b2 oMul (bLst (bCons (bC .none) bNil)) (b2 oAdd (bN oLen (bCons (bVar 2) bNil)) (bN oLen (bCons (bVar 3) bNil))))) (qVal (bC (.int (-1))) (qVal (bC (.int (-2))) qNil))))))
    (sSeq (sSet 6 (bN oSum (bCons (bSlL (bVar 9) (wAt (bVar 8)) (wAt (b2 oAdd (bVar 8) (bN oLen (bCons (bVar 2) bNil))))) bNil)))
    (sRet (bTup (bCons (bVar 6) (bCons (bN oTupOf (bCons (bSlL (bVar 9) wNo (wAt (bVar 8))) bNil)) (bCons (bN oTupOf (bCons (bN oSortI (bCons (bLc (fun ρ Q => (bVar 10) ρ fun d => oKeys d Q) ([("place", 11)].map (·.2)) (pName 11) (tV (b2 oGe (bVar 11) (bC (.int 0)))) (bVar 11)) bNil)) bNil)) bNil))))))))))
theorem d_greatest_flow {X : Cx} {Φ_endless_way : Spe} {Φ_arcs_for : Spe} {Φ_pushed : Spe} (c : Cz X N_greatest_flow (defScope s_greatest_flow) 3) (hf : ∀ y, X.fn y = true) (f_endless_way : Cal X.prog X.w X.K X.mg X.base CX0 3 "endless_way" ps_endless_way (toSp .e ms_endless_way Φ_endless_way)) (f_arcs_for : Cal X.prog X.w X.K X.mg X.base CX0 1 "arcs_for" ps_arcs_for (toSp .e ms_arcs_for Φ_arcs_for)) (f_pushed : Cal X.prog X.w X.K X.mg X.base CX0 3 "pushed" ps_pushed (toSp .e ms_pushed Φ_pushed)) (m_len : X.mg "len" = none) (m_END : ∃ t, X.mg "END" = some (.int (-2) t)) (m_BEGIN : ∃ t, X.mg "BEGIN" = some (.int (-1) t)) (m_list : X.mg "list" = none) (m_sum : X.mg "sum" = none) (m_sorted : X.mg "sorted" = none) (m_tuple : X.mg "tuple" = none) :
    PSsb X .e (defBody s_greatest_flow) (b_greatest_flow Φ_endless_way Φ_arcs_for Φ_pushed) :=
  (ss_cons (s_set c hf 5 (by decide +kernel) (pb_call c f_endless_way (by decide) (by decide +kernel) (pq_val (pb_var c 0 (by decide +kernel)) (pq_val (pb_var c 1 (by decide +kernel)) (pq_val (pb_var c 2 (by decide +kernel)) (pq_val (pb_var c 3 (by decide +kernel)) (pq_val (pb_var c 4 (by decide +kernel)) pq_nil)))))))
      (ss_cons (ss_if (pt_notN (pb_var c 5 (by decide +kernel))) (ss_one (ss_ret (pb_tup (pd_cons pb_non (pd_cons (pb_var c 5 (by decide +kernel)) (pd_cons (pb_tup pd_nil) pd_nil)))))) ss_nil)
      (ss_cons (s_par2 c 7 8 (by decide +kernel) (pp_cons (pb_call c f_arcs_for (by decide) (by decide +kernel) (pq_val (pb_var c 0 (by decide +kernel)) (pq_val (pb_var c 2 (by decide +kernel)) (pq_val (pb_var c 3 (by decide +kernel)) (pq_val (pb_var c 4 (by decide +kernel)) pq_nil))))) (pp_cons (q_len c m_len (by decide +kernel) (pa_cons' (pb_var c 1 (by decide +kernel)) pa_nil')) pp_nil)))
      (ss_cons (s_asg c (pb_call c f_pushed (by decide) (by decide +kernel) (pq_val (pb_var c 7 (by decide +kernel)) (pq_val (q_add (q_list c m_list (by decide +kernel) (pa_cons' (pb_var c 1 (by decide +kernel)) pa_nil')) (q_mul (pb_lst (pd_cons pb_non pd_nil)) (q_add (q_len c m_len (by decide +kernel) (pa_cons' (pb_var c 2 (by decide +kernel)) pa_nil')) (q_len c m_len (by decide +kernel) (pa_cons' (pb_var c 3 (by decide +kernel)) pa_nil'))))) (pq_val (q_globI c m_BEGIN (by decide +kernel)) (pq_val (q_globI c m_END (by decide +kernel)) pq_nil))))) (pg_t c.calm (pgs_c (g_v c hf 9 (by decide +kernel)) (pgs_c (g_v c hf 10 (by decide +kernel)) pgs_n))))
      (ss_cons (s_set c hf 6 (by decide +kernel) (q_sum c m_sum (by decide +kernel) (pa_cons' (pb_slL (pb_var c 9 (by decide +kernel)) (bo_at (pb_var c 8 (by decide +kernel))) (bo_at (q_add (pb_var c 8 (by decide +kernel)) (q_len c m_len (by decide +kernel) (pa_cons' (pb_var c 2 (by decide +kernel)) pa_nil'))))) pa_nil')))
      (ss_one (ss_ret (pb_tup (pd_cons (pb_var c 6 (by decide +kernel)) (pd_cons (q_tuple c m_tuple (by decide +kernel) (pa_cons' (pb_slL (pb_var c 9 (by decide +kernel)) bo_no (bo_at (pb_var c 8 (by decide +kernel)))) pa_nil')) (pd_cons (q_tuple c m_tuple (by decide +kernel) (pa_cons' (q_sorted c m_sorted (by decide +kernel) (pa_cons' (q_lc c [("place", 11)] (by decide +kernel) (by decide) (by decide +kernel) (it_key (pb_var c 10 (by decide +kernel))) (fun s0 h0 C0 l0 p0 => (g_b c s0 h0 _ C0 l0 p0 11 (by decide +kernel) (by decide +kernel))) (fun s0 h0 C0 l0 p0 => pts_1 (t_ge (pb_var (c.blk s0 h0 _ C0 l0 p0) 11 (by decide +kernel)) pb_int)) (fun s0 h0 C0 l0 p0 => (pb_var (c.blk s0 h0 _ C0 l0 p0) 11 (by decide +kernel)))) pa_nil')) pa_nil')) pd_nil)))))))))))
abbrev s_law_jar : Stmt := topS 13
abbrev N_law_jar : List Str := ["_law_script", "_law_cell", "_law_cells", "_law_stirred"]
abbrev ps_law_jar : List Str := ["_law_script"]
theorem sc_law_jar : FnScope N_law_jar ps_law_jar (defScope s_law_jar) := ⟨rfl, rfl, rfl, by decide +kernel, rfl, by decide +kernel, by decide +kernel⟩
abbrev ms_law_jar : List Md := [.val]
def b_law_jar (K : PySem.W.Frag) : En → Prop :=
    (tSeq (sPar [2, 3] (cCons .e (bLc (iSeq (bScr K 0)) ([("_law_cell", 1)].map (·.2)) (pName 1) tYesB (b2 oAdd (b2 oMul (bC (.int 2)) (bN oAbs (bCons (bVar 1) bNil))) (bN oInt1 (bCons (b2 oLt (bVar 1) (bC (.int 0))) bNil)))) (cCons .e (b2 oAdd (bC (.int 46605)) (bScrLen K 0)) cNil)))
    (tSeq (sFor (iSeq (bVar 2)) (pName 1) (sSet 3 (b2 oMod (bN oInt1 (bCons (b2 oAdd (b2 oAdd (b2 oMul (bVar 3) (bC (.int 48271))) (bVar 1)) (bC (.int 11))) bNil)) (bC (.int 4294967291)))))
    (bJar (bLc (iSeq (bVar 2)) ([("_law_cell", 1)].map (·.2)) (pName 1) (tV (b2 oGe (bVar 1) (b2 oPow (bC (.int 10)) (bC (.int 15))))) (bVar 1)) (bVar 3) (bC (.int 0)))))
theorem d_law_jar {X : Cx} (c : Cz X N_law_jar (defScope s_law_jar) 0) (hf : ∀ y, X.fn y = true) (m_abs : X.mg "abs" = none) (m_int : X.mg "int" = none) (m_len : X.mg "len" = none) :
    PSs X (defBody s_law_jar) (TsJ "far" "stirred" "turn" (b_law_jar X.K)) :=
  (js_cons (κ := .e) (s_par2 c 2 3 (by decide +kernel) (pp_cons (pb_le (q_lc c [("_law_cell", 1)] (by decide +kernel) (by decide) (by decide +kernel) (it_seq (pb_le (pb_scr (pe_v c 0 (by decide +kernel))))) (fun s0 h0 C0 l0 p0 => (g_b c s0 h0 _ C0 l0 p0 1 (by decide +kernel) (by decide +kernel))) (fun _ _ _ _ _ => pts_n) (fun s0 h0 C0 l0 p0 => (q_add (q_mul pb_int (q_abs (c.blk s0 h0 _ C0 l0 p0) m_abs (by decide +kernel) (pa_cons' (pb_var (c.blk s0 h0 _ C0 l0 p0) 1 (by decide +kernel)) pa_nil'))) (q_int (c.blk s0 h0 _ C0 l0 p0) m_int (by decide +kernel) (pa_cons' (q_lt (pb_var (c.blk s0 h0 _ C0 l0 p0) 1 (by decide +kernel)) pb_int) pa_nil')))))) (pp_cons (q_add pb_int (pb_scrLen c m_len (by decide +kernel) (pe_v c 0 (by decide +kernel)))) pp_nil)))
      (js_cons (κ := .e) (s_for c (it_seq (pb_var c 2 (by decide +kernel))) (g_v c hf 1 (by decide +kernel)) (ss_one (s_set c hf 3 (by decide +kernel) (q_mod (q_int c m_int (by decide +kernel) (pa_cons' (q_add (q_add (q_mul (pb_var c 3 (by decide +kernel)) pb_int) (pb_var c 1 (by decide +kernel))) pb_int) pa_nil')) pb_int))))
      (js_ret (q_lc c [("_law_cell", 1)] (by decide +kernel) (by decide) (by decide +kernel) (it_seq (pb_var c 2 (by decide +kernel))) (fun s0 h0 C0 l0 p0 => (g_b c s0 h0 _ C0 l0 p0 1 (by decide +kernel) (by decide +kernel))) (fun s0 h0 C0 l0 p0 => pts_1 (t_ge (pb_var (c.blk s0 h0 _ C0 l0 p0) 1 (by decide +kernel)) (q_pow pb_int pb_int))) (fun s0 h0 C0 l0 p0 => (pb_var (c.blk s0 h0 _ C0 l0 p0) 1 (by decide +kernel)))) (pb_var c 3 (by decide +kernel)) pb_int (by decide))))
abbrev s_law_draw : Stmt := topS 14
abbrev N_law_draw : List Str := ["_law_jar_here", "_law_many", "_law_one", "_law_two", "_law_whole"]
abbrev ps_law_draw : List Str := ["_law_jar_here", "_law_many"]
theorem sc_law_draw : FnScope N_law_draw ps_law_draw (defScope s_law_draw) := ⟨rfl, rfl, rfl, by decide +kernel, rfl, by decide +kernel, by decide +kernel⟩
abbrev ms_law_draw : List Md := [.jar, .val]
abbrev s_law_pick : Stmt := topS 15
abbrev N_law_pick : List Str := ["_law_jar_here", "_law_items"]
abbrev ps_law_pick : List Str := ["_law_jar_here", "_law_items"]
theorem sc_law_pick : FnScope N_law_pick ps_law_pick (defScope s_law_pick) := ⟨rfl, rfl, rfl, by decide +kernel, rfl, by decide +kernel, by decide +kernel⟩
abbrev ms_law_pick : List Md := [.jar, .val]
def b_law_pick (Φ_law_draw : Spe) : BS :=
    (sRet (b2 oIx (bVar 1) (bCall Φ_law_draw (qJar 0 (qVal (bN oLen (bCons (bVar 1) bNil)) qNil)))))
theorem d_law_pick {X : Cx} {Φ_law_draw : Spe} (c : Cz X N_law_pick (defScope s_law_pick) 1) (hf : ∀ y, X.fn y = true) (f_law_draw : Cal X.prog X.w X.K X.mg X.base CX0 1 "_law_draw" ps_law_draw (toSp .e ms_law_draw Φ_law_draw)) (m_len : X.mg "len" = none) :
    PSsb X .e (defBody s_law_pick) (b_law_pick Φ_law_draw) :=
  (ss_one (ss_ret (pb_ix (pb_var c 1 (by decide +kernel)) (pb_call c f_law_draw (by decide) (by decide +kernel) (pq_jar (pe_v c 0 (by decide +kernel)) (pq_val (q_len c m_len (by decide +kernel) (pa_cons' (pb_var c 1 (by decide +kernel)) pa_nil')) pq_nil))) (fun _ _ => rfl))))
abbrev s_law_few : Stmt := topS 16
abbrev N_law_few : List Str := ["_law_jar_here", "_law_items", "_law_many", "_law_turn", "_law_left", "_law_found"]
abbrev ps_law_few : List Str := ["_law_jar_here", "_law_items", "_law_many"]
theorem sc_law_few : FnScope N_law_few ps_law_few (defScope s_law_few) := ⟨rfl, rfl, rfl, by decide +kernel, rfl, by decide +kernel, by decide +kernel⟩
abbrev ms_law_few : List Md := [.jar, .val, .val]
def b_law_few (Φ_law_draw : Spe) : BS :=
    (sSeq (sPar [4, 5] (cCons .l (bN oListOf (bCons (bVar 1) bNil)) (cCons .l (bLst bNil) cNil)))
    (sSeq (sFor (iRan oR1 (bCons (bN (oII fun i j => if j < i then j else i) (bCons (bVar 2) (bCons (bN oLen (bCons (bSee 4) bNil)) bNil))) bNil)) (pName 3) (sApp 5 (mPopAt 4 (bCall Φ_law_draw (qJar 0 (qVal (bN oLen (bCons (bSee 4) bNil)) qNil))))))
    (sTell 5 (sRet (bVar 5)))))
theorem d_law_few {X : Cx} {Φ_law_draw : Spe} (c : Cz X N_law_few (defScope s_law_few) 1) (hf : ∀ y, X.fn y = true) (f_law_draw : Cal X.prog X.w X.K X.mg X.base CX0 1 "_law_draw" ps_law_draw (toSp .e ms_law_draw Φ_law_draw)) (m_list : X.mg "list" = none) (m_len : X.mg "len" = none) (m_min : X.mg "min" = none) (m_range : X.mg "range" = none) :
    PSsb X .e (defBody s_law_few) (b_law_few Φ_law_draw) :=
  (ss_cons (s_par2 c 4 5 (by decide +kernel) (pp_cons (q_list c m_list (by decide +kernel) (pa_cons' (pb_var c 1 (by decide +kernel)) pa_nil')) (pp_cons (pb_lst pd_nil) pp_nil)))
      (ss_cons (s_for c (i_r1 c m_range (by decide +kernel) (pa_cons' (q_min2 c m_min (by decide +kernel) (pa_cons' (pb_var c 2 (by decide +kernel)) (pa_cons' (q_len c m_len (by decide +kernel) (pa_cons' (pb_see c 4 (by decide +kernel)) pa_nil')) pa_nil'))) pa_nil')) (g_v c hf 3 (by decide +kernel)) (ss_one (ss_app (pe_v c 5 (by decide +kernel)) (pm_popAt (pe_v c 4 (by decide +kernel)) (pb_call c f_law_draw (by decide) (by decide +kernel) (pq_jar (pe_v c 0 (by decide +kernel)) (pq_val (q_len c m_len (by decide +kernel) (pa_cons' (pb_see c 4 (by decide +kernel)) pa_nil')) pq_nil)))))))
      (ss_tell (i := 5) (ss_one (ss_ret (pb_var c 5 (by decide +kernel)))))))
abbrev s_law_net : Stmt := topS 17
abbrev N_law_net : List Str := ["_law_jar_here", "_law_size", "_law_more", "_law_middle", "_law_spine", "_law_roads", "_law_turn", "_law_a", "_law_b"]
abbrev ps_law_net : List Str := ["_law_jar_here", "_law_size", "_law_more"]
theorem sc_law_net : FnScope N_law_net ps_law_net (defScope s_law_net) := ⟨rfl, rfl, rfl, by decide +kernel, rfl, by decide +kernel, by decide +kernel⟩
abbrev ms_law_net : List Md := [.jar, .val, .val]
def b_law_net (Φ_law_draw : Spe) (Φ_law_few : Spe) : BS :=
    (sSeq (sSet 3 (bN oSortI (bCons (bCall Φ_law_few (qJar 0 (qVal (bLstR2 (bC (.int 1)) (b2 oSub (bVar 1) (bC (.int 1)))) (qVal (bCall Φ_law_draw (qJar 0 (qVal (b2 oSub (bVar 1) (bC (.int 1))) qNil))) qNil)))) bNil)))
    (sSeq (sSet 4 (b2 oAdd (b2 oAdd (bLst (bCons (bC (.int 0)) bNil)) (bVar 3)) (bLst (bCons (b2 oSub (bVar 1) (bC (.int 1))) bNil))))
    (sSeq (sSetL 5 (bIf (tV (b2 oGt (bCall Φ_law_draw (qJar 0 (qVal (bC (.int 9)) qNil))) (bC (.int 0)))) (bLc (iZp (bVar 4) (bSlL (bVar 4) (wAt (bC (.int 1))) wNo)) ([("_law_a", 7), ("_law_b", 8)].map (·.2)) (pTup 2 (pCons (pName 7) (pCons (pName 8) pNil))) tYesB (bTup (bCons (bVar 7) (bCons (bVar 8) bNil)))) (bLst bNil)))
    (sSeq (sFor (iRan oR1 (bCons (bN (oII fun i j => if j > i then j else i) (bCons (bVar 2) (bCons (b2 oSub (bC (.int 1)) (bN oLen (bCons (bSee 5) bNil))) bNil))) bNil)) (pName 6) (sSeq (sSet 7 (bCall Φ_law_draw (qJar 0 (qVal (b2 oSub (bVar 1) (bC (.int 1))) qNil))))
    (sSeq (sApp 5 (mE (bTup (bCons (bVar 7) (bCons (b2 oAdd (b2 oAdd (bVar 7) (bC (.int 1))) (bCall Φ_law_draw (qJar 0 (qVal (b2 oSub (b2 oSub (bVar 1) (bC (.int 1))) (bVar 7)) qNil)))) bNil)))))
    (sIf (tV (b2 oEq (bCall Φ_law_draw (qJar 0 (qVal (bC (.int 6)) qNil))) (bC (.int 0)))) (sApp 5 (mE (b2 oIx (bSee 5) (b1 oNeg (bC (.int 1)))))) sNext))))
    (sTell 5 (sRet (bTup (bCons (bVar 1) (bCons (bN oTupOf (bCons (bSlL (bCall Φ_law_few (qJar 0 (qVal (bVar 5) (qVal (bN oLen (bCons (bVar 5) bNil)) qNil)))) wNo (wAt (bC (.int 60)))) bNil)) bNil)))))))))
theorem d_law_net {X : Cx} {Φ_law_draw : Spe} {Φ_law_few : Spe} (c : Cz X N_law_net (defScope s_law_net) 2) (hf : ∀ y, X.fn y = true) (f_law_draw : Cal X.prog X.w X.K X.mg X.base CX0 1 "_law_draw" ps_law_draw (toSp .e ms_law_draw Φ_law_draw)) (f_law_few : Cal X.prog X.w X.K X.mg X.base CX0 2 "_law_few" ps_law_few (toSp .e ms_law_few Φ_law_few)) (m_list : X.mg "list" = none) (m_range : X.mg "range" = none) (m_sorted : X.mg "sorted" = none) (m_zip : X.mg "zip" = none) (m_len : X.mg "len" = none) (m_max : X.mg "max" = none) (m_tuple : X.mg "tuple" = none) :
    PSsb X .e (defBody s_law_net) (b_law_net Φ_law_draw Φ_law_few) :=
  (ss_cons (s_set c hf 3 (by decide +kernel) (pb_le (q_sorted c m_sorted (by decide +kernel) (pa_cons' (pb_call c f_law_few (by decide) (by decide +kernel) (pq_jar (pe_v c 0 (by decide +kernel)) (pq_val (pb_le (q_lstR2 c m_list m_range (by decide +kernel) (by decide +kernel) pb_int (q_sub (pb_var c 1 (by decide +kernel)) pb_int))) (pq_val (pb_call c f_law_draw (by decide) (by decide +kernel) (pq_jar (pe_v c 0 (by decide +kernel)) (pq_val (q_sub (pb_var c 1 (by decide +kernel)) pb_int) pq_nil))) pq_nil)))) pa_nil'))))
      (ss_cons (s_set c hf 4 (by decide +kernel) (q_add (q_add (pb_lst (pd_cons pb_int pd_nil)) (pb_var c 3 (by decide +kernel))) (pb_lst (pd_cons (q_sub (pb_var c 1 (by decide +kernel)) pb_int) pd_nil))))
      (ss_cons (s_setL c hf 5 (by decide +kernel) (pb_if (t_gt (pb_call c f_law_draw (by decide) (by decide +kernel) (pq_jar (pe_v c 0 (by decide +kernel)) (pq_val pb_int pq_nil))) pb_int) (q_lc c [("_law_a", 7), ("_law_b", 8)] (by decide +kernel) (by decide) (by decide +kernel) (i_zip c m_zip (by decide +kernel) (pb_var c 4 (by decide +kernel)) (pb_le (pb_slL (pb_var c 4 (by decide +kernel)) (bo_at pb_int) bo_no))) (fun s0 h0 C0 l0 p0 => (pg_t (c.blk s0 h0 _ C0 l0 p0).calm (pgs_c (g_b c s0 h0 _ C0 l0 p0 7 (by decide +kernel) (by decide +kernel)) (pgs_c (g_b c s0 h0 _ C0 l0 p0 8 (by decide +kernel) (by decide +kernel)) pgs_n)))) (fun _ _ _ _ _ => pts_n) (fun s0 h0 C0 l0 p0 => (pb_tup (pd_cons (pb_var (c.blk s0 h0 _ C0 l0 p0) 7 (by decide +kernel)) (pd_cons (pb_var (c.blk s0 h0 _ C0 l0 p0) 8 (by decide +kernel)) pd_nil))))) (pb_lst pd_nil)))
      (ss_cons (s_for c (i_r1 c m_range (by decide +kernel) (pa_cons' (q_max2 c m_max (by decide +kernel) (pa_cons' (pb_var c 2 (by decide +kernel)) (pa_cons' (q_sub pb_int (q_len c m_len (by decide +kernel) (pa_cons' (pb_see c 5 (by decide +kernel)) pa_nil'))) pa_nil'))) pa_nil')) (g_v c hf 6 (by decide +kernel)) (ss_cons (s_set c hf 7 (by decide +kernel) (pb_call c f_law_draw (by decide) (by decide +kernel) (pq_jar (pe_v c 0 (by decide +kernel)) (pq_val (q_sub (pb_var c 1 (by decide +kernel)) pb_int) pq_nil))))
      (ss_cons (ss_app (pe_v c 5 (by decide +kernel)) (pm_e (pb_tup (pd_cons (pb_var c 7 (by decide +kernel)) (pd_cons (q_add (q_add (pb_var c 7 (by decide +kernel)) pb_int) (pb_call c f_law_draw (by decide) (by decide +kernel) (pq_jar (pe_v c 0 (by decide +kernel)) (pq_val (q_sub (q_sub (pb_var c 1 (by decide +kernel)) pb_int) (pb_var c 7 (by decide +kernel))) pq_nil)))) pd_nil)))))
      (ss_one (ss_if (t_eq c (pb_call c f_law_draw (by decide) (by decide +kernel) (pq_jar (pe_v c 0 (by decide +kernel)) (pq_val pb_int pq_nil))) pb_int) (ss_one (ss_app (pe_v c 5 (by decide +kernel)) (pm_e (pb_ix (pb_see c 5 (by decide +kernel)) (q_neg pb_int) (fun _ _ => rfl))))) ss_nil)))))
      (ss_tell (i := 5) (ss_one (ss_ret (pb_tup (pd_cons (pb_var c 1 (by decide +kernel)) (pd_cons (q_tuple c m_tuple (by decide +kernel) (pa_cons' (pb_slL (pb_call c f_law_few (by decide) (by decide +kernel) (pq_jar (pe_v c 0 (by decide +kernel)) (pq_val (pb_var c 5 (by decide +kernel)) (pq_val (q_len c m_len (by decide +kernel) (pa_cons' (pb_var c 5 (by decide +kernel)) pa_nil')) pq_nil)))) bo_no (bo_at pb_int)) pa_nil')) pd_nil))))))))))
abbrev s_law_stops : Stmt := topS 18
abbrev N_law_stops : List Str := ["_law_jar_here", "_law_net_here", "_law_feet", "_law_left", "_law_heads", "_law_ends", "_law_size", "_law_roads", "_law_place"]
abbrev ps_law_stops : List Str := ["_law_jar_here", "_law_net_here"]
theorem sc_law_stops : FnScope N_law_stops ps_law_stops (defScope s_law_stops) := ⟨rfl, rfl, rfl, by decide +kernel, rfl, by decide +kernel, by decide +kernel⟩
abbrev ms_law_stops : List Md := [.jar, .val]
def b_law_stops (Φ_law_draw : Spe) (Φ_law_few : Spe) (Φ_law_pick : Spe) : BS :=
    (sSeq (sPar [6, 7] (cCons .e (b2 oIx (bVar 1) (bC (.int 0))) (cCons .e (bLstR1 (bN oLen (bCons (b2 oIx (bVar 1) (bC (.int 1))) bNil))) cNil)))
    (sSeq (sSet 2 (bIf (tV (b2 oEq (bCall Φ_law_draw (qJar 0 (qVal (bC (.int 2)) qNil))) (bC (.int 0)))) (bLst (bCons (bC (.int 0)) bNil)) (bCall Φ_law_few (qJar 0 (qVal (bLstR1 (bVar 6)) (qVal (b2 oAdd (bC (.int 1)) (bCall Φ_law_draw (qJar 0 (qVal (bC (.int 2)) qNil)))) qNil))))))
    (sSeq (sSetL 3 (bLc (iRan oR1 (bCons (bVar 6) bNil)) ([("_law_place", 8)].map (·.2)) (pName 8) (tV (b2 oNotInU (bVar 8) (bVar 2))) (bVar 8)))
    (sTell 3 (sSeq (sSet 4 (bIf (tAndB (tV (b2 oInU (b2 oSub (bVar 6) (bC (.int 1))) (bVar 3))) (tV (b2 oGt (bCall Φ_law_draw (qJar 0 (qVal (bC (.int 3)) qNil))) (bC (.int 0))))) (bLst (bCons (b2 oSub (bVar 6) (bC (.int 1))) bNil)) (bCall Φ_law_few (qJar 0 (qVal (bVar 3) (qVal (bCall Φ_law_draw (qJar 0 (qVal (bC (.int 3)) qNil))) qNil))))))
    (sSeq (sSet 5 (bCall Φ_law_few (qJar 0 (qVal (bVar 7) (qVal (bCall Φ_law_pick (qJar 0 (qVal (bLst (bCons (bC (.int 0)) (bCons (bC (.int 0)) (bCons (bC (.int 1)) (bCons (bC (.int 2)) (bCons (bC (.int 3)) bNil)))))) qNil))) qNil)))))
    (sRet (bTup (bCons (bN oTupOf (bCons (bN oSortI (bCons (bVar 2) bNil)) bNil)) (bCons (bN oTupOf (bCons (bN oSortI (bCons (bVar 4) bNil)) bNil)) (bCons (bN oTupOf (bCons (bN oSortI (bCons (bVar 5) bNil)) bNil)) bNil)))))))))))
theorem d_law_stops {X : Cx} {Φ_law_draw : Spe} {Φ_law_few : Spe} {Φ_law_pick : Spe} (c : Cz X N_law_stops (defScope s_law_stops) 2) (hf : ∀ y, X.fn y = true) (f_law_draw : Cal X.prog X.w X.K X.mg X.base CX0 1 "_law_draw" ps_law_draw (toSp .e ms_law_draw Φ_law_draw)) (f_law_few : Cal X.prog X.w X.K X.mg X.base CX0 2 "_law_few" ps_law_few (toSp .e ms_law_few Φ_law_few)) (f_law_pick : Cal X.prog X.w X.K X.mg X.base CX0 2 "_law_pick" ps_law_pick (toSp .e ms_law_pick Φ_law_pick)) (m_len : X.mg "len" = none) (m_list : X.mg "list" = none) (m_range : X.mg "range" = none) (m_sorted : X.mg "sorted" = none) (m_tuple : X.mg "tuple" = none) :
    PSsb X .e (defBody s_law_stops) (b_law_stops Φ_law_draw Φ_law_few Φ_law_pick) :=
  (ss_cons (s_par2 c 6 7 (by decide +kernel) (pp_cons (pb_ix (pb_var c 1 (by decide +kernel)) pb_int (fun _ _ => rfl)) (pp_cons (pb_le (q_lstR1 c m_list m_range (by decide +kernel) (by decide +kernel) (q_len c m_len (by decide +kernel) (pa_cons' (pb_ix (pb_var c 1 (by decide +kernel)) pb_int (fun _ _ => rfl)) pa_nil')))) pp_nil)))
      (ss_cons (s_set c hf 2 (by decide +kernel) (pb_if (t_eq c (pb_call c f_law_draw (by decide) (by decide +kernel) (pq_jar (pe_v c 0 (by decide +kernel)) (pq_val pb_int pq_nil))) pb_int) (pb_le (pb_lst (pd_cons pb_int pd_nil))) (pb_call c f_law_few (by decide) (by decide +kernel) (pq_jar (pe_v c 0 (by decide +kernel)) (pq_val (pb_le (q_lstR1 c m_list m_range (by decide +kernel) (by decide +kernel) (pb_var c 6 (by decide +kernel)))) (pq_val (q_add pb_int (pb_call c f_law_draw (by decide) (by decide +kernel) (pq_jar (pe_v c 0 (by decide +kernel)) (pq_val pb_int pq_nil)))) pq_nil))))))
      (ss_cons (s_setLc c 3 (by decide +kernel) [("_law_place", 8)] (by decide +kernel) (by decide) (i_r1 c m_range (by decide +kernel) (pa_cons' (pb_var c 6 (by decide +kernel)) pa_nil')) (fun s0 h0 C0 l0 p0 => (g_b c s0 h0 _ C0 l0 p0 8 (by decide +kernel) (by decide +kernel))) (fun s0 h0 C0 l0 p0 => pts_1 (t_notIn (c.blk s0 h0 _ C0 l0 p0) (pb_var (c.blk s0 h0 _ C0 l0 p0) 8 (by decide +kernel)) (pb_var (c.blk s0 h0 _ C0 l0 p0) 2 (by decide +kernel)))) (fun s0 h0 C0 l0 p0 => (pb_var (c.blk s0 h0 _ C0 l0 p0) 8 (by decide +kernel))))
      (ss_tell (i := 3) (ss_cons (s_set c hf 4 (by decide +kernel) (pb_if (pt_w (pw_a (t_in c (q_sub (pb_var c 6 (by decide +kernel)) pb_int) (pb_var c 3 (by decide +kernel))) (pw_a1 (t_gt (pb_call c f_law_draw (by decide) (by decide +kernel) (pq_jar (pe_v c 0 (by decide +kernel)) (pq_val pb_int pq_nil))) pb_int)))) (pb_le (pb_lst (pd_cons (q_sub (pb_var c 6 (by decide +kernel)) pb_int) pd_nil))) (pb_call c f_law_few (by decide) (by decide +kernel) (pq_jar (pe_v c 0 (by decide +kernel)) (pq_val (pb_var c 3 (by decide +kernel)) (pq_val (pb_call c f_law_draw (by decide) (by decide +kernel) (pq_jar (pe_v c 0 (by decide +kernel)) (pq_val pb_int pq_nil))) pq_nil))))))
      (ss_cons (s_set c hf 5 (by decide +kernel) (pb_call c f_law_few (by decide) (by decide +kernel) (pq_jar (pe_v c 0 (by decide +kernel)) (pq_val (pb_var c 7 (by decide +kernel)) (pq_val (pb_call c f_law_pick (by decide) (by decide +kernel) (pq_jar (pe_v c 0 (by decide +kernel)) (pq_val (pb_le (pb_lst (pd_cons pb_int (pd_cons pb_int (pd_cons pb_int (pd_cons pb_int (pd_cons pb_int pd_nil))))))) pq_nil))) pq_nil)))))
      (ss_one (ss_ret (pb_tup (pd_cons (q_tuple c m_tuple (by decide +kernel) (pa_cons' (q_sorted c m_sorted (by decide +kernel) (pa_cons' (pb_var c 2 (by decide +kernel)) pa_nil')) pa_nil')) (pd_cons (q_tuple c m_tuple (by decide +kernel) (pa_cons' (q_sorted c m_sorted (by decide +kernel) (pa_cons' (pb_var c 4 (by decide +kernel)) pa_nil')) pa_nil')) (pd_cons (q_tuple c m_tuple (by decide +kernel) (pa_cons' (q_sorted c m_sorted (by decide +kernel) (pa_cons' (pb_var c 5 (by decide +kernel)) pa_nil')) pa_nil')) pd_nil))))))))))))
abbrev s_law_goes : Stmt := topS 19
abbrev N_law_goes : List Str := ["_law_net_here", "_law_flow", "_law_place", "_law_own", "_law_road"]
abbrev ps_law_goes : List Str := ["_law_net_here", "_law_flow", "_law_place"]
theorem sc_law_goes : FnScope N_law_goes ps_law_goes (defScope s_law_goes) := ⟨rfl, rfl, rfl, by decide +kernel, rfl, by decide +kernel, by decide +kernel⟩
abbrev ms_law_goes : List Md := [.val, .val, .val]
def b_law_goes : BS :=
    (sRet (bN oSum (bCons (bLc (iZp (bVar 1) (b2 oIx (bVar 0) (bC (.int 1)))) ([("_law_own", 3), ("_law_road", 4)].map (·.2)) (pTup 2 (pCons (pName 3) (pCons (pName 4) pNil))) (tV (b2 oEq (b2 oIx (bVar 4) (bC (.int 0))) (bVar 2))) (bVar 3)) bNil)))
theorem d_law_goes {X : Cx} (c : Cz X N_law_goes (defScope s_law_goes) 0) (hf : ∀ y, X.fn y = true) (m_zip : X.mg "zip" = none) (m_sum : X.mg "sum" = none) :
    PSsb X .e (defBody s_law_goes) (b_law_goes) :=
  (ss_one (ss_ret (q_sum c m_sum (by decide +kernel) (pa_cons' (q_lc c [("_law_own", 3), ("_law_road", 4)] (by decide +kernel) (by decide) (by decide +kernel) (i_zip c m_zip (by decide +kernel) (pb_var c 1 (by decide +kernel)) (pb_ix (pb_var c 0 (by decide +kernel)) pb_int (fun _ _ => rfl))) (fun s0 h0 C0 l0 p0 => (pg_t (c.blk s0 h0 _ C0 l0 p0).calm (pgs_c (g_b c s0 h0 _ C0 l0 p0 3 (by decide +kernel) (by decide +kernel)) (pgs_c (g_b c s0 h0 _ C0 l0 p0 4 (by decide +kernel) (by decide +kernel)) pgs_n)))) (fun s0 h0 C0 l0 p0 => pts_1 (t_eq (c.blk s0 h0 _ C0 l0 p0) (pb_ix (pb_var (c.blk s0 h0 _ C0 l0 p0) 4 (by decide +kernel)) pb_int (fun _ _ => rfl)) (pb_var (c.blk s0 h0 _ C0 l0 p0) 2 (by decide +kernel)))) (fun s0 h0 C0 l0 p0 => (pb_var (c.blk s0 h0 _ C0 l0 p0) 3 (by decide +kernel)))) pa_nil'))))
abbrev s_law_comes : Stmt := topS 20
abbrev N_law_comes : List Str := ["_law_net_here", "_law_flow", "_law_place", "_law_ends", "_law_r", "_law_own"]
abbrev ps_law_comes : List Str := ["_law_net_here", "_law_flow", "_law_place", "_law_ends"]
theorem sc_law_comes : FnScope N_law_comes ps_law_comes (defScope s_law_comes) := ⟨rfl, rfl, rfl, by decide +kernel, rfl, by decide +kernel, by decide +kernel⟩
abbrev ms_law_comes : List Md := [.val, .val, .val, .val]
def b_law_comes : BS :=
    (sRet (bN oSum (bCons (bLc (iEnu (iSeq (bVar 1))) ([("_law_r", 4), ("_law_own", 5)].map (·.2)) (pTup 2 (pCons (pName 4) (pCons (pName 5) pNil))) (tAndB (tV (b2 oEq (b2 oIx (b2 oIx (b2 oIx (bVar 0) (bC (.int 1))) (bVar 4)) (bC (.int 1))) (bVar 2))) (tV (b2 oNotInU (bVar 4) (bVar 3)))) (bVar 5)) bNil)))
theorem d_law_comes {X : Cx} (c : Cz X N_law_comes (defScope s_law_comes) 0) (hf : ∀ y, X.fn y = true) (m_enumerate : X.mg "enumerate" = none) (m_sum : X.mg "sum" = none) :
    PSsb X .e (defBody s_law_comes) (b_law_comes) :=
  (ss_one (ss_ret (q_sum c m_sum (by decide +kernel) (pa_cons' (q_lc c [("_law_r", 4), ("_law_own", 5)] (by decide +kernel) (by decide) (by decide +kernel) (i_enu c m_enumerate (by decide +kernel) (pb_var c 1 (by decide +kernel))) (fun s0 h0 C0 l0 p0 => (pg_t (c.blk s0 h0 _ C0 l0 p0).calm (pgs_c (g_b c s0 h0 _ C0 l0 p0 4 (by decide +kernel) (by decide +kernel)) (pgs_c (g_b c s0 h0 _ C0 l0 p0 5 (by decide +kernel) (by decide +kernel)) pgs_n)))) (fun s0 h0 C0 l0 p0 => pts_1 (pt_w (pw_a (t_eq (c.blk s0 h0 _ C0 l0 p0) (pb_ix (pb_ix (pb_ix (pb_var (c.blk s0 h0 _ C0 l0 p0) 0 (by decide +kernel)) pb_int (fun _ _ => rfl)) (pb_var (c.blk s0 h0 _ C0 l0 p0) 4 (by decide +kernel)) (fun _ _ => rfl)) pb_int (fun _ _ => rfl)) (pb_var (c.blk s0 h0 _ C0 l0 p0) 2 (by decide +kernel))) (pw_a1 (t_notIn (c.blk s0 h0 _ C0 l0 p0) (pb_var (c.blk s0 h0 _ C0 l0 p0) 4 (by decide +kernel)) (pb_var (c.blk s0 h0 _ C0 l0 p0) 3 (by decide +kernel))))))) (fun s0 h0 C0 l0 p0 => (pb_var (c.blk s0 h0 _ C0 l0 p0) 5 (by decide +kernel)))) pa_nil'))))
abbrev s_law_worth : Stmt := topS 21
abbrev N_law_worth : List Str := ["_law_net_here", "_law_feet", "_law_ends", "_law_flow", "_law_place"]
abbrev ps_law_worth : List Str := ["_law_net_here", "_law_feet", "_law_ends", "_law_flow"]
theorem sc_law_worth : FnScope N_law_worth ps_law_worth (defScope s_law_worth) := ⟨rfl, rfl, rfl, by decide +kernel, rfl, by decide +kernel, by decide +kernel⟩
abbrev ms_law_worth : List Md := [.val, .val, .val, .val]
def b_law_worth (Φ_law_goes : Spe) (Φ_law_comes : Spe) : BS :=
    (sRet (bN oSum (bCons (bLc (iSeq (bVar 1)) ([("_law_place", 4)].map (·.2)) (pName 4) tYesB (b2 oSub (bCall Φ_law_goes (qVal (bVar 0) (qVal (bVar 3) (qVal (bVar 4) qNil)))) (bCall Φ_law_comes (qVal (bVar 0) (qVal (bVar 3) (qVal (bVar 4) (qVal (bVar 2) qNil))))))) bNil)))
theorem d_law_worth {X : Cx} {Φ_law_goes : Spe} {Φ_law_comes : Spe} (c : Cz X N_law_worth (defScope s_law_worth) 1) (hf : ∀ y, X.fn y = true) (f_law_goes : Cal X.prog X.w X.K X.mg X.base CX0 1 "_law_goes" ps_law_goes (toSp .e ms_law_goes Φ_law_goes)) (f_law_comes : Cal X.prog X.w X.K X.mg X.base CX0 1 "_law_comes" ps_law_comes (toSp .e ms_law_comes Φ_law_comes)) (m_sum : X.mg "sum" = none) :
    PSsb X .e (defBody s_law_worth) (b_law_worth Φ_law_goes Φ_law_comes) :=
  (ss_one (ss_ret (q_sum c m_sum (by decide +kernel) (pa_cons' (q_lc c [("_law_place", 4)] (by decide +kernel) (by decide) (by decide +kernel) (it_seq (pb_var c 1 (by decide +kernel))) (fun s0 h0 C0 l0 p0 => (g_b c s0 h0 _ C0 l0 p0 4 (by decide +kernel) (by decide +kernel))) (fun _ _ _ _ _ => pts_n) (fun s0 h0 C0 l0 p0 => (q_sub (pb_call (c.blk s0 h0 _ C0 l0 p0) f_law_goes (by decide) (by decide +kernel) (pq_val (pb_var (c.blk s0 h0 _ C0 l0 p0) 0 (by decide +kernel)) (pq_val (pb_var (c.blk s0 h0 _ C0 l0 p0) 3 (by decide +kernel)) (pq_val (pb_var (c.blk s0 h0 _ C0 l0 p0) 4 (by decide +kernel)) pq_nil)))) (pb_call (c.blk s0 h0 _ C0 l0 p0) f_law_comes (by decide) (by decide +kernel) (pq_val (pb_var (c.blk s0 h0 _ C0 l0 p0) 0 (by decide +kernel)) (pq_val (pb_var (c.blk s0 h0 _ C0 l0 p0) 3 (by decide +kernel)) (pq_val (pb_var (c.blk s0 h0 _ C0 l0 p0) 4 (by decide +kernel)) (pq_val (pb_var (c.blk s0 h0 _ C0 l0 p0) 2 (by decide +kernel)) pq_nil)))))))) pa_nil'))))
abbrev s_law_bad_place : Stmt := topS 22
abbrev N_law_bad_place : List Str := ["_law_net_here", "_law_feet", "_law_heads", "_law_ends", "_law_flow", "_law_place"]
abbrev ps_law_bad_place : List Str := ["_law_net_here", "_law_feet", "_law_heads", "_law_ends", "_law_flow"]
theorem sc_law_bad_place : FnScope N_law_bad_place ps_law_bad_place (defScope s_law_bad_place) := ⟨rfl, rfl, rfl, by decide +kernel, rfl, by decide +kernel, by decide +kernel⟩
abbrev ms_law_bad_place : List Md := [.val, .val, .val, .val, .val]
def b_law_bad_place (Φ_law_goes : Spe) (Φ_law_comes : Spe) : BS :=
    (sSeq (sFor (iRan oR1 (bCons (b2 oIx (bVar 0) (bC (.int 0))) bNil)) (pName 5) (sIf (tAndB (tV (b2 oNotInU (bVar 5) (bVar 1))) (tV (b2 oNotInU (bVar 5) (bVar 2)))) (sIf (tV (b2 oNe (bCall Φ_law_goes (qVal (bVar 0) (qVal (bVar 4) (qVal (bVar 5) qNil)))) (bCall Φ_law_comes (qVal (bVar 0) (qVal (bVar 4) (qVal (bVar 5) (qVal (bVar 3) qNil))))))) (sRet (bVar 5)) sNext) sNext))
    (sRet (bC .none)))
theorem d_law_bad_place {X : Cx} {Φ_law_goes : Spe} {Φ_law_comes : Spe} (c : Cz X N_law_bad_place (defScope s_law_bad_place) 1) (hf : ∀ y, X.fn y = true) (f_law_goes : Cal X.prog X.w X.K X.mg X.base CX0 1 "_law_goes" ps_law_goes (toSp .e ms_law_goes Φ_law_goes)) (f_law_comes : Cal X.prog X.w X.K X.mg X.base CX0 1 "_law_comes" ps_law_comes (toSp .e ms_law_comes Φ_law_comes)) (m_range : X.mg "range" = none) :
    PSsb X .e (defBody s_law_bad_place) (b_law_bad_place Φ_law_goes Φ_law_comes) :=
  (ss_cons (s_for c (i_r1 c m_range (by decide +kernel) (pa_cons' (pb_ix (pb_var c 0 (by decide +kernel)) pb_int (fun _ _ => rfl)) pa_nil')) (g_v c hf 5 (by decide +kernel)) (ss_one (ss_if (pt_w (pw_a (t_notIn c (pb_var c 5 (by decide +kernel)) (pb_var c 1 (by decide +kernel))) (pw_a1 (t_notIn c (pb_var c 5 (by decide +kernel)) (pb_var c 2 (by decide +kernel)))))) (ss_one (ss_if (t_ne c (pb_call c f_law_goes (by decide) (by decide +kernel) (pq_val (pb_var c 0 (by decide +kernel)) (pq_val (pb_var c 4 (by decide +kernel)) (pq_val (pb_var c 5 (by decide +kernel)) pq_nil)))) (pb_call c f_law_comes (by decide) (by decide +kernel) (pq_val (pb_var c 0 (by decide +kernel)) (pq_val (pb_var c 4 (by decide +kernel)) (pq_val (pb_var c 5 (by decide +kernel)) (pq_val (pb_var c 3 (by decide +kernel)) pq_nil)))))) (ss_one (ss_ret (pb_var c 5 (by decide +kernel)))) ss_nil)) ss_nil)))
      (ss_one (ss_ret pb_non)))
abbrev s_law_all_flows : Stmt := topS 23
abbrev N_law_all_flows : List Str := ["_law_net_here", "_law_room", "_law_feet", "_law_heads", "_law_ends", "_law_bound", "_law_number", "_law_whole", "_law_found", "_law_left", "_law_flow"]
abbrev ps_law_all_flows : List Str := ["_law_net_here", "_law_room", "_law_feet", "_law_heads", "_law_ends"]
theorem sc_law_all_flows : FnScope N_law_all_flows ps_law_all_flows (defScope s_law_all_flows) := ⟨rfl, rfl, rfl, by decide +kernel, rfl, by decide +kernel, by decide +kernel⟩
abbrev ms_law_all_flows : List Md := [.val, .val, .val, .val, .val]
def b_law_all_flows (Φ_law_bad_place : Spe) : BS :=
    (sSeq (sPar [7, 8] (cCons .e (bC (.int 1)) (cCons .l (bLst bNil) cNil)))
    (sSeq (sFor (iSeq (bVar 1)) (pName 5) (sSet 7 (b2 oMul (bVar 7) (b2 oAdd (bVar 5) (bC (.int 1))))))
    (sSeq (sFor (iRan oR1 (bCons (bVar 7) bNil)) (pName 6) (sSeq (sPar [9, 10] (cCons .e (bVar 6) (cCons .l (bLst bNil) cNil)))
    (sSeq (sFor (iSeq (bVar 1)) (pName 5) (sSeq (sApp 10 (mE (b2 oMod (bN oInt1 (bCons (bVar 9) bNil)) (b2 oAdd (bVar 5) (bC (.int 1))))))
    (sSet 9 (b2 oFdiv (bVar 9) (b2 oAdd (bVar 5) (bC (.int 1)))))))
    (sTell 10 (sIf (tV (bIsN (bCall Φ_law_bad_place (qVal (bVar 0) (qVal (bVar 2) (qVal (bVar 3) (qVal (bVar 4) (qVal (bVar 10) qNil)))))))) (sApp 8 (mE (bN oTupOf (bCons (bVar 10) bNil)))) sNext)))))
    (sTell 8 (sRet (bVar 8))))))
theorem d_law_all_flows {X : Cx} {Φ_law_bad_place : Spe} (c : Cz X N_law_all_flows (defScope s_law_all_flows) 2) (hf : ∀ y, X.fn y = true) (f_law_bad_place : Cal X.prog X.w X.K X.mg X.base CX0 2 "_law_bad_place" ps_law_bad_place (toSp .e ms_law_bad_place Φ_law_bad_place)) (m_range : X.mg "range" = none) (m_int : X.mg "int" = none) (m_tuple : X.mg "tuple" = none) :
    PSsb X .e (defBody s_law_all_flows) (b_law_all_flows Φ_law_bad_place) :=
  (ss_cons (s_par2 c 7 8 (by decide +kernel) (pp_cons pb_int (pp_cons (pb_lst pd_nil) pp_nil)))
      (ss_cons (s_for c (it_seq (pb_var c 1 (by decide +kernel))) (g_v c hf 5 (by decide +kernel)) (ss_one (s_set c hf 7 (by decide +kernel) (q_mul (pb_var c 7 (by decide +kernel)) (q_add (pb_var c 5 (by decide +kernel)) pb_int)))))
      (ss_cons (s_for c (i_r1 c m_range (by decide +kernel) (pa_cons' (pb_var c 7 (by decide +kernel)) pa_nil')) (g_v c hf 6 (by decide +kernel)) (ss_cons (s_par2 c 9 10 (by decide +kernel) (pp_cons (pb_var c 6 (by decide +kernel)) (pp_cons (pb_lst pd_nil) pp_nil)))
      (ss_cons (s_for c (it_seq (pb_var c 1 (by decide +kernel))) (g_v c hf 5 (by decide +kernel)) (ss_cons (ss_app (pe_v c 10 (by decide +kernel)) (pm_e (q_mod (q_int c m_int (by decide +kernel) (pa_cons' (pb_var c 9 (by decide +kernel)) pa_nil')) (q_add (pb_var c 5 (by decide +kernel)) pb_int))))
      (ss_one (s_set c hf 9 (by decide +kernel) (q_fdiv (pb_var c 9 (by decide +kernel)) (q_add (pb_var c 5 (by decide +kernel)) pb_int))))))
      (ss_tell (i := 10) (ss_one (ss_if (pt_isN (pb_call c f_law_bad_place (by decide) (by decide +kernel) (pq_val (pb_var c 0 (by decide +kernel)) (pq_val (pb_var c 2 (by decide +kernel)) (pq_val (pb_var c 3 (by decide +kernel)) (pq_val (pb_var c 4 (by decide +kernel)) (pq_val (pb_var c 10 (by decide +kernel)) pq_nil))))))) (ss_one (ss_app (pe_v c 8 (by decide +kernel)) (pm_e (q_tuple c m_tuple (by decide +kernel) (pa_cons' (pb_var c 10 (by decide +kernel)) pa_nil'))))) ss_nil))))))
      (ss_tell (i := 8) (ss_one (ss_ret (pb_var c 8 (by decide +kernel))))))))
abbrev s_law : Stmt := topS 24
abbrev N_law : List Str := ["_law_script", "_law_jar_here", "_law_turn", "_law_road", "_law_room", "_law_every", "_law_due", "_law_net_here", "_law_left", "_law_bound", "_law_feet", "_law_heads", "_law_ends", "_law_same", "_law_told", "_law_flow"]
abbrev ps_law : List Str := ["_law_script"]
theorem sc_law : FnScope N_law ps_law (defScope s_law) := ⟨rfl, rfl, rfl, by decide +kernel, rfl, by decide +kernel, by decide +kernel⟩
abbrev ms_law : List Md := [.val]
def b_law (Φ_law_draw : Spe) (Φ_law_net : Spe) (Φ_law_pick : Spe) (Φ_law_stops : Spe) (Φ_greatest_flow : Spe) (Φ_law_all_flows : Spe) (Φ_law_worth : Spe) : BS :=
    (sSeq (sFor (iRan oR1 (bCons (bC (.int 4)) bNil)) (pName 2) (sSeq (sPar [7, 4, 8] (cCons .e (bCall Φ_law_net (qJar 1 (qVal (b2 oAdd (bC (.int 3)) (bCall Φ_law_draw (qJar 1 (qVal (bC (.int 3)) qNil)))) (qVal (b2 oAdd (bC (.int 3)) (bCall Φ_law_draw (qJar 1 (qVal (bC (.int 3)) qNil)))) qNil)))) (cCons .l (bLst bNil) (cCons .e (bC (.int 160)) cNil))))
    (sSeq (sFor (iSeq (b2 oIx (bVar 7) (bC (.int 1)))) (pName 3) (sSeq (sSet 9 (bN (oII fun i j => if j < i then j else i) (bCons (bCall Φ_law_pick (qJar 1 (qVal (bLst (bCons (bC (.int 0)) (bCons (bC (.int 1)) (bCons (bC (.int 1)) (bCons (bC (.int 2)) (bCons (bC (.int 3)) (bCons (bC (.int 4)) bNil))))))) qNil))) (bCons (b2 oSub (bVar 8) (bC (.int 1))) bNil))))
    (sSeq (sApp 4 (mE (bVar 9)))
    (sSet 8 (b2 oFdiv (bVar 8) (b2 oAdd (bVar 9) (bC (.int 1))))))))
    (sSeq (sSet 4 (bN oTupOf (bCons (bSee 4) bNil)))
    (sSeq (sAsg (pTup 3 (pCons (pName 10) (pCons (pName 11) (pCons (pName 12) pNil)))) (bCall Φ_law_stops (qJar 1 (qVal (bVar 7) qNil))))
    (sSeq (sPar [13, 14] (cCons .e (bN oRepr (bCons (bLst (bCons (bVar 7) (bCons (bVar 4) bNil))) bNil)) (cCons .e (bCall Φ_greatest_flow (qVal (bVar 7) (qVal (bVar 4) (qVal (bVar 10) (qVal (bVar 11) (qVal (bVar 12) qNil)))))) cNil)))
    (sSeq (sSet 5 (bCall Φ_law_all_flows (qVal (bVar 7) (qVal (bVar 4) (qVal (bVar 10) (qVal (bVar 11) (qVal (bVar 12) qNil)))))))
    (sSeq (sSet 6 (bN oMaxL (bCons (bLc (iSeq (bVar 5)) ([("_law_flow", 15)].map (·.2)) (pName 15) tYesB (bCall Φ_law_worth (qVal (bVar 7) (qVal (bVar 10) (qVal (bVar 12) (qVal (bVar 15) qNil)))))) bNil)))
    (sSeq (sIf (tOrB (tV (b2 oNe (bN oRepr (bCons (b2 oIx (bVar 14) (bC (.int 0))) bNil)) (bN oRepr (bCons (bVar 6) bNil)))) (tV (b2 oNotInU (bN oRepr (bCons (b2 oIx (bVar 14) (bC (.int 1))) bNil)) (bLc (iSeq (bVar 5)) ([("_law_flow", 15)].map (·.2)) (pName 15) tYesB (bN oRepr (bCons (bVar 15) bNil)))))) (sRet (bC (.bool false))) sNext)
    (sIf (tOrB (tV (b2 oNe (bCall Φ_law_worth (qVal (bVar 7) (qVal (bVar 10) (qVal (bVar 12) (qVal (b2 oIx (bVar 14) (bC (.int 1))) qNil))))) (bVar 6))) (tV (b2 oNe (bN oRepr (bCons (bLst (bCons (bVar 7) (bCons (bVar 4) bNil))) bNil)) (bVar 13)))) (sRet (bC (.bool false))) sNext))))))))))
    (sRet (bC (.bool true))))
theorem d_law {X : Cx} {Φ_law_draw : Spe} {Φ_law_net : Spe} {Φ_law_pick : Spe} {Φ_law_stops : Spe} {Φ_greatest_flow : Spe} {Φ_law_all_flows : Spe} {Φ_law_worth : Spe} (c : Cz X N_law (defScope s_law) 4) (hf : ∀ y, X.fn y = true) (f_law_draw : Cal X.prog X.w X.K X.mg X.base CX0 1 "_law_draw" ps_law_draw (toSp .e ms_law_draw Φ_law_draw)) (f_law_net : Cal X.prog X.w X.K X.mg X.base CX0 3 "_law_net" ps_law_net (toSp .e ms_law_net Φ_law_net)) (f_law_pick : Cal X.prog X.w X.K X.mg X.base CX0 2 "_law_pick" ps_law_pick (toSp .e ms_law_pick Φ_law_pick)) (f_law_stops : Cal X.prog X.w X.K X.mg X.base CX0 3 "_law_stops" ps_law_stops (toSp .e ms_law_stops Φ_law_stops)) (f_greatest_flow : Cal X.prog X.w X.K X.mg X.base CX0 4 "greatest_flow" ps_greatest_flow (toSp .e ms_greatest_flow Φ_greatest_flow)) (f_law_all_flows : Cal X.prog X.w X.K X.mg X.base CX0 3 "_law_all_flows" ps_law_all_flows (toSp .e ms_law_all_flows Φ_law_all_flows)) (f_law_worth : Cal X.prog X.w X.K X.mg X.base CX0 2 "_law_worth" ps_law_worth (toSp .e ms_law_worth Φ_law_worth)) (m_range : X.mg "range" = none) (m_min : X.mg "min" = none) (m_tuple : X.mg "tuple" = none) (m_repr : X.mg "repr" = none) (m_max : X.mg "max" = none) :
    PSsb X .e ((defBody s_law).drop 1) (b_law Φ_law_draw Φ_law_net Φ_law_pick Φ_law_stops Φ_greatest_flow Φ_law_all_flows Φ_law_worth) :=
  (ss_cons (s_for c (i_r1 c m_range (by decide +kernel) (pa_cons' pb_int pa_nil')) (g_v c hf 2 (by decide +kernel)) (ss_cons (s_parG c hf [7, 4, 8] (by decide +kernel) (pp_cons (pb_call c f_law_net (by decide) (by decide +kernel) (pq_jar (pe_v c 1 (by decide +kernel)) (pq_val (q_add pb_int (pb_call c f_law_draw (by decide) (by decide +kernel) (pq_jar (pe_v c 1 (by decide +kernel)) (pq_val pb_int pq_nil)))) (pq_val (q_add pb_int (pb_call c f_law_draw (by decide) (by decide +kernel) (pq_jar (pe_v c 1 (by decide +kernel)) (pq_val pb_int pq_nil)))) pq_nil)))) (pp_cons (pb_lst pd_nil) (pp_cons pb_int pp_nil))))
      (ss_cons (s_for c (it_seq (pb_ix (pb_var c 7 (by decide +kernel)) pb_int (fun _ _ => rfl))) (g_v c hf 3 (by decide +kernel)) (ss_cons (s_set c hf 9 (by decide +kernel) (q_min2 c m_min (by decide +kernel) (pa_cons' (pb_call c f_law_pick (by decide) (by decide +kernel) (pq_jar (pe_v c 1 (by decide +kernel)) (pq_val (pb_le (pb_lst (pd_cons pb_int (pd_cons pb_int (pd_cons pb_int (pd_cons pb_int (pd_cons pb_int (pd_cons pb_int pd_nil)))))))) pq_nil))) (pa_cons' (q_sub (pb_var c 8 (by decide +kernel)) pb_int) pa_nil'))))
      (ss_cons (ss_app (pe_v c 4 (by decide +kernel)) (pm_e (pb_var c 9 (by decide +kernel))))
      (ss_one (s_set c hf 8 (by decide +kernel) (q_fdiv (pb_var c 8 (by decide +kernel)) (q_add (pb_var c 9 (by decide +kernel)) pb_int)))))))
      (ss_cons (s_set c hf 4 (by decide +kernel) (q_tuple c m_tuple (by decide +kernel) (pa_cons' (pb_see c 4 (by decide +kernel)) pa_nil')))
      (ss_cons (s_asg c (pb_call c f_law_stops (by decide) (by decide +kernel) (pq_jar (pe_v c 1 (by decide +kernel)) (pq_val (pb_var c 7 (by decide +kernel)) pq_nil))) (pg_t c.calm (pgs_c (g_v c hf 10 (by decide +kernel)) (pgs_c (g_v c hf 11 (by decide +kernel)) (pgs_c (g_v c hf 12 (by decide +kernel)) pgs_n)))))
      (ss_cons (s_par2 c 13 14 (by decide +kernel) (pp_cons (q_repr c m_repr (by decide +kernel) (pa_cons' (pb_lst (pd_cons (pb_var c 7 (by decide +kernel)) (pd_cons (pb_var c 4 (by decide +kernel)) pd_nil))) pa_nil')) (pp_cons (pb_call c f_greatest_flow (by decide) (by decide +kernel) (pq_val (pb_var c 7 (by decide +kernel)) (pq_val (pb_var c 4 (by decide +kernel)) (pq_val (pb_var c 10 (by decide +kernel)) (pq_val (pb_var c 11 (by decide +kernel)) (pq_val (pb_var c 12 (by decide +kernel)) pq_nil)))))) pp_nil)))
      (ss_cons (s_set c hf 5 (by decide +kernel) (pb_call c f_law_all_flows (by decide) (by decide +kernel) (pq_val (pb_var c 7 (by decide +kernel)) (pq_val (pb_var c 4 (by decide +kernel)) (pq_val (pb_var c 10 (by decide +kernel)) (pq_val (pb_var c 11 (by decide +kernel)) (pq_val (pb_var c 12 (by decide +kernel)) pq_nil)))))))
      (ss_cons (s_set c hf 6 (by decide +kernel) (q_maxL c m_max (by decide +kernel) (pa_cons' (q_lc c [("_law_flow", 15)] (by decide +kernel) (by decide) (by decide +kernel) (it_seq (pb_var c 5 (by decide +kernel))) (fun s0 h0 C0 l0 p0 => (g_b c s0 h0 _ C0 l0 p0 15 (by decide +kernel) (by decide +kernel))) (fun _ _ _ _ _ => pts_n) (fun s0 h0 C0 l0 p0 => (pb_call (c.blk s0 h0 _ C0 l0 p0) f_law_worth (by decide) (by decide +kernel) (pq_val (pb_var (c.blk s0 h0 _ C0 l0 p0) 7 (by decide +kernel)) (pq_val (pb_var (c.blk s0 h0 _ C0 l0 p0) 10 (by decide +kernel)) (pq_val (pb_var (c.blk s0 h0 _ C0 l0 p0) 12 (by decide +kernel)) (pq_val (pb_var (c.blk s0 h0 _ C0 l0 p0) 15 (by decide +kernel)) pq_nil))))))) pa_nil')))
      (ss_cons (ss_if (pt_w (pw_o (t_ne c (q_repr c m_repr (by decide +kernel) (pa_cons' (pb_ix (pb_var c 14 (by decide +kernel)) pb_int (fun _ _ => rfl)) pa_nil')) (q_repr c m_repr (by decide +kernel) (pa_cons' (pb_var c 6 (by decide +kernel)) pa_nil'))) (pw_o1 (t_notIn c (q_repr c m_repr (by decide +kernel) (pa_cons' (pb_ix (pb_var c 14 (by decide +kernel)) pb_int (fun _ _ => rfl)) pa_nil')) (q_lc c [("_law_flow", 15)] (by decide +kernel) (by decide) (by decide +kernel) (it_seq (pb_var c 5 (by decide +kernel))) (fun s0 h0 C0 l0 p0 => (g_b c s0 h0 _ C0 l0 p0 15 (by decide +kernel) (by decide +kernel))) (fun _ _ _ _ _ => pts_n) (fun s0 h0 C0 l0 p0 => (q_repr (c.blk s0 h0 _ C0 l0 p0) m_repr (by decide +kernel) (pa_cons' (pb_var (c.blk s0 h0 _ C0 l0 p0) 15 (by decide +kernel)) pa_nil')))))))) (ss_one (ss_ret pb_bl)) ss_nil)
      (ss_one (ss_if (pt_w (pw_o (t_ne c (pb_call c f_law_worth (by decide) (by decide +kernel) (pq_val (pb_var c 7 (by decide +kernel)) (pq_val (pb_var c 10 (by decide +kernel)) (pq_val (pb_var c 12 (by decide +kernel)) (pq_val (pb_ix (pb_var c 14 (by decide +kernel)) pb_int (fun _ _ => rfl)) pq_nil))))) (pb_var c 6 (by decide +kernel))) (pw_o1 (t_ne c (q_repr c m_repr (by decide +kernel) (pa_cons' (pb_lst (pd_cons (pb_var c 7 (by decide +kernel)) (pd_cons (pb_var c 4 (by decide +kernel)) pd_nil))) pa_nil')) (pb_var c 13 (by decide +kernel)))))) (ss_one (ss_ret pb_bl)) ss_nil)))))))))))
      (ss_one (ss_ret pb_bl)))
end K46

namespace K46
open PySem PySem.Spec L2 BV
/-! led_ways -/
def b_led_ways : BS := dStart2 1 (-1) (-2) (dSeq (dFor (iEnu (iSeq (bVar 0))) (pTup 2 (pCons (pName 2) (pCons (pTup 2 (pCons (pName 3) (pCons (pName 4) pNil))) pNil)))
  (dSeq (dSd (bVar 3) (bTup (bCons (bVar 2) (bCons (bVar 4) (bCons (bC (.bool true)) bNil)))))
  (dSeq (dSd (bVar 4) (bTup (bCons (bVar 2) (bCons (bVar 3) (bCons (bC (.bool false)) bNil))))) dNext))) dRet)
theorem pe_gi {X : Cx} {N : List Str} {sc : Scope} {k : Nat} {i : Int} {x : Str} {pos : Pos} (c : Cz X N sc k) (h : ∃ t, X.mg x = some (.int i t)) (hg : gi sc x) (hd : (x == ("__debug__" : Str)) = false := by decide) : PE X (.Name x pos) (tC (.int i)) := by
  obtain ⟨t, h⟩ := h
  exact pe_glob (v := .int i) (c.gl hg) h ⟨_, rfl⟩ hd
theorem d_led_ways {X : Cx} (c : Cz X N_led_ways (defScope s_led_ways) 0) (hf : ∀ y, X.fn y = true) (m_enumerate : X.mg "enumerate" = none) (m_BEGIN : ∃ t, X.mg "BEGIN" = some (.int (-1) t)) (m_END : ∃ t, X.mg "END" = some (.int (-2) t)) : PSsb X .e (defBody s_led_ways) b_led_ways :=
  let ⟨u, v, w⟩ := c.tgt (i := 1) (x := "found") (by decide +kernel)
  sd_start2 (i := 1) (pe_gi c m_BEGIN (by decide +kernel)) (pe_gi c m_END (by decide +kernel)) (by decide) u v w rfl (.inl (hf _))
    (sd_cons (sd_for (S := [2] ++ (([3] ++ ([4] ++ [])) ++ [])) c.po c.calm (i_enu c m_enumerate (by decide +kernel) (pb_var c 0 (by decide +kernel))) (pg_t c.calm (pgs_c (g_v c hf 2 (by decide +kernel)) (pgs_c (pg_t c.calm (pgs_c (g_v c hf 3 (by decide +kernel)) (pgs_c (g_v c hf 4 (by decide +kernel)) pgs_n))) pgs_n))) (by decide)
      (sd_cons (sd_app (pe_v c 1 (by decide +kernel)) (pb_var c 3 (by decide +kernel)) (pb_tup (pd_cons (pb_var c 2 (by decide +kernel)) (pd_cons (pb_var c 4 (by decide +kernel)) (pd_cons pb_bl pd_nil)))) ⟨rfl, rfl, rfl, rfl⟩)
      (sd_cons (sd_app (pe_v c 1 (by decide +kernel)) (pb_var c 4 (by decide +kernel)) (pb_tup (pd_cons (pb_var c 2 (by decide +kernel)) (pd_cons (pb_var c 3 (by decide +kernel)) (pd_cons pb_bl pd_nil)))) ⟨rfl, rfl, rfl, rfl⟩) sd_nil)))
    (sd_ret (pe_v c 1 (by decide +kernel))))
end K46

namespace K46
open PySem PySem.Spec L2 BV Fl

/-! numbers as data -/
def oD : Option Int → D
  | none => .none
  | some i => .int i
abbrev intsD (xs : List Int) : D := .list (xs.map PyData.int)
abbrev optsD (xs : List (Option Int)) : D := .list (xs.map oD)
theorem atI_map {α : Type} {f : α → D} {xs : List α} {k : Nat} {x : α} (h : xs[k]? = some x) : atI (xs.map f) (k : Int) = some (f x) := atI_nat (by rw [List.getElem?_map, h]; rfl)
def Φ_has_room : Spe := fun ds Q => ∃ (room : List (Option Int)) (xs : List Int) (k : Nat) (f : Bool), ds = [optsD room, intsD xs, .int (k : Int), .bool f] ∧ k < room.length ∧ k < xs.length ∧ Q (.bool (Fl.has room xs k f))
theorem l_has_room (ds : List D) (Q : D → Prop) (n : En → Prop) (h : Φ_has_room ds Q) : b_has_room (entry 4 ms_has_room ds) n Q := by
  obtain ⟨room, xs, k, f, rfl, h1, h2, q⟩ := h
  have ex := atI_map (f := PyData.int) (List.getElem?_eq_getElem h2)
  have er := atI_map (f := oD) (List.getElem?_eq_getElem h1)
  simp [b_has_room, sSeq, sNext, sIf, sRet, sSet, sSetL, sSetD, sAsg, sAsgM, sApp, sExt, sPut, sDPutB, sNewD, sPar, sTell, sRetOwn, sDrop, bC, bVar, bSee, b2, b1, bN, bNil, bCons, bTup, bLst, bIf, bAnd, bOr, bNot, bIsN, bNotN, isNoneD, tV, tNotB, tAndB, tOrB, oB, pName, pNil, pCons, pTup, cNil, cCons, BV.cellOf, BV.setAll, qNil, qVal, qBor, qDic, qJar, isListD, bCall, mE, mPop, mPopAt, oIx, oAdd, oMul, oI, oLt, oLe, oGt, oGe, oSub, oMod, oFdiv, oPow, oNeg, oCatL, oRepL, atI_c0, atI_c1, atI_c2, oEq_int, oNe_int, oLen_l, oLen_t, oListOf_l, oListOf_t, oTupOf_l, oTupOf_t, oII, oAbs, oInt1, bInS, bOwnD, oDGet, bGetS, bDisp, bPairs, mergeD, bRevL, bLstR1, bLstR2, bSlL, bSlT, wNo, wAt, iSeq, oSeq_l, oSeq_t, iEnu, iZp, iRan, oR1, oR2, oKeys, entry, cellsMd, cellMd, ex, er]
  unfold Fl.has at q
  simp only [List.getD_eq_getElem?_getD, List.getElem?_eq_getElem h1, List.getElem?_eq_getElem h2, Option.getD_some] at q
  cases f with
  | true =>
    simp at q ⊢
    cases e : room[k] with
    | none => rw [e] at q; simpa [oD, isNoneD] using q
    | some r => rw [e] at q; simpa [oD, isNoneD, oLt, oI] using q
  | false => simpa using q

/-! ways -/
def stepD (s : Nat × Int × Bool) : D := .tuple [.int (s.1 : Int), .int s.2.1, .bool s.2.2]
structure Ways (as : List Arc) (d : D) : Prop where
  ex : ∃ ps : Tab, d = tabD ps ∧ ps ≠ [] ∧ (∀ p ∈ ps, ∃ i : Int, p.1 = .int i) ∧ ∀ v : Int, (v = -1 ∨ ∃ a ∈ as, a.1 = v ∨ a.2 = v) →
    ∃ es : List (Nat × Int × Bool), getT ps (.int v) = some (es.map stepD) ∧ ∀ k o f, (k, o, f) ∈ es ↔ step as v k o f
theorem valD_tab (ps : Tab) (k : D) : valD (ps.map fun p => (p.1, PyData.list p.2)) k = (getT ps k).map PyData.list := by
  induction ps with
  | nil => rfl
  | cons p r ih =>
    simp only [List.map_cons, valD, getT]
    split
    · rfl
    · exact ih
/-- the dict that tells a tree -/
def tvD : Option (Nat × Int × Bool) → D
  | none => .none
  | some (k, q, f) => .tuple [.int (k : Int), .int q, .bool f]
def trKV (t : Tr) : List (D × D) := t.map fun p => (.int p.1, tvD p.2)
theorem kEq_int (i j : Int) : kEq (.int i) (.int j) = decide (i = j) := rfl
theorem valD_tr' (t : Tr) (p : Int) : (valD (trKV t) (.int p)).isSome = true ↔ p ∈ keys t := by
  induction t with
  | nil => simp [trKV, valD, keys]
  | cons x t ih =>
    simp only [trKV, List.map_cons, valD, kEq_int, keys, List.mem_cons, decide_eq_true_eq] at ih ⊢
    by_cases e : x.1 = p
    · simp [e]
    · rw [if_neg e, ih]
      exact ⟨.inr, fun h => h.elim (fun h => absurd h.symm e) id⟩
theorem valD_tr (t : Tr) (p : Int) : (valD (trKV t) (.int p)).isSome = decide (p ∈ keys t) := by
  rw [Bool.eq_iff_iff, decide_eq_true_eq]; exact valD_tr' t p
theorem valD_at {t : Tr} (nd : (keys t).Nodup) {i : Nat} {p : Int} {v : Option (Nat × Int × Bool)} (h : t[i]? = some (p, v)) : valD (trKV t) (.int p) = some (tvD v) := by
  induction t generalizing i with
  | nil => simp at h
  | cons x t ih =>
    simp only [keys, List.map_cons, List.nodup_cons] at nd
    simp only [trKV, List.map_cons, valD, kEq_int, decide_eq_true_eq]
    cases i with
    | zero => simp at h; subst h; simp
    | succ i =>
      have hm : t[i]? = some (p, v) := by simpa using h
      have : x.1 ≠ p := fun e => nd.1 (by rw [e]; exact List.mem_map.mpr ⟨_, List.mem_of_getElem? hm, rfl⟩)
      rw [if_neg this]
      exact ih nd.2 hm
theorem put_tr {t : Tr} {p : Int} {v : Option (Nat × Int × Bool)} (h : p ∉ keys t) : putD (trKV t) (.int p) (tvD v) = trKV (t ++ [(p, v)]) := by
  unfold putD
  rw [valD_tr, if_neg (by simpa using h)]
  simp [trKV]
def Closed (as : List Arc) (room : List (Option Int)) (xs : List Int) (t : Tr) (q : Int) : Prop := ∀ k o f, step as q k o f → Fl.has room xs k f = true → o ∈ keys t
def trD (t : Tr) : D := .dict (trKV t)
theorem kind_tr (t : Tr) (p : Int) : goodKey (tKind (trKV t)) (.int p) := by
  cases t <;> rfl
def placeOk (as : List Arc) (b : Int) (t : Tr) : Prop := ∀ p ∈ keys t, p = b ∨ ∃ a ∈ as, a.1 = p ∨ a.2 = p
def Φ_reached : Spe := fun ds Q => ∃ (as : List Arc) (room : List (Option Int)) (xs : List Int) (e : Int) (w : D), ds = [w, optsD room, intsD xs, .int (-1), .int e] ∧ Ways as w ∧ as.length ≤ 1000 ∧ room.length = as.length ∧ xs.length = as.length ∧
  ∀ t : Tr, Tree as room xs (-1) t → placeOk as (-1) t → (e ∈ keys t ∨ ∀ q ∈ keys t, Closed as room xs t q) → Q (trD t)
section
variable {as : List Arc} {room : List (Option Int)} {xs : List Int} {b e : Int} {w : D}
/-- the state in reached -/
def rhoR (w : D) (room : List (Option Int)) (xs : List Int) (b e : Int) (t : Tr) (spot : Nat) (c : Cell) (c1 c2 c3 : Cell) : En :=
  [.val w, .bor (room.map oD), .bor (xs.map PyData.int), .val (.int b), .val (.int e), .dic false (trKV t), .own ((keys t).map PyData.int), .val (.int (spot : Int)), c, c1, c2, c3]
theorem placeOk.len {t : Tr} (h : placeOk as b t) (nd : (keys t).Nodup) : t.length ≤ 2 * as.length + 1 := by
  have := len_le_of_nodup (m := b :: (as.map (·.1) ++ as.map (·.2))) nd fun p hp => by
    rcases h p hp with rfl | ⟨a, ha, e | e⟩
    · simp
    · exact List.mem_cons_of_mem _ (List.mem_append_left _ (List.mem_map.mpr ⟨a, ha, e⟩))
    · exact List.mem_cons_of_mem _ (List.mem_append_right _ (List.mem_map.mpr ⟨a, ha, e⟩))
  simp [keys] at this
  omega
def bodyR : BS := (sIf (tAndB (tV (bInS 5 true (bVar 10))) (tV (bCall Φ_has_room (qBor (bSee 1) (qBor (bSee 2) (qVal (bVar 9) (qVal (bVar 11) qNil))))))) (sSeq (sDPutB 5 (bVar 10) (bTup (bCons (bVar 9) (bCons (bVar 8) (bCons (bVar 11) bNil)))))
    (sApp 6 (mE (bVar 10)))) sNext)
theorem inner (hr : room.length = as.length) (hx : xs.length = as.length) (ha : as.length ≤ 1000) {spot : Nat} {q : Int} {nx : En → Prop} {rt : D → Prop} : ∀ (es : List (Nat × Int × Bool)) (t : Tr) (c1 c2 c3 : Cell), Tree as room xs b t → q ∈ keys t → placeOk as b t → (∀ k o f, (k, o, f) ∈ es → step as q k o f) →
    (∀ (t' : Tr) (c1 c2 c3 : Cell), Tree as room xs b t' → (∃ more, t' = t ++ more) → placeOk as b t' → (∀ k o f, (k, o, f) ∈ es → Fl.has room xs k f = true → o ∈ keys t') → nx (rhoR w room xs b e t' spot (.val (.int q)) c1 c2 c3)) →
    forGo (pTup 3 (pCons (pName 9) (pCons (pName 10) (pCons (pName 11) pNil)))) bodyR (es.map stepD) (rhoR w room xs b e t spot (.val (.int q)) c1 c2 c3) nx rt
  | [], t, c1, c2, c3, T, hq, hp, hs, k => k t c1 c2 c3 T ⟨[], by simp⟩ hp (by simp)
  | (k, o, f) :: es, t, c1, c2, c3, T, hq, hp, hs, kk => by
    have st := hs k o f List.mem_cons_self
    have hk : k < as.length := by rcases st with ⟨_, h⟩ | ⟨_, h⟩ <;> exact (List.getElem?_eq_some_iff.mp h).1
    have hoe : ∃ a ∈ as, a.1 = o ∨ a.2 = o := by
      rcases st with ⟨_, h⟩ | ⟨_, h⟩
      · exact ⟨_, List.mem_of_getElem? h, .inr rfl⟩
      · exact ⟨_, List.mem_of_getElem? h, .inl rfl⟩
    have rest : ∀ (t : Tr) (c1 c2 c3 : Cell), Tree as room xs b t → q ∈ keys t → placeOk as b t →
        (∀ (t' : Tr) (c1 c2 c3 : Cell), Tree as room xs b t' → (∃ more, t' = t ++ more) → placeOk as b t' → (∀ k o f, (k, o, f) ∈ es → Fl.has room xs k f = true → o ∈ keys t') → nx (rhoR w room xs b e t' spot (.val (.int q)) c1 c2 c3)) →
        forGo (pTup 3 (pCons (pName 9) (pCons (pName 10) (pCons (pName 11) pNil)))) bodyR (es.map stepD) (rhoR w room xs b e t spot (.val (.int q)) c1 c2 c3) nx rt :=
      fun t c1 c2 c3 T hq hp kk => inner hr hx ha es t c1 c2 c3 T hq hp (fun k o f h => hs k o f (List.mem_cons_of_mem _ h)) kk
    simp only [List.map_cons, forGo, stepD]
    simp [rhoR, bodyR, sSeq, sNext, sIf, sRet, sSet, sSetL, sSetD, sAsg, sAsgM, sApp, sExt, sPut, sDPutB, sNewD, sPar, sTell, sRetOwn, sDrop, bC, bVar, bSee, b2, b1, bN, bNil, bCons, bTup, bLst, bIf, bAnd, bOr, bNot, bIsN, bNotN, isNoneD, tV, tNotB, tAndB, tOrB, oB, pName, pNil, pCons, pTup, cNil, cCons, BV.cellOf, BV.setAll, qNil, qVal, qBor, qDic, qJar, isListD, bCall, mE, mPop, mPopAt, oIx, oAdd, oMul, oI, oLt, oLe, oGt, oGe, oSub, oMod, oFdiv, oPow, oNeg, oCatL, oRepL, atI_c0, atI_c1, atI_c2, oEq_int, oNe_int, oLen_l, oLen_t, oListOf_l, oListOf_t, oTupOf_l, oTupOf_t, oII, oAbs, oInt1, bInS, bOwnD, oDGet, bGetS, bDisp, bPairs, mergeD, bRevL, bLstR1, bLstR2, bSlL, bSlT, wNo, wAt, iSeq, oSeq_l, oSeq_t, iEnu, iZp, iRan, oR1, oR2, oKeys, entry, cellsMd, cellMd, goodKey, kOf, valD_tr]
    by_cases ho : o ∈ keys t
    · simp [ho]
      refine rest t _ _ _ T hq hp fun t' c1 c2 c3 T' pre hp' cl => ?_
      refine kk t' c1 c2 c3 T' pre hp' fun k' o' f' hm hh => ?_
      rcases List.mem_cons.mp hm with e1 | hm
      · cases e1
        obtain ⟨more, rfl⟩ := pre
        simp [keys] at ho ⊢
        exact .inl ho
      · exact cl k' o' f' hm hh
    · simp [ho]
      refine ⟨room, xs, k, f, rfl, by omega, by omega, ?_⟩
      cases hh : Fl.has room xs k f with
      | false =>
        simp
        refine rest t _ _ _ T hq hp fun t' c1 c2 c3 T' pre hp' cl => ?_
        refine kk t' c1 c2 c3 T' pre hp' fun k' o' f' hm hh' => ?_
        rcases List.mem_cons.mp hm with e1 | hm
        · cases e1
          rw [hh] at hh'; cases hh'
        · exact cl k' o' f' hm hh'
      | true =>
        have hp2 : placeOk as b (t ++ [(o, some (k, q, f))]) := fun p hp' => by
          simp [keys] at hp'
          rcases hp' with hp' | rfl
          · exact hp p (by simpa [keys] using hp')
          · exact .inr hoe
        have T2 := T.grow hq ho st hh
        have hlen := hp.len T.nd
        have hlt : t.length < sizeLine := by rw [sizeLine_eq]; omega
        simp
        refine ⟨by decide, by simpa [trKV] using hlt, by simpa [keys] using hlt, ?_⟩
        have e2 : putD (trKV t) (PyData.int o) (PyData.tuple [PyData.int (k : Int), PyData.int q, PyData.bool f]) = trKV (t ++ [(o, some (k, q, f))]) := put_tr (v := some (k, q, f)) ho
        rw [e2]
        have e3 : (keys t).map PyData.int ++ [PyData.int o] = (keys (t ++ [(o, some (k, q, f))])).map PyData.int := by simp [keys]
        rw [e3]
        refine rest (t ++ [(o, some (k, q, f))]) _ _ _ T2 (by simp [keys] at hq ⊢; exact .inl hq) hp2 fun t' c1 c2 c3 T' pre hp' cl => ?_
        obtain ⟨more, rfl⟩ := pre
        refine kk _ c1 c2 c3 T' ⟨[(o, some (k, q, f))] ++ more, by simp⟩ hp' fun k' o' f' hm hh' => ?_
        rcases List.mem_cons.mp hm with e1 | hm
        · cases e1
          simp [keys]
        · exact cl k' o' f' hm hh'
theorem l_reached (ds : List D) (Q : D → Prop) (n : En → Prop) (h : Φ_reached ds Q) : b_reached Φ_has_room (entry 12 ms_reached ds) n Q := by
  obtain ⟨as, room, xs, e, w, rfl, ⟨ps, rfl, hne, hint, hw⟩, ha, hr, hx, q⟩ := h
  have whole : ∀ (t : Tr) (c c1 c2 c3 : Cell) (spot : Nat), Tree as room xs (-1) t → placeOk as (-1) t → (e ∈ keys t ∨ ∀ q ∈ keys t, Closed as room xs t q) → sTell 5 (sRet (bVar 5)) (rhoR (tabD ps) room xs (-1) e t spot c c1 c2 c3) n Q := by
    intro t c c1 c2 c3 spot T hp hc
    have hn : trKV t ≠ [] := by
      intro z
      have := T.hd
      cases t with
      | nil => simp at this
      | cons x t => simp [trKV] at z
    simp [rhoR, sSeq, sNext, sIf, sRet, sSet, sSetL, sSetD, sAsg, sAsgM, sApp, sExt, sPut, sDPutB, sNewD, sPar, sTell, sRetOwn, sDrop, bC, bVar, bSee, b2, b1, bN, bNil, bCons, bTup, bLst, bIf, bAnd, bOr, bNot, bIsN, bNotN, isNoneD, tV, tNotB, tAndB, tOrB, oB, pName, pNil, pCons, pTup, cNil, cCons, BV.cellOf, BV.setAll, qNil, qVal, qBor, qDic, qJar, isListD, bCall, mE, mPop, mPopAt, oIx, oAdd, oMul, oI, oLt, oLe, oGt, oGe, oSub, oMod, oFdiv, oPow, oNeg, oCatL, oRepL, atI_c0, atI_c1, atI_c2, oEq_int, oNe_int, oLen_l, oLen_t, oListOf_l, oListOf_t, oTupOf_l, oTupOf_t, oII, oAbs, oInt1, bInS, bOwnD, oDGet, bGetS, bDisp, bPairs, mergeD, bRevL, bLstR1, bLstR2, bSlL, bSlT, wNo, wAt, iSeq, oSeq_l, oSeq_t, iEnu, iZp, iRan, oR1, oR2, oKeys, entry, cellsMd, cellMd]
    exact q t T hp hc
  have hk : tKind (ps.map fun p => (p.1, PyData.list p.2)) = false := by
    cases ps with
    | nil => rfl
    | cons p ps =>
      obtain ⟨i, hi⟩ := hint p List.mem_cons_self
      simp [tKind, hi, isT]
  have loop : sWhile (tAndB (tV (b2 oLt (bVar 7) (bN oLen (bCons (bSee 6) bNil)))) (tV (bInS 5 true (bVar 4)))) (sSeq (sSet 8 (b2 oIx (bSee 6) (bVar 7)))
    (sSeq (sSet 7 (b2 oAdd (bVar 7) (bC (.int 1))))
    (sFor (iSeq (b2 oDGet (bVar 0) (bVar 8))) (pTup 3 (pCons (pName 9) (pCons (pName 10) (pCons (pName 11) pNil)))) bodyR))) (rhoR (tabD ps) room xs (-1) e [(-1, none)] 0 .no .no .no .no) (fun ρ' => sTell 5 (sRet (bVar 5)) ρ' n Q) Q := by
    refine ⟨fun m ρ => ∃ (t : Tr) (spot : Nat) (c c1 c2 c3 : Cell), ρ = rhoR (tabD ps) room xs (-1) e t spot c c1 c2 c3 ∧ Tree as room xs (-1) t ∧ placeOk as (-1) t ∧ spot ≤ t.length ∧ (∀ (j : Nat) (p : Int), j < spot → (keys t)[j]? = some p → Closed as room xs t p) ∧ m = 2 * as.length + 2 - spot,
      ⟨_, [(-1, none)], 0, .no, .no, .no, .no, rfl, .start _ _ _ _, fun p hp => by simp [keys] at hp; exact .inl hp, Nat.zero_le _, fun j p hj => absurd hj (Nat.not_lt_zero _), rfl⟩, ?_⟩
    rintro m ρ ⟨t, spot, c, c1, c2, c3, rfl, T, hp, hs, hcl, rfl⟩
    have hlen := hp.len T.nd
    have fin := whole t c c1 c2 c3 spot T hp
    have fin' := fin
    simp only [rhoR] at fin'
    simp [rhoR, sSeq, sNext, sIf, sRet, sSet, sSetL, sSetD, sAsg, sAsgM, sApp, sExt, sPut, sDPutB, sNewD, sPar, sTell, sRetOwn, sDrop, bC, bVar, bSee, b2, b1, bN, bNil, bCons, bTup, bLst, bIf, bAnd, bOr, bNot, bIsN, bNotN, isNoneD, tV, tNotB, tAndB, tOrB, oB, pName, pNil, pCons, pTup, cNil, cCons, BV.cellOf, BV.setAll, qNil, qVal, qBor, qDic, qJar, isListD, bCall, mE, mPop, mPopAt, oIx, oAdd, oMul, oI, oLt, oLe, oGt, oGe, oSub, oMod, oFdiv, oPow, oNeg, oCatL, oRepL, atI_c0, atI_c1, atI_c2, oEq_int, oNe_int, oLen_l, oLen_t, oListOf_l, oListOf_t, oTupOf_l, oTupOf_t, oII, oAbs, oInt1, bInS, bOwnD, oDGet, bGetS, bDisp, bPairs, mergeD, bRevL, bLstR1, bLstR2, bSlL, bSlT, wNo, wAt, iSeq, oSeq_l, oSeq_t, iEnu, iZp, iRan, oR1, oR2, oKeys, entry, cellsMd, cellMd, goodKey, kOf, valD_tr]
    have el : (keys t).length = t.length := by simp [keys]
    by_cases h1 : spot < t.length
    · by_cases h2 : e ∈ keys t
      · simp [h1, h2, el]
        have := fin (.inl h2)
        simpa [rhoR, sSeq, sNext, sIf, sRet, sSet, sSetL, sSetD, sAsg, sAsgM, sApp, sExt, sPut, sDPutB, sNewD, sPar, sTell, sRetOwn, sDrop, bC, bVar, bSee, b2, b1, bN, bNil, bCons, bTup, bLst, bIf, bAnd, bOr, bNot, bIsN, bNotN, isNoneD, tV, tNotB, tAndB, tOrB, oB, pName, pNil, pCons, pTup, cNil, cCons, BV.cellOf, BV.setAll, qNil, qVal, qBor, qDic, qJar, isListD, bCall, mE, mPop, mPopAt, oIx, oAdd, oMul, oI, oLt, oLe, oGt, oGe, oSub, oMod, oFdiv, oPow, oNeg, oCatL, oRepL, atI_c0, atI_c1, atI_c2, oEq_int, oNe_int, oLen_l, oLen_t, oListOf_l, oListOf_t, oTupOf_l, oTupOf_t, oII, oAbs, oInt1, bInS, bOwnD, oDGet, bGetS, bDisp, bPairs, mergeD, bRevL, bLstR1, bLstR2, bSlL, bSlT, wNo, wAt, iSeq, oSeq_l, oSeq_t, iEnu, iZp, iRan, oR1, oR2, oKeys, entry, cellsMd, cellMd] using this
      · simp [h1, h2, el]
        have hq : (keys t)[spot]? = some (keys t)[spot] := List.getElem?_eq_getElem (by omega)
        refine ⟨_, atI_map hq, ?_⟩
        have hqm : (keys t)[spot] ∈ keys t := List.getElem_mem _
        obtain ⟨es, he, hes⟩ := hw (keys t)[spot] (hp _ hqm)
        unfold sFor
        simp [sSeq, sNext, sIf, sRet, sSet, sSetL, sSetD, sAsg, sAsgM, sApp, sExt, sPut, sDPutB, sNewD, sPar, sTell, sRetOwn, sDrop, bC, bVar, bSee, b2, b1, bN, bNil, bCons, bTup, bLst, bIf, bAnd, bOr, bNot, bIsN, bNotN, isNoneD, tV, tNotB, tAndB, tOrB, oB, pName, pNil, pCons, pTup, cNil, cCons, BV.cellOf, BV.setAll, qNil, qVal, qBor, qDic, qJar, isListD, bCall, mE, mPop, mPopAt, oIx, oAdd, oMul, oI, oLt, oLe, oGt, oGe, oSub, oMod, oFdiv, oPow, oNeg, oCatL, oRepL, atI_c0, atI_c1, atI_c2, oEq_int, oNe_int, oLen_l, oLen_t, oListOf_l, oListOf_t, oTupOf_l, oTupOf_t, oII, oAbs, oInt1, bInS, bOwnD, oDGet, bGetS, bDisp, bPairs, mergeD, bRevL, bLstR1, bLstR2, bSlL, bSlT, wNo, wAt, iSeq, oSeq_l, oSeq_t, iEnu, iZp, iRan, oR1, oR2, oKeys, entry, cellsMd, cellMd]
        unfold tabD
        simp
        refine ⟨by rw [hk]; rfl, ?_⟩
        rw [valD_tab, he]
        simp
        have e7 : ((spot : Int) + 1) = ((spot + 1 : Nat) : Int) := by omega
        rw [e7]
        refine inner (w := tabD ps) (b := -1) (e := e) (spot := spot + 1) hr hx ha es t c1 c2 c3 T hqm hp (fun k o f h => (hes k o f).mp h) fun t' c1 c2 c3 T' pre hp' cl => ?_
        obtain ⟨more, rfl⟩ := pre
        refine ⟨2 * as.length + 2 - (spot + 1), by omega, t ++ more, spot + 1, ⟨_, c1, c2, c3, rfl⟩, T', hp', by simp; omega, fun j p hj hjp => ?_, rfl⟩
        have hk' : keys (t ++ more) = keys t ++ keys more := by simp [keys]
        have hjt : j < (keys t).length := by omega
        rw [hk', List.getElem?_append_left hjt] at hjp
        by_cases e3 : j = spot
        · subst e3
          rw [hq] at hjp
          cases hjp
          exact fun k o f st hh => cl k o f ((hes k o f).mpr st) hh
        · have := hcl j p (by omega) hjp
          exact fun k o f st hh => by
            rw [hk']; exact List.mem_append_left _ (this k o f st hh)
    · simp [h1, el]
      have := fin (.inr fun p hp' => by
        obtain ⟨j, hj, rfl⟩ := List.getElem_of_mem hp'
        exact hcl j _ (by omega) (List.getElem?_eq_getElem hj))
      simpa [rhoR, sSeq, sNext, sIf, sRet, sSet, sSetL, sSetD, sAsg, sAsgM, sApp, sExt, sPut, sDPutB, sNewD, sPar, sTell, sRetOwn, sDrop, bC, bVar, bSee, b2, b1, bN, bNil, bCons, bTup, bLst, bIf, bAnd, bOr, bNot, bIsN, bNotN, isNoneD, tV, tNotB, tAndB, tOrB, oB, pName, pNil, pCons, pTup, cNil, cCons, BV.cellOf, BV.setAll, qNil, qVal, qBor, qDic, qJar, isListD, bCall, mE, mPop, mPopAt, oIx, oAdd, oMul, oI, oLt, oLe, oGt, oGe, oSub, oMod, oFdiv, oPow, oNeg, oCatL, oRepL, atI_c0, atI_c1, atI_c2, oEq_int, oNe_int, oLen_l, oLen_t, oListOf_l, oListOf_t, oTupOf_l, oTupOf_t, oII, oAbs, oInt1, bInS, bOwnD, oDGet, bGetS, bDisp, bPairs, mergeD, bRevL, bLstR1, bLstR2, bSlL, bSlT, wNo, wAt, iSeq, oSeq_l, oSeq_t, iEnu, iZp, iRan, oR1, oR2, oKeys, entry, cellsMd, cellMd] using this
  simp [b_reached, sSeq, sNext, sIf, sRet, sSet, sSetL, sSetD, sAsg, sAsgM, sApp, sExt, sPut, sDPutB, sNewD, sPar, sTell, sRetOwn, sDrop, bC, bVar, bSee, b2, b1, bN, bNil, bCons, bTup, bLst, bIf, bAnd, bOr, bNot, bIsN, bNotN, isNoneD, tV, tNotB, tAndB, tOrB, oB, pName, pNil, pCons, pTup, cNil, cCons, BV.cellOf, BV.setAll, qNil, qVal, qBor, qDic, qJar, isListD, bCall, mE, mPop, mPopAt, oIx, oAdd, oMul, oI, oLt, oLe, oGt, oGe, oSub, oMod, oFdiv, oPow, oNeg, oCatL, oRepL, atI_c0, atI_c1, atI_c2, oEq_int, oNe_int, oLen_l, oLen_t, oListOf_l, oListOf_t, oTupOf_l, oTupOf_t, oII, oAbs, oInt1, bInS, bOwnD, oDGet, bGetS, bDisp, bPairs, mergeD, bRevL, bLstR1, bLstR2, bSlL, bSlT, wNo, wAt, iSeq, oSeq_l, oSeq_t, iEnu, iZp, iRan, oR1, oR2, oKeys, entry, cellsMd, cellMd]
  exact ⟨rfl, by decide, loop⟩
end
end K46

namespace K46
open PySem PySem.Spec L2 BV Fl
/-! steps_back -/
def sD (s : Nat × Bool) : D := .tuple [.int (s.1 : Int), .bool s.2]
def Φ_steps_back : Spe := fun ds Q => ∃ (as : List Arc) (room : List (Option Int)) (xs : List Int) (b p : Int) (t : Tr), ds = [trD t, .int p] ∧ Tree as room xs b t ∧ t.length ≤ 10000 ∧ p ∈ keys t ∧
  ∀ st : Steps, Walk as room xs (idx t) b st p → st.length ≤ 10000 → Q (.list (st.map sD))
def rhoS (t : Tr) (p : Int) (pre : Steps) (c3 c4 : Cell) : En := [.val (trD t), .val (.int p), .own (pre.map sD), c3, c4]
theorem l_steps_back (ds : List D) (Q : D → Prop) (n : En → Prop) (h : Φ_steps_back ds Q) : b_steps_back (entry 5 ms_steps_back ds) n Q := by
  obtain ⟨as, room, xs, b, p, t, rfl, T, hz, hp, q⟩ := h
  have loop : sWhile (tV (bNotN (b2 oDGet (bVar 0) (bVar 1)))) (sSeq (sAsg (pTup 3 (pCons (pName 3) (pCons (pName 1) (pCons (pName 4) pNil)))) (b2 oDGet (bVar 0) (bVar 1)))
    (sApp 2 (mE (bTup (bCons (bVar 3) (bCons (bVar 4) bNil)))))) (rhoS t p [] .no .no) (fun ρ' => sTell 2 (sRet (bVar 2)) ρ' n Q) Q := by
    refine ⟨fun m ρ => ∃ (p' : Int) (pre : Steps) (c3 c4 : Cell), ρ = rhoS t p' pre c3 c4 ∧ p' ∈ keys t ∧ (∀ st', Walk as room xs (idx t) b st' p' → Walk as room xs (idx t) b (pre ++ st') p) ∧ pre.length + idx t p' ≤ t.length ∧ m = idx t p',
      ⟨_, p, [], .no, .no, rfl, hp, fun st' h => h, by simp [idx]; exact Nat.le_of_lt (by have := List.idxOf_lt_length_of_mem hp; simpa [keys] using this), rfl⟩, ?_⟩
    rintro m ρ ⟨p', pre, c3, c4, rfl, hp', hw, hl, rfl⟩
    obtain ⟨i, hi, e⟩ := List.getElem_of_mem hp'
    have hi' : i < t.length := by simpa [keys] using hi
    have ht : t[i]? = some (p', t[i].2) := by
      rw [List.getElem?_eq_getElem hi']
      have : t[i].1 = p' := by rw [← e]; simp [keys]
      rw [← this]
    have hv := valD_at T.nd ht
    simp [rhoS, sSeq, sNext, sIf, sRet, sSet, sSetL, sSetD, sAsg, sAsgM, sApp, sExt, sPut, sDPutB, sNewD, sPar, sTell, sRetOwn, sDrop, bC, bVar, bSee, b2, b1, bN, bNil, bCons, bTup, bLst, bIf, bAnd, bOr, bNot, bIsN, bNotN, isNoneD, tV, tNotB, tAndB, tOrB, oB, pName, pNil, pCons, pTup, cNil, cCons, BV.cellOf, BV.setAll, qNil, qVal, qBor, qDic, qJar, isListD, bCall, mE, mPop, mPopAt, oIx, oAdd, oMul, oI, oLt, oLe, oGt, oGe, oSub, oMod, oFdiv, oPow, oNeg, oCatL, oRepL, atI_c0, atI_c1, atI_c2, oEq_int, oNe_int, oLen_l, oLen_t, oListOf_l, oListOf_t, oTupOf_l, oTupOf_t, oII, oAbs, oInt1, bInS, bOwnD, oDGet, bGetS, bDisp, bPairs, mergeD, bRevL, bLstR1, bLstR2, bSlL, bSlT, wNo, wAt, iSeq, oSeq_l, oSeq_t, iEnu, iZp, iRan, oR1, oR2, oKeys, entry, cellsMd, cellMd, trD, kind_tr, hv]
    cases e2 : t[i].2 with
    | none =>
      rw [e2] at ht
      have hi0 := T.only i p' ht
      subst hi0
      have hb : p' = b := by
        have := T.hd
        rw [ht] at this
        cases this; rfl
      subst hb
      simp [tvD]
      have := q pre (by simpa using hw [] .nil) (by omega)
      simpa [sSeq, sNext, sIf, sRet, sSet, sSetL, sSetD, sAsg, sAsgM, sApp, sExt, sPut, sDPutB, sNewD, sPar, sTell, sRetOwn, sDrop, bC, bVar, bSee, b2, b1, bN, bNil, bCons, bTup, bLst, bIf, bAnd, bOr, bNot, bIsN, bNotN, isNoneD, tV, tNotB, tAndB, tOrB, oB, pName, pNil, pCons, pTup, cNil, cCons, BV.cellOf, BV.setAll, qNil, qVal, qBor, qDic, qJar, isListD, bCall, mE, mPop, mPopAt, oIx, oAdd, oMul, oI, oLt, oLe, oGt, oGe, oSub, oMod, oFdiv, oPow, oNeg, oCatL, oRepL, atI_c0, atI_c1, atI_c2, oEq_int, oNe_int, oLen_l, oLen_t, oListOf_l, oListOf_t, oTupOf_l, oTupOf_t, oII, oAbs, oInt1, bInS, bOwnD, oDGet, bGetS, bDisp, bPairs, mergeD, bRevL, bLstR1, bLstR2, bSlL, bSlT, wNo, wAt, iSeq, oSeq_l, oSeq_t, iEnu, iZp, iRan, oR1, oR2, oKeys, entry, cellsMd, cellMd] using this
    | some v =>
      obtain ⟨k, q', f⟩ := v
      rw [e2] at ht
      obtain ⟨s1, s2, s3, s4⟩ := T.walk ht
      simp [tvD]
      refine ⟨by decide, by rw [sizeLine_eq]; omega, ?_⟩
      refine ⟨idx t q', s3, q', pre ++ [(k, f)], ⟨rfl, by simp [sD]⟩, s4, fun st' hw' => ?_, by simp; omega, rfl⟩
      have := hw ((k, f) :: st') (.cons s1 s2 s3 hw')
      simpa using this
  simp [b_steps_back, sSeq, sNext, sIf, sRet, sSet, sSetL, sSetD, sAsg, sAsgM, sApp, sExt, sPut, sDPutB, sNewD, sPar, sTell, sRetOwn, sDrop, bC, bVar, bSee, b2, b1, bN, bNil, bCons, bTup, bLst, bIf, bAnd, bOr, bNot, bIsN, bNotN, isNoneD, tV, tNotB, tAndB, tOrB, oB, pName, pNil, pCons, pTup, cNil, cCons, BV.cellOf, BV.setAll, qNil, qVal, qBor, qDic, qJar, isListD, bCall, mE, mPop, mPopAt, oIx, oAdd, oMul, oI, oLt, oLe, oGt, oGe, oSub, oMod, oFdiv, oPow, oNeg, oCatL, oRepL, atI_c0, atI_c1, atI_c2, oEq_int, oNe_int, oLen_l, oLen_t, oListOf_l, oListOf_t, oTupOf_l, oTupOf_t, oII, oAbs, oInt1, bInS, bOwnD, oDGet, bGetS, bDisp, bPairs, mergeD, bRevL, bLstR1, bLstR2, bSlL, bSlT, wNo, wAt, iSeq, oSeq_l, oSeq_t, iEnu, iZp, iRan, oR1, oR2, oKeys, entry, cellsMd, cellMd]
  exact loop
/-! least_left -/
def Φ_least_left : Spe := fun ds Q => ∃ (room : List (Option Int)) (xs : List Int) (st : Steps), ds = [optsD room, intsD xs, .list (st.map sD)] ∧ (∀ s ∈ st, s.1 < room.length ∧ s.1 < xs.length) ∧ st.length ≤ 10000 ∧
  (∀ y : Int, (∃ s ∈ st, left room xs s = some y) → (∀ s ∈ st, ∀ z, left room xs s = some z → y ≤ z) → Q (.int y)) ∧ ((∀ s ∈ st, left room xs s = none) → Q .none)
theorem eqv_nil (ds : List D) : PyData.eqv (.list ds) (.list []) = ds.isEmpty := by
  cases ds <;> rfl
def back (xs : List Int) (s : Nat × Bool) : Option Int := if s.2 = true then none else some (xs.getD s.1 0)
def forth (room : List (Option Int)) (xs : List Int) (s : Nat × Bool) : Option Int := if s.2 = true then (room.getD s.1 none).map fun r => r - xs.getD s.1 0 else none
theorem ints_ok (ns : List Int) : eqOk (intsD ns) (.list []) := by
  have h1 : ∀ ns : List Int, flatDs (ns.map PyData.int) = true := fun ns => by induction ns with
    | nil => rfl
    | cons n ns ih => simp [flatDs, flatD, ih]
  have h2 : ∀ ns : List Int, PyData.canLayAll0 (ns.map PyData.int) = true := fun ns => by induction ns with
    | nil => rfl
    | cons n ns ih => simp [PyData.canLayAll0, PyData.canLay0, ih]
  have h3 : ∀ ns : List Int, PyData.depthAll (ns.map PyData.int) ≤ 1 := fun ns => by induction ns with
    | nil => simp [PyData.depthAll]
    | cons n ns ih => simp [PyData.depthAll, PyData.depth]; try omega
  refine ⟨by simp [flatD, h1], rfl, ?_, by decide⟩
  unfold SeqAt.shaped
  have := h3 ns
  simp [PyData.canLay0, h2, PyData.depth]
  omega
theorem l_least_left (ds : List D) (Q : D → Prop) (n : En → Prop) (h : Φ_least_left ds Q) : b_least_left (entry 6 ms_least_left ds) n Q := by
  obtain ⟨room, xs, st, rfl, hs, hz, q1, q2⟩ := h
  simp [b_least_left, sSeq, sNext, sIf, sRet, sSet, sSetL, sSetD, sAsg, sAsgM, sApp, sExt, sPut, sDPutB, sNewD, sPar, sTell, sRetOwn, sDrop, bC, bVar, bSee, b2, b1, bN, bNil, bCons, bTup, bLst, bIf, bAnd, bOr, bNot, bIsN, bNotN, isNoneD, tV, tNotB, tAndB, tOrB, oB, pName, pNil, pCons, pTup, cNil, cCons, BV.cellOf, BV.setAll, qNil, qVal, qBor, qDic, qJar, isListD, bCall, mE, mPop, mPopAt, oIx, oAdd, oMul, oI, oLt, oLe, oGt, oGe, oSub, oMod, oFdiv, oPow, oNeg, oCatL, oRepL, atI_c0, atI_c1, atI_c2, oEq_int, oNe_int, oLen_l, oLen_t, oListOf_l, oListOf_t, oTupOf_l, oTupOf_t, oII, oAbs, oInt1, bInS, bOwnD, oDGet, bGetS, bDisp, bPairs, mergeD, bRevL, bLstR1, bLstR2, bSlL, bSlT, wNo, wAt, iSeq, oSeq_l, oSeq_t, iEnu, iZp, iRan, oR1, oR2, oKeys, entry, cellsMd, cellMd, bLc, wipeE]
  refine lc_fm sD (fun s => (back xs s).map PyData.int) st _ (fun s hm K k => ?_) ?_
  · obtain ⟨h1, h2⟩ := hs s hm
    have ex := atI_map (f := PyData.int) (List.getElem?_eq_getElem h2)
    obtain ⟨a, f⟩ := s
    simp [sD, sSeq, sNext, sIf, sRet, sSet, sSetL, sSetD, sAsg, sAsgM, sApp, sExt, sPut, sDPutB, sNewD, sPar, sTell, sRetOwn, sDrop, bC, bVar, bSee, b2, b1, bN, bNil, bCons, bTup, bLst, bIf, bAnd, bOr, bNot, bIsN, bNotN, isNoneD, tV, tNotB, tAndB, tOrB, oB, pName, pNil, pCons, pTup, cNil, cCons, BV.cellOf, BV.setAll, qNil, qVal, qBor, qDic, qJar, isListD, bCall, mE, mPop, mPopAt, oIx, oAdd, oMul, oI, oLt, oLe, oGt, oGe, oSub, oMod, oFdiv, oPow, oNeg, oCatL, oRepL, atI_c0, atI_c1, atI_c2, oEq_int, oNe_int, oLen_l, oLen_t, oListOf_l, oListOf_t, oTupOf_l, oTupOf_t, oII, oAbs, oInt1, bInS, bOwnD, oDGet, bGetS, bDisp, bPairs, mergeD, bRevL, bLstR1, bLstR2, bSlL, bSlT, wNo, wAt, iSeq, oSeq_l, oSeq_t, iEnu, iZp, iRan, oR1, oR2, oKeys, entry, cellsMd, cellMd, ex]
    cases f with
    | true => simpa [back] using k
    | false =>
      simp [back] at k
      rw [List.getElem?_eq_getElem h2] at k
      simpa using k
  · refine lc_fm sD (fun s => (forth room xs s).map PyData.int) st _ (fun s hm K k => ?_) ?_
    · obtain ⟨h1, h2⟩ := hs s hm
      have ex := atI_map (f := PyData.int) (List.getElem?_eq_getElem h2)
      have er := atI_map (f := oD) (List.getElem?_eq_getElem h1)
      obtain ⟨a, f⟩ := s
      simp [sD, sSeq, sNext, sIf, sRet, sSet, sSetL, sSetD, sAsg, sAsgM, sApp, sExt, sPut, sDPutB, sNewD, sPar, sTell, sRetOwn, sDrop, bC, bVar, bSee, b2, b1, bN, bNil, bCons, bTup, bLst, bIf, bAnd, bOr, bNot, bIsN, bNotN, isNoneD, tV, tNotB, tAndB, tOrB, oB, pName, pNil, pCons, pTup, cNil, cCons, BV.cellOf, BV.setAll, qNil, qVal, qBor, qDic, qJar, isListD, bCall, mE, mPop, mPopAt, oIx, oAdd, oMul, oI, oLt, oLe, oGt, oGe, oSub, oMod, oFdiv, oPow, oNeg, oCatL, oRepL, atI_c0, atI_c1, atI_c2, oEq_int, oNe_int, oLen_l, oLen_t, oListOf_l, oListOf_t, oTupOf_l, oTupOf_t, oII, oAbs, oInt1, bInS, bOwnD, oDGet, bGetS, bDisp, bPairs, mergeD, bRevL, bLstR1, bLstR2, bSlL, bSlT, wNo, wAt, iSeq, oSeq_l, oSeq_t, iEnu, iZp, iRan, oR1, oR2, oKeys, entry, cellsMd, cellMd, ex, er]
      cases f with
      | false => simpa [forth] using k
      | true =>
        simp [forth] at k
        rw [List.getElem?_eq_getElem h1, List.getElem?_eq_getElem h2] at k
        simp at k ⊢
        cases e : room[a] with
        | none => rw [e] at k; simpa [oD] using k
        | some r => rw [e] at k; simpa [oD] using k
    · have e1 : (st.filterMap fun s => (back xs s).map PyData.int) = (st.filterMap (back xs)).map PyData.int := by rw [List.map_filterMap]
      have e2 : (st.filterMap fun s => (forth room xs s).map PyData.int) = (st.filterMap (forth room xs)).map PyData.int := by rw [List.map_filterMap]
      have hl : (st.filterMap (back xs)).length + (st.filterMap (forth room xs)).length ≤ sizeLine := by
        have h1 := List.length_filterMap_le (back xs) st
        have h2 := List.length_filterMap_le (forth room xs) st
        rw [sizeLine_eq]; omega
      simp only [e1, e2]
      simp only [← List.map_append]
      have mem : ∀ y : Int, y ∈ st.filterMap (back xs) ++ st.filterMap (forth room xs) ↔ ∃ s ∈ st, left room xs s = some y := by
        intro y
        rw [List.mem_append, List.mem_filterMap, List.mem_filterMap]
        constructor
        · rintro (⟨s, hs, e⟩ | ⟨s, hs, e⟩)
          · refine ⟨s, hs, ?_⟩
            unfold back at e
            unfold left
            split at e
            · cases e
            · rename_i h; rw [if_neg h]; exact e
          · refine ⟨s, hs, ?_⟩
            unfold forth at e
            unfold left
            split at e
            · rename_i h; rw [if_pos h]; exact e
            · cases e
        · rintro ⟨s, hs, e⟩
          unfold left at e
          split at e
          · rename_i h; exact .inr ⟨s, hs, by unfold forth; rw [if_pos h]; exact e⟩
          · rename_i h; exact .inl ⟨s, hs, by unfold back; rw [if_neg h]; exact e⟩
      refine ⟨by simpa using hl, ?_⟩
      generalize hns : st.filterMap (back xs) ++ st.filterMap (forth room xs) = ns at mem
      have ok := ints_ok ns
      simp [oNe, oMinL, oInts, ok, eqv_nil]
      cases ns with
      | nil =>
        simp
        exact q2 fun s hs => by
          cases e : left room xs s with
          | none => rfl
          | some y => exact absurd ((mem y).mpr ⟨s, hs, e⟩) (by simp)
      | cons n0 ns =>
        simp
        refine ⟨n0 :: ns, by simp, by simp, fun m hm hmin => ?_⟩
        exact q1 m ((mem m).mp hm) fun s hs z hz => hmin z ((mem z).mpr ⟨s, hs, hz⟩)
end K46

namespace K46
open PySem PySem.Spec L2 BV Fl
def arcD (a : Arc) : D := .tuple [.int a.1, .int a.2]
def Φ_led_ways : Spe := fun ds Q => ∃ as : List Arc, ds = [.list (as.map arcD)] ∧ as.length ≤ 1000 ∧ ∀ w, Ways as w → Q w
theorem getT_set {ps : Tab} {j i : Int} {ds : List D} (h : (getT ps (.int j)).isSome = true) : getT (setT ps (.int j) ds) (.int i) = if j = i then some ds else getT ps (.int i) := by
  induction ps with
  | nil => simp [getT] at h
  | cons p r ih =>
    unfold getT at h
    unfold setT
    by_cases e : kEq p.1 (.int j) = true
    · rw [if_pos e]
      have hp : p.1 = .int j := by
        obtain ⟨a, b⟩ := p
        cases a <;> simp [kEq, kEq1] at e
        rw [e]
      unfold getT
      simp only [hp, kEq_int, decide_eq_true_eq]
      by_cases hji : j = i <;> simp [hji]
    · rw [if_neg e] at h ⊢
      unfold getT
      rw [ih h]
      by_cases e2 : kEq p.1 (.int i) = true
      · rw [if_pos e2, if_pos e2]
        have hij : j ≠ i := fun z => e (by rw [z]; exact e2)
        rw [if_neg hij]
      · rw [if_neg e2, if_neg e2]
theorem getT_app {ps : Tab} {j i : Int} {ds : List D} (h : getT ps (.int j) = none) : getT (ps ++ [(.int j, ds)]) (.int i) = if j = i then some ds else getT ps (.int i) := by
  induction ps with
  | nil => simp [getT, kEq_int]
  | cons p r ih =>
    unfold getT at h
    rw [List.cons_append]
    unfold getT
    by_cases e : kEq p.1 (.int j) = true
    · rw [if_pos e] at h; cases h
    · rw [if_neg e] at h
      rw [ih h]
      by_cases e2 : kEq p.1 (.int i) = true
      · rw [if_pos e2, if_pos e2]
        have hij : j ≠ i := fun z => e (by rw [z]; exact e2)
        rw [if_neg hij]
      · rw [if_neg e2, if_neg e2]
theorem getT_sd (ps : Tab) (j i : Int) (d : D) : getT (sdT ps (.int j) d) (.int i) = if j = i then some ((getT ps (.int j)).getD [] ++ [d]) else getT ps (.int i) := by
  unfold sdT
  cases e : getT ps (.int j) with
  | none => simp only [getT_app e, Option.getD_none, List.nil_append]
  | some ds => simp only [getT_set (show (getT ps (.int j)).isSome = true by rw [e]; rfl), Option.getD_some]
theorem setT_keys {ps : Tab} {k : D} {ds : List D} : (setT ps k ds).map (·.1) = ps.map (·.1) := by
  induction ps with
  | nil => rfl
  | cons p r ih =>
    unfold setT
    split
    · rfl
    · simp [ih]
theorem sdT_keys (ps : Tab) (j : Int) (d : D) : (sdT ps (.int j) d).length ≤ ps.length + 1 ∧ ((∀ p ∈ ps, ∃ i : Int, p.1 = .int i) → ∀ p ∈ sdT ps (.int j) d, ∃ i : Int, p.1 = .int i) ∧ (ps ≠ [] → sdT ps (.int j) d ≠ []) := by
  unfold sdT
  cases e : getT ps (.int j) with
  | none =>
    refine ⟨by simp, fun h p hp => ?_, by simp⟩
    simp at hp
    rcases hp with hp | rfl
    · exact h p hp
    · exact ⟨j, rfl⟩
  | some ds =>
    have hk := setT_keys (ps := ps) (k := .int j) (ds := ds ++ [d])
    have hl : (setT ps (.int j) (ds ++ [d])).length = ps.length := by have := congrArg List.length hk; simpa using this
    refine ⟨by simp [hl], fun h p hp => ?_, fun h z => ?_⟩
    · have : p.1 ∈ (setT ps (.int j) (ds ++ [d])).map (·.1) := List.mem_map.mpr ⟨p, hp, rfl⟩
      rw [hk] at this
      obtain ⟨p', hp', e'⟩ := List.mem_map.mp this
      obtain ⟨i, hi⟩ := h p' hp'
      exact ⟨i, by rw [← e', hi]⟩
    · have : ps.length = 0 := by rw [← hl]; simp at z; rw [z]; rfl
      exact h (List.length_eq_zero_iff.mp this)
/-- the table of the steps that a list of entries tells -/
structure TabOk (L : List (Int × (Nat × Int × Bool))) (ps : Tab) : Prop where
  ne : ps ≠ []
  kys : ∀ p ∈ ps, ∃ i : Int, p.1 = .int i
  sz : ps.length ≤ L.length + 2
  at_ : ∀ v : Int, (getT ps (.int v) = none → v ≠ -1 ∧ v ≠ -2 ∧ ∀ x ∈ L, x.1 ≠ v) ∧ ∀ ds, getT ps (.int v) = some ds → ds = (L.filterMap fun x => if x.1 = v then some x.2 else none).map stepD
theorem TabOk.add {L : List (Int × (Nat × Int × Bool))} {ps : Tab} (h : TabOk L ps) (j : Int) (s : Nat × Int × Bool) : TabOk (L ++ [(j, s)]) (sdT ps (.int j) (stepD s)) := by
  obtain ⟨k1, k2, k3⟩ := sdT_keys ps j (stepD s)
  refine ⟨k3 h.ne, k2 h.kys, by have := h.sz; simp; omega, fun v => ?_⟩
  rw [getT_sd]
  obtain ⟨h1, h2⟩ := h.at_ v
  by_cases e : j = v
  · subst e
    rw [if_pos rfl]
    refine ⟨fun z => by simp at z, fun ds hd => ?_⟩
    cases hd
    rw [List.filterMap_append]
    simp only [List.filterMap_cons, if_true, List.filterMap_nil, List.map_append, List.map_cons, List.map_nil]
    cases e2 : getT ps (.int j) with
    | none =>
      have := (h1 e2).2.2
      have e3 : (L.filterMap fun x => if x.1 = j then some x.2 else none) = [] := by
        rw [List.filterMap_eq_nil_iff]
        intro x hx
        rw [if_neg (this x hx)]
      rw [e3]; rfl
    | some ds => rw [Option.getD_some, h2 ds e2]
  · rw [if_neg e]
    refine ⟨fun z => ?_, fun ds hd => ?_⟩
    · obtain ⟨a, b, c⟩ := h1 z
      refine ⟨a, b, fun x hx => ?_⟩
      rcases List.mem_append.mp hx with hx | hx
      · exact c x hx
      · simp at hx; subst hx; exact e
    · rw [h2 ds hd, List.filterMap_append]
      simp [e]
def entries (as : List Arc) (n : Nat) : List (Int × (Nat × Int × Bool)) := match as with
  | [] => []
  | a :: r => (a.1, (n, a.2, true)) :: (a.2, (n, a.1, false)) :: entries r (n + 1)
theorem entries_mem : ∀ (as : List Arc) (n : Nat) (v : Int) (k : Nat) (o : Int) (f : Bool), (v, (k, o, f)) ∈ entries as n ↔ n ≤ k ∧ step as v (k - n) o f
  | [], n, v, k, o, f => by simp [entries, Fl.step]
  | a :: r, n, v, k, o, f => by
    simp only [entries, List.mem_cons, entries_mem r (n + 1) v k o f, Fl.step]
    by_cases e : k = n
    · subst e
      simp
      obtain ⟨a1, a2⟩ := a
      simp
      constructor
      · rintro (⟨rfl, rfl, rfl⟩ | ⟨rfl, rfl, rfl⟩ | h)
        · exact .inl ⟨rfl, rfl, rfl⟩
        · exact .inr ⟨rfl, rfl, rfl⟩
        · omega
      · rintro (⟨rfl, rfl, rfl⟩ | ⟨rfl, rfl, rfl⟩)
        · exact .inl ⟨rfl, rfl, rfl⟩
        · exact .inr (.inl ⟨rfl, rfl, rfl⟩)
    · by_cases h : n ≤ k
      · have e2 : k - n = (k - (n + 1)) + 1 := by omega
        rw [e2]
        simp only [List.getElem?_cons_succ]
        simp [e]
        intro _
        omega
      · simp [e]
        constructor
        · rintro ⟨h1, _⟩; omega
        · rintro ⟨h1, _⟩; omega
theorem enumD_map (as : List Arc) : ∀ n : Nat, enumD n (as.map arcD) = (as.zipIdx n).map fun p => PyData.tuple [.int (p.2 : Int), arcD p.1] := by
  induction as with
  | nil => intro n; rfl
  | cons a r ih => intro n; simp only [List.map_cons, enumD, List.zipIdx_cons, ih (n + 1)]
theorem tab_ways {as : List Arc} {ps : Tab} (h : TabOk (entries as 0) ps) : Ways as (tabD ps) := by
  refine ⟨ps, rfl, h.ne, h.kys, fun v hv => ?_⟩
  obtain ⟨h1, h2⟩ := h.at_ v
  cases e : getT ps (.int v) with
  | none =>
    obtain ⟨a, b, c⟩ := h1 e
    rcases hv with rfl | ⟨x, hx, hv⟩
    · exact absurd rfl a
    · obtain ⟨k, hk, rfl⟩ := List.getElem_of_mem hx
      rcases hv with hv | hv
      · exact absurd hv (fun z => c (as[k].1, (k, as[k].2, true)) ((entries_mem as 0 _ _ _ _).mpr ⟨Nat.zero_le _, .inl ⟨rfl, by simp [hk]⟩⟩) z)
      · exact absurd hv (fun z => c (as[k].2, (k, as[k].1, false)) ((entries_mem as 0 _ _ _ _).mpr ⟨Nat.zero_le _, .inr ⟨rfl, by simp [hk]⟩⟩) z)
  | some ds =>
    refine ⟨_, by rw [h2 ds e], fun k o f => ?_⟩
    rw [List.mem_filterMap]
    constructor
    · rintro ⟨x, hx, hs⟩
      split at hs
      · rename_i hxv
        obtain ⟨x1, x2⟩ := x
        cases hs
        simp at hxv
        subst hxv
        exact ((entries_mem as 0 _ _ _ _).mp hx).2
      · cases hs
    · intro st
      exact ⟨(v, (k, o, f)), (entries_mem as 0 _ _ _ _).mpr ⟨Nat.zero_le _, st⟩, by simp⟩
theorem entries_len (as : List Arc) : ∀ n, (entries as n).length = 2 * as.length := by
  induction as with
  | nil => intro n; rfl
  | cons a r ih => intro n; simp [entries, ih]; omega
theorem at_len {L : List (Int × (Nat × Int × Bool))} {ps : Tab} (h : TabOk L ps) (v : Int) (ds : List D) (e : getT ps (.int v) = some ds) : ds.length ≤ L.length := by
  rw [(h.at_ v).2 ds e]
  rw [List.length_map]
  exact List.length_filterMap_le _ _
theorem l_led_ways (ds : List D) (Q : D → Prop) (n : En → Prop) (h : Φ_led_ways ds Q) : b_led_ways (entry 5 ms_led_ways ds) n Q := by
  obtain ⟨as, rfl, hz, q⟩ := h
  have loop : ∀ (r : List Arc) (m : Nat) (L : List (Int × (Nat × Int × Bool))) (ps : Tab) (c2 c3 c4 : Cell), TabOk L ps → L.length + 2 * r.length ≤ 2000 → noMine [c2, c3, c4] = true →
      (∀ ps', TabOk (L ++ entries r m) ps' → Q (tabD ps')) →
      dForGo (pTup 2 (pCons (pName 2) (pCons (pTup 2 (pCons (pName 3) (pCons (pName 4) pNil))) pNil)))
        (dSeq (dSd (bVar 3) (bTup (bCons (bVar 2) (bCons (bVar 4) (bCons (bC (.bool true)) bNil)))))
        (dSeq (dSd (bVar 4) (bTup (bCons (bVar 2) (bCons (bVar 3) (bCons (bC (.bool false)) bNil))))) dNext)) (enumD m (r.map arcD)) [.val (.list (as.map arcD)), .no, c2, c3, c4] ps (fun ρ' ps' => dRet ρ' ps' (fun ρ' _ => n ρ') Q) Q := by
    intro r
    induction r with
    | nil =>
      intro m L ps c2 c3 c4 T _ _ k
      exact k ps (by simpa [entries] using T)
    | cons a r ih =>
      intro m L ps c2 c3 c4 T hl nm k
      have hs := T.sz
      simp only [List.length_cons] at hl
      have T1 := T.add a.1 (m, a.2, true)
      have T2 := T1.add a.2 (m, a.1, false)
      have sl : (2003 : Nat) < sizeLine := by rw [sizeLine_eq]; omega
      simp [dForGo, enumD, arcD, sSeq, sNext, sIf, sRet, sSet, sSetL, sSetD, sAsg, sAsgM, sApp, sExt, sPut, sDPutB, sNewD, sPar, sTell, sRetOwn, sDrop, bC, bVar, bSee, b2, b1, bN, bNil, bCons, bTup, bLst, bIf, bAnd, bOr, bNot, bIsN, bNotN, isNoneD, tV, tNotB, tAndB, tOrB, oB, pName, pNil, pCons, pTup, cNil, cCons, BV.cellOf, BV.setAll, qNil, qVal, qBor, qDic, qJar, isListD, bCall, mE, mPop, mPopAt, oIx, oAdd, oMul, oI, oLt, oLe, oGt, oGe, oSub, oMod, oFdiv, oPow, oNeg, oCatL, oRepL, atI_c0, atI_c1, atI_c2, oEq_int, oNe_int, oLen_l, oLen_t, oListOf_l, oListOf_t, oTupOf_l, oTupOf_t, oII, oAbs, oInt1, bInS, bOwnD, oDGet, bGetS, bDisp, bPairs, mergeD, bRevL, bLstR1, bLstR2, bSlL, bSlT, wNo, wAt, iSeq, oSeq_l, oSeq_t, iEnu, iZp, iRan, oR1, oR2, oKeys, entry, cellsMd, cellMd, noMine, Cell.mine, dSeq, dSd, dNext]
      refine ⟨⟨.inl a.1, rfl⟩, by omega, fun ds hd => by have := at_len T a.1 ds hd; omega, by decide, ⟨.inl a.2, rfl⟩, ?_, fun ds hd => ?_, ?_⟩
      · have := T1.sz; simp [stepD] at this; omega
      · have := at_len T1 a.2 ds hd; simp at this; omega
      · have := ih (m + 1) (L ++ [(a.1, m, a.2, true)] ++ [(a.2, m, a.1, false)]) (sdT (sdT ps (.int a.1) (stepD (m, a.2, true))) (.int a.2) (stepD (m, a.1, false))) (.val (.int (m : Int))) (.val (.int a.1)) (.val (.int a.2)) T2 (by simp; omega) (by rfl) (fun ps' h => k ps' (by simpa [entries] using h))
        refine ⟨by decide, ?_⟩
        simpa [stepD, dSeq, dSd, dNext] using this
  have T0 : TabOk [] [((PyData.int (-1)), ([] : List D)), ((PyData.int (-2)), [])] := by
    refine ⟨by simp, fun p hp => ?_, by simp, fun v => ?_⟩
    · simp at hp
      rcases hp with rfl | rfl
      · exact ⟨-1, rfl⟩
      · exact ⟨-2, rfl⟩
    · simp only [getT, kEq_int, decide_eq_true_eq]
      by_cases h1 : (-1 : Int) = v
      · rw [if_pos h1]; exact ⟨fun z => by simp at z, fun ds hd => by cases hd; rfl⟩
      · rw [if_neg h1]
        by_cases h2 : (-2 : Int) = v
        · rw [if_pos h2]; exact ⟨fun z => by simp at z, fun ds hd => by cases hd; rfl⟩
        · rw [if_neg h2]; exact ⟨fun _ => ⟨Ne.symm h1, Ne.symm h2, by simp⟩, fun ds hd => by cases hd⟩
  refine ⟨⟨rfl, by simp [entry, cellsMd]⟩, ?_⟩
  exact loop as 0 [] _ .no .no .no T0 (by simp; omega) rfl fun ps' h => q _ (tab_ways (by simpa using h))
end K46

namespace K46
open PySem PySem.Spec L2 BV Fl
def inT (t : Tr) (v : Int) : Bool := decide (v ∈ keys t)
def roomNn (room : List (Option Int)) : Prop := ∀ (k : Nat) (r : Int), room[k]? = some (some r) → 0 ≤ r
def Φ_pushed : Spe := fun ds Q => ∃ (as : List Arc) (room : List (Option Int)) (S0 : Int → Bool), ds = [.list (as.map arcD), optsD room, .int (-1), .int (-2)] ∧ as.length ≤ 1000 ∧ room.length = as.length ∧ roomNn room ∧
  S0 (-1) = true ∧ S0 (-2) = false ∧ Tight S0 as room ∧
  ∀ (xs : List Int) (t : Tr), Flow as room (-1) (-2) xs → Tree as room xs (-1) t → placeOk as (-1) t → -2 ∉ keys t → (∀ q ∈ keys t, Closed as room xs t q) → Q (.tuple [intsD xs, trD t])
def rhoP (as : List Arc) (room : List (Option Int)) (w : D) (xs : List Int) (t : Tr) (c7 c8 c9 c10 : Cell) : En :=
  [.val (.list (as.map arcD)), .val (optsD room), .val (.int (-1)), .val (.int (-2)), .val (trD t), .val w, .own (xs.map PyData.int), c7, c8, c9, c10]
theorem Flow.zero {as : List Arc} {room : List (Option Int)} (hn : roomNn room) (hl : room.length = as.length) : Flow as room (-1) (-2) (List.replicate as.length 0) := by
  refine ⟨by simp, fun k x h => ?_, fun k x r h hr => ?_, fun v _ _ => ?_⟩
  · have := List.mem_of_getElem? h; simp at this; omega
  · have := List.mem_of_getElem? h
    simp at this
    cases r with
    | none => trivial
    | some r => have := hn k r hr; show x ≤ r; omega
  · unfold out
    generalize as.length = n
    have : ∀ (w : Arc → Int) (as : List Arc) (n : Nat), tot w as (List.replicate n 0) = 0 := by
      intro w as
      induction as with
      | nil => intro n; simp [tot]
      | cons a r ih => intro n; cases n with
        | zero => simp [tot]
        | succ n => simp [List.replicate_succ, tot, ih]
    exact this _ _ _
theorem set_ints (xs : List Int) (k : Nat) (y : Int) : (xs.map PyData.int).set k (.int y) = (xs.set k y).map PyData.int := by rw [List.map_set]
theorem ixN_nat {n k : Nat} (h : k < n) : ixN n (k : Int) = some k := by
  unfold ixN
  rw [if_pos (by omega), if_pos (by omega)]; simp
theorem l_pushed (ds : List D) (Q : D → Prop) (n : En → Prop) (h : Φ_pushed ds Q) : b_pushed Φ_led_ways Φ_reached Φ_steps_back Φ_least_left (entry 11 ms_pushed ds) n Q := by
  obtain ⟨as, room, S0, rfl, ha, hr, hn, h1, h2, ht, q⟩ := h
  have bound : ∀ xs, Flow as room (-1) (-2) xs → out as xs (-1) ≤ capOf S0 as room := fun xs f => flow_le f hr h1 h2 ht
  have loop : ∀ (w : D), Ways as w → ∀ (xs : List Int) (t : Tr) (c7 c8 c9 c10 : Cell), Flow as room (-1) (-2) xs → Tree as room xs (-1) t → placeOk as (-1) t → (-2 ∈ keys t ∨ ∀ q ∈ keys t, Closed as room xs t q) →
      sWhile (tV (b2 oDIn (bVar 3) (bVar 4))) (sSeq (sSet 7 (bCall Φ_steps_back (qVal (bVar 4) (qVal (bVar 3) qNil))))
    (sSeq (sSet 8 (bCall Φ_least_left (qBor (bVar 1) (qBor (bSee 6) (qVal (bVar 7) qNil)))))
    (sSeq (sFor (iSeq (bVar 7)) (pTup 2 (pCons (pName 9) (pCons (pName 10) pNil))) (sPut 6 (bVar 9) (b2 oAdd (b2 oIx (bSee 6) (bVar 9)) (bIf (tV (bVar 10)) (bVar 8) (b1 oNeg (bVar 8))))))
    (sSet 4 (bCall Φ_reached (qVal (bVar 5) (qBor (bVar 1) (qBor (bSee 6) (qVal (bVar 2) (qVal (bVar 3) qNil)))))))))) (rhoP as room w xs t c7 c8 c9 c10)
      (fun ρ' => sTell 6 (sRet (bTup (bCons (bVar 6) (bCons (bVar 4) bNil)))) ρ' n Q) Q := by
    intro w hw xs t c7 c8 c9 c10 F T hp hc
    refine ⟨fun m ρ => ∃ (xs : List Int) (t : Tr) (c7 c8 c9 c10 : Cell), ρ = rhoP as room w xs t c7 c8 c9 c10 ∧ Flow as room (-1) (-2) xs ∧ Tree as room xs (-1) t ∧ placeOk as (-1) t ∧ (-2 ∈ keys t ∨ ∀ q ∈ keys t, Closed as room xs t q) ∧ m = (capOf S0 as room - out as xs (-1)).toNat,
      ⟨_, xs, t, c7, c8, c9, c10, rfl, F, T, hp, hc, rfl⟩, ?_⟩
    rintro m ρ ⟨xs, t, c7, c8, c9, c10, rfl, F, T, hp, hc, rfl⟩
    have hlen := hp.len T.nd
    simp only [rhoP]
    simp [sSeq, sNext, sIf, sRet, sSet, sSetL, sSetD, sAsg, sAsgM, sApp, sExt, sPut, sDPutB, sNewD, sPar, sTell, sRetOwn, sDrop, bC, bVar, bSee, b2, b1, bN, bNil, bCons, bTup, bLst, bIf, bAnd, bOr, bNot, bIsN, bNotN, isNoneD, tV, tNotB, tAndB, tOrB, oB, pName, pNil, pCons, pTup, cNil, cCons, BV.cellOf, BV.setAll, qNil, qVal, qBor, qDic, qJar, isListD, bCall, mE, mPop, mPopAt, oIx, oAdd, oMul, oI, oLt, oLe, oGt, oGe, oSub, oMod, oFdiv, oPow, oNeg, oCatL, oRepL, atI_c0, atI_c1, atI_c2, oEq_int, oNe_int, oLen_l, oLen_t, oListOf_l, oListOf_t, oTupOf_l, oTupOf_t, oII, oAbs, oInt1, bInS, bOwnD, oDGet, bGetS, bDisp, bPairs, mergeD, bRevL, bLstR1, bLstR2, bSlL, bSlT, wNo, wAt, iSeq, oSeq_l, oSeq_t, iEnu, iZp, iRan, oR1, oR2, oKeys, entry, cellsMd, cellMd, trD, oDIn, kind_tr, valD_tr]
    by_cases he : -2 ∈ keys t
    · simp [he]
      refine ⟨as, room, xs, -1, -2, t, rfl, T, by omega, he, fun st hw' hst => ?_⟩
      have hs := hw'.has
      simp
      refine ⟨room, xs, st, rfl, fun s hm => ?_, hst, fun y hy hmin => ?_, fun hno => ?_⟩
      · obtain ⟨_, a, e⟩ := hs s hm
        have := (List.getElem?_eq_some_iff.mp e).1
        have := F.len
        omega
      · obtain ⟨s0, hs0, hy0⟩ := hy
        have hy1 := left_pos (hs s0 hs0).1 hy0
        obtain ⟨F2, ho⟩ := F.push hr hw' (d := y) (by omega) (fun s hm z hz => hmin s hm z hz) (by decide)
        unfold sFor
        simp [sSeq, sNext, sIf, sRet, sSet, sSetL, sSetD, sAsg, sAsgM, sApp, sExt, sPut, sDPutB, sNewD, sPar, sTell, sRetOwn, sDrop, bC, bVar, bSee, b2, b1, bN, bNil, bCons, bTup, bLst, bIf, bAnd, bOr, bNot, bIsN, bNotN, isNoneD, tV, tNotB, tAndB, tOrB, oB, pName, pNil, pCons, pTup, cNil, cCons, BV.cellOf, BV.setAll, qNil, qVal, qBor, qDic, qJar, isListD, bCall, mE, mPop, mPopAt, oIx, oAdd, oMul, oI, oLt, oLe, oGt, oGe, oSub, oMod, oFdiv, oPow, oNeg, oCatL, oRepL, atI_c0, atI_c1, atI_c2, oEq_int, oNe_int, oLen_l, oLen_t, oListOf_l, oListOf_t, oTupOf_l, oTupOf_t, oII, oAbs, oInt1, bInS, bOwnD, oDGet, bGetS, bDisp, bPairs, mergeD, bRevL, bLstR1, bLstR2, bSlL, bSlT, wNo, wAt, iSeq, oSeq_l, oSeq_t, iEnu, iZp, iRan, oR1, oR2, oKeys, entry, cellsMd, cellMd]
        refine for_inv sD (fun pre ρ => ∃ c9 c10, ρ = rhoP as room w (push y xs pre) t (.val (.list (st.map sD))) (.val (.int y)) c9 c10) st [] _ ⟨c9, c10, rfl⟩ ?_ ?_
        · rintro pre s ρ ⟨c9, c10, rfl⟩ hm nx' k
          obtain ⟨k0, f⟩ := s
          obtain ⟨_, a, e⟩ := hs (k0, f) hm
          have hk : k0 < xs.length := by have := (List.getElem?_eq_some_iff.mp e).1; have := F.len; omega
          have hk2 : k0 < (push y xs pre).length := by rw [push_len]; exact hk
          have ex := atI_map (f := PyData.int) (List.getElem?_eq_getElem hk2)
          simp [rhoP, sD, sSeq, sNext, sIf, sRet, sSet, sSetL, sSetD, sAsg, sAsgM, sApp, sExt, sPut, sDPutB, sNewD, sPar, sTell, sRetOwn, sDrop, bC, bVar, bSee, b2, b1, bN, bNil, bCons, bTup, bLst, bIf, bAnd, bOr, bNot, bIsN, bNotN, isNoneD, tV, tNotB, tAndB, tOrB, oB, pName, pNil, pCons, pTup, cNil, cCons, BV.cellOf, BV.setAll, qNil, qVal, qBor, qDic, qJar, isListD, bCall, mE, mPop, mPopAt, oIx, oAdd, oMul, oI, oLt, oLe, oGt, oGe, oSub, oMod, oFdiv, oPow, oNeg, oCatL, oRepL, atI_c0, atI_c1, atI_c2, oEq_int, oNe_int, oLen_l, oLen_t, oListOf_l, oListOf_t, oTupOf_l, oTupOf_t, oII, oAbs, oInt1, bInS, bOwnD, oDGet, bGetS, bDisp, bPairs, mergeD, bRevL, bLstR1, bLstR2, bSlL, bSlT, wNo, wAt, iSeq, oSeq_l, oSeq_t, iEnu, iZp, iRan, oR1, oR2, oKeys, entry, cellsMd, cellMd, ex, ixN_nat hk2]
          have fin : push y xs (pre ++ [(k0, f)]) = (push y xs pre).set k0 ((push y xs pre)[k0] + if f = true then y else -y) := by
            unfold push
            rw [List.foldl_append]
            simp only [List.foldl_cons, List.foldl_nil, push1]
            congr 2
            rw [List.getD_eq_getElem?_getD]
            have := List.getElem?_eq_getElem hk2
            unfold push at this
            rw [this]; rfl
          cases f with
          | true =>
            simp at fin ⊢
            rw [set_ints, ← fin]
            exact k _ ⟨_, _, rfl⟩
          | false =>
            simp at fin ⊢
            rw [set_ints, ← fin]
            exact k _ ⟨_, _, rfl⟩
        · rintro ρ ⟨c9, c10, rfl⟩
          simp [rhoP]
          refine ⟨as, room, push y xs st, -2, w, rfl, hw, ha, hr, F2.len, fun t' T' hp' hc' => ?_⟩
          simp
          refine ⟨(capOf S0 as room - out as (push y xs st) (-1)).toNat, ?_, push y xs st, t', ⟨rfl, rfl⟩, F2, T', hp', hc', rfl⟩
          have := bound _ F2
          omega
      · obtain ⟨s, hm, y, hy⟩ := hw'.cross h1 h2 ht
        rw [hno s hm] at hy
        cases hy
    · simp [he]
      have hc' := hc.resolve_left he
      exact ⟨by decide, q xs t F T hp he hc'⟩
  unfold b_pushed
  generalize hfin : sTell 6 (sRet (bTup (bCons (bVar 6) (bCons (bVar 4) bNil)))) = fin at loop ⊢
  simp [sSeq, sNext, sIf, sRet, sSet, sSetL, sSetD, sAsg, sAsgM, sApp, sExt, sPut, sDPutB, sNewD, sPar, sTell, sRetOwn, sDrop, bC, bVar, bSee, b2, b1, bN, bNil, bCons, bTup, bLst, bIf, bAnd, bOr, bNot, bIsN, bNotN, isNoneD, tV, tNotB, tAndB, tOrB, oB, pName, pNil, pCons, pTup, cNil, cCons, BV.cellOf, BV.setAll, qNil, qVal, qBor, qDic, qJar, isListD, bCall, mE, mPop, mPopAt, oIx, oAdd, oMul, oI, oLt, oLe, oGt, oGe, oSub, oMod, oFdiv, oPow, oNeg, oCatL, oRepL, atI_c0, atI_c1, atI_c2, oEq_int, oNe_int, oLen_l, oLen_t, oListOf_l, oListOf_t, oTupOf_l, oTupOf_t, oII, oAbs, oInt1, bInS, bOwnD, oDGet, bGetS, bDisp, bPairs, mergeD, bRevL, bLstR1, bLstR2, bSlL, bSlT, wNo, wAt, iSeq, oSeq_l, oSeq_t, iEnu, iZp, iRan, oR1, oR2, oKeys, entry, cellsMd, cellMd]
  refine ⟨as, rfl, ha, fun w hw => ?_⟩
  simp
  have e0 : List.replicate as.length (PyData.int 0) = (List.replicate as.length (0 : Int)).map PyData.int := by rw [List.map_replicate]
  rw [e0]
  refine ⟨by decide, ⟨by omega, by rw [sizeLine_eq]; omega⟩, as, room, List.replicate as.length 0, -2, w, rfl, hw, ha, hr, by simp, fun t T hp hc => ?_⟩
  exact loop w hw (List.replicate as.length 0) t .no .no .no .no (Flow.zero hn hr) T hp hc
end K46

namespace K46
open PySem PySem.Spec L2 BV Fl
def netD (n : Nat) (roads : List Arc) : D := .tuple [.int (n : Int), .tuple (roads.map arcD)]
/-- a list or tuple of such items -/
def seqOf (d : D) (xs : List D) : Prop := d = .tuple xs ∨ d = .list xs
abbrev seqI (d : D) (xs : List Int) : Prop := seqOf d (xs.map PyData.int)
theorem flat_ints : ∀ ns : List Int, flatDs (ns.map PyData.int) = true
  | [] => rfl
  | n :: ns => by simp [flatDs, flatD, flat_ints ns]
theorem lay_ints : ∀ ns : List Int, PyData.canLayAll0 (ns.map PyData.int) = true
  | [] => rfl
  | n :: ns => by simp [PyData.canLayAll0, PyData.canLay0, lay_ints ns]
theorem depth_ints : ∀ ns : List Int, PyData.depthAll (ns.map PyData.int) ≤ 1
  | [] => by simp [PyData.depthAll]
  | n :: ns => by have := depth_ints ns; simp [PyData.depthAll, PyData.depth]; try omega
theorem any_ints (ns : List Int) (i : Int) : ((ns.map PyData.int).any fun z => PyData.eqv z (.int i)) = decide (i ∈ ns) := by
  induction ns with
  | nil => rfl
  | cons n ns ih =>
    simp only [List.map_cons, List.any_cons, ih, PyData.eqv]
    rw [Bool.eq_iff_iff, Bool.or_eq_true, decide_eq_true_eq, decide_eq_true_eq, List.mem_cons, beq_iff_eq]
    exact ⟨fun h => h.imp Eq.symm id, fun h => h.imp Eq.symm id⟩
theorem shaped_seq {d : D} {ns : List Int} (h : seqI d ns) : SeqAt.shaped d = true := by
  have h1 := depth_ints ns
  rcases h with rfl | rfl <;> (unfold SeqAt.shaped; simp [PyData.canLay0, lay_ints, PyData.depth]; omega)
theorem in_seq {d : D} {ns : List Int} {i : Int} {Q : D → Prop} (h : seqI d ns) (q : Q (.bool (decide (i ∈ ns)))) : oInU (.int i) d Q := by
  have s := shaped_seq h
  unfold oInU
  refine ⟨⟨rfl, ?_, rfl, s⟩, ?_⟩
  · rcases h with rfl | rfl <;> simp [flatD, flat_ints]
  · rcases h with rfl | rfl
    · simp only [any_ints]; exact q
    · simp only [any_ints]; exact q
theorem seq_len {d : D} {xs : List D} {Q : D → Prop} (h : seqOf d xs) (q : Q (.int xs.length)) : oLen [d] Q := by
  rcases h with rfl | rfl <;> exact q
theorem seq_list {d : D} {xs : List D} {Q : D → Prop} (h : seqOf d xs) (q : Q (.list xs)) : oListOf [d] Q := by
  rcases h with rfl | rfl <;> exact q
theorem seq_it {d : D} {xs : List D} {Q : List D → Prop} (h : seqOf d xs) (q : Q xs) : oSeq d Q := by
  rcases h with rfl | rfl <;> exact q
def arcsOf (roads : List Arc) (feet heads ends : List Int) : List Arc :=
  (roads.zipIdx.map fun p => (p.1.1, if ((p.2 : Nat) : Int) ∈ ends then -2 else p.1.2)) ++ (feet.map fun p => (-1, p)) ++ heads.map fun p => (p, -2)
structure Ins (ds : List D) (n : Nat) (roads : List Arc) (feet heads ends : List Int) : Prop where
  f : ∃ fd hd ed, ds = [netD n roads, fd, hd, ed] ∧ seqI fd feet ∧ seqI hd heads ∧ seqI ed ends
  z : roads.length ≤ 200 ∧ feet.length ≤ 200 ∧ heads.length ≤ 200
theorem arcsOf_len (roads : List Arc) (feet heads ends : List Int) : (arcsOf roads feet heads ends).length = roads.length + feet.length + heads.length := by simp [arcsOf]; omega
def Φ_arcs_for : Spe := fun ds Q => ∃ n roads feet heads ends, Ins ds n roads feet heads ends ∧ Q (.list ((arcsOf roads feet heads ends).map arcD))
theorem l_arcs_for (ds : List D) (Q : D → Prop) (n : En → Prop) (h : Φ_arcs_for ds Q) : b_arcs_for (entry 9 ms_arcs_for ds) n Q := by
  obtain ⟨nn, roads, feet, heads, ends, ⟨⟨fd, hd, ed, rfl, hf, hh, he⟩, z1, z2, z3⟩, q⟩ := h
  unfold b_arcs_for
  generalize hfin : sTell 4 (sRet (bVar 4)) = fin
  simp [sSeq, sNext, sIf, sRet, sSet, sSetL, sSetD, sAsg, sAsgM, sApp, sExt, sPut, sDPutB, sNewD, sPar, sTell, sRetOwn, sDrop, bC, bVar, bSee, b2, b1, bN, bNil, bCons, bTup, bLst, bIf, bAnd, bOr, bNot, bIsN, bNotN, isNoneD, tV, tNotB, tAndB, tOrB, oB, pName, pNil, pCons, pTup, cNil, cCons, BV.cellOf, BV.setAll, qNil, qVal, qBor, qDic, qJar, isListD, bCall, mE, mPop, mPopAt, oIx, oAdd, oMul, oI, oLt, oLe, oGt, oGe, oSub, oMod, oFdiv, oPow, oNeg, oCatL, oRepL, atI_c0, atI_c1, atI_c2, oEq_int, oNe_int, oLen_l, oLen_t, oListOf_l, oListOf_t, oTupOf_l, oTupOf_t, oII, oAbs, oInt1, bInS, bOwnD, oDGet, bGetS, bDisp, bPairs, mergeD, bRevL, bLstR1, bLstR2, bSlL, bSlT, wNo, wAt, iSeq, oSeq_l, oSeq_t, iEnu, iZp, iRan, oR1, oR2, oKeys, entry, cellsMd, cellMd, netD, bLc, wipeE]
  rw [enumD_map]
  refine lc_m (fun p : Arc × Nat => PyData.tuple [.int (p.2 : Int), arcD p.1]) (fun p : Arc × Nat => arcD (p.1.1, if ((p.2 : Nat) : Int) ∈ ends then -2 else p.1.2)) _ _ (fun x hx K k => ?_) ?_
  · obtain ⟨⟨a, b⟩, r⟩ := x
    simp [arcD, sSeq, sNext, sIf, sRet, sSet, sSetL, sSetD, sAsg, sAsgM, sApp, sExt, sPut, sDPutB, sNewD, sPar, sTell, sRetOwn, sDrop, bC, bVar, bSee, b2, b1, bN, bNil, bCons, bTup, bLst, bIf, bAnd, bOr, bNot, bIsN, bNotN, isNoneD, tV, tNotB, tAndB, tOrB, oB, pName, pNil, pCons, pTup, cNil, cCons, BV.cellOf, BV.setAll, qNil, qVal, qBor, qDic, qJar, isListD, bCall, mE, mPop, mPopAt, oIx, oAdd, oMul, oI, oLt, oLe, oGt, oGe, oSub, oMod, oFdiv, oPow, oNeg, oCatL, oRepL, atI_c0, atI_c1, atI_c2, oEq_int, oNe_int, oLen_l, oLen_t, oListOf_l, oListOf_t, oTupOf_l, oTupOf_t, oII, oAbs, oInt1, bInS, bOwnD, oDGet, bGetS, bDisp, bPairs, mergeD, bRevL, bLstR1, bLstR2, bSlL, bSlT, wNo, wAt, iSeq, oSeq_l, oSeq_t, iEnu, iZp, iRan, oR1, oR2, oKeys, entry, cellsMd, cellMd]
    refine in_seq he ?_
    by_cases e : (r : Int) ∈ ends
    · simp [e, arcD] at k ⊢; exact ⟨by decide, k⟩
    · simp [e, arcD] at k ⊢; exact ⟨by decide, k⟩
  refine seq_it hf ?_
  refine lc_m PyData.int (fun p : Int => arcD (-1, p)) _ _ (fun x hx K k => ?_) ?_
  · simp [sSeq, sNext, sIf, sRet, sSet, sSetL, sSetD, sAsg, sAsgM, sApp, sExt, sPut, sDPutB, sNewD, sPar, sTell, sRetOwn, sDrop, bC, bVar, bSee, b2, b1, bN, bNil, bCons, bTup, bLst, bIf, bAnd, bOr, bNot, bIsN, bNotN, isNoneD, tV, tNotB, tAndB, tOrB, oB, pName, pNil, pCons, pTup, cNil, cCons, BV.cellOf, BV.setAll, qNil, qVal, qBor, qDic, qJar, isListD, bCall, mE, mPop, mPopAt, oIx, oAdd, oMul, oI, oLt, oLe, oGt, oGe, oSub, oMod, oFdiv, oPow, oNeg, oCatL, oRepL, atI_c0, atI_c1, atI_c2, oEq_int, oNe_int, oLen_l, oLen_t, oListOf_l, oListOf_t, oTupOf_l, oTupOf_t, oII, oAbs, oInt1, bInS, bOwnD, oDGet, bGetS, bDisp, bPairs, mergeD, bRevL, bLstR1, bLstR2, bSlL, bSlT, wNo, wAt, iSeq, oSeq_l, oSeq_t, iEnu, iZp, iRan, oR1, oR2, oKeys, entry, cellsMd, cellMd]; exact ⟨by decide, k⟩
  have sl := sizeLine_eq
  simp
  refine ⟨by omega, ?_⟩
  refine seq_it hh ?_
  refine lc_m PyData.int (fun p : Int => arcD (p, -2)) _ _ (fun x hx K k => ?_) ?_
  · simp [sSeq, sNext, sIf, sRet, sSet, sSetL, sSetD, sAsg, sAsgM, sApp, sExt, sPut, sDPutB, sNewD, sPar, sTell, sRetOwn, sDrop, bC, bVar, bSee, b2, b1, bN, bNil, bCons, bTup, bLst, bIf, bAnd, bOr, bNot, bIsN, bNotN, isNoneD, tV, tNotB, tAndB, tOrB, oB, pName, pNil, pCons, pTup, cNil, cCons, BV.cellOf, BV.setAll, qNil, qVal, qBor, qDic, qJar, isListD, bCall, mE, mPop, mPopAt, oIx, oAdd, oMul, oI, oLt, oLe, oGt, oGe, oSub, oMod, oFdiv, oPow, oNeg, oCatL, oRepL, atI_c0, atI_c1, atI_c2, oEq_int, oNe_int, oLen_l, oLen_t, oListOf_l, oListOf_t, oTupOf_l, oTupOf_t, oII, oAbs, oInt1, bInS, bOwnD, oDGet, bGetS, bDisp, bPairs, mergeD, bRevL, bLstR1, bLstR2, bSlL, bSlT, wNo, wAt, iSeq, oSeq_l, oSeq_t, iEnu, iZp, iRan, oR1, oR2, oKeys, entry, cellsMd, cellMd]; exact ⟨by decide, k⟩
  simp
  refine ⟨by omega, ?_⟩
  subst hfin
  simp [sSeq, sNext, sIf, sRet, sSet, sSetL, sSetD, sAsg, sAsgM, sApp, sExt, sPut, sDPutB, sNewD, sPar, sTell, sRetOwn, sDrop, bC, bVar, bSee, b2, b1, bN, bNil, bCons, bTup, bLst, bIf, bAnd, bOr, bNot, bIsN, bNotN, isNoneD, tV, tNotB, tAndB, tOrB, oB, pName, pNil, pCons, pTup, cNil, cCons, BV.cellOf, BV.setAll, qNil, qVal, qBor, qDic, qJar, isListD, bCall, mE, mPop, mPopAt, oIx, oAdd, oMul, oI, oLt, oLe, oGt, oGe, oSub, oMod, oFdiv, oPow, oNeg, oCatL, oRepL, atI_c0, atI_c1, atI_c2, oEq_int, oNe_int, oLen_l, oLen_t, oListOf_l, oListOf_t, oTupOf_l, oTupOf_t, oII, oAbs, oInt1, bInS, bOwnD, oDGet, bGetS, bDisp, bPairs, mergeD, bRevL, bLstR1, bLstR2, bSlL, bSlT, wNo, wAt, iSeq, oSeq_l, oSeq_t, iEnu, iZp, iRan, oR1, oR2, oKeys, entry, cellsMd, cellMd]
  have e : (arcsOf roads feet heads ends).map arcD = (roads.zipIdx.map fun p => arcD (p.1.1, if ((p.2 : Nat) : Int) ∈ ends then -2 else p.1.2)) ++ ((feet.map fun p => arcD (-1, p)) ++ heads.map fun p => arcD (p, -2)) := by
    simp [arcsOf, Function.comp_def]
  rw [e] at q
  simpa using q
def opened (room : List (Option Int)) (m : Nat) : List (Option Int) := (room.map fun (o : Option Int) => (o.map fun _ => (0 : Int))) ++ List.replicate m (none : Option Int)
def wayOf (many : Nat) (st : Steps) : List Int := (st.filterMap fun s => if s.1 < many then some (s.1 : Int) else none).reverse
structure InsR (ds : List D) (n : Nat) (roads : List Arc) (room : List (Option Int)) (feet heads ends : List Int) : Prop where
  f : ∃ rd fd hd ed, ds = [netD n roads, rd, fd, hd, ed] ∧ seqOf rd (room.map oD) ∧ seqI fd feet ∧ seqI hd heads ∧ seqI ed ends
  z : roads.length ≤ 200 ∧ feet.length ≤ 200 ∧ heads.length ≤ 200
  l : room.length = roads.length
abbrev zeros (as : List Arc) : List Int := List.replicate as.length 0
def Φ_endless_way : Spe := fun ds Q => ∃ n roads room feet heads ends, InsR ds n roads room feet heads ends ∧
  (∀ t : Tr, Tree (arcsOf roads feet heads ends) (opened room (feet.length + heads.length)) (zeros (arcsOf roads feet heads ends)) (-1) t → placeOk (arcsOf roads feet heads ends) (-1) t → -2 ∉ keys t → (∀ q ∈ keys t, Closed (arcsOf roads feet heads ends) (opened room (feet.length + heads.length)) (zeros (arcsOf roads feet heads ends)) t q) → Q .none) ∧
  (∀ (t : Tr) (st : Steps), Tree (arcsOf roads feet heads ends) (opened room (feet.length + heads.length)) (zeros (arcsOf roads feet heads ends)) (-1) t → Walk (arcsOf roads feet heads ends) (opened room (feet.length + heads.length)) (zeros (arcsOf roads feet heads ends)) (idx t) (-1) st (-2) →
    Q (.tuple ((wayOf room.length st).map PyData.int)))
theorem rep_flat {α : Type} (n : Nat) (x : α) : (List.replicate n [x]).flatten = List.replicate n x := by
  induction n with
  | zero => rfl
  | succ n ih => simp [List.replicate_succ, ih]
theorem l_endless_way (ds : List D) (Q : D → Prop) (n : En → Prop) (h : Φ_endless_way ds Q) : b_endless_way Φ_arcs_for Φ_led_ways Φ_reached Φ_steps_back (entry 12 ms_endless_way ds) n Q := by
  obtain ⟨nn, roads, room, feet, heads, ends, ⟨⟨rd, fd, hd, ed, rfl, hrd, hf, hh, he⟩, ⟨z1, z2, z3⟩, hl⟩, q1, q2⟩ := h
  have sl := sizeLine_eq
  unfold b_endless_way
  generalize hfin : (sSeq (sIf (tV (b2 oDNot (bC (.int (-2))) (bVar 7))) (sRet (bC .none)) sNext)
    (sSeq (sSetL 8 (bLc (iSeq (bCall Φ_steps_back (qVal (bVar 7) (qVal (bC (.int (-2))) qNil)))) ([("arc", 10), ("is_forth", 11)].map (·.2)) (pTup 2 (pCons (pName 10) (pCons (pName 11) pNil))) (tV (b2 oLt (bVar 10) (bN oLen (bCons (bVar 1) bNil)))) (bVar 10)))
    (sRet (bN oTupOf (bCons (bRevL (bSee 8)) bNil))))) = fin
  simp only [sSeq, sNext, sIf, sRet, sSet, sSetL, sSetD, sAsg, sAsgM, sApp, sExt, sPut, sDPutB, sNewD, sPar, sTell, sRetOwn, sDrop, bC, bVar, bSee, b2, b1, bN, bNil, bCons, bTup, bLst, bIf, bAnd, bOr, bNot, bIsN, bNotN, isNoneD, tV, tNotB, tAndB, tOrB, oB, pName, pNil, pCons, pTup, cNil, cCons, BV.cellOf, BV.setAll, qNil, qVal, qBor, qDic, qJar, isListD, bCall, mE, mPop, mPopAt, oIx, oAdd, oMul, oI, oLt, oLe, oGt, oGe, oSub, oMod, oFdiv, oPow, oNeg, oCatL, oRepL, atI_c0, atI_c1, atI_c2, oEq_int, oNe_int, oLen_l, oLen_t, oListOf_l, oListOf_t, oTupOf_l, oTupOf_t, oII, oAbs, oInt1, bInS, bOwnD, oDGet, bGetS, bDisp, bPairs, mergeD, bRevL, bLstR1, bLstR2, bSlL, bSlT, wNo, wAt, iSeq, oSeq_l, oSeq_t, iEnu, iZp, iRan, oR1, oR2, oKeys, entry, cellsMd, cellMd, bLc, wipeE]
  simp
  refine ⟨nn, roads, feet, heads, ends, ⟨⟨fd, hd, ed, rfl, hf, hh, he⟩, z1, z2, z3⟩, ?_⟩
  have al := arcsOf_len roads feet heads ends
  generalize has : arcsOf roads feet heads ends = as at q1 q2 al
  simp
  refine seq_it hrd ?_
  refine lc_m oD (fun o : Option Int => oD (o.map fun _ => (0 : Int))) _ _ (fun x hx K k => ?_) ?_
  · cases x <;> simp [oD, sSeq, sNext, sIf, sRet, sSet, sSetL, sSetD, sAsg, sAsgM, sApp, sExt, sPut, sDPutB, sNewD, sPar, sTell, sRetOwn, sDrop, bC, bVar, bSee, b2, b1, bN, bNil, bCons, bTup, bLst, bIf, bAnd, bOr, bNot, bIsN, bNotN, isNoneD, tV, tNotB, tAndB, tOrB, oB, pName, pNil, pCons, pTup, cNil, cCons, BV.cellOf, BV.setAll, qNil, qVal, qBor, qDic, qJar, isListD, bCall, mE, mPop, mPopAt, oIx, oAdd, oMul, oI, oLt, oLe, oGt, oGe, oSub, oMod, oFdiv, oPow, oNeg, oCatL, oRepL, atI_c0, atI_c1, atI_c2, oEq_int, oNe_int, oLen_l, oLen_t, oListOf_l, oListOf_t, oTupOf_l, oTupOf_t, oII, oAbs, oInt1, bInS, bOwnD, oDGet, bGetS, bDisp, bPairs, mergeD, bRevL, bLstR1, bLstR2, bSlL, bSlT, wNo, wAt, iSeq, oSeq_l, oSeq_t, iEnu, iZp, iRan, oR1, oR2, oKeys, entry, cellsMd, cellMd] at k ⊢ <;> exact k
  simp only [List.flatten_replicate_singleton, List.length_map]
  refine ⟨by decide, ?_⟩
  refine seq_len hf ?_
  refine seq_len hh ?_
  simp [oLen_l]
  have e : ((feet.length : Int) + heads.length).toNat = feet.length + heads.length := by omega
  have hop : List.map (fun o : Option Int => oD (Option.map (fun _ => (0 : Int)) o)) room ++ List.replicate ((feet.length : Int) + heads.length).toNat PyData.none = (opened room (feet.length + heads.length)).map oD := by
    rw [e]
    simp [opened, Function.comp_def, oD]
  have hze : List.replicate as.length (PyData.int 0) = (zeros as).map PyData.int := by simp
  rw [hop, hze]
  refine ⟨⟨by omega, by omega, by omega⟩, by omega, as, rfl, by omega, fun w hw => ⟨by decide, ⟨by omega, by omega⟩, as, opened room (feet.length + heads.length), zeros as, -2, w, rfl, hw, by omega, ?_, by simp, fun t T hp hc => ?_⟩⟩
  · simp [opened]; omega
  subst hfin
  simp [sSeq, sNext, sIf, sRet, sSet, sSetL, sSetD, sAsg, sAsgM, sApp, sExt, sPut, sDPutB, sNewD, sPar, sTell, sRetOwn, sDrop, bC, bVar, bSee, b2, b1, bN, bNil, bCons, bTup, bLst, bIf, bAnd, bOr, bNot, bIsN, bNotN, isNoneD, tV, tNotB, tAndB, tOrB, oB, pName, pNil, pCons, pTup, cNil, cCons, BV.cellOf, BV.setAll, qNil, qVal, qBor, qDic, qJar, isListD, bCall, mE, mPop, mPopAt, oIx, oAdd, oMul, oI, oLt, oLe, oGt, oGe, oSub, oMod, oFdiv, oPow, oNeg, oCatL, oRepL, atI_c0, atI_c1, atI_c2, oEq_int, oNe_int, oLen_l, oLen_t, oListOf_l, oListOf_t, oTupOf_l, oTupOf_t, oII, oAbs, oInt1, bInS, bOwnD, oDGet, bGetS, bDisp, bPairs, mergeD, bRevL, bLstR1, bLstR2, bSlL, bSlT, wNo, wAt, iSeq, oSeq_l, oSeq_t, iEnu, iZp, iRan, oR1, oR2, oKeys, entry, cellsMd, cellMd, trD, oDNot, kind_tr, valD_tr]
  by_cases hm : -2 ∈ keys t
  · simp [hm, bLc, wipeE]
    have hlen := hp.len T.nd
    refine ⟨as, opened room (feet.length + heads.length), zeros as, -1, -2, t, rfl, T, by omega, hm, fun st hw2 hst => ?_⟩
    simp [sSeq, sNext, sIf, sRet, sSet, sSetL, sSetD, sAsg, sAsgM, sApp, sExt, sPut, sDPutB, sNewD, sPar, sTell, sRetOwn, sDrop, bC, bVar, bSee, b2, b1, bN, bNil, bCons, bTup, bLst, bIf, bAnd, bOr, bNot, bIsN, bNotN, isNoneD, tV, tNotB, tAndB, tOrB, oB, pName, pNil, pCons, pTup, cNil, cCons, BV.cellOf, BV.setAll, qNil, qVal, qBor, qDic, qJar, isListD, bCall, mE, mPop, mPopAt, oIx, oAdd, oMul, oI, oLt, oLe, oGt, oGe, oSub, oMod, oFdiv, oPow, oNeg, oCatL, oRepL, atI_c0, atI_c1, atI_c2, oEq_int, oNe_int, oLen_l, oLen_t, oListOf_l, oListOf_t, oTupOf_l, oTupOf_t, oII, oAbs, oInt1, bInS, bOwnD, oDGet, bGetS, bDisp, bPairs, mergeD, bRevL, bLstR1, bLstR2, bSlL, bSlT, wNo, wAt, iSeq, oSeq_l, oSeq_t, iEnu, iZp, iRan, oR1, oR2, oKeys, entry, cellsMd, cellMd]
    refine lc_fm sD (fun s => if s.1 < room.length then some (PyData.int (s.1 : Int)) else none) st _ (fun s hs K k => ?_) ?_
    · obtain ⟨k0, f⟩ := s
      simp [sD, sSeq, sNext, sIf, sRet, sSet, sSetL, sSetD, sAsg, sAsgM, sApp, sExt, sPut, sDPutB, sNewD, sPar, sTell, sRetOwn, sDrop, bC, bVar, bSee, b2, b1, bN, bNil, bCons, bTup, bLst, bIf, bAnd, bOr, bNot, bIsN, bNotN, isNoneD, tV, tNotB, tAndB, tOrB, oB, pName, pNil, pCons, pTup, cNil, cCons, BV.cellOf, BV.setAll, qNil, qVal, qBor, qDic, qJar, isListD, bCall, mE, mPop, mPopAt, oIx, oAdd, oMul, oI, oLt, oLe, oGt, oGe, oSub, oMod, oFdiv, oPow, oNeg, oCatL, oRepL, atI_c0, atI_c1, atI_c2, oEq_int, oNe_int, oLen_l, oLen_t, oListOf_l, oListOf_t, oTupOf_l, oTupOf_t, oII, oAbs, oInt1, bInS, bOwnD, oDGet, bGetS, bDisp, bPairs, mergeD, bRevL, bLstR1, bLstR2, bSlL, bSlT, wNo, wAt, iSeq, oSeq_l, oSeq_t, iEnu, iZp, iRan, oR1, oR2, oKeys, entry, cellsMd, cellMd]
      refine seq_len hrd ?_
      simp
      by_cases h : k0 < room.length
      · simp [h] at k ⊢; exact k
      · simp [h] at k ⊢; exact k
    · have q3 := q2 t st T hw2
      have e2 : (st.filterMap fun s => if s.1 < room.length then some (PyData.int (s.1 : Int)) else none) = (st.filterMap fun s => if s.1 < room.length then some (s.1 : Int) else none).map PyData.int := by
        rw [List.map_filterMap]
        congr 1
        funext s
        split <;> rfl
      simp only [e2]
      unfold wayOf at q3
      rw [List.map_reverse] at q3
      exact q3
  · simp [hm]
    exact q1 t T hp hm (hc.resolve_left hm)
def widen (room : List (Option Int)) (m : Nat) : List (Option Int) := room ++ List.replicate m (none : Option Int)
def Φ_greatest_flow : Spe := fun ds Q => ∃ n roads room feet heads ends, InsR ds n roads room feet heads ends ∧ roomNn room ∧
  (∀ (t : Tr) (st : Steps), Tree (arcsOf roads feet heads ends) (opened room (feet.length + heads.length)) (zeros (arcsOf roads feet heads ends)) (-1) t → Walk (arcsOf roads feet heads ends) (opened room (feet.length + heads.length)) (zeros (arcsOf roads feet heads ends)) (idx t) (-1) st (-2) →
    Q (.tuple [.none, .tuple ((wayOf room.length st).map PyData.int), .tuple []])) ∧
  (∀ (xs : List Int) (t : Tr) (cut : List Int), Flow (arcsOf roads feet heads ends) (widen room (feet.length + heads.length)) (-1) (-2) xs → Tree (arcsOf roads feet heads ends) (widen room (feet.length + heads.length)) xs (-1) t → placeOk (arcsOf roads feet heads ends) (-1) t → -2 ∉ keys t →
    (∀ q ∈ keys t, Closed (arcsOf roads feet heads ends) (widen room (feet.length + heads.length)) xs t q) → cut.Perm ((keys t).filter fun p => decide (0 ≤ p)) → cut.Pairwise (· ≤ ·) →
    Q (.tuple [.int ((xs.drop room.length).take feet.length).sum, .tuple ((xs.take room.length).map PyData.int), .tuple (cut.map PyData.int)]))
theorem open_tight {as : List Arc} {room : List (Option Int)} {m : Nat} {t : Tr} (hl : (widen room m).length = as.length) (hc : ∀ q ∈ keys t, Closed as (opened room m) (zeros as) t q) : Tight (inT t) as (widen room m) := by
  intro k a hk h1 h2
  simp [inT] at h1 h2
  have st : step as a.1 k a.2 true := .inl ⟨rfl, hk⟩
  have hlt : k < as.length := (List.getElem?_eq_some_iff.mp hk).1
  cases hh : Fl.has (opened room m) (zeros as) k true with
  | true => exact absurd (hc a.1 h1 k a.2 true st hh) h2
  | false =>
    unfold Fl.has at hh
    rw [if_pos rfl] at hh
    by_cases hkr : k < room.length
    · have e1 : (opened room m).getD k none = room[k].map fun _ => (0 : Int) := by
        rw [List.getD_eq_getElem?_getD]
        unfold opened
        rw [List.getElem?_append_left (by simpa using hkr), List.getElem?_map, List.getElem?_eq_getElem hkr]
        rfl
      rw [e1] at hh
      cases e : room[k] with
      | none => rw [e] at hh; simp at hh
      | some r => exact ⟨r, by unfold widen; rw [List.getElem?_append_left hkr, List.getElem?_eq_getElem hkr, e]⟩
    · have hk3 : k < (widen room m).length := by rw [hl]; exact hlt
      have hk4 : k - room.length < m := by simp [widen] at hk3; omega
      have e1 : (opened room m).getD k none = none := by
        simp [opened, List.getD_eq_getElem?_getD]
        rw [List.getElem?_append_right (by simp; omega)]
        simp [hk4]
      rw [e1] at hh
      simp at hh
theorem l_greatest_flow (ds : List D) (Q : D → Prop) (n : En → Prop) (h : Φ_greatest_flow ds Q) : b_greatest_flow Φ_endless_way Φ_arcs_for Φ_pushed (entry 12 ms_greatest_flow ds) n Q := by
  obtain ⟨nn, roads, room, feet, heads, ends, ⟨⟨rd, fd, hd, ed, rfl, hrd, hf, hh, he⟩, ⟨z1, z2, z3⟩, hl⟩, hn, q1, q2⟩ := h
  have sl := sizeLine_eq
  have al := arcsOf_len roads feet heads ends
  unfold b_greatest_flow
  generalize hfin : (sSeq (sPar [7, 8] (cCons .e (bCall Φ_arcs_for (qVal (bVar 0) (qVal (bVar 2) (qVal (bVar 3) (qVal (bVar 4) qNil))))) (cCons .e (bN oLen (bCons (bVar 1) bNil)) cNil))) _) = fin
  simp [sSeq, sNext, sIf, sRet, sSet, sSetL, sSetD, sAsg, sAsgM, sApp, sExt, sPut, sDPutB, sNewD, sPar, sTell, sRetOwn, sDrop, bC, bVar, bSee, b2, b1, bN, bNil, bCons, bTup, bLst, bIf, bAnd, bOr, bNot, bIsN, bNotN, isNoneD, tV, tNotB, tAndB, tOrB, oB, pName, pNil, pCons, pTup, cNil, cCons, BV.cellOf, BV.setAll, qNil, qVal, qBor, qDic, qJar, isListD, bCall, mE, mPop, mPopAt, oIx, oAdd, oMul, oI, oLt, oLe, oGt, oGe, oSub, oMod, oFdiv, oPow, oNeg, oCatL, oRepL, atI_c0, atI_c1, atI_c2, oEq_int, oNe_int, oLen_l, oLen_t, oListOf_l, oListOf_t, oTupOf_l, oTupOf_t, oII, oAbs, oInt1, bInS, bOwnD, oDGet, bGetS, bDisp, bPairs, mergeD, bRevL, bLstR1, bLstR2, bSlL, bSlT, wNo, wAt, iSeq, oSeq_l, oSeq_t, iEnu, iZp, iRan, oR1, oR2, oKeys, entry, cellsMd, cellMd]
  refine ⟨nn, roads, room, feet, heads, ends, ⟨⟨rd, fd, hd, ed, rfl, hrd, hf, hh, he⟩, ⟨z1, z2, z3⟩, hl⟩, fun t0 T0 hp0 hm0 hc0 => ?_, fun t st T w => ?_⟩
  · have ht := open_tight (m := feet.length + heads.length) (by simp [widen]; omega) hc0
    have hS1 : inT t0 (-1) = true := by
      have := T0.hd
      exact decide_eq_true (show (-1 : Int) ∈ keys t0 from List.mem_map.mpr ⟨_, List.mem_of_getElem? this, rfl⟩)
    have hS2 : inT t0 (-2) = false := by simpa [inT] using hm0
    simp
    subst hfin
    simp [sSeq, sNext, sIf, sRet, sSet, sSetL, sSetD, sAsg, sAsgM, sApp, sExt, sPut, sDPutB, sNewD, sPar, sTell, sRetOwn, sDrop, bC, bVar, bSee, b2, b1, bN, bNil, bCons, bTup, bLst, bIf, bAnd, bOr, bNot, bIsN, bNotN, isNoneD, tV, tNotB, tAndB, tOrB, oB, pName, pNil, pCons, pTup, cNil, cCons, BV.cellOf, BV.setAll, qNil, qVal, qBor, qDic, qJar, isListD, bCall, mE, mPop, mPopAt, oIx, oAdd, oMul, oI, oLt, oLe, oGt, oGe, oSub, oMod, oFdiv, oPow, oNeg, oCatL, oRepL, atI_c0, atI_c1, atI_c2, oEq_int, oNe_int, oLen_l, oLen_t, oListOf_l, oListOf_t, oTupOf_l, oTupOf_t, oII, oAbs, oInt1, bInS, bOwnD, oDGet, bGetS, bDisp, bPairs, mergeD, bRevL, bLstR1, bLstR2, bSlL, bSlT, wNo, wAt, iSeq, oSeq_l, oSeq_t, iEnu, iZp, iRan, oR1, oR2, oKeys, entry, cellsMd, cellMd]
    refine ⟨nn, roads, feet, heads, ends, ⟨⟨fd, hd, ed, rfl, hf, hh, he⟩, z1, z2, z3⟩, ?_⟩
    refine seq_len hrd ?_
    refine seq_list hrd ?_
    refine ⟨by decide, ?_⟩
    refine seq_len hf ?_
    refine seq_len hh ?_
    simp
    have hwd : room.map oD ++ List.replicate ((feet.length : Int) + heads.length).toNat PyData.none = (widen room (feet.length + heads.length)).map oD := by
      have e : ((feet.length : Int) + heads.length).toNat = feet.length + heads.length := by omega
      rw [e]
      simp [widen, oD]
    rw [hwd]
    have hwn : roomNn (widen room (feet.length + heads.length)) := fun k r h => by
      unfold widen at h
      by_cases hk : k < room.length
      · rw [List.getElem?_append_left hk] at h; exact hn k r h
      · rw [List.getElem?_append_right (by omega)] at h
        have := List.mem_of_getElem? h
        simp at this
    refine ⟨⟨by omega, by omega, by omega⟩, by omega, arcsOf roads feet heads ends, widen room (feet.length + heads.length), inT t0, rfl, by omega, by simp [widen]; omega, hwn, hS1, hS2, ht, fun xs t F T hp hm hc => ?_⟩
    have hlen := hp.len T.nd
    simp
    refine seq_len hf ?_
    simp
    have hs1 : cutD (xs.map PyData.int) (some (room.length : Int)) (some ((room.length : Int) + feet.length)) = ((xs.drop room.length).take feet.length).map PyData.int := by
      have hxl := F.len
      unfold cutD
      have e : ((room.length : Int) + feet.length) = ((room.length + feet.length : Nat) : Int) := by omega
      rw [e, HT.sIx_nat, HT.sIx_nat, List.length_map, ← List.map_drop, ← List.map_take]
      have e1 : min room.length xs.length = room.length := by omega
      have e2 : min (room.length + feet.length) xs.length = room.length + feet.length := by omega
      rw [e1, e2]
      congr 2
      omega
    have hs2 : cutD (xs.map PyData.int) none (some (room.length : Int)) = (xs.take room.length).map PyData.int := by
      have hxl := F.len
      unfold cutD
      rw [HT.sIx_nat, HT.sIx_none, List.length_map]
      have e1 : min room.length xs.length = room.length := by omega
      rw [e1]
      simp
    rw [hs1]
    refine ⟨_, rfl, ?_⟩
    simp [bLc, wipeE, trD, oTupOf, hs2]
    refine ⟨⟨by simp [trKV]; omega, fun a b hab => ?_⟩, ?_⟩
    · simp [trKV] at hab
      obtain ⟨p, v, _, rfl, _⟩ := hab
      exact ⟨.inl p, rfl⟩
    have hkeys : (trKV t).map (fun x => x.1) = (keys t).map PyData.int := by simp [trKV, keys, Function.comp_def]
    rw [hkeys]
    refine lc_fm PyData.int (fun p => if 0 ≤ p then some (PyData.int p) else none) (keys t) _ (fun p hpm K k => ?_) ?_
    · simp [sSeq, sNext, sIf, sRet, sSet, sSetL, sSetD, sAsg, sAsgM, sApp, sExt, sPut, sDPutB, sNewD, sPar, sTell, sRetOwn, sDrop, bC, bVar, bSee, b2, b1, bN, bNil, bCons, bTup, bLst, bIf, bAnd, bOr, bNot, bIsN, bNotN, isNoneD, tV, tNotB, tAndB, tOrB, oB, pName, pNil, pCons, pTup, cNil, cCons, BV.cellOf, BV.setAll, qNil, qVal, qBor, qDic, qJar, isListD, bCall, mE, mPop, mPopAt, oIx, oAdd, oMul, oI, oLt, oLe, oGt, oGe, oSub, oMod, oFdiv, oPow, oNeg, oCatL, oRepL, atI_c0, atI_c1, atI_c2, oEq_int, oNe_int, oLen_l, oLen_t, oListOf_l, oListOf_t, oTupOf_l, oTupOf_t, oII, oAbs, oInt1, bInS, bOwnD, oDGet, bGetS, bDisp, bPairs, mergeD, bRevL, bLstR1, bLstR2, bSlL, bSlT, wNo, wAt, iSeq, oSeq_l, oSeq_t, iEnu, iZp, iRan, oR1, oR2, oKeys, entry, cellsMd, cellMd]
      by_cases h : 0 ≤ p
      · simp [h] at k ⊢; exact k
      · simp [h] at k ⊢; exact k
    · have e2 : ((keys t).filterMap fun p => if 0 ≤ p then some (PyData.int p) else none) = ((keys t).filter fun p => decide (0 ≤ p)).map PyData.int := by
        induction keys t with
        | nil => rfl
        | cons p r ih =>
          by_cases h : 0 ≤ p
          · simp [h, ih]
          · simp [h, ih]
      rw [e2]
      refine ⟨_, rfl, fun ns' hpm hso => ?_⟩
      simp
      have q3 := q2 xs t ns' F T hp hm hc hpm hso
      rw [List.map_take] at q3
      exact ⟨by decide, q3⟩
  · simp
    exact ⟨by decide, q1 t st T w⟩
end K46

namespace K46
open PySem PySem.Spec PyProof.Rows L2 BV
/-! the draws -/
abbrev keyJ : D := .tuple [.str "far", .str "stirred", .str "turn"]
def Φ_law_draw : Spe := fun ds Q => ∃ many : Int, ds = [keyJ, .int many] ∧ many < 1073741824 ∧ ∀ i : Int, 0 ≤ i → (i < many ∨ i = 0) → Q (.int i)
/-- the jar as it stands, the rest of the heap as it was -/
structure JS (G : Jr) (H H' : Hp) (ns : List Int) (s u : Int) : Prop where
  d : H' G.a = some (.dK [(.inr "far", .ref G.l), (.inr "stirred", .int s), (.inr "turn", .int u)])
  l : H' G.l = some (.lst (ns.map V.int))
  r : ∀ b o, ¬ G.J b → H b = some o → H' b = some o
  s : ∀ x ms, G.sa = some (x, ms) → x ≠ G.a ∧ x ≠ G.l ∧ ∃ o, H' x = some (.frz o (.lst (ms.map V.int)))
theorem JS.junk {G : Jr} {H H' : Hp} {ns : List Int} {s u : Int} {p : Addr} {o : HO} (j : JS G H H' ns s u) (hp : H' p = none) : JS G H (upd H' p o) ns s u := by
  refine ⟨by rw [upd_ne (ne_of_none j.d hp)]; exact j.d, by rw [upd_ne (ne_of_none j.l hp)]; exact j.l, fun b o nj e => ?_, fun x ms e => ?_⟩
  · have := j.r b o nj e
    rw [upd_ne (ne_of_none this hp)]; exact this
  · obtain ⟨a1, a2, ob, h⟩ := j.s x ms e
    exact ⟨a1, a2, ob, by rw [upd_ne (ne_of_none h hp)]; exact h⟩
theorem JS.lst {G : Jr} {H H' : Hp} {ns ms : List Int} {s u : Int} (j : JS G H H' ns s u) (on : G.on = true) : JS G H (upd H' G.l (.lst (ms.map V.int))) ms s u := by
  refine ⟨by rw [upd_ne G.ne]; exact j.d, upd_same, fun b o nj e => ?_, fun x ms e => ?_⟩
  · rw [upd_ne (fun z => nj (.inl ⟨on, .inr z⟩))]; exact j.r b o nj e
  · obtain ⟨a1, a2, ob, h⟩ := j.s x ms e
    exact ⟨a1, a2, ob, by rw [upd_ne a2]; exact h⟩
theorem JS.turn {G : Jr} {H H' : Hp} {ns : List Int} {s u v : Int} (j : JS G H H' ns s u) (on : G.on = true) : JS G H (upd H' G.a (.dK [(.inr "far", .ref G.l), (.inr "stirred", .int s), (.inr "turn", .int v)])) ns s v := by
  refine ⟨upd_same, by rw [upd_ne (Ne.symm G.ne)]; exact j.l, fun b o nj e => ?_, fun x ms e => ?_⟩
  · rw [upd_ne (fun z => nj (.inl ⟨on, .inl z⟩))]; exact j.r b o nj e
  · obtain ⟨a1, a2, ob, h⟩ := j.s x ms e
    exact ⟨a1, a2, ob, by rw [upd_ne a1]; exact h⟩
section
variable {P : Program} {w : World} {K : PySem.W.Frag} {mg : Str → Option Value} {base : Heap}
theorem fn_law_draw {f : Addr} {fd : FuncData} (F : Fun K "_law_draw" "_law_draw" s_law_draw f fd) (m_int : mg "int" = none) : FnG P w K mg base CX0 1 f fd ps_law_draw (toSp .e ms_law_draw Φ_law_draw) := by
  refine fnG_of F sc_law_draw (fun vs H Q E ⟨G, B, ds, Q', g, a, _⟩ => a.len) fun cdv A outer s H vs Q E hr hg ⟨G, B, ds, Q', g, a, hΦ, hk⟩ => ?_
  obtain ⟨many, rfl, hm, hq⟩ := hΦ
  cases a with
  | cons a0 a =>
    cases a with
    | cons a1 a =>
      cases a
      obtain ⟨e0, on, hkey⟩ := a0
      subst e0
      cases (show Is B _ (.int many) from a1)
      have c : Cz (cxOf CX0 P w K mg base N_law_draw "_law_draw" (defScope s_law_draw) f cdv A outer s H E).nox N_law_draw (defScope s_law_draw) 0 := ⟨rfl, rfl, rfl, hr, by show (A.deeper _).guards = some []; rw [← hg]; rfl, .never⟩
      have hkk : G.k1 = "far" ∧ G.k2 = "stirred" ∧ G.k3 = "turn" := by
        unfold Jr.key at hkey
        simp at hkey
        exact hkey
      obtain ⟨ns, s0, u0, hd, hl, hz⟩ := g.ok.1 on
      rw [hkk.1, hkk.2.1, hkk.2.2] at hd
      have j0 : JS G H H ns s0 u0 := ⟨hd, hl, fun b o _ e => e, fun x ms e => by
        obtain ⟨o, h⟩ := g.ok.2 x ms e
        refine ⟨fun z => ?_, fun z => ?_, o, h⟩
        · rw [z, hd] at h; cases h
        · rw [z, hl] at h; cases h⟩
      have fin : ∀ (H' : Hp) (ms : List Int) (s u i : Int), JS G H H' ms s u → ms.length ≤ 63 → 0 ≤ i → (i < many ∨ i = 0) → Q (.int i) H' := by
        intro H' ms s u i j hms h1 h2
        refine hk _ (.int i) B H' ⟨.refl _, j.r, fun _ h _ => h⟩ ⟨fun b o e => j.r b o (fun z => by rw [g.nj b z] at e; cases e) (g.sub b o e), ⟨fun _ => ⟨ms, s, u, by rw [hkk.1, hkk.2.1, hkk.2.2]; exact j.d, j.l, hms⟩, fun x ms e => (j.s x ms e).2.2⟩, g.nj⟩ (.int i) (hq i h1 h2)
      have pJ : ∀ {pos : Pos}, PE _ (.Name "_law_jar_here" pos) (tVar 0) := fun {pos} => pe_v c 0 (by decide +kernel)
      have pM : ∀ {pos : Pos}, PE _ (.Name "_law_many" pos) (tVar 1) := fun {pos} => pe_v c 1 (by decide +kernel)
      have pW : ∀ {pos : Pos}, PE _ (.Name "_law_whole" pos) (tVar 4) := fun {pos} => pe_v c 4 (by decide +kernel)
      have p1 : ∀ {pos : Pos}, PE _ (.Name "_law_one" pos) (tVar 2) := fun {pos} => pe_v c 2 (by decide +kernel)
      have p2 : ∀ {pos : Pos}, PE _ (.Name "_law_two" pos) (tVar 3) := fun {pos} => pe_v c 3 (by decide +kernel)
      obtain ⟨u2, v2, w2⟩ := c.tgt (i := 4) (x := "_law_whole") (by decide +kernel)
      obtain ⟨u3, v3, w3⟩ := c.tgt (i := 2) (x := "_law_one") (by decide +kernel)
      obtain ⟨u4, v4, w4⟩ := c.tgt (i := 3) (x := "_law_two") (by decide +kernel)
      have gI := c.gl (x := "int") (by decide +kernel)
      refine ⟨_, (pss_cons (ps_if (pt_cmpR op_lt pM pe_int (nomark _)) (pss_one (ps_ret pe_int)) pss_nil)
        (pss_cons (ps_if (pt_cmpR (op_neD c.hu64) (pe_dget c.hu pJ pe_str (fun _ _ => rfl)) (pe_lst pa_nil) (nomark _))
          (pss_cons (ps_set u2 v2 w2 (pe_bm0 PySem.F.plainAttrs_list PySem.F.slot_list_pop PySem.F.type_list_pop mt_pop (pe_dget c.hu pJ pe_str (fun _ _ => rfl))) rfl (.inl rfl))
          (pss_cons (ps_if (pt_cmpR op_ge pW pM (nomark _)) (pss_one (ps_expr (pe_bm PySem.F.plainAttrs_list PySem.F.slot_list_append PySem.F.type_list_append mt_append (pe_dget c.hu pJ pe_str (fun _ _ => rfl)) (pa_cons (pe_op op_fdiv pW pM) pa_nil)))) pss_nil)
          (pss_one (ps_ret (pe_op op_mod (pe_callTy call_int1 gI m_int PyProof.Rows.boot_int (pa_cons pW pa_nil) (by decide) (by decide)) pM))))) pss_nil)
        (pss_cons (ps_dput c.hu pJ pe_str (pe_op op_add (pe_dget c.hu pJ pe_str (fun _ _ => rfl)) pe_int) rfl)
        (pss_cons (ps_set u3 v3 w3 (pe_op op_mod (pe_callTy call_int1 gI m_int PyProof.Rows.boot_int (pa_cons (pe_op op_add (pe_dget c.hu pJ pe_str (fun _ _ => rfl)) (pe_op op_mul (pe_dget c.hu pJ pe_str (fun _ _ => rfl)) pe_int)) pa_nil) (by decide) (by decide)) pe_int) rfl (.inl rfl))
        (pss_cons (ps_set u4 v4 w4 (pe_op op_mod (pe_callTy call_int1 gI m_int PyProof.Rows.boot_int (pa_cons (pe_op op_add (pe_op op_add (pe_op op_mul p1 p1) (pe_op op_mul (pe_dget c.hu pJ pe_str (fun _ _ => rfl)) pe_int)) pe_int) pa_nil) (by decide) (by decide)) pe_int) rfl (.inl rfl))
        (pss_one (ps_ret (pe_op op_mod (pe_op op_fdiv (pe_op op_mod (pe_callTy call_int1 gI m_int PyProof.Rows.boot_int (pa_cons (pe_op op_add (pe_op op_mul p2 p2) p1) pa_nil) (by decide) (by decide)) pe_int) pe_int) pM)))))))).nox, ?_⟩
      have dF : ∀ {H' : Hp} {ns : List Int} {s u : Int}, JS G H H' ns s u → DGet H' G.a (.str "far") (some (.ref G.l)) := fun j => .inl ⟨_, .inr "far", .inl j.d, rfl, rfl⟩
      have dS : ∀ {H' : Hp} {ns : List Int} {s u : Int}, JS G H H' ns s u → DGet H' G.a (.str "stirred") (some (.int s)) := fun j => .inl ⟨_, .inr "stirred", .inl j.d, rfl, rfl⟩
      have dT : ∀ {H' : Hp} {ns : List Int} {s u : Int}, JS G H H' ns s u → DGet H' G.a (.str "turn") (some (.int u)) := fun j => .inl ⟨_, .inr "turn", .inl j.d, rfl, rfl⟩
      refine ⟨.int many, rfl, many, 2, rfl, rfl, _, rfl, ite2 (fun e => ?_) (fun e => ?_)⟩
      · exact fin H ns s0 u0 0 j0 hz (by omega) (.inr rfl)
      · have h2 : ¬ many < 2 := by simpa using e
        refine ⟨.ref G.a, rfl, G.a, .ref G.l, rfl, dF j0, Nat.zero_le _, fun l0 hl0 => ?_⟩
        have j1 := j0.junk (o := .lst []) hl0
        have dp1 : ∀ (B H' : Hp) (ns : List Int) (a : Addr), H' a = some (.lst (ns.map V.int)) → Dp K H' (.ref a) (.list (ns.map PyData.int)) := fun B H' ns a e => .lst (.inl (.inl e)) ((isL_ints (B := fun _ => none) ns).dp (fun _ _ z => nomatch (show (none : Option HO) = some _ from z)) (flat_ints ns))
        refine ⟨.list (ns.map PyData.int), .list [], dp1 B _ ns _ j1.l, dp1 B _ [] _ upd_same, shaped_seq (.inr rfl), by decide, _, rfl, ?_⟩
        refine ite2 (fun e => ?_) (fun e => ?_)
        · have h3 : ns ≠ [] := fun z => by subst z; simp [PyData.eqv, PyData.eqvAll] at e
          obtain ⟨n, hn⟩ : ∃ n, ns[ns.length - 1]? = some n := ⟨ns.getLast h3, by rw [← List.getLast?_eq_getElem?]; exact List.getLast?_eq_getLast h3⟩
          -- whole = the last one
          refine ⟨.ref G.a, rfl, G.a, .ref G.l, rfl, dF j1, .inl ⟨rfl, _, .of j1.l⟩, G.l, ns.map V.int, .int n, rfl, rfl, j1.l, by rw [List.length_map, List.getElem?_map, hn]; rfl, ?_⟩
          have j2 := j1.lst (ms := ns.dropLast) on
          have e2 : (ns.map V.int).dropLast = ns.dropLast.map V.int := by rw [List.map_dropLast]
          rw [e2]
          have hz2 : ns.dropLast.length ≤ 62 := by rw [List.length_dropLast]; omega
          have last : ∀ (H' : Hp) (ms : List Int), JS G H H' ms s0 u0 → ms.length ≤ 63 → Q (.int (n % many)) H' := fun H' ms j hms => fin H' ms s0 u0 _ j hms (Int.emod_nonneg _ (by omega)) (.inl (Int.emod_lt_of_pos _ (by omega)))
          refine ⟨.int n, rfl, .int many, rfl, n, many, rfl, rfl, _, rfl, ite2 (fun e => ?_) (fun e => ?_)⟩
          · refine ⟨.ref G.a, rfl, G.a, .ref G.l, rfl, dF j2, .inl ⟨rfl, _, .of j2.l⟩, .int n, rfl, .int many, rfl, n, many, rfl, rfl, ⟨by omega, hm⟩, G.l, ns.dropLast.map V.int, .int (n / many), rfl, rfl, j2.l, by rw [List.length_map, sizeLine_eq]; omega, ?_⟩
            have j3 := j2.lst (ms := ns.dropLast ++ [n / many]) on
            have e3 : ns.dropLast.map V.int ++ [V.int (n / many)] = (ns.dropLast ++ [n / many]).map V.int := by simp
            rw [e3]
            exact ⟨.int n, rfl, .inl ⟨n, rfl, .int many, rfl, n, many, rfl, rfl, by omega, last _ _ j3 (by simp; omega)⟩⟩
          · exact ⟨.int n, rfl, .inl ⟨n, rfl, .int many, rfl, n, many, rfl, rfl, by omega, last _ _ j2 (by omega)⟩⟩
        · have h3 : ns = [] := by
            cases ns with
            | nil => rfl
            | cons a b => simp [PyData.eqv, PyData.eqvAll] at e
          subst h3
          have ep : putK [((.inr "far" : Key), V.ref G.l), (.inr "stirred", .int s0), (.inr "turn", .int u0)] (.inr "turn") (.int (u0 + 1)) = [(.inr "far", .ref G.l), (.inr "stirred", .int s0), (.inr "turn", .int (u0 + 1))] := rfl
          have j2 := j1.turn (v := u0 + 1) on
          refine ⟨.ref G.a, rfl, G.a, .int u0, rfl, dT j1, u0, 1, rfl, rfl, .ref G.a, rfl, G.a, _, rfl, DPut.k (k := .inr "turn") j1.d (show 3 < sizeLine by decide), ?_⟩
          rw [ep]
          have sm : ∀ i : Int, 0 ≤ i % 4294967291 ∧ i % 4294967291 < 4294967291 := fun i => ⟨Int.emod_nonneg _ (by decide), Int.emod_lt_of_pos _ (by decide)⟩
          have sm2 : ∀ i : Int, 0 ≤ i % 4294967279 ∧ i % 4294967279 < 4294967279 := fun i => ⟨Int.emod_nonneg _ (by decide), Int.emod_lt_of_pos _ (by decide)⟩
          refine ⟨.ref G.a, rfl, G.a, .int s0, rfl, dS j2, .ref G.a, rfl, G.a, .int (u0 + 1), rfl, dT j2, u0 + 1, 2654435761, rfl, rfl, .inr ⟨by decide, by decide⟩, s0, _, rfl, rfl, .inl ⟨_, rfl, _, 4294967291, rfl, rfl, (show (0 : Int) < 4294967291 by decide), ?_⟩⟩
          have b1 := sm (s0 + (u0 + 1) * 2654435761)
          have b1' : -(2 ^ 64) < (s0 + (u0 + 1) * 2654435761) % 4294967291 ∧ (s0 + (u0 + 1) * 2654435761) % 4294967291 < 2 ^ 64 := ⟨by omega, by omega⟩
          refine ⟨_, rfl, _, rfl, _, _, rfl, rfl, .inl b1', .ref G.a, rfl, G.a, .int (u0 + 1), rfl, dT j2, u0 + 1, 362437, rfl, rfl, .inr ⟨by decide, by decide⟩, _, _, rfl, rfl, _, 5, rfl, rfl, .inl ⟨_, rfl, _, 4294967279, rfl, rfl, (show (0 : Int) < 4294967279 by decide), ?_⟩⟩
          have b2 := sm2 ((s0 + (u0 + 1) * 2654435761) % 4294967291 * ((s0 + (u0 + 1) * 2654435761) % 4294967291) + (u0 + 1) * 362437 + 5)
          have b2' : -(2 ^ 64) < ((s0 + (u0 + 1) * 2654435761) % 4294967291 * ((s0 + (u0 + 1) * 2654435761) % 4294967291) + (u0 + 1) * 362437 + 5) % 4294967279 ∧ ((s0 + (u0 + 1) * 2654435761) % 4294967291 * ((s0 + (u0 + 1) * 2654435761) % 4294967291) + (u0 + 1) * 362437 + 5) % 4294967279 < 2 ^ 64 := ⟨by omega, by omega⟩
          refine ⟨_, rfl, _, rfl, _, _, rfl, rfl, .inl b2', _, rfl, _, _, rfl, rfl, .inl ⟨_, rfl, _, 4294967231, rfl, rfl, (show (0 : Int) < 4294967231 by decide), _, 4096, rfl, rfl, ⟨by decide, by decide⟩, .int many, rfl, _, many, rfl, rfl, (show (0 : Int) < many by omega), ?_⟩⟩
          exact fin _ [] s0 (u0 + 1) _ j2 (by simp) (Int.emod_nonneg _ (by omega)) (.inl (Int.emod_lt_of_pos _ (by omega)))
end
end K46

namespace K46
open PySem PySem.Spec L2 BV Fl
/-! pick, few -/
def Φ_law_pick : Spe := fun ds Q => ∃ xs : List D, ds = [keyJ, .list xs] ∧ xs ≠ [] ∧ xs.length < 1073741824 ∧ ∀ x ∈ xs, Q x
theorem at_int {xs : List D} {i : Int} (h0 : 0 ≤ i) (h1 : i < xs.length) : ∃ d, atI xs i = some d ∧ d ∈ xs := by
  obtain ⟨k, rfl⟩ := Int.eq_ofNat_of_zero_le h0
  have hk : k < xs.length := by omega
  exact ⟨xs[k], atI_nat (List.getElem?_eq_getElem hk), List.getElem_mem hk⟩
theorem l_law_pick (ds : List D) (Q : D → Prop) (n : En → Prop) (h : Φ_law_pick ds Q) : b_law_pick Φ_law_draw (entry 2 ms_law_pick ds) n Q := by
  obtain ⟨xs, rfl, hne, hz, q⟩ := h
  have hp : 0 < xs.length := List.length_pos_iff.mpr hne
  simp [b_law_pick, sSeq, sNext, sIf, sRet, sSet, sSetL, sSetD, sAsg, sAsgM, sApp, sExt, sPut, sDPutB, sNewD, sPar, sTell, sRetOwn, sDrop, bC, bVar, bSee, b2, b1, bN, bNil, bCons, bTup, bLst, bIf, bAnd, bOr, bNot, bIsN, bNotN, isNoneD, tV, tNotB, tAndB, tOrB, oB, pName, pNil, pCons, pTup, cNil, cCons, BV.cellOf, BV.setAll, qNil, qVal, qBor, qDic, qJar, isListD, bCall, mE, mPop, mPopAt, oIx, oAdd, oMul, oI, oLt, oLe, oGt, oGe, oSub, oMod, oFdiv, oPow, oNeg, oCatL, oRepL, atI_c0, atI_c1, atI_c2, oEq_int, oNe_int, oLen_l, oLen_t, oListOf_l, oListOf_t, oTupOf_l, oTupOf_t, oII, oAbs, oInt1, bInS, bOwnD, oDGet, bGetS, bDisp, bPairs, mergeD, bRevL, bLstR1, bLstR2, bSlL, bSlT, wNo, wAt, iSeq, oSeq_l, oSeq_t, iEnu, iZp, iRan, oR1, oR2, oKeys, entry, cellsMd, cellMd]
  refine ⟨xs.length, rfl, by omega, fun i h0 h1 => ?_⟩
  obtain ⟨d, e, hd⟩ := at_int (xs := xs) h0 (by omega)
  exact ⟨d, e, q d hd⟩
theorem perm_erase {α : Type} : ∀ (l : List α) (j : Nat) (h : j < l.length), (l[j] :: l.eraseIdx j).Perm l
  | a :: l, 0, _ => .refl _
  | a :: l, j + 1, h => by
    simp only [List.getElem_cons_succ, List.eraseIdx_cons_succ]
    exact (List.Perm.swap _ _ _).trans (.cons a (perm_erase l j (by simpa using h)))
def Φ_law_few : Spe := fun ds Q => ∃ (xs : List D) (many : Int), ds = [keyJ, .list xs, .int many] ∧ xs.length ≤ 1000000 ∧ -1000000 ≤ many ∧ ∀ ys zs : List D, (ys ++ zs).Perm xs → ys.length = min many.toNat xs.length → Q (.list ys)
theorem l_law_few (ds : List D) (Q : D → Prop) (n : En → Prop) (h : Φ_law_few ds Q) : b_law_few Φ_law_draw (entry 6 ms_law_few ds) n Q := by
  obtain ⟨xs, many, rfl, hz, hm, q⟩ := h
  have sl := sizeLine_eq
  unfold b_law_few
  generalize hfin : sTell 5 (sRet (bVar 5)) = fin
  simp [sSeq, sNext, sIf, sRet, sSet, sSetL, sSetD, sAsg, sAsgM, sApp, sExt, sPut, sDPutB, sNewD, sPar, sTell, sRetOwn, sDrop, bC, bVar, bSee, b2, b1, bN, bNil, bCons, bTup, bLst, bIf, bAnd, bOr, bNot, bIsN, bNotN, isNoneD, tV, tNotB, tAndB, tOrB, oB, pName, pNil, pCons, pTup, cNil, cCons, BV.cellOf, BV.setAll, qNil, qVal, qBor, qDic, qJar, isListD, bCall, mE, mPop, mPopAt, oIx, oAdd, oMul, oI, oLt, oLe, oGt, oGe, oSub, oMod, oFdiv, oPow, oNeg, oCatL, oRepL, atI_c0, atI_c1, atI_c2, oEq_int, oNe_int, oLen_l, oLen_t, oListOf_l, oListOf_t, oTupOf_l, oTupOf_t, oII, oAbs, oInt1, bInS, bOwnD, oDGet, bGetS, bDisp, bPairs, mergeD, bRevL, bLstR1, bLstR2, bSlL, bSlT, wNo, wAt, iSeq, oSeq_l, oSeq_t, iEnu, iZp, iRan, oR1, oR2, oKeys, entry, cellsMd, cellMd]
  unfold sFor
  simp [sSeq, sNext, sIf, sRet, sSet, sSetL, sSetD, sAsg, sAsgM, sApp, sExt, sPut, sDPutB, sNewD, sPar, sTell, sRetOwn, sDrop, bC, bVar, bSee, b2, b1, bN, bNil, bCons, bTup, bLst, bIf, bAnd, bOr, bNot, bIsN, bNotN, isNoneD, tV, tNotB, tAndB, tOrB, oB, pName, pNil, pCons, pTup, cNil, cCons, BV.cellOf, BV.setAll, qNil, qVal, qBor, qDic, qJar, isListD, bCall, mE, mPop, mPopAt, oIx, oAdd, oMul, oI, oLt, oLe, oGt, oGe, oSub, oMod, oFdiv, oPow, oNeg, oCatL, oRepL, atI_c0, atI_c1, atI_c2, oEq_int, oNe_int, oLen_l, oLen_t, oListOf_l, oListOf_t, oTupOf_l, oTupOf_t, oII, oAbs, oInt1, bInS, bOwnD, oDGet, bGetS, bDisp, bPairs, mergeD, bRevL, bLstR1, bLstR2, bSlL, bSlT, wNo, wAt, iSeq, oSeq_l, oSeq_t, iEnu, iZp, iRan, oR1, oR2, oKeys, entry, cellsMd, cellMd]
  generalize hmm : (if (xs.length : Int) < many then (xs.length : Int) else many) = mm
  have hmm2 : mm.toNat = min many.toNat xs.length ∧ -1000000 ≤ mm ∧ mm ≤ 1000000 := by
    rw [← hmm]; split <;> omega
  refine ⟨⟨by omega, by omega⟩, ?_⟩
  unfold iRng
  refine for_at (fun i : Nat => PyData.int (0 + (i : Int))) (fun pre ρ => ∃ (c3 : Cell) (left found : List D), ρ = [.jar keyJ, .val (.list xs), .val (.int many), c3, .own left, .own found] ∧ (found ++ left).Perm xs ∧ found.length = pre.length) (List.range mm.toNat) ?_ ?_ _ [] _ rfl ⟨_, xs, [], rfl, by simp, rfl⟩
  · rintro pre x post ρ e ⟨c3, left, found, rfl, hp, hl⟩ nx' k
    have hlen := hp.length_eq
    have hr := congrArg List.length e
    simp at hr hlen
    have hpos : 0 < left.length := by omega
    simp [sSeq, sNext, sIf, sRet, sSet, sSetL, sSetD, sAsg, sAsgM, sApp, sExt, sPut, sDPutB, sNewD, sPar, sTell, sRetOwn, sDrop, bC, bVar, bSee, b2, b1, bN, bNil, bCons, bTup, bLst, bIf, bAnd, bOr, bNot, bIsN, bNotN, isNoneD, tV, tNotB, tAndB, tOrB, oB, pName, pNil, pCons, pTup, cNil, cCons, BV.cellOf, BV.setAll, qNil, qVal, qBor, qDic, qJar, isListD, bCall, mE, mPop, mPopAt, oIx, oAdd, oMul, oI, oLt, oLe, oGt, oGe, oSub, oMod, oFdiv, oPow, oNeg, oCatL, oRepL, atI_c0, atI_c1, atI_c2, oEq_int, oNe_int, oLen_l, oLen_t, oListOf_l, oListOf_t, oTupOf_l, oTupOf_t, oII, oAbs, oInt1, bInS, bOwnD, oDGet, bGetS, bDisp, bPairs, mergeD, bRevL, bLstR1, bLstR2, bSlL, bSlT, wNo, wAt, iSeq, oSeq_l, oSeq_t, iEnu, iZp, iRan, oR1, oR2, oKeys, entry, cellsMd, cellMd]
    refine ⟨left.length, rfl, by omega, fun i h0 h1 => ?_⟩
    obtain ⟨j, rfl⟩ := Int.eq_ofNat_of_zero_le h0
    have hj : j < left.length := by omega
    refine ⟨j, ixN_nat hj, left[j], List.getElem?_eq_getElem hj, ?_⟩
    refine ⟨by omega, k _ ⟨_, _, _, rfl, ?_, by simp [hl]⟩⟩
    have p1 : (left[j] :: left.eraseIdx j).Perm left := perm_erase left j hj
    have p2 : (found ++ [left[j]] ++ left.eraseIdx j).Perm (found ++ left) := by
      rw [List.append_assoc]
      exact List.Perm.append_left found p1
    exact p2.trans hp
  · rintro ρ ⟨c3, left, found, rfl, hp, hl⟩
    subst hfin
    simp [sSeq, sNext, sIf, sRet, sSet, sSetL, sSetD, sAsg, sAsgM, sApp, sExt, sPut, sDPutB, sNewD, sPar, sTell, sRetOwn, sDrop, bC, bVar, bSee, b2, b1, bN, bNil, bCons, bTup, bLst, bIf, bAnd, bOr, bNot, bIsN, bNotN, isNoneD, tV, tNotB, tAndB, tOrB, oB, pName, pNil, pCons, pTup, cNil, cCons, BV.cellOf, BV.setAll, qNil, qVal, qBor, qDic, qJar, isListD, bCall, mE, mPop, mPopAt, oIx, oAdd, oMul, oI, oLt, oLe, oGt, oGe, oSub, oMod, oFdiv, oPow, oNeg, oCatL, oRepL, atI_c0, atI_c1, atI_c2, oEq_int, oNe_int, oLen_l, oLen_t, oListOf_l, oListOf_t, oTupOf_l, oTupOf_t, oII, oAbs, oInt1, bInS, bOwnD, oDGet, bGetS, bDisp, bPairs, mergeD, bRevL, bLstR1, bLstR2, bSlL, bSlT, wNo, wAt, iSeq, oSeq_l, oSeq_t, iEnu, iZp, iRan, oR1, oR2, oKeys, entry, cellsMd, cellMd]
    exact q found left hp (by rw [hl]; simp; omega)
/-! what goes, what comes -/
def goes (roads : List Arc) (f : List Int) (v : Int) : Int := ((f.zip roads).filterMap fun p => if p.2.1 = v then some p.1 else none).sum
def comes (roads : List Arc) (ends : List Int) (f : List Int) (v : Int) : Int := (f.zipIdx.filterMap fun p => if (roads[p.2]?.map (·.2)) = some v ∧ ((p.2 : Nat) : Int) ∉ ends then some p.1 else none).sum
def Φ_law_goes : Spe := fun ds Q => ∃ (n : Nat) (roads : List Arc) (f : List Int) (fd : D) (v : Int), ds = [netD n roads, fd, .int v] ∧ seqI fd f ∧ f.length = roads.length ∧ Q (.int (goes roads f v))
theorem zipD_map : ∀ (f : List Int) (roads : List Arc), zipD (f.map PyData.int) (roads.map arcD) = (f.zip roads).map fun p => PyData.tuple [.int p.1, arcD p.2]
  | [], _ => by simp [zipD]
  | _ :: _, [] => by simp [zipD]
  | x :: f, a :: r => by simp [zipD, zipD_map f r]
theorem sum_fm {α : Type} (l : List α) (g : α → Option Int) {Q : D → Prop} (q : Q (.int (l.filterMap g).sum)) : oSum [.list (l.filterMap fun x => (g x).map PyData.int)] Q :=
  ⟨l.filterMap g, by rw [List.map_filterMap], q⟩
theorem l_law_goes (ds : List D) (Q : D → Prop) (n : En → Prop) (h : Φ_law_goes ds Q) : b_law_goes (entry 5 ms_law_goes ds) n Q := by
  obtain ⟨nn, roads, f, fd, v, rfl, hf, hl, q⟩ := h
  simp [b_law_goes, sSeq, sNext, sIf, sRet, sSet, sSetL, sSetD, sAsg, sAsgM, sApp, sExt, sPut, sDPutB, sNewD, sPar, sTell, sRetOwn, sDrop, bC, bVar, bSee, b2, b1, bN, bNil, bCons, bTup, bLst, bIf, bAnd, bOr, bNot, bIsN, bNotN, isNoneD, tV, tNotB, tAndB, tOrB, oB, pName, pNil, pCons, pTup, cNil, cCons, BV.cellOf, BV.setAll, qNil, qVal, qBor, qDic, qJar, isListD, bCall, mE, mPop, mPopAt, oIx, oAdd, oMul, oI, oLt, oLe, oGt, oGe, oSub, oMod, oFdiv, oPow, oNeg, oCatL, oRepL, atI_c0, atI_c1, atI_c2, oEq_int, oNe_int, oLen_l, oLen_t, oListOf_l, oListOf_t, oTupOf_l, oTupOf_t, oII, oAbs, oInt1, bInS, bOwnD, oDGet, bGetS, bDisp, bPairs, mergeD, bRevL, bLstR1, bLstR2, bSlL, bSlT, wNo, wAt, iSeq, oSeq_l, oSeq_t, iEnu, iZp, iRan, oR1, oR2, oKeys, entry, cellsMd, cellMd, netD, bLc, wipeE]
  refine seq_it hf ?_
  rw [zipD_map]
  refine lc_fm (fun p : Int × Arc => PyData.tuple [.int p.1, arcD p.2]) (fun p => (if p.2.1 = v then some p.1 else none).map PyData.int) _ _ (fun x hx K k => ?_) ?_
  · obtain ⟨x, a, b⟩ := x
    simp [sSeq, sNext, sIf, sRet, sSet, sSetL, sSetD, sAsg, sAsgM, sApp, sExt, sPut, sDPutB, sNewD, sPar, sTell, sRetOwn, sDrop, bC, bVar, bSee, b2, b1, bN, bNil, bCons, bTup, bLst, bIf, bAnd, bOr, bNot, bIsN, bNotN, isNoneD, tV, tNotB, tAndB, tOrB, oB, pName, pNil, pCons, pTup, cNil, cCons, BV.cellOf, BV.setAll, qNil, qVal, qBor, qDic, qJar, isListD, bCall, mE, mPop, mPopAt, oIx, oAdd, oMul, oI, oLt, oLe, oGt, oGe, oSub, oMod, oFdiv, oPow, oNeg, oCatL, oRepL, atI_c0, atI_c1, atI_c2, oEq_int, oNe_int, oLen_l, oLen_t, oListOf_l, oListOf_t, oTupOf_l, oTupOf_t, oII, oAbs, oInt1, bInS, bOwnD, oDGet, bGetS, bDisp, bPairs, mergeD, bRevL, bLstR1, bLstR2, bSlL, bSlT, wNo, wAt, iSeq, oSeq_l, oSeq_t, iEnu, iZp, iRan, oR1, oR2, oKeys, entry, cellsMd, cellMd, arcD]
    by_cases e : a = v
    · simp [e] at k ⊢; exact k
    · simp [e] at k ⊢; exact k
  · exact sum_fm _ _ q
def Φ_law_comes : Spe := fun ds Q => ∃ (n : Nat) (roads : List Arc) (f ends : List Int) (fd ed : D) (v : Int), ds = [netD n roads, fd, .int v, ed] ∧ seqI fd f ∧ seqI ed ends ∧ f.length = roads.length ∧ Q (.int (comes roads ends f v))
theorem enumI_map (f : List Int) : ∀ n : Nat, enumD n (f.map PyData.int) = (f.zipIdx n).map fun p => PyData.tuple [.int (p.2 : Int), .int p.1] := by
  induction f with
  | nil => intro n; rfl
  | cons a r ih => intro n; simp only [List.map_cons, enumD, List.zipIdx_cons, ih (n + 1)]
theorem notin_seq {d : D} {ns : List Int} {i : Int} {Q : D → Prop} (h : seqI d ns) (q : Q (.bool (!decide (i ∈ ns)))) : oNotInU (.int i) d Q := by
  have s := shaped_seq h
  unfold oNotInU
  refine ⟨⟨rfl, ?_, rfl, s⟩, ?_⟩
  · rcases h with rfl | rfl <;> simp [flatD, flat_ints]
  · rcases h with rfl | rfl
    · simp only [any_ints]; exact q
    · simp only [any_ints]; exact q
theorem l_law_comes (ds : List D) (Q : D → Prop) (n : En → Prop) (h : Φ_law_comes ds Q) : b_law_comes (entry 6 ms_law_comes ds) n Q := by
  obtain ⟨nn, roads, f, ends, fd, ed, v, rfl, hf, he, hl, q⟩ := h
  simp [b_law_comes, sSeq, sNext, sIf, sRet, sSet, sSetL, sSetD, sAsg, sAsgM, sApp, sExt, sPut, sDPutB, sNewD, sPar, sTell, sRetOwn, sDrop, bC, bVar, bSee, b2, b1, bN, bNil, bCons, bTup, bLst, bIf, bAnd, bOr, bNot, bIsN, bNotN, isNoneD, tV, tNotB, tAndB, tOrB, oB, pName, pNil, pCons, pTup, cNil, cCons, BV.cellOf, BV.setAll, qNil, qVal, qBor, qDic, qJar, isListD, bCall, mE, mPop, mPopAt, oIx, oAdd, oMul, oI, oLt, oLe, oGt, oGe, oSub, oMod, oFdiv, oPow, oNeg, oCatL, oRepL, atI_c0, atI_c1, atI_c2, oEq_int, oNe_int, oLen_l, oLen_t, oListOf_l, oListOf_t, oTupOf_l, oTupOf_t, oII, oAbs, oInt1, bInS, bOwnD, oDGet, bGetS, bDisp, bPairs, mergeD, bRevL, bLstR1, bLstR2, bSlL, bSlT, wNo, wAt, iSeq, oSeq_l, oSeq_t, iEnu, iZp, iRan, oR1, oR2, oKeys, entry, cellsMd, cellMd, bLc, wipeE]
  refine seq_it hf ?_
  rw [enumI_map]
  refine lc_fm (fun p : Int × Nat => PyData.tuple [.int (p.2 : Int), .int p.1]) (fun p => (if (roads[p.2]?.map (·.2)) = some v ∧ ((p.2 : Nat) : Int) ∉ ends then some p.1 else none).map PyData.int) _ _ (fun x hx K k => ?_) ?_
  · obtain ⟨x, r⟩ := x
    have hr : r < roads.length := by
      have := List.mem_zipIdx hx
      omega
    have ea := atI_map (f := arcD) (List.getElem?_eq_getElem hr)
    simp [sSeq, sNext, sIf, sRet, sSet, sSetL, sSetD, sAsg, sAsgM, sApp, sExt, sPut, sDPutB, sNewD, sPar, sTell, sRetOwn, sDrop, bC, bVar, bSee, b2, b1, bN, bNil, bCons, bTup, bLst, bIf, bAnd, bOr, bNot, bIsN, bNotN, isNoneD, tV, tNotB, tAndB, tOrB, oB, pName, pNil, pCons, pTup, cNil, cCons, BV.cellOf, BV.setAll, qNil, qVal, qBor, qDic, qJar, isListD, bCall, mE, mPop, mPopAt, oIx, oAdd, oMul, oI, oLt, oLe, oGt, oGe, oSub, oMod, oFdiv, oPow, oNeg, oCatL, oRepL, atI_c0, atI_c1, atI_c2, oEq_int, oNe_int, oLen_l, oLen_t, oListOf_l, oListOf_t, oTupOf_l, oTupOf_t, oII, oAbs, oInt1, bInS, bOwnD, oDGet, bGetS, bDisp, bPairs, mergeD, bRevL, bLstR1, bLstR2, bSlL, bSlT, wNo, wAt, iSeq, oSeq_l, oSeq_t, iEnu, iZp, iRan, oR1, oR2, oKeys, entry, cellsMd, cellMd, netD, ea, arcD]
    by_cases e : roads[r].2 = v
    · simp [e]
      refine notin_seq he ?_
      by_cases e2 : (r : Int) ∈ ends
      · simp [List.getElem?_eq_getElem hr, e, e2] at k ⊢; exact k
      · simp [List.getElem?_eq_getElem hr, e, e2] at k ⊢; exact k
    · simp [List.getElem?_eq_getElem hr, e] at k ⊢; exact k
  · exact sum_fm _ _ q
end K46

namespace K46
open PySem PySem.Spec L2 BV Fl
def worth (roads : List Arc) (ends f feet : List Int) : Int := (feet.map fun p => goes roads f p - comes roads ends f p).sum
def Φ_law_worth : Spe := fun ds Q => ∃ (n : Nat) (roads : List Arc) (f ends feet : List Int) (fd ed td : D), ds = [netD n roads, td, ed, fd] ∧ seqI fd f ∧ seqI ed ends ∧ seqI td feet ∧ f.length = roads.length ∧ Q (.int (worth roads ends f feet))
theorem l_law_worth (ds : List D) (Q : D → Prop) (n : En → Prop) (h : Φ_law_worth ds Q) : b_law_worth Φ_law_goes Φ_law_comes (entry 5 ms_law_worth ds) n Q := by
  obtain ⟨nn, roads, f, ends, feet, fd, ed, td, rfl, hf, he, ht, hl, q⟩ := h
  simp [b_law_worth, sSeq, sNext, sIf, sRet, sSet, sSetL, sSetD, sAsg, sAsgM, sApp, sExt, sPut, sDPutB, sNewD, sPar, sTell, sRetOwn, sDrop, bC, bVar, bSee, b2, b1, bN, bNil, bCons, bTup, bLst, bIf, bAnd, bOr, bNot, bIsN, bNotN, isNoneD, tV, tNotB, tAndB, tOrB, oB, pName, pNil, pCons, pTup, cNil, cCons, BV.cellOf, BV.setAll, qNil, qVal, qBor, qDic, qJar, isListD, bCall, mE, mPop, mPopAt, oIx, oAdd, oMul, oI, oLt, oLe, oGt, oGe, oSub, oMod, oFdiv, oPow, oNeg, oCatL, oRepL, atI_c0, atI_c1, atI_c2, oEq_int, oNe_int, oLen_l, oLen_t, oListOf_l, oListOf_t, oTupOf_l, oTupOf_t, oII, oAbs, oInt1, bInS, bOwnD, oDGet, bGetS, bDisp, bPairs, mergeD, bRevL, bLstR1, bLstR2, bSlL, bSlT, wNo, wAt, iSeq, oSeq_l, oSeq_t, iEnu, iZp, iRan, oR1, oR2, oKeys, entry, cellsMd, cellMd, bLc, wipeE]
  refine seq_it ht ?_
  refine lc_m PyData.int (fun p : Int => PyData.int (goes roads f p - comes roads ends f p)) _ _ (fun p hp K k => ?_) ?_
  · simp [sSeq, sNext, sIf, sRet, sSet, sSetL, sSetD, sAsg, sAsgM, sApp, sExt, sPut, sDPutB, sNewD, sPar, sTell, sRetOwn, sDrop, bC, bVar, bSee, b2, b1, bN, bNil, bCons, bTup, bLst, bIf, bAnd, bOr, bNot, bIsN, bNotN, isNoneD, tV, tNotB, tAndB, tOrB, oB, pName, pNil, pCons, pTup, cNil, cCons, BV.cellOf, BV.setAll, qNil, qVal, qBor, qDic, qJar, isListD, bCall, mE, mPop, mPopAt, oIx, oAdd, oMul, oI, oLt, oLe, oGt, oGe, oSub, oMod, oFdiv, oPow, oNeg, oCatL, oRepL, atI_c0, atI_c1, atI_c2, oEq_int, oNe_int, oLen_l, oLen_t, oListOf_l, oListOf_t, oTupOf_l, oTupOf_t, oII, oAbs, oInt1, bInS, bOwnD, oDGet, bGetS, bDisp, bPairs, mergeD, bRevL, bLstR1, bLstR2, bSlL, bSlT, wNo, wAt, iSeq, oSeq_l, oSeq_t, iEnu, iZp, iRan, oR1, oR2, oKeys, entry, cellsMd, cellMd]
    exact ⟨nn, roads, f, fd, p, rfl, hf, hl, nn, roads, f, ends, fd, ed, p, rfl, hf, he, hl, k⟩
  · exact ⟨feet.map fun p => goes roads f p - comes roads ends f p, by simp [Function.comp_def], q⟩
def okAt (roads : List Arc) (feet heads ends f : List Int) (v : Int) : Bool := decide (v ∈ feet) || decide (v ∈ heads) || decide (goes roads f v = comes roads ends f v)
def good (n : Nat) (roads : List Arc) (feet heads ends f : List Int) : Bool := (List.range n).all fun v => okAt roads feet heads ends f (v : Int)
def Φ_law_bad_place : Spe := fun ds Q => ∃ (n : Nat) (roads : List Arc) (f feet heads ends : List Int) (fd td hd ed : D), ds = [netD n roads, td, hd, ed, fd] ∧ seqI fd f ∧ seqI td feet ∧ seqI hd heads ∧ seqI ed ends ∧ f.length = roads.length ∧ n ≤ 1000 ∧
  (good n roads feet heads ends f = true → Q .none) ∧ (good n roads feet heads ends f = false → ∀ p : Int, Q (.int p))
theorem l_law_bad_place (ds : List D) (Q : D → Prop) (n : En → Prop) (h : Φ_law_bad_place ds Q) : b_law_bad_place Φ_law_goes Φ_law_comes (entry 6 ms_law_bad_place ds) n Q := by
  obtain ⟨nn, roads, f, feet, heads, ends, fd, td, hd, ed, rfl, hf, ht, hh, he, hl, hn, q1, q2⟩ := h
  have sl := sizeLine_eq
  unfold b_law_bad_place
  generalize hfin : sRet (bC .none) = fin
  simp [sSeq, sNext, sIf, sRet, sSet, sSetL, sSetD, sAsg, sAsgM, sApp, sExt, sPut, sDPutB, sNewD, sPar, sTell, sRetOwn, sDrop, bC, bVar, bSee, b2, b1, bN, bNil, bCons, bTup, bLst, bIf, bAnd, bOr, bNot, bIsN, bNotN, isNoneD, tV, tNotB, tAndB, tOrB, oB, pName, pNil, pCons, pTup, cNil, cCons, BV.cellOf, BV.setAll, qNil, qVal, qBor, qDic, qJar, isListD, bCall, mE, mPop, mPopAt, oIx, oAdd, oMul, oI, oLt, oLe, oGt, oGe, oSub, oMod, oFdiv, oPow, oNeg, oCatL, oRepL, atI_c0, atI_c1, atI_c2, oEq_int, oNe_int, oLen_l, oLen_t, oListOf_l, oListOf_t, oTupOf_l, oTupOf_t, oII, oAbs, oInt1, bInS, bOwnD, oDGet, bGetS, bDisp, bPairs, mergeD, bRevL, bLstR1, bLstR2, bSlL, bSlT, wNo, wAt, iSeq, oSeq_l, oSeq_t, iEnu, iZp, iRan, oR1, oR2, oKeys, entry, cellsMd, cellMd]
  unfold sFor
  simp [sSeq, sNext, sIf, sRet, sSet, sSetL, sSetD, sAsg, sAsgM, sApp, sExt, sPut, sDPutB, sNewD, sPar, sTell, sRetOwn, sDrop, bC, bVar, bSee, b2, b1, bN, bNil, bCons, bTup, bLst, bIf, bAnd, bOr, bNot, bIsN, bNotN, isNoneD, tV, tNotB, tAndB, tOrB, oB, pName, pNil, pCons, pTup, cNil, cCons, BV.cellOf, BV.setAll, qNil, qVal, qBor, qDic, qJar, isListD, bCall, mE, mPop, mPopAt, oIx, oAdd, oMul, oI, oLt, oLe, oGt, oGe, oSub, oMod, oFdiv, oPow, oNeg, oCatL, oRepL, atI_c0, atI_c1, atI_c2, oEq_int, oNe_int, oLen_l, oLen_t, oListOf_l, oListOf_t, oTupOf_l, oTupOf_t, oII, oAbs, oInt1, bInS, bOwnD, oDGet, bGetS, bDisp, bPairs, mergeD, bRevL, bLstR1, bLstR2, bSlL, bSlT, wNo, wAt, iSeq, oSeq_l, oSeq_t, iEnu, iZp, iRan, oR1, oR2, oKeys, entry, cellsMd, cellMd, netD]
  refine ⟨by omega, ?_⟩
  unfold iRng
  refine for_at (fun i : Nat => PyData.int (0 + (i : Int))) (fun pre ρ => ∃ (c : Cell), ρ = [.val (netD nn roads), .val td, .val hd, .val ed, .val fd, c] ∧ ∀ v ∈ pre, okAt roads feet heads ends f ((v : Nat) : Int) = true) (List.range nn) ?_ ?_ _ [] _ rfl ⟨_, rfl, by simp⟩
  · rintro pre x post ρ e ⟨c, rfl, hv⟩ nx' k
    have hx : x ∈ List.range nn := by rw [e]; simp
    have kk : okAt roads feet heads ends f (x : Int) = true → ∀ c, nx' [.val (netD nn roads), .val td, .val hd, .val ed, .val fd, c] := fun h c => k _ ⟨c, rfl, fun v hv' => by
      rcases List.mem_append.mp hv' with h' | h'
      · exact hv v h'
      · simp at h'; subst h'; exact h⟩
    simp [sSeq, sNext, sIf, sRet, sSet, sSetL, sSetD, sAsg, sAsgM, sApp, sExt, sPut, sDPutB, sNewD, sPar, sTell, sRetOwn, sDrop, bC, bVar, bSee, b2, b1, bN, bNil, bCons, bTup, bLst, bIf, bAnd, bOr, bNot, bIsN, bNotN, isNoneD, tV, tNotB, tAndB, tOrB, oB, pName, pNil, pCons, pTup, cNil, cCons, BV.cellOf, BV.setAll, qNil, qVal, qBor, qDic, qJar, isListD, bCall, mE, mPop, mPopAt, oIx, oAdd, oMul, oI, oLt, oLe, oGt, oGe, oSub, oMod, oFdiv, oPow, oNeg, oCatL, oRepL, atI_c0, atI_c1, atI_c2, oEq_int, oNe_int, oLen_l, oLen_t, oListOf_l, oListOf_t, oTupOf_l, oTupOf_t, oII, oAbs, oInt1, bInS, bOwnD, oDGet, bGetS, bDisp, bPairs, mergeD, bRevL, bLstR1, bLstR2, bSlL, bSlT, wNo, wAt, iSeq, oSeq_l, oSeq_t, iEnu, iZp, iRan, oR1, oR2, oKeys, entry, cellsMd, cellMd]
    refine notin_seq ht ?_
    by_cases e1 : (x : Int) ∈ feet
    · simp [e1]
      exact kk (by simp [okAt, e1]) _
    · simp [e1]
      refine notin_seq hh ?_
      by_cases e2 : (x : Int) ∈ heads
      · simp [e2]
        exact kk (by simp [okAt, e2]) _
      · simp [e2]
        refine ⟨nn, roads, f, fd, x, rfl, hf, hl, nn, roads, f, ends, fd, ed, x, rfl, hf, he, hl, ?_⟩
        by_cases e3 : goes roads f x = comes roads ends f x
        · simp [oNe_int, e3]
          exact kk (by simp [okAt, e3]) _
        · simp [oNe_int, e3]
          refine q2 ?_ x
          cases hg : good nn roads feet heads ends f with
          | false => rfl
          | true =>
            have := List.all_eq_true.mp hg x hx
            simp [okAt, e1, e2, e3] at this
  · rintro ρ ⟨c, rfl, hv⟩
    subst hfin
    simp [sSeq, sNext, sIf, sRet, sSet, sSetL, sSetD, sAsg, sAsgM, sApp, sExt, sPut, sDPutB, sNewD, sPar, sTell, sRetOwn, sDrop, bC, bVar, bSee, b2, b1, bN, bNil, bCons, bTup, bLst, bIf, bAnd, bOr, bNot, bIsN, bNotN, isNoneD, tV, tNotB, tAndB, tOrB, oB, pName, pNil, pCons, pTup, cNil, cCons, BV.cellOf, BV.setAll, qNil, qVal, qBor, qDic, qJar, isListD, bCall, mE, mPop, mPopAt, oIx, oAdd, oMul, oI, oLt, oLe, oGt, oGe, oSub, oMod, oFdiv, oPow, oNeg, oCatL, oRepL, atI_c0, atI_c1, atI_c2, oEq_int, oNe_int, oLen_l, oLen_t, oListOf_l, oListOf_t, oTupOf_l, oTupOf_t, oII, oAbs, oInt1, bInS, bOwnD, oDGet, bGetS, bDisp, bPairs, mergeD, bRevL, bLstR1, bLstR2, bSlL, bSlT, wNo, wAt, iSeq, oSeq_l, oSeq_t, iEnu, iZp, iRan, oR1, oR2, oKeys, entry, cellsMd, cellMd]
    exact q1 (List.all_eq_true.mpr fun v hv' => hv v hv')
def prodR : List Int → Int
  | [] => 1
  | b :: r => (b + 1) * prodR r
def dec : List Int → Int → List Int
  | [], _ => []
  | b :: r, m => m % (b + 1) :: dec r (m / (b + 1))
theorem dec_len : ∀ (room : List Int) (m : Int), (dec room m).length = room.length
  | [], _ => rfl
  | b :: r, m => by simp [dec, dec_len r]
def every (n : Nat) (roads : List Arc) (room feet heads ends : List Int) : List (List Int) := (List.range (prodR room).toNat).filterMap fun (m : Nat) => if good n roads feet heads ends (dec room (m : Int)) = true then some (dec room (m : Int)) else none
abbrev tupI (f : List Int) : D := .tuple (f.map PyData.int)
def Φ_law_all_flows : Spe := fun ds Q => ∃ (n : Nat) (roads : List Arc) (room feet heads ends : List Int) (td hd ed : D), ds = [netD n roads, tupI room, td, hd, ed] ∧ seqI td feet ∧ seqI hd heads ∧ seqI ed ends ∧ room.length = roads.length ∧ n ≤ 1000 ∧ roads.length ≤ 1000 ∧ (∀ b ∈ room, 0 ≤ b ∧ b ≤ 1000) ∧ prodR room ≤ 1000000 ∧
  Q (.list ((every n roads room feet heads ends).map tupI))
theorem prodR_pos : ∀ {room : List Int}, (∀ b ∈ room, 0 ≤ b) → 1 ≤ prodR room
  | [], _ => Int.le_refl _
  | b :: r, h => by
    have h1 := h b List.mem_cons_self
    have h2 := prodR_pos (room := r) fun c hc => h c (List.mem_cons_of_mem _ hc)
    show 1 ≤ (b + 1) * prodR r
    have : 1 * 1 ≤ (b + 1) * prodR r := Int.mul_le_mul (by omega) h2 (by omega) (by omega)
    omega
theorem prodR_app : ∀ (a b : List Int), prodR (a ++ b) = prodR a * prodR b
  | [], b => by simp [prodR]
  | x :: a, b => by simp only [List.cons_append, prodR, prodR_app a b, Int.mul_assoc]
theorem dec_snoc (room : List Int) : ∀ (pre : List Int) (x : Int) (post : List Int) (m : Int), room = pre ++ x :: post → (∀ b ∈ room, 0 ≤ b) → (dec (pre ++ [x]) m) = dec pre m ++ [(m / prodR pre) % (x + 1)] ∧ m / prodR (pre ++ [x]) = m / prodR pre / (x + 1) := by
  intro pre
  induction pre generalizing room with
  | nil => intro x post m e h; simp [dec, prodR]
  | cons b pre ih =>
    intro x post m e h
    subst e
    have hb := h b List.mem_cons_self
    have ih2 := ih (pre ++ x :: post) x post (m / (b + 1)) rfl fun c hc => h c (List.mem_cons_of_mem _ hc)
    have hp : 0 ≤ prodR pre := by
      have := prodR_pos (room := pre) fun c hc => h c (List.mem_cons_of_mem _ (List.mem_append_left _ hc))
      omega
    have e1 : m / (b + 1) / prodR pre = m / ((b + 1) * prodR pre) := Int.ediv_ediv_of_nonneg (by omega)
    refine ⟨?_, ?_⟩
    · simp only [List.cons_append, dec, ih2.1, prodR, e1]
    · have e2 := ih2.2
      rw [e1] at e2
      simp only [List.cons_append, prodR]
      rw [← e2, Int.ediv_ediv_of_nonneg (by omega)]
theorem l_law_all_flows (ds : List D) (Q : D → Prop) (n : En → Prop) (h : Φ_law_all_flows ds Q) : b_law_all_flows Φ_law_bad_place (entry 11 ms_law_all_flows ds) n Q := by
  obtain ⟨nn, roads, room, feet, heads, ends, td, hd, ed, rfl, ht, hh, he, hl, hn, hr, hb, hw, q⟩ := h
  have sl := sizeLine_eq
  have hb0 : ∀ b ∈ room, 0 ≤ b := fun b h => (hb b h).1
  unfold b_law_all_flows
  generalize hfin : sTell 8 (sRet (bVar 8)) = fin
  generalize hlp : sFor (iRan oR1 (bCons (bVar 7) bNil)) (pName 6) _ = lp
  simp [sSeq, sNext, sIf, sRet, sSet, sSetL, sSetD, sAsg, sAsgM, sApp, sExt, sPut, sDPutB, sNewD, sPar, sTell, sRetOwn, sDrop, bC, bVar, bSee, b2, b1, bN, bNil, bCons, bTup, bLst, bIf, bAnd, bOr, bNot, bIsN, bNotN, isNoneD, tV, tNotB, tAndB, tOrB, oB, pName, pNil, pCons, pTup, cNil, cCons, BV.cellOf, BV.setAll, qNil, qVal, qBor, qDic, qJar, isListD, bCall, mE, mPop, mPopAt, oIx, oAdd, oMul, oI, oLt, oLe, oGt, oGe, oSub, oMod, oFdiv, oPow, oNeg, oCatL, oRepL, atI_c0, atI_c1, atI_c2, oEq_int, oNe_int, oLen_l, oLen_t, oListOf_l, oListOf_t, oTupOf_l, oTupOf_t, oII, oAbs, oInt1, bInS, bOwnD, oDGet, bGetS, bDisp, bPairs, mergeD, bRevL, bLstR1, bLstR2, bSlL, bSlT, wNo, wAt, iSeq, oSeq_l, oSeq_t, iEnu, iZp, iRan, oR1, oR2, oKeys, entry, cellsMd, cellMd]
  unfold sFor
  simp [sSeq, sNext, sIf, sRet, sSet, sSetL, sSetD, sAsg, sAsgM, sApp, sExt, sPut, sDPutB, sNewD, sPar, sTell, sRetOwn, sDrop, bC, bVar, bSee, b2, b1, bN, bNil, bCons, bTup, bLst, bIf, bAnd, bOr, bNot, bIsN, bNotN, isNoneD, tV, tNotB, tAndB, tOrB, oB, pName, pNil, pCons, pTup, cNil, cCons, BV.cellOf, BV.setAll, qNil, qVal, qBor, qDic, qJar, isListD, bCall, mE, mPop, mPopAt, oIx, oAdd, oMul, oI, oLt, oLe, oGt, oGe, oSub, oMod, oFdiv, oPow, oNeg, oCatL, oRepL, atI_c0, atI_c1, atI_c2, oEq_int, oNe_int, oLen_l, oLen_t, oListOf_l, oListOf_t, oTupOf_l, oTupOf_t, oII, oAbs, oInt1, bInS, bOwnD, oDGet, bGetS, bDisp, bPairs, mergeD, bRevL, bLstR1, bLstR2, bSlL, bSlT, wNo, wAt, iSeq, oSeq_l, oSeq_t, iEnu, iZp, iRan, oR1, oR2, oKeys, entry, cellsMd, cellMd]
  have pre_le : ∀ pre x post, room = pre ++ x :: post → 1 ≤ prodR pre ∧ prodR pre ≤ 1000000 := by
    intro pre x post e
    have h1 := prodR_pos (room := pre) fun c hc => hb0 c (by rw [e]; exact List.mem_append_left _ hc)
    have h2 := prodR_pos (room := x :: post) fun c hc => hb0 c (by rw [e]; exact List.mem_append_right _ hc)
    have h3 := prodR_app pre (x :: post)
    rw [← e] at h3
    refine ⟨h1, ?_⟩
    have : prodR pre * 1 ≤ prodR pre * prodR (x :: post) := Int.mul_le_mul_of_nonneg_left h2 (by omega)
    omega
  refine for_at PyData.int (fun pre ρ => ∃ c5, ρ = [.val (netD nn roads), .val (tupI room), .val td, .val hd, .val ed, c5, .no, .val (.int (prodR pre)), .own [], .no, .no]) room ?_ ?_ _ [] _ rfl ⟨_, rfl⟩
  · rintro pre x post ρ e ⟨c5, rfl⟩ nx' k
    have hx := hb x (by rw [e]; simp)
    have hp := pre_le pre x post e
    simp [sSeq, sNext, sIf, sRet, sSet, sSetL, sSetD, sAsg, sAsgM, sApp, sExt, sPut, sDPutB, sNewD, sPar, sTell, sRetOwn, sDrop, bC, bVar, bSee, b2, b1, bN, bNil, bCons, bTup, bLst, bIf, bAnd, bOr, bNot, bIsN, bNotN, isNoneD, tV, tNotB, tAndB, tOrB, oB, pName, pNil, pCons, pTup, cNil, cCons, BV.cellOf, BV.setAll, qNil, qVal, qBor, qDic, qJar, isListD, bCall, mE, mPop, mPopAt, oIx, oAdd, oMul, oI, oLt, oLe, oGt, oGe, oSub, oMod, oFdiv, oPow, oNeg, oCatL, oRepL, atI_c0, atI_c1, atI_c2, oEq_int, oNe_int, oLen_l, oLen_t, oListOf_l, oListOf_t, oTupOf_l, oTupOf_t, oII, oAbs, oInt1, bInS, bOwnD, oDGet, bGetS, bDisp, bPairs, mergeD, bRevL, bLstR1, bLstR2, bSlL, bSlT, wNo, wAt, iSeq, oSeq_l, oSeq_t, iEnu, iZp, iRan, oR1, oR2, oKeys, entry, cellsMd, cellMd]
    refine ⟨CMul.ok (.inl ⟨by omega, by omega⟩), k _ ⟨.val (.int x), ?_⟩⟩
    rw [prodR_app]
    simp [prodR]
  · rintro ρ ⟨c5, rfl⟩
    subst hlp
    unfold sFor
    simp [sSeq, sNext, sIf, sRet, sSet, sSetL, sSetD, sAsg, sAsgM, sApp, sExt, sPut, sDPutB, sNewD, sPar, sTell, sRetOwn, sDrop, bC, bVar, bSee, b2, b1, bN, bNil, bCons, bTup, bLst, bIf, bAnd, bOr, bNot, bIsN, bNotN, isNoneD, tV, tNotB, tAndB, tOrB, oB, pName, pNil, pCons, pTup, cNil, cCons, BV.cellOf, BV.setAll, qNil, qVal, qBor, qDic, qJar, isListD, bCall, mE, mPop, mPopAt, oIx, oAdd, oMul, oI, oLt, oLe, oGt, oGe, oSub, oMod, oFdiv, oPow, oNeg, oCatL, oRepL, atI_c0, atI_c1, atI_c2, oEq_int, oNe_int, oLen_l, oLen_t, oListOf_l, oListOf_t, oTupOf_l, oTupOf_t, oII, oAbs, oInt1, bInS, bOwnD, oDGet, bGetS, bDisp, bPairs, mergeD, bRevL, bLstR1, bLstR2, bSlL, bSlT, wNo, wAt, iSeq, oSeq_l, oSeq_t, iEnu, iZp, iRan, oR1, oR2, oKeys, entry, cellsMd, cellMd]
    have hwp := prodR_pos hb0
    refine ⟨⟨by omega, by omega⟩, ?_⟩
    unfold iRng
    refine for_at (fun i : Nat => PyData.int (0 + (i : Int))) (fun pre ρ => ∃ c5 c6 c9 c10, ρ = [.val (netD nn roads), .val (tupI room), .val td, .val hd, .val ed, c5, c6, .val (.int (prodR room)), .own ((pre.filterMap fun (m : Nat) => if good nn roads feet heads ends (dec room (m : Int)) = true then some (dec room (m : Int)) else none).map tupI), c9, c10]) (List.range (prodR room).toNat) ?_ ?_ _ [] _ rfl ⟨c5, .no, .no, .no, rfl⟩
    · rintro pre x post ρ e ⟨c5, c6, c9, c10, rfl⟩ nx' k
      have hlen := congrArg List.length e
      simp at hlen
      have hfl := List.length_filterMap_le (fun (m : Nat) => if good nn roads feet heads ends (dec room (m : Int)) = true then some (dec room (m : Int)) else none) pre
      generalize hcont : sTell 10 (sIf (tV (bIsN (bCall Φ_law_bad_place (qVal (bVar 0) (qVal (bVar 2) (qVal (bVar 3) (qVal (bVar 4) (qVal (bVar 10) qNil)))))))) (sApp 8 (mE (bN oTupOf (bCons (bVar 10) bNil)))) sNext) = cont
      simp [sSeq, sNext, sIf, sRet, sSet, sSetL, sSetD, sAsg, sAsgM, sApp, sExt, sPut, sDPutB, sNewD, sPar, sTell, sRetOwn, sDrop, bC, bVar, bSee, b2, b1, bN, bNil, bCons, bTup, bLst, bIf, bAnd, bOr, bNot, bIsN, bNotN, isNoneD, tV, tNotB, tAndB, tOrB, oB, pName, pNil, pCons, pTup, cNil, cCons, BV.cellOf, BV.setAll, qNil, qVal, qBor, qDic, qJar, isListD, bCall, mE, mPop, mPopAt, oIx, oAdd, oMul, oI, oLt, oLe, oGt, oGe, oSub, oMod, oFdiv, oPow, oNeg, oCatL, oRepL, atI_c0, atI_c1, atI_c2, oEq_int, oNe_int, oLen_l, oLen_t, oListOf_l, oListOf_t, oTupOf_l, oTupOf_t, oII, oAbs, oInt1, bInS, bOwnD, oDGet, bGetS, bDisp, bPairs, mergeD, bRevL, bLstR1, bLstR2, bSlL, bSlT, wNo, wAt, iSeq, oSeq_l, oSeq_t, iEnu, iZp, iRan, oR1, oR2, oKeys, entry, cellsMd, cellMd]
      refine for_at PyData.int (fun pre' ρ => ∃ c5, ρ = [.val (netD nn roads), .val (tupI room), .val td, .val hd, .val ed, c5, .val (.int (x : Int)), .val (.int (prodR room)), .own ((pre.filterMap fun (m : Nat) => if good nn roads feet heads ends (dec room (m : Int)) = true then some (dec room (m : Int)) else none).map tupI), .val (.int ((x : Int) / prodR pre')), .own ((dec pre' (x : Int)).map PyData.int)]) room ?_ ?_ _ [] _ rfl ⟨c5, by simp [prodR, dec]⟩
      · rintro pre' b post' ρ e' ⟨c5, rfl⟩ nx'' k'
        have hx := hb b (by rw [e']; simp)
        have dl := dec_len pre' (x : Int)
        have hrl := congrArg List.length e'
        simp at hrl
        obtain ⟨d1, d2⟩ := dec_snoc room pre' b post' (x : Int) e' hb0
        simp [sSeq, sNext, sIf, sRet, sSet, sSetL, sSetD, sAsg, sAsgM, sApp, sExt, sPut, sDPutB, sNewD, sPar, sTell, sRetOwn, sDrop, bC, bVar, bSee, b2, b1, bN, bNil, bCons, bTup, bLst, bIf, bAnd, bOr, bNot, bIsN, bNotN, isNoneD, tV, tNotB, tAndB, tOrB, oB, pName, pNil, pCons, pTup, cNil, cCons, BV.cellOf, BV.setAll, qNil, qVal, qBor, qDic, qJar, isListD, bCall, mE, mPop, mPopAt, oIx, oAdd, oMul, oI, oLt, oLe, oGt, oGe, oSub, oMod, oFdiv, oPow, oNeg, oCatL, oRepL, atI_c0, atI_c1, atI_c2, oEq_int, oNe_int, oLen_l, oLen_t, oListOf_l, oListOf_t, oTupOf_l, oTupOf_t, oII, oAbs, oInt1, bInS, bOwnD, oDGet, bGetS, bDisp, bPairs, mergeD, bRevL, bLstR1, bLstR2, bSlL, bSlT, wNo, wAt, iSeq, oSeq_l, oSeq_t, iEnu, iZp, iRan, oR1, oR2, oKeys, entry, cellsMd, cellMd]
        refine ⟨by omega, by omega, ⟨by omega, by omega⟩, k' _ ⟨.val (.int b), ?_⟩⟩
        rw [d1, d2]
        simp
      · rintro ρ ⟨c5, rfl⟩
        subst hcont
        simp [sSeq, sNext, sIf, sRet, sSet, sSetL, sSetD, sAsg, sAsgM, sApp, sExt, sPut, sDPutB, sNewD, sPar, sTell, sRetOwn, sDrop, bC, bVar, bSee, b2, b1, bN, bNil, bCons, bTup, bLst, bIf, bAnd, bOr, bNot, bIsN, bNotN, isNoneD, tV, tNotB, tAndB, tOrB, oB, pName, pNil, pCons, pTup, cNil, cCons, BV.cellOf, BV.setAll, qNil, qVal, qBor, qDic, qJar, isListD, bCall, mE, mPop, mPopAt, oIx, oAdd, oMul, oI, oLt, oLe, oGt, oGe, oSub, oMod, oFdiv, oPow, oNeg, oCatL, oRepL, atI_c0, atI_c1, atI_c2, oEq_int, oNe_int, oLen_l, oLen_t, oListOf_l, oListOf_t, oTupOf_l, oTupOf_t, oII, oAbs, oInt1, bInS, bOwnD, oDGet, bGetS, bDisp, bPairs, mergeD, bRevL, bLstR1, bLstR2, bSlL, bSlT, wNo, wAt, iSeq, oSeq_l, oSeq_t, iEnu, iZp, iRan, oR1, oR2, oKeys, entry, cellsMd, cellMd]
        refine ⟨nn, roads, dec room (x : Int), feet, heads, ends, _, td, hd, ed, rfl, .inr rfl, ht, hh, he, by rw [dec_len]; exact hl, hn, fun hg => ?_, fun hg p => ?_⟩
        · simp
          refine ⟨by omega, k _ ⟨c5, .val (.int (x : Int)), .val (.int ((x : Int) / prodR room)), .val (intsD (dec room (x : Int))), ?_⟩⟩
          simp [hg, tupI]
        · simp
          refine k _ ⟨c5, .val (.int (x : Int)), .val (.int ((x : Int) / prodR room)), .val (intsD (dec room (x : Int))), ?_⟩
          simp [hg]
    · rintro ρ ⟨c5, c6, c9, c10, rfl⟩
      subst hfin
      simp [sSeq, sNext, sIf, sRet, sSet, sSetL, sSetD, sAsg, sAsgM, sApp, sExt, sPut, sDPutB, sNewD, sPar, sTell, sRetOwn, sDrop, bC, bVar, bSee, b2, b1, bN, bNil, bCons, bTup, bLst, bIf, bAnd, bOr, bNot, bIsN, bNotN, isNoneD, tV, tNotB, tAndB, tOrB, oB, pName, pNil, pCons, pTup, cNil, cCons, BV.cellOf, BV.setAll, qNil, qVal, qBor, qDic, qJar, isListD, bCall, mE, mPop, mPopAt, oIx, oAdd, oMul, oI, oLt, oLe, oGt, oGe, oSub, oMod, oFdiv, oPow, oNeg, oCatL, oRepL, atI_c0, atI_c1, atI_c2, oEq_int, oNe_int, oLen_l, oLen_t, oListOf_l, oListOf_t, oTupOf_l, oTupOf_t, oII, oAbs, oInt1, bInS, bOwnD, oDGet, bGetS, bDisp, bPairs, mergeD, bRevL, bLstR1, bLstR2, bSlL, bSlT, wNo, wAt, iSeq, oSeq_l, oSeq_t, iEnu, iZp, iRan, oR1, oR2, oKeys, entry, cellsMd, cellMd]
      simpa [every] using q
end K46

namespace K46
open PySem PySem.Spec L2 BV Fl
def roadsOk (size : Nat) (roads : List Arc) : Prop := ∀ a ∈ roads, 0 ≤ a.1 ∧ a.1 < a.2 ∧ a.2 < size
def Φ_law_net : Spe := fun ds Q => ∃ (size more : Nat), ds = [keyJ, .int (size : Int), .int (more : Int)] ∧ 2 ≤ size ∧ size ≤ 1000 ∧ more ≤ 1000 ∧ ∀ roads : List Arc, 1 ≤ roads.length → roads.length ≤ 60 → roadsOk size roads → Q (netD size roads)
theorem zip_tail (l : List Int) (h : l.Pairwise (· < ·)) : ∀ p ∈ l.zip (l.drop 1), p.1 < p.2 ∧ p.1 ∈ l ∧ p.2 ∈ l := by
  induction l with
  | nil => simp
  | cons a l ih =>
    intro p hp
    cases l with
    | nil => simp at hp
    | cons b l =>
      simp only [List.drop_succ_cons, List.drop_zero, List.zip_cons_cons, List.mem_cons] at hp
      rcases hp with rfl | hp
      · have := (List.pairwise_cons.mp h).1 b List.mem_cons_self
        exact ⟨this, List.mem_cons_self, List.mem_cons_of_mem _ List.mem_cons_self⟩
      · have := ih (List.pairwise_cons.mp h).2 p (by simpa using hp)
        exact ⟨this.1, List.mem_cons_of_mem _ this.2.1, List.mem_cons_of_mem _ this.2.2⟩
theorem zipD_ints (a b : List Int) : zipD (a.map PyData.int) (b.map PyData.int) = (a.zip b).map fun p => PyData.tuple [.int p.1, .int p.2] := by
  induction a generalizing b with
  | nil => simp [zipD]
  | cons x a ih =>
    cases b with
    | nil => simp [zipD]
    | cons y b => simp [zipD, ih b]
theorem few_ints {xs : List Int} {ys zs : List D} (h : (ys ++ zs).Perm (xs.map PyData.int)) : ∃ k1 k2 : List Int, ys = k1.map PyData.int ∧ zs = k2.map PyData.int ∧ (k1 ++ k2).Perm xs := by
  obtain ⟨k, e, hk⟩ := perm_map_inv PyData.int h rfl
  obtain ⟨k1, k2, rfl, e1, e2⟩ := List.map_eq_append_iff.mp e.symm
  exact ⟨k1, k2, e1.symm, e2.symm, hk⟩
theorem few_arcs {xs : List Arc} {ys zs : List D} (h : (ys ++ zs).Perm (xs.map arcD)) : ∃ k1 k2 : List Arc, ys = k1.map arcD ∧ zs = k2.map arcD ∧ (k1 ++ k2).Perm xs := by
  obtain ⟨k, e, hk⟩ := perm_map_inv arcD h rfl
  obtain ⟨k1, k2, rfl, e1, e2⟩ := List.map_eq_append_iff.mp e.symm
  exact ⟨k1, k2, e1.symm, e2.symm, hk⟩
def rgI (lo : Int) (n : Nat) : List Int := (List.range n).map fun (i : Nat) => lo + (i : Int)
theorem iRng_eq (lo : Int) (n : Nat) : iRng lo n = (rgI lo n).map PyData.int := by simp [iRng, rgI, Function.comp_def]
theorem rgI_mem {lo : Int} {n : Nat} {x : Int} : x ∈ rgI lo n ↔ lo ≤ x ∧ x < lo + n := by
  simp only [rgI, List.mem_map, List.mem_range]
  constructor
  · rintro ⟨i, h, rfl⟩; omega
  · rintro ⟨h1, h2⟩; exact ⟨(x - lo).toNat, by omega, by omega⟩
theorem rgI_nodup (lo : Int) (n : Nat) : (rgI lo n).Nodup := by
  unfold rgI
  refine List.Pairwise.map _ ?_ (List.nodup_range (n := n))
  intro a b h e
  exact h (by omega)
theorem rgI_len (lo : Int) (n : Nat) : (rgI lo n).length = n := by simp [rgI]
theorem lt_of_sorted {l : List Int} (h : l.Pairwise (· ≤ ·)) (nd : l.Nodup) : l.Pairwise (· < ·) := by
  refine List.Pairwise.imp₂ (fun a b h1 h2 => ?_) h nd
  omega
theorem spine_ok {size : Nat} {m : List Int} (hs : 2 ≤ size) (h : m.Pairwise (· < ·)) (hm : ∀ x ∈ m, 1 ≤ x ∧ x < (size : Int) - 1) : ((0 : Int) :: (m ++ [(size : Int) - 1])).Pairwise (· < ·) := by
  refine List.pairwise_cons.mpr ⟨fun x hx => ?_, ?_⟩
  · rcases List.mem_append.mp hx with hx | hx
    · have := hm x hx; omega
    · simp at hx; omega
  · rw [List.pairwise_append]
    refine ⟨h, by simp, fun a ha b hb => ?_⟩
    simp at hb
    subst hb
    exact (hm a ha).2
theorem l_law_net (ds : List D) (Q : D → Prop) (n : En → Prop) (h : Φ_law_net ds Q) : b_law_net Φ_law_draw Φ_law_few (entry 9 ms_law_net ds) n Q := by
  obtain ⟨size, more, rfl, hs, hs2, hm, q⟩ := h
  have sl := sizeLine_eq
  unfold b_law_net
  generalize hlp : sFor (iRan oR1 (bCons (bN (oII fun i j => if j > i then j else i) _) bNil)) (pName 6) _ = lp
  generalize hfin : sTell 5 _ = fin
  simp [sSeq, sNext, sIf, sRet, sSet, sSetL, sSetD, sAsg, sAsgM, sApp, sExt, sPut, sDPutB, sNewD, sPar, sTell, sRetOwn, sDrop, bC, bVar, bSee, b2, b1, bN, bNil, bCons, bTup, bLst, bIf, bAnd, bOr, bNot, bIsN, bNotN, isNoneD, tV, tNotB, tAndB, tOrB, oB, pName, pNil, pCons, pTup, cNil, cCons, BV.cellOf, BV.setAll, qNil, qVal, qBor, qDic, qJar, isListD, bCall, mE, mPop, mPopAt, oIx, oAdd, oMul, oI, oLt, oLe, oGt, oGe, oSub, oMod, oFdiv, oPow, oNeg, oCatL, oRepL, atI_c0, atI_c1, atI_c2, oEq_int, oNe_int, oLen_l, oLen_t, oListOf_l, oListOf_t, oTupOf_l, oTupOf_t, oII, oAbs, oInt1, bInS, bOwnD, oDGet, bGetS, bDisp, bPairs, mergeD, bRevL, bLstR1, bLstR2, bSlL, bSlT, wNo, wAt, iSeq, oSeq_l, oSeq_t, iEnu, iZp, iRan, oR1, oR2, oKeys, entry, cellsMd, cellMd]
  refine ⟨⟨by omega, by omega⟩, _, rfl, by omega, fun i hi1 hi2 => ?_⟩
  rw [iRng_eq]
  refine ⟨_, i, rfl, by simp [rgI_len]; omega, by omega, fun ys zs hp hl => ?_⟩
  obtain ⟨k1, k2, rfl, rfl, hk⟩ := few_ints hp
  refine ⟨k1, rfl, fun mid hpm hso => ?_⟩
  have hmem : ∀ x ∈ mid, 1 ≤ x ∧ x < (size : Int) - 1 := by
    intro x hx
    have h1 : x ∈ k1 ++ k2 := List.mem_append_left _ (hpm.mem_iff.mp hx)
    have h2 := rgI_mem.mp (hk.mem_iff.mp h1)
    omega
  have hnd : mid.Nodup := by
    have h1 : (k1 ++ k2).Nodup := hk.nodup_iff.mpr (rgI_nodup _ _)
    exact hpm.nodup_iff.mpr (List.nodup_append.mp h1).1
  have hml : mid.length ≤ 1000 := by
    have h1 := hpm.length_eq
    have h2 := hk.length_eq
    simp [rgI_len] at h2
    omega
  have hsp := spine_ok hs (lt_of_sorted hso hnd) hmem
  generalize hspd : (0 : Int) :: (mid ++ [(size : Int) - 1]) = spine at hsp
  have hsl : spine.length = mid.length + 2 := by rw [← hspd]; simp
  have hsm : ∀ x ∈ spine, 0 ≤ x ∧ x < size := by
    intro x hx
    rw [← hspd] at hx
    simp at hx
    rcases hx with rfl | hx | rfl
    · omega
    · have := hmem x hx; omega
    · omega
  have hsd : PyData.int 0 :: (mid.map PyData.int ++ [PyData.int ((size : Int) - 1)]) = spine.map PyData.int := by rw [← hspd]; simp
  have rest : ∀ R0 : List Arc, roadsOk size R0 → R0.length ≤ 1002 → lp [.jar keyJ, .val (.int (size : Int)), .val (.int (more : Int)), .val (.list (mid.map PyData.int)), .val (.list (spine.map PyData.int)), .own (R0.map arcD), .no, .no, .no] (fun ρ' => fin ρ' n Q) Q := by
    intro R0 hR hRl
    subst hlp
    unfold sFor
    simp [sSeq, sNext, sIf, sRet, sSet, sSetL, sSetD, sAsg, sAsgM, sApp, sExt, sPut, sDPutB, sNewD, sPar, sTell, sRetOwn, sDrop, bC, bVar, bSee, b2, b1, bN, bNil, bCons, bTup, bLst, bIf, bAnd, bOr, bNot, bIsN, bNotN, isNoneD, tV, tNotB, tAndB, tOrB, oB, pName, pNil, pCons, pTup, cNil, cCons, BV.cellOf, BV.setAll, qNil, qVal, qBor, qDic, qJar, isListD, bCall, mE, mPop, mPopAt, oIx, oAdd, oMul, oI, oLt, oLe, oGt, oGe, oSub, oMod, oFdiv, oPow, oNeg, oCatL, oRepL, atI_c0, atI_c1, atI_c2, oEq_int, oNe_int, oLen_l, oLen_t, oListOf_l, oListOf_t, oTupOf_l, oTupOf_t, oII, oAbs, oInt1, bInS, bOwnD, oDGet, bGetS, bDisp, bPairs, mergeD, bRevL, bLstR1, bLstR2, bSlL, bSlT, wNo, wAt, iSeq, oSeq_l, oSeq_t, iEnu, iZp, iRan, oR1, oR2, oKeys, entry, cellsMd, cellMd]
    generalize hmm : (if (more : Int) < 1 - (R0.length : Int) then 1 - (R0.length : Int) else (more : Int)) = mm
    have hmm2 : 0 ≤ mm ∧ mm ≤ 1001 ∧ 1 ≤ R0.length + mm.toNat := by rw [← hmm]; split <;> omega
    refine ⟨⟨by omega, by omega⟩, ?_⟩
    unfold iRng
    refine for_at (fun i : Nat => PyData.int (0 + (i : Int))) (fun pre ρ => ∃ (R : List Arc) (c6 c7 c8 : Cell), ρ = [.jar keyJ, .val (.int (size : Int)), .val (.int (more : Int)), .val (.list (mid.map PyData.int)), .val (.list (spine.map PyData.int)), .own (R.map arcD), c6, c7, c8] ∧ roadsOk size R ∧ R0.length + pre.length ≤ R.length ∧ R.length ≤ R0.length + 2 * pre.length) (List.range mm.toNat) ?_ ?_ _ [] _ rfl ⟨R0, .no, .no, .no, rfl, hR, by simp, by simp⟩
    · rintro pre x post ρ e ⟨R, c6, c7, c8, rfl, hRk, hl1, hl2⟩ nx' k
      have hlen := congrArg List.length e
      simp at hlen
      simp [sSeq, sNext, sIf, sRet, sSet, sSetL, sSetD, sAsg, sAsgM, sApp, sExt, sPut, sDPutB, sNewD, sPar, sTell, sRetOwn, sDrop, bC, bVar, bSee, b2, b1, bN, bNil, bCons, bTup, bLst, bIf, bAnd, bOr, bNot, bIsN, bNotN, isNoneD, tV, tNotB, tAndB, tOrB, oB, pName, pNil, pCons, pTup, cNil, cCons, BV.cellOf, BV.setAll, qNil, qVal, qBor, qDic, qJar, isListD, bCall, mE, mPop, mPopAt, oIx, oAdd, oMul, oI, oLt, oLe, oGt, oGe, oSub, oMod, oFdiv, oPow, oNeg, oCatL, oRepL, atI_c0, atI_c1, atI_c2, oEq_int, oNe_int, oLen_l, oLen_t, oListOf_l, oListOf_t, oTupOf_l, oTupOf_t, oII, oAbs, oInt1, bInS, bOwnD, oDGet, bGetS, bDisp, bPairs, mergeD, bRevL, bLstR1, bLstR2, bSlL, bSlT, wNo, wAt, iSeq, oSeq_l, oSeq_t, iEnu, iZp, iRan, oR1, oR2, oKeys, entry, cellsMd, cellMd]
      refine ⟨_, rfl, by omega, fun a ha1 ha2 => ?_⟩
      refine ⟨_, rfl, by omega, fun b hb1 hb2 => ?_⟩
      simp
      refine ⟨by decide, by omega, _, rfl, by decide, fun z hz1 hz2 => ?_⟩
      have hok : roadsOk size (R ++ [(a, a + 1 + b)]) := by
        intro r hr
        rcases List.mem_append.mp hr with hr | hr
        · exact hRk r hr
        · simp at hr
          subst hr
          exact ⟨ha1, by show a < a + 1 + b; omega, by show a + 1 + b < (size : Int); omega⟩
      have hok2 : roadsOk size (R ++ [(a, a + 1 + b)] ++ [(a, a + 1 + b)]) := by
        intro r hr
        rcases List.mem_append.mp hr with hr | hr
        · exact hok r hr
        · exact hok r (List.mem_append_right _ hr)
      have eR : R.map arcD ++ [PyData.tuple [.int a, .int (a + 1 + b)]] = (R ++ [(a, a + 1 + b)]).map arcD := by simp [arcD]
      have eL : atI (R.map arcD ++ [PyData.tuple [.int a, .int (a + 1 + b)]]) (-1) = some (PyData.tuple [.int a, .int (a + 1 + b)]) := atI_last _ _
      by_cases hz : z = 0
      · simp [oEq_int, hz, eL]
        refine ⟨by omega, k _ ⟨R ++ [(a, a + 1 + b)] ++ [(a, a + 1 + b)], .val (.int (x : Int)), .val (.int a), c8, ?_, hok2, by simp; omega, by simp; omega⟩⟩
        simp [arcD]
      · simp [oEq_int, hz]
        refine k _ ⟨R ++ [(a, a + 1 + b)], .val (.int (x : Int)), .val (.int a), c8, ?_, hok, by simp; omega, by simp; omega⟩
        simp [arcD]
    · rintro ρ ⟨R, c6, c7, c8, rfl, hRk, hl1, hl2⟩
      simp at hl1 hl2
      subst hfin
      simp [sSeq, sNext, sIf, sRet, sSet, sSetL, sSetD, sAsg, sAsgM, sApp, sExt, sPut, sDPutB, sNewD, sPar, sTell, sRetOwn, sDrop, bC, bVar, bSee, b2, b1, bN, bNil, bCons, bTup, bLst, bIf, bAnd, bOr, bNot, bIsN, bNotN, isNoneD, tV, tNotB, tAndB, tOrB, oB, pName, pNil, pCons, pTup, cNil, cCons, BV.cellOf, BV.setAll, qNil, qVal, qBor, qDic, qJar, isListD, bCall, mE, mPop, mPopAt, oIx, oAdd, oMul, oI, oLt, oLe, oGt, oGe, oSub, oMod, oFdiv, oPow, oNeg, oCatL, oRepL, atI_c0, atI_c1, atI_c2, oEq_int, oNe_int, oLen_l, oLen_t, oListOf_l, oListOf_t, oTupOf_l, oTupOf_t, oII, oAbs, oInt1, bInS, bOwnD, oDGet, bGetS, bDisp, bPairs, mergeD, bRevL, bLstR1, bLstR2, bSlL, bSlT, wNo, wAt, iSeq, oSeq_l, oSeq_t, iEnu, iZp, iRan, oR1, oR2, oKeys, entry, cellsMd, cellMd]
      refine ⟨_, _, rfl, by simp; omega, by omega, fun ys zs hp2 hl3 => ?_⟩
      obtain ⟨r1, r2, rfl, rfl, hk2⟩ := few_arcs hp2
      simp
      have ecut : cutD (r1.map arcD) none (some 60) = (r1.take 60).map arcD := by
        unfold cutD
        rw [show (60 : Int) = ((60 : Nat) : Int) from rfl, HT.sIx_nat, HT.sIx_none, List.length_map, List.drop_zero, Nat.sub_zero, ← List.map_take]
        congr 1
        by_cases h60 : 60 ≤ r1.length
        · rw [Nat.min_eq_left h60]
        · rw [Nat.min_eq_right (by omega), List.take_of_length_le (Nat.le_refl _), List.take_of_length_le (by omega)]
      rw [ecut]
      simp at hl3
      refine ⟨by decide, ?_⟩
      have := q (r1.take 60) (by rw [List.length_take]; omega) (by rw [List.length_take]; omega) fun a ha => hRk a (hk2.mem_iff.mp (List.mem_append_left _ (List.mem_of_mem_take ha)))
      exact this
  simp
  refine ⟨by omega, by omega, ?_⟩
  rw [hsd]
  refine ⟨by omega, by omega, 9, rfl, by decide, fun z hz1 hz2 => ?_⟩
  simp
  by_cases hz : 0 < z
  · simp [hz, bLc, wipeE, sSeq, sNext, sIf, sRet, sSet, sSetL, sSetD, sAsg, sAsgM, sApp, sExt, sPut, sDPutB, sNewD, sPar, sTell, sRetOwn, sDrop, bC, bVar, bSee, b2, b1, bN, bNil, bCons, bTup, bLst, bIf, bAnd, bOr, bNot, bIsN, bNotN, isNoneD, tV, tNotB, tAndB, tOrB, oB, pName, pNil, pCons, pTup, cNil, cCons, BV.cellOf, BV.setAll, qNil, qVal, qBor, qDic, qJar, isListD, bCall, mE, mPop, mPopAt, oIx, oAdd, oMul, oI, oLt, oLe, oGt, oGe, oSub, oMod, oFdiv, oPow, oNeg, oCatL, oRepL, atI_c0, atI_c1, atI_c2, oEq_int, oNe_int, oLen_l, oLen_t, oListOf_l, oListOf_t, oTupOf_l, oTupOf_t, oII, oAbs, oInt1, bInS, bOwnD, oDGet, bGetS, bDisp, bPairs, mergeD, bRevL, bLstR1, bLstR2, bSlL, bSlT, wNo, wAt, iSeq, oSeq_l, oSeq_t, iEnu, iZp, iRan, oR1, oR2, oKeys, entry, cellsMd, cellMd]
    have ecut : cutD (spine.map PyData.int) (some 1) none = (spine.drop 1).map PyData.int := by
      unfold cutD
      rw [show (1 : Int) = ((1 : Nat) : Int) from rfl, HT.sIx_nat, HT.sIx_none, List.length_map]
      rw [Nat.min_eq_left (by omega), ← List.map_drop]
      exact List.take_of_length_le (by simp)
    rw [ecut, zipD_ints]
    refine lc_m (fun p : Int × Int => PyData.tuple [.int p.1, .int p.2]) (fun p : Int × Int => arcD p) _ _ (fun p hp K k => ?_) ?_
    · simp [sSeq, sNext, sIf, sRet, sSet, sSetL, sSetD, sAsg, sAsgM, sApp, sExt, sPut, sDPutB, sNewD, sPar, sTell, sRetOwn, sDrop, bC, bVar, bSee, b2, b1, bN, bNil, bCons, bTup, bLst, bIf, bAnd, bOr, bNot, bIsN, bNotN, isNoneD, tV, tNotB, tAndB, tOrB, oB, pName, pNil, pCons, pTup, cNil, cCons, BV.cellOf, BV.setAll, qNil, qVal, qBor, qDic, qJar, isListD, bCall, mE, mPop, mPopAt, oIx, oAdd, oMul, oI, oLt, oLe, oGt, oGe, oSub, oMod, oFdiv, oPow, oNeg, oCatL, oRepL, atI_c0, atI_c1, atI_c2, oEq_int, oNe_int, oLen_l, oLen_t, oListOf_l, oListOf_t, oTupOf_l, oTupOf_t, oII, oAbs, oInt1, bInS, bOwnD, oDGet, bGetS, bDisp, bPairs, mergeD, bRevL, bLstR1, bLstR2, bSlL, bSlT, wNo, wAt, iSeq, oSeq_l, oSeq_t, iEnu, iZp, iRan, oR1, oR2, oKeys, entry, cellsMd, cellMd]
      exact ⟨by decide, k⟩
    · refine rest (spine.zip (spine.drop 1)) (fun a ha => ?_) (by rw [List.length_zip]; omega)
      obtain ⟨h1, h2, h3⟩ := zip_tail spine hsp a ha
      exact ⟨(hsm _ h2).1, h1, (hsm _ h3).2⟩
  · simp [hz]
    exact rest [] (fun a ha => by simp at ha) (by simp)
end K46

namespace K46
open PySem PySem.Spec L2 BV Fl
def inR (n : Nat) (l : List Int) : Prop := ∀ x ∈ l, 0 ≤ x ∧ x < (n : Int)
def Φ_law_stops : Spe := fun ds Q => ∃ (size : Nat) (roads : List Arc), ds = [keyJ, netD size roads] ∧ 1 ≤ size ∧ size ≤ 1000 ∧ roads.length ≤ 1000 ∧
  ∀ feet heads ends : List Int, feet.Pairwise (· < ·) → heads.Pairwise (· < ·) → ends.Pairwise (· < ·) → 1 ≤ feet.length → inR size feet → inR size heads → inR roads.length ends → (∀ x ∈ heads, x ∉ feet) → Q (.tuple [tupI feet, tupI heads, tupI ends])
theorem few_sub {n : Nat} {k1 k2 : List Int} (h : (k1 ++ k2).Perm (rgI 0 n)) : k1.Nodup ∧ inR n k1 := by
  refine ⟨(List.nodup_append.mp (h.nodup_iff.mpr (rgI_nodup _ _))).1, fun x hx => ?_⟩
  have := rgI_mem.mp (h.mem_iff.mp (List.mem_append_left _ hx))
  omega
theorem l_law_stops (ds : List D) (Q : D → Prop) (n : En → Prop) (h : Φ_law_stops ds Q) : b_law_stops Φ_law_draw Φ_law_few Φ_law_pick (entry 9 ms_law_stops ds) n Q := by
  obtain ⟨size, roads, rfl, hs, hs2, hr, q⟩ := h
  have sl := sizeLine_eq
  unfold b_law_stops
  generalize hfin : sTell 3 _ = fin
  simp [sSeq, sNext, sIf, sRet, sSet, sSetL, sSetD, sAsg, sAsgM, sApp, sExt, sPut, sDPutB, sNewD, sPar, sTell, sRetOwn, sDrop, bC, bVar, bSee, b2, b1, bN, bNil, bCons, bTup, bLst, bIf, bAnd, bOr, bNot, bIsN, bNotN, isNoneD, tV, tNotB, tAndB, tOrB, oB, pName, pNil, pCons, pTup, cNil, cCons, BV.cellOf, BV.setAll, qNil, qVal, qBor, qDic, qJar, isListD, bCall, mE, mPop, mPopAt, oIx, oAdd, oMul, oI, oLt, oLe, oGt, oGe, oSub, oMod, oFdiv, oPow, oNeg, oCatL, oRepL, atI_c0, atI_c1, atI_c2, oEq_int, oNe_int, oLen_l, oLen_t, oListOf_l, oListOf_t, oTupOf_l, oTupOf_t, oII, oAbs, oInt1, bInS, bOwnD, oDGet, bGetS, bDisp, bPairs, mergeD, bRevL, bLstR1, bLstR2, bSlL, bSlT, wNo, wAt, iSeq, oSeq_l, oSeq_t, iEnu, iZp, iRan, oR1, oR2, oKeys, entry, cellsMd, cellMd, netD]
  have rest : ∀ feet : List Int, feet.Nodup → 1 ≤ feet.length → inR size feet → bLc (iRan oR1 (bCons (bVar 6) bNil)) [8] (pName 8) (tV (b2 oNotInU (bVar 8) (bVar 2))) (bVar 8) [.jar keyJ, .val (netD size roads), .val (.list (feet.map PyData.int)), .no, .no, .no, .val (.int (size : Int)), .val (.list ((rgI 0 roads.length).map PyData.int)), .no] fun d => match d with
    | .list ds => fin [.jar keyJ, .val (netD size roads), .val (.list (feet.map PyData.int)), .own ds, .no, .no, .val (.int (size : Int)), .val (.list ((rgI 0 roads.length).map PyData.int)), .no] n Q
    | _ => False := by
    intro feet hn hl1 hi
    simp [bLc, wipeE, sSeq, sNext, sIf, sRet, sSet, sSetL, sSetD, sAsg, sAsgM, sApp, sExt, sPut, sDPutB, sNewD, sPar, sTell, sRetOwn, sDrop, bC, bVar, bSee, b2, b1, bN, bNil, bCons, bTup, bLst, bIf, bAnd, bOr, bNot, bIsN, bNotN, isNoneD, tV, tNotB, tAndB, tOrB, oB, pName, pNil, pCons, pTup, cNil, cCons, BV.cellOf, BV.setAll, qNil, qVal, qBor, qDic, qJar, isListD, bCall, mE, mPop, mPopAt, oIx, oAdd, oMul, oI, oLt, oLe, oGt, oGe, oSub, oMod, oFdiv, oPow, oNeg, oCatL, oRepL, atI_c0, atI_c1, atI_c2, oEq_int, oNe_int, oLen_l, oLen_t, oListOf_l, oListOf_t, oTupOf_l, oTupOf_t, oII, oAbs, oInt1, bInS, bOwnD, oDGet, bGetS, bDisp, bPairs, mergeD, bRevL, bLstR1, bLstR2, bSlL, bSlT, wNo, wAt, iSeq, oSeq_l, oSeq_t, iEnu, iZp, iRan, oR1, oR2, oKeys, entry, cellsMd, cellMd]
    rw [iRng_eq]
    refine ⟨by omega, lc_fm PyData.int (fun p => (if p ∈ feet then none else some p).map PyData.int) _ _ (fun p hp K k => ?_) ?_⟩
    · simp [sSeq, sNext, sIf, sRet, sSet, sSetL, sSetD, sAsg, sAsgM, sApp, sExt, sPut, sDPutB, sNewD, sPar, sTell, sRetOwn, sDrop, bC, bVar, bSee, b2, b1, bN, bNil, bCons, bTup, bLst, bIf, bAnd, bOr, bNot, bIsN, bNotN, isNoneD, tV, tNotB, tAndB, tOrB, oB, pName, pNil, pCons, pTup, cNil, cCons, BV.cellOf, BV.setAll, qNil, qVal, qBor, qDic, qJar, isListD, bCall, mE, mPop, mPopAt, oIx, oAdd, oMul, oI, oLt, oLe, oGt, oGe, oSub, oMod, oFdiv, oPow, oNeg, oCatL, oRepL, atI_c0, atI_c1, atI_c2, oEq_int, oNe_int, oLen_l, oLen_t, oListOf_l, oListOf_t, oTupOf_l, oTupOf_t, oII, oAbs, oInt1, bInS, bOwnD, oDGet, bGetS, bDisp, bPairs, mergeD, bRevL, bLstR1, bLstR2, bSlL, bSlT, wNo, wAt, iSeq, oSeq_l, oSeq_t, iEnu, iZp, iRan, oR1, oR2, oKeys, entry, cellsMd, cellMd]
      refine notin_seq (.inr rfl) ?_
      by_cases e : p ∈ feet
      · simp [e] at k ⊢; exact k
      · simp [e] at k ⊢; exact k
    have el : List.filterMap (fun p => Option.map PyData.int (if p ∈ feet then none else some p)) (rgI 0 size) = ((rgI 0 size).filter fun p => decide (p ∉ feet)).map PyData.int := by
      generalize rgI 0 size = l
      induction l with
      | nil => rfl
      | cons a l ih => by_cases e : a ∈ feet <;> simp [e, ih]
    rw [el]
    generalize hL : ((rgI 0 size).filter fun p => decide (p ∉ feet)) = L
    have hLn : L.Nodup := by rw [← hL]; exact (rgI_nodup _ _).sublist List.filter_sublist
    have hLm : ∀ x ∈ L, (0 ≤ x ∧ x < (size : Int)) ∧ x ∉ feet := by
      intro x hx
      rw [← hL] at hx
      have := List.mem_filter.mp hx
      have h2 := rgI_mem.mp this.1
      exact ⟨by omega, by simpa using this.2⟩
    have hLl : L.length ≤ size := by
      have := List.length_filter_le (fun p => decide (p ∉ feet)) (rgI 0 size)
      rw [hL, rgI_len] at this
      exact this
    have rest2 : ∀ heads : List Int, heads.Nodup → (∀ x ∈ heads, x ∈ L) → 5 ≤ sizeLine ∧ Φ_law_pick [keyJ, .list [.int 0, .int 0, .int 1, .int 2, .int 3]] fun d => Φ_law_few [keyJ, .list ((rgI 0 roads.length).map PyData.int), d] fun d =>
        oSortI [.list (feet.map PyData.int)] fun d_1 => oTupOf [d_1] fun d_2 => oSortI [.list (heads.map PyData.int)] fun d_3 => oTupOf [d_3] fun d_4 => oSortI [d] fun d => oTupOf [d] fun d => 3 ≤ sizeLine ∧ Q (.tuple [d_2, d_4, d]) := by
      intro heads hh1 hh2
      refine ⟨by omega, _, rfl, by simp, by simp, fun x hx => ?_⟩
      have hx2 : ∃ m : Int, x = .int m ∧ -1000 ≤ m := by
        simp at hx
        rcases hx with rfl | rfl | rfl | rfl <;> exact ⟨_, rfl, by decide⟩
      obtain ⟨m, rfl, hm⟩ := hx2
      refine ⟨_, m, rfl, by simp [rgI_len]; omega, by omega, fun ys zs hp hl => ?_⟩
      obtain ⟨k1, k2, rfl, rfl, hk⟩ := few_ints hp
      refine ⟨feet, rfl, fun feet' p1 s1 => ⟨heads, rfl, fun heads' p2 s2 => ⟨k1, rfl, fun ends' p3 s3 => ⟨by omega, ?_⟩⟩⟩⟩
      refine q feet' heads' ends' (lt_of_sorted s1 (p1.nodup_iff.mpr hn)) (lt_of_sorted s2 (p2.nodup_iff.mpr hh1)) (lt_of_sorted s3 (p3.nodup_iff.mpr (few_sub hk).1)) (by rw [p1.length_eq]; exact hl1) (fun x hx => hi x (p1.mem_iff.mp hx)) (fun x hx => (hLm x (hh2 x (p2.mem_iff.mp hx))).1) (fun x hx => (few_sub hk).2 x (p3.mem_iff.mp hx)) (fun x hx hx2 => (hLm x (hh2 x (p2.mem_iff.mp hx))).2 (p1.mem_iff.mp hx2))
    have few : Φ_law_draw [keyJ, .int 3] fun d => Φ_law_few [keyJ, .list (L.map PyData.int), d] fun d => 5 ≤ sizeLine ∧ Φ_law_pick [keyJ, .list [.int 0, .int 0, .int 1, .int 2, .int 3]] fun d_1 => Φ_law_few [keyJ, .list ((rgI 0 roads.length).map PyData.int), d_1] fun d_1 =>
        oSortI [.list (feet.map PyData.int)] fun d_2 => oTupOf [d_2] fun d_3 => oSortI [d] fun d_4 => oTupOf [d_4] fun d_4 => oSortI [d_1] fun d => oTupOf [d] fun d => 3 ≤ sizeLine ∧ Q (.tuple [d_3, d_4, d]) := by
      refine ⟨3, rfl, by decide, fun i h0 h1 => ⟨_, i, rfl, by simp; omega, by omega, fun ys zs hp hl2 => ?_⟩⟩
      obtain ⟨k1, k2, rfl, rfl, hk⟩ := few_ints hp
      exact rest2 k1 (List.nodup_append.mp (hk.nodup_iff.mpr hLn)).1 fun x hx => hk.mem_iff.mp (List.mem_append_left _ hx)
    subst hfin
    simp [sSeq, sNext, sIf, sRet, sSet, sSetL, sSetD, sAsg, sAsgM, sApp, sExt, sPut, sDPutB, sNewD, sPar, sTell, sRetOwn, sDrop, bC, bVar, bSee, b2, b1, bN, bNil, bCons, bTup, bLst, bIf, bAnd, bOr, bNot, bIsN, bNotN, isNoneD, tV, tNotB, tAndB, tOrB, oB, pName, pNil, pCons, pTup, cNil, cCons, BV.cellOf, BV.setAll, qNil, qVal, qBor, qDic, qJar, isListD, bCall, mE, mPop, mPopAt, oIx, oAdd, oMul, oI, oLt, oLe, oGt, oGe, oSub, oMod, oFdiv, oPow, oNeg, oCatL, oRepL, atI_c0, atI_c1, atI_c2, oEq_int, oNe_int, oLen_l, oLen_t, oListOf_l, oListOf_t, oTupOf_l, oTupOf_t, oII, oAbs, oInt1, bInS, bOwnD, oDGet, bGetS, bDisp, bPairs, mergeD, bRevL, bLstR1, bLstR2, bSlL, bSlT, wNo, wAt, iSeq, oSeq_l, oSeq_t, iEnu, iZp, iRan, oR1, oR2, oKeys, entry, cellsMd, cellMd]
    refine in_seq (.inr rfl) ?_
    by_cases e : (size : Int) - 1 ∈ L
    · simp [e]
      refine ⟨3, rfl, by decide, fun i h0 h1 => ?_⟩
      by_cases e2 : 0 < i
      · simp [e2]
        exact ⟨by omega, rest2 [(size : Int) - 1] (by simp) (by simpa using e)⟩
      · simp [e2]
        exact few
    · simp [e]
      exact few
  refine ⟨by omega, 2, rfl, by decide, fun i h0 h1 => ?_⟩
  simp [oEq_int]
  by_cases e : i = 0
  · simp [e]
    refine ⟨by omega, ?_⟩
    rw [iRng_eq]
    exact rest [0] (by simp) (by simp) (fun x hx => by simp at hx; subst hx; omega)
  · simp [e]
    refine ⟨by omega, 2, rfl, by decide, fun i h0 h1 => ?_⟩
    rw [iRng_eq]
    refine ⟨_, _, rfl, by rw [List.length_map, rgI_len]; omega, by omega, fun ys zs hp hl => ?_⟩
    obtain ⟨k1, k2, rfl, rfl, hk⟩ := few_ints hp
    rw [List.length_map, List.length_map, rgI_len] at hl
    rw [iRng_eq]
    refine rest k1 (few_sub hk).1 (by omega) (few_sub hk).2
end K46

namespace K46
open PySem PySem.Spec L2 BV Fl
theorem l_law_jar (K : PySem.W.Frag) (ns : List Int) (hz : ns.length ≤ 63) : b_law_jar K (.scr K ns :: List.replicate (N_law_jar.length - 1) .no) := by
  have sl := sizeLine_eq
  unfold b_law_jar BV.tSeq
  generalize hfin : bJar _ _ _ = fin
  simp [sSeq, sNext, sIf, sRet, sSet, sSetL, sSetD, sAsg, sAsgM, sApp, sExt, sPut, sDPutB, sNewD, sPar, sTell, sRetOwn, sDrop, bC, bVar, bSee, b2, b1, bN, bNil, bCons, bTup, bLst, bIf, bAnd, bOr, bNot, bIsN, bNotN, isNoneD, tV, tNotB, tAndB, tOrB, oB, pName, pNil, pCons, pTup, cNil, cCons, BV.cellOf, BV.setAll, qNil, qVal, qBor, qDic, qJar, isListD, bCall, mE, mPop, mPopAt, oIx, oAdd, oMul, oI, oLt, oLe, oGt, oGe, oSub, oMod, oFdiv, oPow, oNeg, oCatL, oRepL, atI_c0, atI_c1, atI_c2, oEq_int, oNe_int, oLen_l, oLen_t, oListOf_l, oListOf_t, oTupOf_l, oTupOf_t, oII, oAbs, oInt1, bInS, bOwnD, oDGet, bGetS, bDisp, bPairs, mergeD, bRevL, bLstR1, bLstR2, bSlL, bSlT, wNo, wAt, iSeq, oSeq_l, oSeq_t, iEnu, iZp, iRan, oR1, oR2, oKeys, entry, cellsMd, cellMd, bScr, bScrLen, bLc, wipeE]
  refine ⟨hz, ?_⟩
  refine lc_m PyData.int (fun c : Int => PyData.int (2 * (if c < 0 then -c else c) + if c < 0 then 1 else 0)) _ _ (fun c hc Kk k => ?_) ?_
  · simp [sSeq, sNext, sIf, sRet, sSet, sSetL, sSetD, sAsg, sAsgM, sApp, sExt, sPut, sDPutB, sNewD, sPar, sTell, sRetOwn, sDrop, bC, bVar, bSee, b2, b1, bN, bNil, bCons, bTup, bLst, bIf, bAnd, bOr, bNot, bIsN, bNotN, isNoneD, tV, tNotB, tAndB, tOrB, oB, pName, pNil, pCons, pTup, cNil, cCons, BV.cellOf, BV.setAll, qNil, qVal, qBor, qDic, qJar, isListD, bCall, mE, mPop, mPopAt, oIx, oAdd, oMul, oI, oLt, oLe, oGt, oGe, oSub, oMod, oFdiv, oPow, oNeg, oCatL, oRepL, atI_c0, atI_c1, atI_c2, oEq_int, oNe_int, oLen_l, oLen_t, oListOf_l, oListOf_t, oTupOf_l, oTupOf_t, oII, oAbs, oInt1, bInS, bOwnD, oDGet, bGetS, bDisp, bPairs, mergeD, bRevL, bLstR1, bLstR2, bSlL, bSlT, wNo, wAt, iSeq, oSeq_l, oSeq_t, iEnu, iZp, iRan, oR1, oR2, oKeys, entry, cellsMd, cellMd]
    refine ⟨PySem.IntMulOk.of_left (by decide), ?_⟩
    simpa using k
  generalize hms : (ns.map fun c : Int => 2 * (if c < 0 then -c else c) + if c < 0 then 1 else 0) = ms
  have hl : ms.length ≤ 63 := by rw [← hms]; simpa using hz
  have em : (ns.map fun c : Int => PyData.int (2 * (if c < 0 then -c else c) + if c < 0 then 1 else 0)) = ms.map PyData.int := by rw [← hms]; simp [Function.comp_def]
  rw [em]
  unfold sFor
  simp [sSeq, sNext, sIf, sRet, sSet, sSetL, sSetD, sAsg, sAsgM, sApp, sExt, sPut, sDPutB, sNewD, sPar, sTell, sRetOwn, sDrop, bC, bVar, bSee, b2, b1, bN, bNil, bCons, bTup, bLst, bIf, bAnd, bOr, bNot, bIsN, bNotN, isNoneD, tV, tNotB, tAndB, tOrB, oB, pName, pNil, pCons, pTup, cNil, cCons, BV.cellOf, BV.setAll, qNil, qVal, qBor, qDic, qJar, isListD, bCall, mE, mPop, mPopAt, oIx, oAdd, oMul, oI, oLt, oLe, oGt, oGe, oSub, oMod, oFdiv, oPow, oNeg, oCatL, oRepL, atI_c0, atI_c1, atI_c2, oEq_int, oNe_int, oLen_l, oLen_t, oListOf_l, oListOf_t, oTupOf_l, oTupOf_t, oII, oAbs, oInt1, bInS, bOwnD, oDGet, bGetS, bDisp, bPairs, mergeD, bRevL, bLstR1, bLstR2, bSlL, bSlT, wNo, wAt, iSeq, oSeq_l, oSeq_t, iEnu, iZp, iRan, oR1, oR2, oKeys, entry, cellsMd, cellMd]
  refine for_inv PyData.int (fun _ ρ => ∃ (c : Cell) (s : Int), ρ = [.scr K ns, c, .val (.list (ms.map PyData.int)), .val (.int s)]) ms [] _ ⟨_, _, rfl⟩ ?_ ?_
  · rintro pre x ρ ⟨c, s, rfl⟩ hx nx' k
    simp [sSeq, sNext, sIf, sRet, sSet, sSetL, sSetD, sAsg, sAsgM, sApp, sExt, sPut, sDPutB, sNewD, sPar, sTell, sRetOwn, sDrop, bC, bVar, bSee, b2, b1, bN, bNil, bCons, bTup, bLst, bIf, bAnd, bOr, bNot, bIsN, bNotN, isNoneD, tV, tNotB, tAndB, tOrB, oB, pName, pNil, pCons, pTup, cNil, cCons, BV.cellOf, BV.setAll, qNil, qVal, qBor, qDic, qJar, isListD, bCall, mE, mPop, mPopAt, oIx, oAdd, oMul, oI, oLt, oLe, oGt, oGe, oSub, oMod, oFdiv, oPow, oNeg, oCatL, oRepL, atI_c0, atI_c1, atI_c2, oEq_int, oNe_int, oLen_l, oLen_t, oListOf_l, oListOf_t, oTupOf_l, oTupOf_t, oII, oAbs, oInt1, bInS, bOwnD, oDGet, bGetS, bDisp, bPairs, mergeD, bRevL, bLstR1, bLstR2, bSlL, bSlT, wNo, wAt, iSeq, oSeq_l, oSeq_t, iEnu, iZp, iRan, oR1, oR2, oKeys, entry, cellsMd, cellMd]
    exact ⟨PySem.IntMulOk.of_right (by decide), k _ ⟨_, _, rfl⟩⟩
  · rintro ρ ⟨c, s, rfl⟩
    subst hfin
    simp [bJar, sSeq, sNext, sIf, sRet, sSet, sSetL, sSetD, sAsg, sAsgM, sApp, sExt, sPut, sDPutB, sNewD, sPar, sTell, sRetOwn, sDrop, bC, bVar, bSee, b2, b1, bN, bNil, bCons, bTup, bLst, bIf, bAnd, bOr, bNot, bIsN, bNotN, isNoneD, tV, tNotB, tAndB, tOrB, oB, pName, pNil, pCons, pTup, cNil, cCons, BV.cellOf, BV.setAll, qNil, qVal, qBor, qDic, qJar, isListD, bCall, mE, mPop, mPopAt, oIx, oAdd, oMul, oI, oLt, oLe, oGt, oGe, oSub, oMod, oFdiv, oPow, oNeg, oCatL, oRepL, atI_c0, atI_c1, atI_c2, oEq_int, oNe_int, oLen_l, oLen_t, oListOf_l, oListOf_t, oTupOf_l, oTupOf_t, oII, oAbs, oInt1, bInS, bOwnD, oDGet, bGetS, bDisp, bPairs, mergeD, bRevL, bLstR1, bLstR2, bSlL, bSlT, wNo, wAt, iSeq, oSeq_l, oSeq_t, iEnu, iZp, iRan, oR1, oR2, oKeys, entry, cellsMd, cellMd, bLc, wipeE]
    refine lc_fm PyData.int (fun x => (if 1000000000000000 ≤ x then some x else none).map PyData.int) _ _ (fun x hx Kk k => ?_) ?_
    · simp [sSeq, sNext, sIf, sRet, sSet, sSetL, sSetD, sAsg, sAsgM, sApp, sExt, sPut, sDPutB, sNewD, sPar, sTell, sRetOwn, sDrop, bC, bVar, bSee, b2, b1, bN, bNil, bCons, bTup, bLst, bIf, bAnd, bOr, bNot, bIsN, bNotN, isNoneD, tV, tNotB, tAndB, tOrB, oB, pName, pNil, pCons, pTup, cNil, cCons, BV.cellOf, BV.setAll, qNil, qVal, qBor, qDic, qJar, isListD, bCall, mE, mPop, mPopAt, oIx, oAdd, oMul, oI, oLt, oLe, oGt, oGe, oSub, oMod, oFdiv, oPow, oNeg, oCatL, oRepL, atI_c0, atI_c1, atI_c2, oEq_int, oNe_int, oLen_l, oLen_t, oListOf_l, oListOf_t, oTupOf_l, oTupOf_t, oII, oAbs, oInt1, bInS, bOwnD, oDGet, bGetS, bDisp, bPairs, mergeD, bRevL, bLstR1, bLstR2, bSlL, bSlT, wNo, wAt, iSeq, oSeq_l, oSeq_t, iEnu, iZp, iRan, oR1, oR2, oKeys, entry, cellsMd, cellMd]
      refine ⟨⟨by decide, by decide, by decide⟩, ?_⟩
      by_cases e : 1000000000000000 ≤ x <;> simp [e] at k ⊢ <;> exact k
    · refine ⟨ms.filterMap (fun x => if 1000000000000000 ≤ x then some x else none), by rw [List.map_filterMap], ?_⟩
      exact Nat.le_trans (List.length_filterMap_le _ _) hl
end K46

namespace K46
open PySem PySem.Spec L2 BV Fl
/-! the plain law: the greatest flow is the greatest of all -/
theorem across_le2 {S : Int → Bool} : ∀ (as : List Arc) (room : List (Option Int)) (xs : List Int), xs.length = as.length → room.length = as.length → (∀ (k : Nat) (a : Arc) (x : Int), as[k]? = some a → xs[k]? = some x → S a.1 = true → S a.2 = false → ∃ r, room[k]? = some (some r) ∧ x ≤ r) →
    (∀ (k : Nat) (a : Arc) (x : Int), as[k]? = some a → xs[k]? = some x → S a.1 = false → S a.2 = true → 0 ≤ x) → across S as xs ≤ capOf S as room
  | [], _, _, _, _, _, _ => by simp [across, tot, capOf]
  | a :: as, [], _, _, h, _, _ => by simp at h
  | a :: as, _ :: _, [], h, _, _, _ => by simp at h
  | a :: as, r :: rs, x :: xs, h1, h2, h3, h4 => by
    have ih := across_le2 (S := S) as rs xs (by simpa using h1) (by simpa using h2) (fun k a y h h' => by have := h3 (k + 1) a y (by simpa using h) (by simpa using h'); simpa using this) (fun k a y h h' => by have := h4 (k + 1) a y (by simpa using h) (by simpa using h'); simpa using this)
    have t3 := h3 0 a x rfl rfl
    have t4 := h4 0 a x rfl rfl
    simp only [across, tot, capOf] at ih ⊢
    cases e1 : S a.1 <;> cases e2 : S a.2 <;> simp only [e1, e2, ind] at * <;> simp only [Bool.false_eq_true, if_false, if_true, and_true, and_false, reduceCtorEq, true_and, false_and] at *
    · omega
    · have := t4 trivial trivial
      omega
    · obtain ⟨q, hq, hx⟩ := t3 trivial trivial
      simp at hq
      subst hq
      simp only [Option.getD_some]
      omega
    · omega
theorem tot_app (w : Arc → Int) : ∀ (as : List Arc) (xs : List Int) (bs : List Arc) (ys : List Int), xs.length = as.length → tot w (as ++ bs) (xs ++ ys) = tot w as xs + tot w bs ys
  | [], [], _, _, _ => by simp [tot]
  | a :: as, [], _, _, h => by simp at h
  | [], x :: xs, _, _, h => by simp at h
  | a :: as, x :: xs, bs, ys, h => by
    have := tot_app w as xs bs ys (by simpa using h)
    simp only [List.cons_append, tot, this]
    omega
abbrev wv (v : Int) : Arc → Int := fun a => ind (a.1 == v) - ind (a.2 == v)
def hv (roads : List Arc) (ends f : List Int) (v : Int) : Int := goes roads f v - comes roads ends f v
theorem tot_roads_aux (roads : List Arc) (ends : List Int) (v : Int) (hv2 : v ≠ -2) : ∀ (rs : List Arc) (f : List Int) (k : Nat), (∀ i, roads[k + i]? = rs[i]?) →
    tot (wv v) ((rs.zipIdx k).map fun p => (p.1.1, if ((p.2 : Nat) : Int) ∈ ends then -2 else p.1.2)) f = ((f.zip rs).filterMap fun p => if p.2.1 = v then some p.1 else none).sum - ((f.zipIdx k).filterMap fun p => if (roads[p.2]?.map (·.2)) = some v ∧ ((p.2 : Nat) : Int) ∉ ends then some p.1 else none).sum
  | [], f, k, h => by
    have h0 : ∀ (f : List Int) (k2 : Nat), k ≤ k2 → ((f.zipIdx k2).filterMap fun p => if (roads[p.2]?.map (·.2)) = some v ∧ ((p.2 : Nat) : Int) ∉ ends then some p.1 else none) = [] := by
      intro f
      induction f with
      | nil => intro k2 _; rfl
      | cons x f ih =>
        intro k2 hk
        have e : roads[k2]? = none := by
          have := h (k2 - k)
          rw [show k + (k2 - k) = k2 by omega] at this
          rw [this]; simp
        rw [List.zipIdx_cons, List.filterMap_cons_none (by simp [e]), ih (k2 + 1) (by omega)]
    rw [h0 f k (Nat.le_refl _)]
    simp [tot]
  | a :: rs, [], k, h => by simp [tot]
  | a :: rs, x :: f, k, h => by
    have ih := tot_roads_aux roads ends v hv2 rs f (k + 1) (fun i => by
      have := h (i + 1)
      rw [show k + 1 + i = k + (i + 1) by omega, this]; simp)
    have e0 : roads[k]? = some a := by have := h 0; simpa using this
    simp only [List.zipIdx_cons, List.map_cons, tot, List.zip_cons_cons, List.filterMap_cons, ih, e0, Option.map_some]
    by_cases e1 : a.1 = v
    · by_cases e2 : ((k : Nat) : Int) ∈ ends
      · simp [e1, e2, wv, ind, Ne.symm hv2]; omega
      · by_cases e3 : a.2 = v
        · simp [e1, e2, e3, wv, ind]; omega
        · simp [e1, e2, e3, wv, ind]; omega
    · by_cases e2 : ((k : Nat) : Int) ∈ ends
      · simp [e1, e2, wv, ind, Ne.symm hv2]
      · by_cases e3 : a.2 = v
        · simp [e1, e2, e3, wv, ind]; omega
        · simp [e1, e2, e3, wv, ind]
theorem tot_roads (roads : List Arc) (ends f : List Int) {v : Int} (hv2 : v ≠ -2) : tot (wv v) (roads.zipIdx.map fun p => (p.1.1, if ((p.2 : Nat) : Int) ∈ ends then -2 else p.1.2)) f = hv roads ends f v :=
  tot_roads_aux roads ends v hv2 roads f 0 (fun i => by simp)
theorem out_split (roads : List Arc) (feet heads ends f x y : List Int) {v : Int} (hv2 : v ≠ -2) (hf : f.length = roads.length) (hx : x.length = feet.length) :
    out (arcsOf roads feet heads ends) (f ++ (x ++ y)) v = hv roads ends f v + (tot (wv v) (feet.map fun p => (-1, p)) x + tot (wv v) (heads.map fun p => (p, -2)) y) := by
  unfold out arcsOf
  rw [List.append_assoc, tot_app _ _ _ _ _ (by simpa using hf), tot_app _ _ _ _ _ (by simpa using hx), tot_roads roads ends f hv2]
theorem F_none {v : Int} (h1 : v ≠ -1) : ∀ (feet x : List Int), v ∉ feet → tot (wv v) (feet.map fun p => (-1, p)) x = 0
  | [], _, _ => by simp [tot]
  | _ :: _, [], _ => by simp [tot]
  | p :: feet, a :: x, h => by
    have ih := F_none h1 feet x (fun z => h (List.mem_cons_of_mem _ z))
    have : p ≠ v := fun e => h (by rw [e]; exact List.mem_cons_self)
    simp [tot, ih, wv, ind, this, Ne.symm h1]
theorem F_at {v : Int} (h1 : v ≠ -1) (h : Int → Int) : ∀ (feet : List Int), feet.Nodup → tot (wv v) (feet.map fun p => (-1, p)) (feet.map h) = if v ∈ feet then -h v else 0
  | [], _ => by simp [tot]
  | p :: feet, nd => by
    have nd2 := List.nodup_cons.mp nd
    by_cases e : p = v
    · subst e
      have := F_none h1 feet (feet.map h) nd2.1
      simp [tot, this, wv, ind, Ne.symm h1]
    · have ih := F_at h1 h feet nd2.2
      simp [tot, ih, wv, ind, e, Ne.symm h1, Ne.symm e]
theorem F_src : ∀ (feet x : List Int), x.length = feet.length → (∀ p ∈ feet, p ≠ -1) → tot (wv (-1)) (feet.map fun p => (-1, p)) x = x.sum
  | [], [], _, _ => by simp [tot]
  | _ :: _, [], h, _ => by simp at h
  | [], _ :: _, h, _ => by simp at h
  | p :: feet, a :: x, h, hp => by
    have ih := F_src feet x (by simpa using h) (fun q hq => hp q (List.mem_cons_of_mem _ hq))
    have := hp p List.mem_cons_self
    simp [tot, ih, wv, ind, this]
theorem F_sum : ∀ (feet x : List Int), x.length = feet.length → feet.Nodup → (∀ p ∈ feet, p ≠ -1) → (feet.map fun q => tot (wv q) (feet.map fun p => (-1, p)) x).sum = - x.sum
  | [], [], _, _, _ => by simp
  | _ :: _, [], h, _, _ => by simp at h
  | [], _ :: _, h, _, _ => by simp at h
  | p :: feet, a :: x, h, nd, hp => by
    have nd2 := List.nodup_cons.mp nd
    have ih := F_sum feet x (by simpa using h) nd2.2 (fun q hq => hp q (List.mem_cons_of_mem _ hq))
    have hp1 := hp p List.mem_cons_self
    have e0 := F_none hp1 feet x nd2.1
    have e1 : (feet.map fun q => tot (wv q) ((p :: feet).map fun p => (-1, p)) (a :: x)) = feet.map fun q => tot (wv q) (feet.map fun p => (-1, p)) x := by
      refine List.map_congr_left fun q hq => ?_
      have h1 : p ≠ q := fun e => nd2.1 (by rw [e]; exact hq)
      have h2 := hp q (List.mem_cons_of_mem _ hq)
      simp [tot, wv, ind, h1, Ne.symm h2]
    rw [List.map_cons, List.sum_cons, e1, ih]
    simp [tot, wv, ind, e0, Ne.symm hp1]
    omega
theorem G_none {v : Int} (h2 : v ≠ -2) : ∀ (heads y : List Int), v ∉ heads → tot (wv v) (heads.map fun p => (p, -2)) y = 0
  | [], _, _ => by simp [tot]
  | _ :: _, [], _ => by simp [tot]
  | p :: heads, a :: y, h => by
    have ih := G_none h2 heads y (fun z => h (List.mem_cons_of_mem _ z))
    have : p ≠ v := fun e => h (by rw [e]; exact List.mem_cons_self)
    simp [tot, ih, wv, ind, this, Ne.symm h2]
theorem G_at {v : Int} (h2 : v ≠ -2) (h : Int → Int) : ∀ (heads : List Int), heads.Nodup → tot (wv v) (heads.map fun p => (p, -2)) (heads.map h) = if v ∈ heads then h v else 0
  | [], _ => by simp [tot]
  | p :: heads, nd => by
    have nd2 := List.nodup_cons.mp nd
    by_cases e : p = v
    · subst e
      have := G_none h2 heads (heads.map h) nd2.1
      simp [tot, this, wv, ind, Ne.symm h2]
    · have ih := G_at h2 h heads nd2.2
      simp [tot, ih, wv, ind, e, Ne.symm h2, Ne.symm e]
end K46

namespace K46
open PySem PySem.Spec L2 BV Fl
theorem dec_onto : ∀ (room g : List Int), g.length = room.length → (∀ (k : Nat) (b x : Int), room[k]? = some b → g[k]? = some x → 0 ≤ x ∧ x ≤ b) → ∃ m : Int, 0 ≤ m ∧ m < prodR room ∧ dec room m = g
  | [], [], _, _ => ⟨0, by decide, by simp [prodR], rfl⟩
  | [], _ :: _, h, _ => by simp at h
  | _ :: _, [], h, _ => by simp at h
  | b :: room, x :: g, h, hb => by
    obtain ⟨m, h1, h2, h3⟩ := dec_onto room g (by simpa using h) (fun k b x h h' => hb (k + 1) b x (by simpa using h) (by simpa using h'))
    have h0 := hb 0 b x rfl rfl
    have hp : 0 < b + 1 := by omega
    refine ⟨x + (b + 1) * m, ?_, ?_, ?_⟩
    · have := Int.mul_nonneg (Int.le_of_lt hp) h1; omega
    · have e : (b + 1) * (m + 1) ≤ (b + 1) * prodR room := Int.mul_le_mul_of_nonneg_left (by omega) (by omega)
      rw [Int.mul_add] at e
      simp only [prodR]
      omega
    · have e1 : (x + (b + 1) * m) % (b + 1) = x := by
        rw [Int.add_mul_emod_self_left]; exact Int.emod_eq_of_lt h0.1 (by omega)
      have e2 : (x + (b + 1) * m) / (b + 1) = m := by
        rw [Int.add_mul_ediv_left _ _ (by omega), Int.ediv_eq_zero_of_lt h0.1 (by omega)]; omega
      simp only [dec, e1, e2, h3]
theorem dec_box : ∀ (room : List Int) (m : Int), (∀ b ∈ room, 0 ≤ b) → ∀ (k : Nat) (b x : Int), room[k]? = some b → (dec room m)[k]? = some x → 0 ≤ x ∧ x ≤ b
  | [], _, _, k, b, x, h, _ => by simp at h
  | c :: room, m, hr, 0, b, x, h, h' => by
    simp [dec] at h h'
    have := hr c List.mem_cons_self
    have h1 := Int.emod_nonneg m (show c + 1 ≠ 0 by omega)
    have h2 := Int.emod_lt_of_pos m (show 0 < c + 1 by omega)
    omega
  | c :: room, m, hr, k + 1, b, x, h, h' => dec_box room (m / (c + 1)) (fun b hb => hr b (List.mem_cons_of_mem _ hb)) k b x (by simpa using h) (by simpa [dec] using h')
theorem mem_every {n : Nat} {roads : List Arc} {room feet heads ends g : List Int} (hr : ∀ b ∈ room, 0 ≤ b) : g ∈ every n roads room feet heads ends ↔ g.length = room.length ∧ (∀ (k : Nat) (b x : Int), room[k]? = some b → g[k]? = some x → 0 ≤ x ∧ x ≤ b) ∧ good n roads feet heads ends g = true := by
  unfold every
  rw [List.mem_filterMap]
  constructor
  · rintro ⟨m, hm, e⟩
    by_cases hg : good n roads feet heads ends (dec room (m : Int)) = true
    · rw [if_pos hg] at e
      cases e
      exact ⟨dec_len _ _, dec_box room m hr, hg⟩
    · rw [if_neg hg] at e; cases e
  · rintro ⟨h1, h2, h3⟩
    obtain ⟨m, m0, m1, e⟩ := dec_onto room g h1 h2
    refine ⟨m.toNat, List.mem_range.mpr (by omega), ?_⟩
    rw [show ((m.toNat : Nat) : Int) = m by omega, e, if_pos h3]
theorem goes_zero {roads : List Arc} {v : Int} (h : ∀ a ∈ roads, a.1 ≠ v) (f : List Int) : goes roads f v = 0 := by
  unfold goes
  have : ((f.zip roads).filterMap fun p => if p.2.1 = v then some p.1 else none) = [] := by
    rw [List.filterMap_eq_nil_iff]
    intro p hp
    have := h p.2 (List.of_mem_zip hp).2
    simp [this]
  rw [this]; rfl
theorem comes_zero {roads : List Arc} {v : Int} (h : ∀ a ∈ roads, a.2 ≠ v) (ends f : List Int) : comes roads ends f v = 0 := by
  unfold comes
  have : (f.zipIdx.filterMap fun p => if (roads[p.2]?.map (·.2)) = some v ∧ ((p.2 : Nat) : Int) ∉ ends then some p.1 else none) = [] := by
    rw [List.filterMap_eq_nil_iff]
    intro p hp
    rw [if_neg]
    rintro ⟨h1, _⟩
    cases hq : roads[p.2]? with
    | none => rw [hq] at h1; cases h1
    | some a =>
      rw [hq] at h1
      simp at h1
      exact h a (List.mem_of_getElem? hq) h1
  rw [this]; rfl
/-- what the statement draws: a net, stops, room -/
structure Setup (n : Nat) (roads : List Arc) (room feet heads ends : List Int) : Prop where
  rk : roadsOk n roads
  rl : room.length = roads.length
  rn : ∀ b ∈ room, 0 ≤ b
  fn : feet.Nodup
  hn : heads.Nodup
  fi : inR n feet
  hi : inR n heads
  dj : ∀ x ∈ heads, x ∉ feet
section
variable {n : Nat} {roads : List Arc} {room feet heads ends : List Int} (s : Setup n roads room feet heads ends)
include s
theorem hv_off {v : Int} (h : v < 0 ∨ (n : Int) ≤ v) (f : List Int) : hv roads ends f v = 0 := by
  unfold hv
  rw [goes_zero (fun a ha e => by have := s.rk a ha; omega), comes_zero (fun a ha e => by have := s.rk a ha; omega)]
  rfl
theorem ext_out (f : List Int) (hf : f.length = roads.length) (hg : good n roads feet heads ends f = true) {v : Int} (h1 : v ≠ -1) (h2 : v ≠ -2) :
    out (arcsOf roads feet heads ends) (f ++ (feet.map (hv roads ends f) ++ heads.map fun p => -hv roads ends f p)) v = 0 := by
  rw [out_split _ _ _ _ _ _ _ h2 hf (by simp), F_at h1 _ _ s.fn, G_at h2 (fun p => -hv roads ends f p) _ s.hn]
  by_cases hr : v < 0 ∨ (n : Int) ≤ v
  · rw [hv_off s hr]; simp
  · have hv1 : v.toNat ∈ List.range n := List.mem_range.mpr (by omega)
    have := List.all_eq_true.mp hg _ hv1
    rw [show ((v.toNat : Nat) : Int) = v by omega] at this
    by_cases e1 : v ∈ feet
    · have e2 : v ∉ heads := fun z => s.dj v z e1
      simp [e1, e2]; omega
    · by_cases e2 : v ∈ heads
      · simp [e1, e2]; omega
      · simp [okAt, e1, e2] at this
        simp [e1, e2, hv, this]
theorem ext_src (f x y : List Int) (hf : f.length = roads.length) (hx : x.length = feet.length) : out (arcsOf roads feet heads ends) (f ++ (x ++ y)) (-1) = x.sum := by
  rw [out_split _ _ _ _ _ _ _ (by decide) hf hx, F_src _ _ hx (fun p hp => by have := s.fi p hp; omega), G_none (by decide) _ _ (fun z => by have := s.hi _ z; omega), hv_off s (.inl (by decide))]
  omega
end
end K46

namespace K46
open PySem PySem.Spec L2 BV Fl
section
variable {n : Nat} {roads : List Arc} {room feet heads ends : List Int} (s : Setup n roads room feet heads ends)
include s
omit s in
theorem capOf_bd {S : Int → Bool} {c : Int} (hc : 0 ≤ c) : ∀ (as : List Arc) (rs : List (Option Int)), (∀ r, some r ∈ rs → 0 ≤ r ∧ r ≤ c) → 0 ≤ capOf S as rs ∧ capOf S as rs ≤ c * as.length
  | [], _, _ => by simp [capOf]
  | a :: as, [], _ => by simp only [capOf]; exact ⟨Int.le_refl _, Int.mul_nonneg hc (by omega)⟩
  | a :: as, r :: rs, h => by
    have ih := capOf_bd (S := S) hc as rs fun q hq => h q (List.mem_cons_of_mem _ hq)
    have h0 : 0 ≤ r.getD 0 ∧ r.getD 0 ≤ c := by
      cases r with
      | none => exact ⟨Int.le_refl _, hc⟩
      | some q => exact h q List.mem_cons_self
    simp only [capOf, List.length_cons, Int.natCast_add, Int.mul_add]
    split <;> simp <;> omega
theorem worth_src (f x y : List Int) (hf : f.length = roads.length) (hx : x.length = feet.length) (h0 : ∀ v, v ≠ -1 → v ≠ -2 → out (arcsOf roads feet heads ends) (f ++ (x ++ y)) v = 0) : worth roads ends f feet = x.sum := by
  have e : worth roads ends f feet = (feet.map fun q => -tot (wv q) (feet.map fun p => (-1, p)) x).sum := by
    unfold worth
    congr 1
    refine List.map_congr_left fun p hp => ?_
    have hp2 := s.fi p hp
    have h1 : p ≠ -1 := by omega
    have h2 : p ≠ -2 := by omega
    have := h0 p h1 h2
    rw [out_split _ _ _ _ _ _ _ h2 hf hx, G_none h2 _ _ (fun z => s.dj p z hp)] at this
    unfold hv at this
    omega
  have neg : ∀ l : List Int, (l.map fun q => -q).sum = -l.sum := by
    intro l
    induction l with
    | nil => rfl
    | cons a l ih => simp only [List.map_cons, List.sum_cons, ih]; omega
  rw [e, show (feet.map fun q => -tot (wv q) (feet.map fun p => (-1, p)) x) = (feet.map fun q => tot (wv q) (feet.map fun p => (-1, p)) x).map fun q => -q by rw [List.map_map]; rfl, neg, F_sum feet x hx s.fn (fun p hp => by have := s.fi p hp; omega)]
  omega
theorem good_of (f x y : List Int) (hf : f.length = roads.length) (hx : x.length = feet.length) (h0 : ∀ v, v ≠ -1 → v ≠ -2 → out (arcsOf roads feet heads ends) (f ++ (x ++ y)) v = 0) : good n roads feet heads ends f = true := by
  refine List.all_eq_true.mpr fun v hv' => ?_
  have := h0 (v : Int) (by omega) (by omega)
  rw [out_split _ _ _ _ _ _ _ (by omega) hf hx] at this
  by_cases e1 : (v : Int) ∈ feet
  · simp [okAt, e1]
  · by_cases e2 : (v : Int) ∈ heads
    · simp [okAt, e2]
    · rw [F_none (by omega) _ _ e1, G_none (by omega) _ _ e2] at this
      unfold hv at this
      simp [okAt, e1, e2]
      omega
theorem arc_kind {k : Nat} {a : Arc} (h : (arcsOf roads feet heads ends)[k]? = some a) : k < roads.length ∨ (roads.length ≤ k ∧ (a.1 = -1 ∨ a.2 = -2)) := by
  by_cases hk : k < roads.length
  · exact .inl hk
  · refine .inr ⟨by omega, ?_⟩
    unfold arcsOf at h
    rw [List.append_assoc, List.getElem?_append_right (by simp; omega)] at h
    have := List.mem_of_getElem? h
    rcases List.mem_append.mp this with z | z
    · obtain ⟨p, _, rfl⟩ := List.mem_map.mp z; exact .inl rfl
    · obtain ⟨p, _, rfl⟩ := List.mem_map.mp z; exact .inr rfl
/-- what the text finds is the greatest of all -/
theorem greatest {xs : List Int} {t : Tr} (fl : Flow (arcsOf roads feet heads ends) (widen (room.map some) (feet.length + heads.length)) (-1) (-2) xs) (T : Tree (arcsOf roads feet heads ends) (widen (room.map some) (feet.length + heads.length)) xs (-1) t) (hE : -2 ∉ keys t)
    (hc : ∀ q ∈ keys t, Closed (arcsOf roads feet heads ends) (widen (room.map some) (feet.length + heads.length)) xs t q) :
    xs.take room.length ∈ every n roads room feet heads ends ∧ worth roads ends (xs.take room.length) feet = ((xs.drop room.length).take feet.length).sum ∧ (∀ g ∈ every n roads room feet heads ends, worth roads ends g feet ≤ ((xs.drop room.length).take feet.length).sum) ∧ ∃ S : Int → Bool, ((xs.drop room.length).take feet.length).sum = capOf S (arcsOf roads feet heads ends) (widen (room.map some) (feet.length + heads.length)) := by
  have hlen := fl.len
  rw [arcsOf_len] at hlen
  have rl := s.rl
  have wl : (widen (room.map some) (feet.length + heads.length)).length = (arcsOf roads feet heads ends).length := by rw [arcsOf_len]; simp [widen]; omega
  have ex : xs = xs.take room.length ++ ((xs.drop room.length).take feet.length ++ (xs.drop room.length).drop feet.length) := by rw [List.take_append_drop, List.take_append_drop]
  generalize hf : xs.take room.length = f at ex
  generalize hx : (xs.drop room.length).take feet.length = x at ex
  generalize hy : (xs.drop room.length).drop feet.length = y at ex
  have lf : f.length = roads.length := by rw [← hf, List.length_take]; omega
  have lx : x.length = feet.length := by rw [← hx, List.length_take, List.length_drop]; omega
  have h0 : ∀ v, v ≠ -1 → v ≠ -2 → out (arcsOf roads feet heads ends) (f ++ (x ++ y)) v = 0 := by rw [← ex]; exact fl.cons
  have b0 : (-1 : Int) ∈ keys t := by
    have := T.hd
    exact List.mem_map.mpr ⟨_, List.mem_of_getElem? this, rfl⟩
  have hS : inT t (-1) = true := by simp [inT, b0]
  have hE2 : inT t (-2) = false := by simp [inT, hE]
  have room_at : ∀ {k : Nat} {r : Int}, (widen (room.map some) (feet.length + heads.length))[k]? = some (some r) → k < room.length ∧ room[k]? = some r := by
    intro k r h
    unfold widen at h
    by_cases hk : k < room.length
    · rw [List.getElem?_append_left (by simpa using hk), List.getElem?_map] at h
      exact ⟨hk, by cases e : room[k]? with
        | none => rw [e] at h; cases h
        | some b => rw [e] at h; cases h; rfl⟩
    · rw [List.getElem?_append_right (by simpa using Nat.le_of_not_lt hk)] at h
      have := List.mem_of_getElem? h
      rw [List.mem_replicate] at this
      cases this.2
  have room_up : ∀ {k : Nat} {r : Int}, room[k]? = some r → (widen (room.map some) (feet.length + heads.length))[k]? = some (some r) := by
    intro k r h
    have hk : k < room.length := (List.getElem?_eq_some_iff.mp h).1
    unfold widen
    rw [List.getElem?_append_left (by simpa using hk), List.getElem?_map, h]; rfl
  have full : ∀ (k : Nat) (a : Arc) (z : Int), (arcsOf roads feet heads ends)[k]? = some a → xs[k]? = some z → inT t a.1 = true → inT t a.2 = false → (widen (room.map some) (feet.length + heads.length))[k]? = some (some z) := by
    intro k a z h hz h1 h2
    simp [inT] at h1 h2
    cases hh : Fl.has (widen (room.map some) (feet.length + heads.length)) xs k true with
    | true => exact absurd (hc a.1 h1 k a.2 true (.inl ⟨rfl, h⟩) hh) h2
    | false =>
      have hk : k < (widen (room.map some) (feet.length + heads.length)).length := by rw [wl]; exact (List.getElem?_eq_some_iff.mp h).1
      unfold Fl.has at hh
      rw [if_pos rfl, List.getD_eq_getElem?_getD, List.getElem?_eq_getElem hk] at hh
      cases e : (widen (room.map some) (feet.length + heads.length))[k] with
      | none => rw [e] at hh; cases hh
      | some r =>
        rw [e] at hh
        rw [List.getElem?_eq_getElem hk, e]
        simp [hz] at hh
        have := fl.le k z (some r) hz (by rw [List.getElem?_eq_getElem hk, e])
        have h3 : z ≤ r := this
        have : r = z := by omega
        rw [this]
  have back : ∀ (k : Nat) (a : Arc) (z : Int), (arcsOf roads feet heads ends)[k]? = some a → xs[k]? = some z → inT t a.1 = false → inT t a.2 = true → z = 0 := by
    intro k a z h hz h1 h2
    simp [inT] at h1 h2
    cases hh : Fl.has (widen (room.map some) (feet.length + heads.length)) xs k false with
    | true => exact absurd (hc a.2 h2 k a.1 false (.inr ⟨rfl, h⟩) hh) h1
    | false =>
      have := fl.nn k z hz
      simp [Fl.has, hz] at hh
      omega
  have val : x.sum = capOf (inT t) (arcsOf roads feet heads ends) (widen (room.map some) (feet.length + heads.length)) := by
    rw [← across_full _ _ xs fl.len wl full back, across_eq hS hE2 fl.cons, ex, ext_src s f x y lf lx]
  have cut : ∀ (k : Nat) (a : Arc), (arcsOf roads feet heads ends)[k]? = some a → inT t a.1 = true → inT t a.2 = false → ∃ r, (widen (room.map some) (feet.length + heads.length))[k]? = some (some r) := by
    intro k a h h1 h2
    have hk : k < xs.length := by rw [fl.len]; exact (List.getElem?_eq_some_iff.mp h).1
    exact ⟨_, full k a _ h (List.getElem?_eq_getElem hk) h1 h2⟩
  refine ⟨(mem_every s.rn).mpr ⟨by omega, fun k b z hb hz => ?_, good_of s f x y lf lx h0⟩, worth_src s f x y lf lx h0, fun g hg => ?_, inT t, val⟩
  · have hk : k < room.length := (List.getElem?_eq_some_iff.mp hb).1
    have hz2 : xs[k]? = some z := by rw [← hf, List.getElem?_take, if_pos hk] at hz; exact hz
    exact ⟨fl.nn k z hz2, fl.le k z (some b) hz2 (room_up hb)⟩
  · obtain ⟨g1, g2, g3⟩ := (mem_every s.rn).mp hg
    have lg : g.length = roads.length := by omega
    have e0 : ∀ v, v ≠ -1 → v ≠ -2 → out (arcsOf roads feet heads ends) (g ++ (feet.map (hv roads ends g) ++ heads.map fun p => -hv roads ends g p)) v = 0 := fun v h1 h2 => ext_out s g lg g3 h1 h2
    have eg : worth roads ends g feet = (feet.map (hv roads ends g)).sum := rfl
    rw [eg, val, ← ext_src s g _ (heads.map fun p => -hv roads ends g p) lg (by simp), ← across_eq hS hE2 e0]
    refine across_le2 _ _ _ (by rw [arcsOf_len]; simp; omega) wl (fun k a z ha hz h1 h2 => ?_) fun k a z ha hz h1 h2 => ?_
    · obtain ⟨r, hr⟩ := cut k a ha h1 h2
      obtain ⟨hk, hr2⟩ := room_at hr
      rw [List.getElem?_append_left (by omega)] at hz
      exact ⟨r, hr, (g2 k r z hr2 hz).2⟩
    · rcases arc_kind s ha with hk | ⟨hk, e | e⟩
      · rw [List.getElem?_append_left (by omega)] at hz
        have hk2 : k < room.length := by omega
        exact (g2 k _ z (List.getElem?_eq_getElem hk2) hz).1
      · rw [e, hS] at h1; cases h1
      · rw [e, hE2] at h2; cases h2
/-- and no endless way is there -/
theorem no_endless {t : Tr} {st : Steps} (w : Walk (arcsOf roads feet heads ends) (opened (room.map some) (feet.length + heads.length)) (zeros (arcsOf roads feet heads ends)) (idx t) (-1) st (-2)) : False := by
  have key : ∀ {st : Steps} {p : Int}, Walk (arcsOf roads feet heads ends) (opened (room.map some) (feet.length + heads.length)) (zeros (arcsOf roads feet heads ends)) (idx t) (-1) st p → p = -1 ∨ p ∈ feet := by
    intro st p w
    induction w with
    | nil => exact .inl rfl
    | @cons q p k f r h hh lt w ih =>
      rcases h with ⟨rfl, h⟩ | ⟨rfl, h⟩
      · unfold arcsOf at h
        by_cases hk : k < roads.length
        · exfalso
          have hk2 : k < room.length := by have := s.rl; omega
          have e : (opened (room.map some) (feet.length + heads.length))[k]? = some (some 0) := by
            unfold opened
            rw [List.getElem?_append_left (by simpa using hk2)]
            simp [hk2]
          have e2 : (zeros (arcsOf roads feet heads ends))[k]?.getD 0 = 0 := by
            cases e3 : (zeros (arcsOf roads feet heads ends))[k]? with
            | none => rfl
            | some z =>
              have := List.mem_of_getElem? e3
              rw [List.mem_replicate] at this
              exact this.2
          unfold Fl.has at hh
          simp [List.getD_eq_getElem?_getD, e] at hh
          rw [e2] at hh
          omega
        · rw [List.append_assoc, List.getElem?_append_right (by simp; omega)] at h
          have := List.mem_of_getElem? h
          rcases List.mem_append.mp this with z | z
          · obtain ⟨p', hp, e⟩ := List.mem_map.mp z
            simp at e
            rw [← e.2]; exact .inr hp
          · obtain ⟨p', hp, e⟩ := List.mem_map.mp z
            simp at e
            exfalso
            rcases ih with z | z
            · have := s.hi p' hp; omega
            · exact s.dj p' hp (by rw [e.1]; exact z)
      · exfalso
        have e2 : (zeros (arcsOf roads feet heads ends)).getD k 0 = 0 := by
          rw [List.getD_eq_getElem?_getD]
          cases e3 : (zeros (arcsOf roads feet heads ends))[k]? with
          | none => rfl
          | some z =>
            have := List.mem_of_getElem? e3
            rw [List.mem_replicate] at this
            exact this.2
        unfold Fl.has at hh
        simp only [Bool.false_eq_true, if_false, e2] at hh
        simp at hh
  rcases key w with z | z
  · cases z
  · have := s.fi _ z; omega
end
end K46

namespace K46
open PySem PySem.Spec L2 BV Fl
theorem nodup_in {n : Nat} {l : List Int} (h : l.Nodup) (hi : inR n l) : l.length ≤ n := by
  have := len_le_of_nodup h (m := rgI 0 n) fun x hx => rgI_mem.mpr (by have := hi x hx; omega)
  rwa [rgI_len] at this
theorem net_sm {size : Nat} {roads : List Arc} (h : roadsOk size roads) (hl : roads.length ≤ 60) (hs : size ≤ 1000) : Sm (netD size roads) 3 20000 := by
  have i : ∀ {x : Int}, 0 ≤ x → x < 1001 → Sm (.int x) 0 41 := fun h1 h2 => .int (by omega)
  have a : ∀ y ∈ roads.map arcD, Sm y 1 84 := by
    intro y hy
    obtain ⟨r, hr, rfl⟩ := List.mem_map.mp hy
    have := h r hr
    refine Sm.tup (k := 0) (w := 41) (xs := [.int r.1, .int r.2]) fun z hz => ?_
    simp at hz
    rcases hz with rfl | rfl <;> exact i (by omega) (by omega)
  have b := (Sm.tup a).mono (Nat.le_refl _) (show (roads.map arcD).length * (84 + 1) ≤ 5100 by rw [List.length_map]; omega)
  refine (Sm.tup (k := 2) (w := 5100) (xs := [.int size, .tuple (roads.map arcD)]) fun z hz => ?_).mono (Nat.le_refl _) (by simp)
  simp at hz
  rcases hz with rfl | rfl
  · exact (i (by omega) (by omega)).mono (by decide) (by decide)
  · exact b
theorem room_sm {room : List Int} (h : ∀ b ∈ room, 0 ≤ b ∧ b ≤ 4) (hl : room.length ≤ 60) : Sm (tupI room) 1 20000 :=
  (Sm.tup (Sm.ints fun n hn => by have := h n hn; omega)).mono (Nat.le_refl _) (by rw [List.length_map]; omega)
theorem pair_sm {a b : D} (ha : Sm a 3 20000) (hb : Sm b 1 20000) : Sm (.list [a, b]) 4 1000000 := by
  refine (Sm.lst (k := 3) (w := 20000) (xs := [a, b]) fun z hz => ?_).mono (Nat.le_refl _) (by simp)
  simp at hz
  rcases hz with rfl | rfl
  · exact ha
  · exact hb.mono (by decide) (Nat.le_refl _)
theorem l_law : b_law Φ_law_draw Φ_law_net Φ_law_pick Φ_law_stops Φ_greatest_flow Φ_law_all_flows Φ_law_worth ((List.replicate N_law.length Cell.no).set 1 (.jar keyJ)) (fun _ => False) (fun d => d = .bool true) := by
  have sl := sizeLine_eq
  unfold b_law
  generalize hlp : sFor (iSeq (b2 oIx (bVar 7) (bC (.int 1)))) (pName 3) _ = lp
  generalize hrest : sSeq (sSet 4 (bN oTupOf _)) _ = rest
  simp [sSeq, sNext, sIf, sRet, sSet, sSetL, sSetD, sAsg, sAsgM, sApp, sExt, sPut, sDPutB, sNewD, sPar, sTell, sRetOwn, sDrop, bC, bVar, bSee, b2, b1, bN, bNil, bCons, bTup, bLst, bIf, bAnd, bOr, bNot, bIsN, bNotN, isNoneD, tV, tNotB, tAndB, tOrB, oB, pName, pNil, pCons, pTup, cNil, cCons, BV.cellOf, BV.setAll, qNil, qVal, qBor, qDic, qJar, isListD, bCall, mE, mPop, mPopAt, oIx, oAdd, oMul, oI, oLt, oLe, oGt, oGe, oSub, oMod, oFdiv, oPow, oNeg, oCatL, oRepL, atI_c0, atI_c1, atI_c2, oEq_int, oNe_int, oLen_l, oLen_t, oListOf_l, oListOf_t, oTupOf_l, oTupOf_t, oII, oAbs, oInt1, bInS, bOwnD, oDGet, bGetS, bDisp, bPairs, mergeD, bRevL, bLstR1, bLstR2, bSlL, bSlT, wNo, wAt, iSeq, oSeq_l, oSeq_t, iEnu, iZp, iRan, oR1, oR2, oKeys, entry, cellsMd, cellMd]
  unfold sFor
  simp [sSeq, sNext, sIf, sRet, sSet, sSetL, sSetD, sAsg, sAsgM, sApp, sExt, sPut, sDPutB, sNewD, sPar, sTell, sRetOwn, sDrop, bC, bVar, bSee, b2, b1, bN, bNil, bCons, bTup, bLst, bIf, bAnd, bOr, bNot, bIsN, bNotN, isNoneD, tV, tNotB, tAndB, tOrB, oB, pName, pNil, pCons, pTup, cNil, cCons, BV.cellOf, BV.setAll, qNil, qVal, qBor, qDic, qJar, isListD, bCall, mE, mPop, mPopAt, oIx, oAdd, oMul, oI, oLt, oLe, oGt, oGe, oSub, oMod, oFdiv, oPow, oNeg, oCatL, oRepL, atI_c0, atI_c1, atI_c2, oEq_int, oNe_int, oLen_l, oLen_t, oListOf_l, oListOf_t, oTupOf_l, oTupOf_t, oII, oAbs, oInt1, bInS, bOwnD, oDGet, bGetS, bDisp, bPairs, mergeD, bRevL, bLstR1, bLstR2, bSlL, bSlT, wNo, wAt, iSeq, oSeq_l, oSeq_t, iEnu, iZp, iRan, oR1, oR2, oKeys, entry, cellsMd, cellMd]
  refine ⟨by omega, ?_⟩
  unfold iRng
  refine for_inv (fun i : Nat => PyData.int (0 + (i : Int))) (fun _ ρ => ∃ c2 c3 c4 c5 c6 c7 c8 c9 c10 c11 c12 c13 c14 c15, ρ = [.no, .jar keyJ, c2, c3, c4, c5, c6, c7, c8, c9, c10, c11, c12, c13, c14, c15]) (List.range 4) [] _ ⟨_, _, _, _, _, _, _, _, _, _, _, _, _, _, rfl⟩ ?_ (fun ρ _ => trivial)
  rintro pre x ρ ⟨c2, c3, c4, c5, c6, c7, c8, c9, c10, c11, c12, c13, c14, c15, rfl⟩ hx nx' k
  simp [sSeq, sNext, sIf, sRet, sSet, sSetL, sSetD, sAsg, sAsgM, sApp, sExt, sPut, sDPutB, sNewD, sPar, sTell, sRetOwn, sDrop, bC, bVar, bSee, b2, b1, bN, bNil, bCons, bTup, bLst, bIf, bAnd, bOr, bNot, bIsN, bNotN, isNoneD, tV, tNotB, tAndB, tOrB, oB, pName, pNil, pCons, pTup, cNil, cCons, BV.cellOf, BV.setAll, qNil, qVal, qBor, qDic, qJar, isListD, bCall, mE, mPop, mPopAt, oIx, oAdd, oMul, oI, oLt, oLe, oGt, oGe, oSub, oMod, oFdiv, oPow, oNeg, oCatL, oRepL, atI_c0, atI_c1, atI_c2, oEq_int, oNe_int, oLen_l, oLen_t, oListOf_l, oListOf_t, oTupOf_l, oTupOf_t, oII, oAbs, oInt1, bInS, bOwnD, oDGet, bGetS, bDisp, bPairs, mergeD, bRevL, bLstR1, bLstR2, bSlL, bSlT, wNo, wAt, iSeq, oSeq_l, oSeq_t, iEnu, iZp, iRan, oR1, oR2, oKeys, entry, cellsMd, cellMd]
  refine ⟨3, rfl, by decide, fun z1 hz1 hz2 => ?_⟩
  dsimp only
  refine ⟨3, rfl, by decide, fun z2 hz3 hz4 => ?_⟩
  dsimp only
  refine ⟨(3 + z1).toNat, (3 + z2).toNat, by rw [Int.toNat_of_nonneg (by omega), Int.toNat_of_nonneg (by omega)], by omega, by omega, by omega, fun roads hr1 hr2 hrk => ?_⟩
  have hs5 : 1 ≤ (3 + z1).toNat ∧ (3 + z1).toNat ≤ 5 := by omega
  generalize (3 + z1).toNat = size at hrk hs5
  have hsz : 1 ≤ size ∧ size ≤ 5 := hs5
  subst hlp
  unfold sFor
  simp [sSeq, sNext, sIf, sRet, sSet, sSetL, sSetD, sAsg, sAsgM, sApp, sExt, sPut, sDPutB, sNewD, sPar, sTell, sRetOwn, sDrop, bC, bVar, bSee, b2, b1, bN, bNil, bCons, bTup, bLst, bIf, bAnd, bOr, bNot, bIsN, bNotN, isNoneD, tV, tNotB, tAndB, tOrB, oB, pName, pNil, pCons, pTup, cNil, cCons, BV.cellOf, BV.setAll, qNil, qVal, qBor, qDic, qJar, isListD, bCall, mE, mPop, mPopAt, oIx, oAdd, oMul, oI, oLt, oLe, oGt, oGe, oSub, oMod, oFdiv, oPow, oNeg, oCatL, oRepL, atI_c0, atI_c1, atI_c2, oEq_int, oNe_int, oLen_l, oLen_t, oListOf_l, oListOf_t, oTupOf_l, oTupOf_t, oII, oAbs, oInt1, bInS, bOwnD, oDGet, bGetS, bDisp, bPairs, mergeD, bRevL, bLstR1, bLstR2, bSlL, bSlT, wNo, wAt, iSeq, oSeq_l, oSeq_t, iEnu, iZp, iRan, oR1, oR2, oKeys, entry, cellsMd, cellMd, netD]
  refine for_at arcD (fun pre ρ => ∃ (room : List Int) (left : Int) (c3 c9 : Cell), ρ = [.no, .jar keyJ, .val (.int (x : Int)), c3, .own (room.map PyData.int), c5, c6, .val (netD size roads), .val (.int left), c9, c10, c11, c12, c13, c14, c15] ∧ room.length = pre.length ∧ (∀ b ∈ room, 0 ≤ b ∧ b ≤ 4) ∧ 1 ≤ left ∧ prodR room * left ≤ 160) roads ?_ ?_ roads [] _ (by simp) ⟨[], 160, _, _, rfl, rfl, by simp, by decide, by decide⟩
  · rintro pre a post ρ e ⟨room, left, c3, c9, rfl, hl, hb, h1, hp⟩ nx2 k2
    have hlr := congrArg List.length e
    simp at hlr
    simp [sSeq, sNext, sIf, sRet, sSet, sSetL, sSetD, sAsg, sAsgM, sApp, sExt, sPut, sDPutB, sNewD, sPar, sTell, sRetOwn, sDrop, bC, bVar, bSee, b2, b1, bN, bNil, bCons, bTup, bLst, bIf, bAnd, bOr, bNot, bIsN, bNotN, isNoneD, tV, tNotB, tAndB, tOrB, oB, pName, pNil, pCons, pTup, cNil, cCons, BV.cellOf, BV.setAll, qNil, qVal, qBor, qDic, qJar, isListD, bCall, mE, mPop, mPopAt, oIx, oAdd, oMul, oI, oLt, oLe, oGt, oGe, oSub, oMod, oFdiv, oPow, oNeg, oCatL, oRepL, atI_c0, atI_c1, atI_c2, oEq_int, oNe_int, oLen_l, oLen_t, oListOf_l, oListOf_t, oTupOf_l, oTupOf_t, oII, oAbs, oInt1, bInS, bOwnD, oDGet, bGetS, bDisp, bPairs, mergeD, bRevL, bLstR1, bLstR2, bSlL, bSlT, wNo, wAt, iSeq, oSeq_l, oSeq_t, iEnu, iZp, iRan, oR1, oR2, oKeys, entry, cellsMd, cellMd]
    refine ⟨by omega, _, rfl, by simp, by simp, fun y hy => ?_⟩
    have hy2 : ∃ m : Int, y = .int m ∧ 0 ≤ m ∧ m ≤ 4 := by
      simp at hy
      rcases hy with rfl | rfl | rfl | rfl | rfl <;> exact ⟨_, rfl, by decide, by decide⟩
    obtain ⟨m, rfl, hm1, hm2⟩ := hy2
    simp [sSeq, sNext, sIf, sRet, sSet, sSetL, sSetD, sAsg, sAsgM, sApp, sExt, sPut, sDPutB, sNewD, sPar, sTell, sRetOwn, sDrop, bC, bVar, bSee, b2, b1, bN, bNil, bCons, bTup, bLst, bIf, bAnd, bOr, bNot, bIsN, bNotN, isNoneD, tV, tNotB, tAndB, tOrB, oB, pName, pNil, pCons, pTup, cNil, cCons, BV.cellOf, BV.setAll, qNil, qVal, qBor, qDic, qJar, isListD, bCall, mE, mPop, mPopAt, oIx, oAdd, oMul, oI, oLt, oLe, oGt, oGe, oSub, oMod, oFdiv, oPow, oNeg, oCatL, oRepL, atI_c0, atI_c1, atI_c2, oEq_int, oNe_int, oLen_l, oLen_t, oListOf_l, oListOf_t, oTupOf_l, oTupOf_t, oII, oAbs, oInt1, bInS, bOwnD, oDGet, bGetS, bDisp, bPairs, mergeD, bRevL, bLstR1, bLstR2, bSlL, bSlT, wNo, wAt, iSeq, oSeq_l, oSeq_t, iEnu, iZp, iRan, oR1, oR2, oKeys, entry, cellsMd, cellMd]
    generalize hbd : (if left - 1 < m then left - 1 else m) = b
    have hb2 : 0 ≤ b ∧ b ≤ 4 ∧ b + 1 ≤ left := by rw [← hbd]; split <;> omega
    have hp0 := prodR_pos (room := room) fun c hc => (hb c hc).1
    have hdm := Int.mul_ediv_self_le (x := left) (k := b + 1) (by omega)
    have hdp : 1 ≤ left / (b + 1) := by rw [Int.le_ediv_iff_mul_le (by omega)]; omega
    refine ⟨by omega, ⟨by omega, by omega⟩, k2 _ ⟨room ++ [b], left / (b + 1), .val (arcD a), .val (.int b), by simp, by simp [hl], ?_, hdp, ?_⟩⟩
    · intro c hc
      rcases List.mem_append.mp hc with hc | hc
      · exact hb c hc
      · simp at hc; subst hc; omega
    · rw [prodR_app]
      have : prodR room * ((b + 1) * (left / (b + 1))) ≤ prodR room * left := Int.mul_le_mul_of_nonneg_left hdm (by omega)
      simp only [prodR, Int.mul_one, Int.mul_assoc] at this ⊢
      omega
  · rintro ρ ⟨room, left, c3, c9, rfl, hl, hb, h1, hp⟩
    have hrp : prodR room ≤ 160 := by
      have hp0 := prodR_pos (room := room) fun c hc => (hb c hc).1
      have : prodR room * 1 ≤ prodR room * left := Int.mul_le_mul_of_nonneg_left h1 (by omega)
      omega
    subst hrest
    simp [sSeq, sNext, sIf, sRet, sSet, sSetL, sSetD, sAsg, sAsgM, sApp, sExt, sPut, sDPutB, sNewD, sPar, sTell, sRetOwn, sDrop, bC, bVar, bSee, b2, b1, bN, bNil, bCons, bTup, bLst, bIf, bAnd, bOr, bNot, bIsN, bNotN, isNoneD, tV, tNotB, tAndB, tOrB, oB, pName, pNil, pCons, pTup, cNil, cCons, BV.cellOf, BV.setAll, qNil, qVal, qBor, qDic, qJar, isListD, bCall, mE, mPop, mPopAt, oIx, oAdd, oMul, oI, oLt, oLe, oGt, oGe, oSub, oMod, oFdiv, oPow, oNeg, oCatL, oRepL, atI_c0, atI_c1, atI_c2, oEq_int, oNe_int, oLen_l, oLen_t, oListOf_l, oListOf_t, oTupOf_l, oTupOf_t, oII, oAbs, oInt1, bInS, bOwnD, oDGet, bGetS, bDisp, bPairs, mergeD, bRevL, bLstR1, bLstR2, bSlL, bSlT, wNo, wAt, iSeq, oSeq_l, oSeq_t, iEnu, iZp, iRan, oR1, oR2, oKeys, entry, cellsMd, cellMd]
    refine ⟨size, roads, rfl, hsz.1, by omega, by omega, fun feet heads ends p1 p2 p3 l1 i1 i2 i3 dj => ⟨rfl, by omega, ?_⟩⟩
    have st : Setup size roads room feet heads ends := ⟨hrk, hl, fun b hb' => (hb b hb').1, p1.imp (fun h => by omega), p2.imp (fun h => by omega), i1, i2, dj⟩
    have lf := nodup_in st.fn i1
    have lh := nodup_in st.hn i2
    have sm1 := net_sm hrk hr2 (by omega : size ≤ 1000)
    have sm2 := room_sm hb (by omega : room.length ≤ 60)
    have sm3 : Sm (.list [netD size roads, tupI room]) 4 1000000 := pair_sm sm1 sm2
    refine ⟨sm3.ok rfl (by decide) (Nat.le_refl _), ?_⟩
    refine ⟨size, roads, room.map some, feet, heads, ends, ⟨⟨_, _, _, _, rfl, .inl (by simp [oD, Function.comp_def]), .inl rfl, .inl rfl, .inl rfl⟩, ⟨by omega, by omega, by omega⟩, by simp [hl]⟩, ?_, ?_, ?_⟩
    · intro k r h
      rw [List.getElem?_map] at h
      cases e : room[k]? with
      | none => rw [e] at h; cases h
      | some b => rw [e] at h; cases h; exact (hb _ (List.mem_of_getElem? e)).1
    · intro t stp T w
      exact (no_endless st w).elim
    intro xs t cut fl T pl hE hc _ _
    obtain ⟨g1, g2, g3, S, g4⟩ := greatest st fl T hE hc
    simp only [List.length_map]
    generalize ((xs.drop room.length).take feet.length).sum = v at g2 g3 g4
    generalize xs.take room.length = f at g1 g2
    refine ⟨size, roads, room, feet, heads, ends, _, _, _, rfl, .inl rfl, .inl rfl, .inl rfl, hl, by omega, by omega, fun b hb' => ⟨(hb b hb').1, by have := (hb b hb').2; omega⟩, by omega, ?_⟩
    have hbox := fun g hg => (mem_every (n := size) (roads := roads) (feet := feet) (heads := heads) (ends := ends) (g := g) st.rn).mp hg
    generalize hev : every size roads room feet heads ends = ev at g1 g3 hbox
    have hvb : v.natAbs.log2 < 1920 := by
      have := capOf_bd (S := S) (c := 4) (by decide) (arcsOf roads feet heads ends) (widen (room.map some) (feet.length + heads.length)) (fun r hr => by
        unfold widen at hr
        rcases List.mem_append.mp hr with hr | hr
        · obtain ⟨b, hb', e⟩ := List.mem_map.mp hr
          cases e
          exact hb _ hb'
        · rw [List.mem_replicate] at hr; cases hr.2)
      rw [← g4, arcsOf_len] at this
      have h2 := Nat.log2_le_self v.natAbs
      omega
    have hf2 := hbox f g1
    have smf : ∀ g ∈ ev, Sm (tupI g) 1 20000 := fun g hg => by
      obtain ⟨e1, e2, _⟩ := hbox g hg
      refine room_sm (fun z hz => ?_) (by omega)
      obtain ⟨kk, hk, rfl⟩ := List.getElem_of_mem hz
      have hk2 : kk < room.length := by omega
      have := e2 kk _ _ (List.getElem?_eq_getElem hk2) (List.getElem?_eq_getElem hk)
      have := hb _ (List.getElem_mem hk2)
      omega
    simp [sSeq, sNext, sIf, sRet, sSet, sSetL, sSetD, sAsg, sAsgM, sApp, sExt, sPut, sDPutB, sNewD, sPar, sTell, sRetOwn, sDrop, bC, bVar, bSee, b2, b1, bN, bNil, bCons, bTup, bLst, bIf, bAnd, bOr, bNot, bIsN, bNotN, isNoneD, tV, tNotB, tAndB, tOrB, oB, pName, pNil, pCons, pTup, cNil, cCons, BV.cellOf, BV.setAll, qNil, qVal, qBor, qDic, qJar, isListD, bCall, mE, mPop, mPopAt, oIx, oAdd, oMul, oI, oLt, oLe, oGt, oGe, oSub, oMod, oFdiv, oPow, oNeg, oCatL, oRepL, atI_c0, atI_c1, atI_c2, oEq_int, oNe_int, oLen_l, oLen_t, oListOf_l, oListOf_t, oTupOf_l, oTupOf_t, oII, oAbs, oInt1, bInS, bOwnD, oDGet, bGetS, bDisp, bPairs, mergeD, bRevL, bLstR1, bLstR2, bSlL, bSlT, wNo, wAt, iSeq, oSeq_l, oSeq_t, iEnu, iZp, iRan, oR1, oR2, oKeys, entry, cellsMd, cellMd, bLc, wipeE]
    refine lc_m tupI (fun g => PyData.int (worth roads ends g feet)) ev _ (fun g hg K kk => ?_) ?_
    · simp [sSeq, sNext, sIf, sRet, sSet, sSetL, sSetD, sAsg, sAsgM, sApp, sExt, sPut, sDPutB, sNewD, sPar, sTell, sRetOwn, sDrop, bC, bVar, bSee, b2, b1, bN, bNil, bCons, bTup, bLst, bIf, bAnd, bOr, bNot, bIsN, bNotN, isNoneD, tV, tNotB, tAndB, tOrB, oB, pName, pNil, pCons, pTup, cNil, cCons, BV.cellOf, BV.setAll, qNil, qVal, qBor, qDic, qJar, isListD, bCall, mE, mPop, mPopAt, oIx, oAdd, oMul, oI, oLt, oLe, oGt, oGe, oSub, oMod, oFdiv, oPow, oNeg, oCatL, oRepL, atI_c0, atI_c1, atI_c2, oEq_int, oNe_int, oLen_l, oLen_t, oListOf_l, oListOf_t, oTupOf_l, oTupOf_t, oII, oAbs, oInt1, bInS, bOwnD, oDGet, bGetS, bDisp, bPairs, mergeD, bRevL, bLstR1, bLstR2, bSlL, bSlT, wNo, wAt, iSeq, oSeq_l, oSeq_t, iEnu, iZp, iRan, oR1, oR2, oKeys, entry, cellsMd, cellMd]
      exact ⟨size, roads, g, ends, feet, _, _, _, rfl, .inl rfl, .inl rfl, .inl rfl, by have := (hbox g hg).1; omega, kk⟩
    refine ⟨ev.map fun g => worth roads ends g feet, by simp [Function.comp_def], by rw [List.length_map]; exact List.length_pos_of_mem g1, fun m hm hle => ?_⟩
    have hmv : m = v := by
      obtain ⟨g, hg, rfl⟩ := List.mem_map.mp hm
      have h1 := g3 g hg
      have h2 := hle _ (List.mem_map.mpr ⟨f, g1, rfl⟩)
      omega
    subst hmv
    refine ⟨hvb, hvb, oNe_str (okS_of _) (okS_of _) ?_⟩
    simp
    refine ⟨(smf f g1).ok rfl (by decide) (by decide), ?_⟩
    refine lc_m tupI (fun g => PyData.str (tupI g).shown) ev _ (fun g hg K kk => ?_) ?_
    · simp [sSeq, sNext, sIf, sRet, sSet, sSetL, sSetD, sAsg, sAsgM, sApp, sExt, sPut, sDPutB, sNewD, sPar, sTell, sRetOwn, sDrop, bC, bVar, bSee, b2, b1, bN, bNil, bCons, bTup, bLst, bIf, bAnd, bOr, bNot, bIsN, bNotN, isNoneD, tV, tNotB, tAndB, tOrB, oB, pName, pNil, pCons, pTup, cNil, cCons, BV.cellOf, BV.setAll, qNil, qVal, qBor, qDic, qJar, isListD, bCall, mE, mPop, mPopAt, oIx, oAdd, oMul, oI, oLt, oLe, oGt, oGe, oSub, oMod, oFdiv, oPow, oNeg, oCatL, oRepL, atI_c0, atI_c1, atI_c2, oEq_int, oNe_int, oLen_l, oLen_t, oListOf_l, oListOf_t, oTupOf_l, oTupOf_t, oII, oAbs, oInt1, bInS, bOwnD, oDGet, bGetS, bDisp, bPairs, mergeD, bRevL, bLstR1, bLstR2, bSlL, bSlT, wNo, wAt, iSeq, oSeq_l, oSeq_t, iEnu, iZp, iRan, oR1, oR2, oKeys, entry, cellsMd, cellMd]
      exact ⟨(smf g hg).ok rfl (by decide) (by decide), kk⟩
    rw [show (ev.map fun g => PyData.str (PyData.shown (tupI g))) = (ev.map fun g => (tupI g).shown).map PyData.str by simp [Function.comp_def]]
    refine oNotIn_strs (smf f g1).tx (fun t ht => by obtain ⟨g, hg, rfl⟩ := List.mem_map.mp ht; exact (smf g hg).tx) ?_
    have hin : (tupI f).shown ∈ ev.map fun g => (tupI g).shown := List.mem_map.mpr ⟨f, g1, rfl⟩
    refine ⟨by rw [decide_eq_true hin]; rfl, ?_⟩
    refine ⟨size, roads, f, ends, feet, _, _, _, rfl, .inl rfl, .inl rfl, .inl rfl, by have := hf2.1; omega, ?_⟩
    show oNe (.int (worth roads ends f feet)) (.int m) _
    rw [oNe_int, g2]
    refine ⟨by simp, by omega, sm3.ok rfl (by decide) (Nat.le_refl _), oNe_str sm3.tx sm3.tx ⟨by simp, ?_⟩⟩
    exact k _ ⟨_, _, _, _, _, _, _, _, _, _, _, _, _, _, rfl⟩
end K46

namespace K46
open PySem PySem.Spec PyProof.Rows L2 BV
/-! the head, printed by head.py -/
theorem fun_e {fa : List He.Fa} {fn : List He.FnD} {K : PySem.W.Frag} (c : He.SaysE fa fn K) (i j : Nat) {x : Str} {st : Stmt} (h : fn[i]? = some ⟨(x, none), x, x, defArgs st, defBody st, defScope st⟩) (hk : fa[j]? = some (.keep x)) : ∃ fd, Fun K x x st (He.ga K x) fd := by
  obtain ⟨oc, od, osl, kV, doc, pm, an, cdv, ct, l, cc⟩ := c.def_ i h
  exact ⟨_, fun_mk l cc (c.fact j hk)⟩
def dd_led_ways : He.FnD := ⟨("led_ways", none), "led_ways", "led_ways", defArgs s_led_ways, defBody s_led_ways, defScope s_led_ways⟩
def dd_has_room : He.FnD := ⟨("has_room", none), "has_room", "has_room", defArgs s_has_room, defBody s_has_room, defScope s_has_room⟩
def dd_reached : He.FnD := ⟨("reached", none), "reached", "reached", defArgs s_reached, defBody s_reached, defScope s_reached⟩
def dd_steps_back : He.FnD := ⟨("steps_back", none), "steps_back", "steps_back", defArgs s_steps_back, defBody s_steps_back, defScope s_steps_back⟩
def dd_least_left : He.FnD := ⟨("least_left", none), "least_left", "least_left", defArgs s_least_left, defBody s_least_left, defScope s_least_left⟩
def dd_pushed : He.FnD := ⟨("pushed", none), "pushed", "pushed", defArgs s_pushed, defBody s_pushed, defScope s_pushed⟩
def dd_arcs_for : He.FnD := ⟨("arcs_for", none), "arcs_for", "arcs_for", defArgs s_arcs_for, defBody s_arcs_for, defScope s_arcs_for⟩
def dd_endless_way : He.FnD := ⟨("endless_way", none), "endless_way", "endless_way", defArgs s_endless_way, defBody s_endless_way, defScope s_endless_way⟩
def dd_greatest_flow : He.FnD := ⟨("greatest_flow", none), "greatest_flow", "greatest_flow", defArgs s_greatest_flow, defBody s_greatest_flow, defScope s_greatest_flow⟩
def dd_law_jar : He.FnD := ⟨("_law_jar", none), "_law_jar", "_law_jar", defArgs s_law_jar, defBody s_law_jar, defScope s_law_jar⟩
def dd_law_draw : He.FnD := ⟨("_law_draw", none), "_law_draw", "_law_draw", defArgs s_law_draw, defBody s_law_draw, defScope s_law_draw⟩
def dd_law_pick : He.FnD := ⟨("_law_pick", none), "_law_pick", "_law_pick", defArgs s_law_pick, defBody s_law_pick, defScope s_law_pick⟩
def dd_law_few : He.FnD := ⟨("_law_few", none), "_law_few", "_law_few", defArgs s_law_few, defBody s_law_few, defScope s_law_few⟩
def dd_law_net : He.FnD := ⟨("_law_net", none), "_law_net", "_law_net", defArgs s_law_net, defBody s_law_net, defScope s_law_net⟩
def dd_law_stops : He.FnD := ⟨("_law_stops", none), "_law_stops", "_law_stops", defArgs s_law_stops, defBody s_law_stops, defScope s_law_stops⟩
def dd_law_goes : He.FnD := ⟨("_law_goes", none), "_law_goes", "_law_goes", defArgs s_law_goes, defBody s_law_goes, defScope s_law_goes⟩
def dd_law_comes : He.FnD := ⟨("_law_comes", none), "_law_comes", "_law_comes", defArgs s_law_comes, defBody s_law_comes, defScope s_law_comes⟩
def dd_law_worth : He.FnD := ⟨("_law_worth", none), "_law_worth", "_law_worth", defArgs s_law_worth, defBody s_law_worth, defScope s_law_worth⟩
def dd_law_bad_place : He.FnD := ⟨("_law_bad_place", none), "_law_bad_place", "_law_bad_place", defArgs s_law_bad_place, defBody s_law_bad_place, defScope s_law_bad_place⟩
def dd_law_all_flows : He.FnD := ⟨("_law_all_flows", none), "_law_all_flows", "_law_all_flows", defArgs s_law_all_flows, defBody s_law_all_flows, defScope s_law_all_flows⟩
def dd_law : He.FnD := ⟨("law", none), "law", "law", defArgs s_law, defBody s_law, defScope s_law⟩
def fnL : List He.FnD := [dd_led_ways, dd_has_room, dd_reached, dd_steps_back, dd_least_left, dd_pushed, dd_arcs_for, dd_endless_way, dd_greatest_flow, dd_law_jar, dd_law_draw, dd_law_pick, dd_law_few, dd_law_net, dd_law_stops, dd_law_goes, dd_law_comes, dd_law_worth, dd_law_bad_place, dd_law_all_flows, dd_law]
def faL0 : List He.Fa := [.glo "led_ways", .keep "led_ways", .glo "has_room", .keep "has_room", .glo "reached", .keep "reached", .glo "steps_back", .keep "steps_back", .glo "least_left", .keep "least_left", .glo "pushed", .keep "pushed", .glo "arcs_for", .keep "arcs_for", .glo "endless_way", .keep "endless_way", .glo "greatest_flow", .keep "greatest_flow", .glo "_law_jar", .keep "_law_jar", .glo "_law_draw", .keep "_law_draw", .glo "_law_pick", .keep "_law_pick", .glo "_law_few", .keep "_law_few", .glo "_law_net", .keep "_law_net", .glo "_law_stops", .keep "_law_stops"]
def faL1 : List He.Fa := [.glo "_law_goes", .keep "_law_goes", .glo "_law_comes", .keep "_law_comes", .glo "_law_worth", .keep "_law_worth", .glo "_law_bad_place", .keep "_law_bad_place", .glo "_law_all_flows", .keep "_law_all_flows", .glo "law", .keep "law", .free "enumerate", .int "BEGIN" (-1), .int "END" (-2), .free "len", .free "min", .free "tuple", .free "list", .free "sum", .free "sorted", .free "abs", .free "int", .free "range", .free "zip", .free "max", .free "repr"]
def faL : List He.Fa := faL0 ++ faL1
abbrev R : PySem.W.OpenRow := PySem.W.OpenLaw.row PySem.Challenge.rw_suretrips_k46_whole_values_beside_all_fl
abbrev hk : PySem.W.Hook := He.hookE 4 faL fnL
def ob (s : PySem.W.SharedT) : He.Al := He.obsG 4 faL fnL (HandSHeadRun.getT s)
theorem ob_eq (s : PySem.W.SharedT) : ob s = hk.obs s.abs := He.obsG_eq (HandSHeadRun.getT_eq s)
def loose : List PySem.Str := ["BEGIN", "END", "led_ways", "has_room", "reached", "steps_back", "least_left", "pushed", "arcs_for", "endless_way", "greatest_flow", "_law_jar", "_law_draw", "_law_pick", "_law_few", "_law_net", "_law_stops", "_law_goes", "_law_comes", "_law_worth", "_law_bad_place", "_law_all_flows"]
theorem run (w : World) : HandSHeadRun.RunEq R (PySem.W.view R.prog [24]) hk ob 2000 loose w := by
  intro os
  kernel_rfl
theorem facts {P : Program} {w : World} {K : PySem.W.Frag} {h : Heap} {mg : Str → Option Value} {f : Addr} (X : K.In h) (G : h.Ns mainGlobals mg) (hfa : mg ("law" : Str) = some (.ref f)) (c : He.SaysE faL fnL K) :
    ∃ fd : FuncData, (∀ (s : Shared) (v : Value), BindsTo s fd ⟨[v], []⟩ [("_law_script", v)]) ∧ ∀ base : Heap, K.In base → base.Ns mainGlobals mg → FnG P w K mg base CX0 5 f fd ["_law_script"] (spLaw K) := by
  obtain ⟨fd_led_ways, F_led_ways⟩ := fun_e c 0 1 (x := "led_ways") (st := s_led_ways) rfl rfl
  have g_led_ways := He.glo_ok X G (c.fact 0 (f := .glo "led_ways") rfl)
  obtain ⟨fd_has_room, F_has_room⟩ := fun_e c 1 3 (x := "has_room") (st := s_has_room) rfl rfl
  have g_has_room := He.glo_ok X G (c.fact 2 (f := .glo "has_room") rfl)
  obtain ⟨fd_reached, F_reached⟩ := fun_e c 2 5 (x := "reached") (st := s_reached) rfl rfl
  have g_reached := He.glo_ok X G (c.fact 4 (f := .glo "reached") rfl)
  obtain ⟨fd_steps_back, F_steps_back⟩ := fun_e c 3 7 (x := "steps_back") (st := s_steps_back) rfl rfl
  have g_steps_back := He.glo_ok X G (c.fact 6 (f := .glo "steps_back") rfl)
  obtain ⟨fd_least_left, F_least_left⟩ := fun_e c 4 9 (x := "least_left") (st := s_least_left) rfl rfl
  have g_least_left := He.glo_ok X G (c.fact 8 (f := .glo "least_left") rfl)
  obtain ⟨fd_pushed, F_pushed⟩ := fun_e c 5 11 (x := "pushed") (st := s_pushed) rfl rfl
  have g_pushed := He.glo_ok X G (c.fact 10 (f := .glo "pushed") rfl)
  obtain ⟨fd_arcs_for, F_arcs_for⟩ := fun_e c 6 13 (x := "arcs_for") (st := s_arcs_for) rfl rfl
  have g_arcs_for := He.glo_ok X G (c.fact 12 (f := .glo "arcs_for") rfl)
  obtain ⟨fd_endless_way, F_endless_way⟩ := fun_e c 7 15 (x := "endless_way") (st := s_endless_way) rfl rfl
  have g_endless_way := He.glo_ok X G (c.fact 14 (f := .glo "endless_way") rfl)
  obtain ⟨fd_greatest_flow, F_greatest_flow⟩ := fun_e c 8 17 (x := "greatest_flow") (st := s_greatest_flow) rfl rfl
  have g_greatest_flow := He.glo_ok X G (c.fact 16 (f := .glo "greatest_flow") rfl)
  obtain ⟨fd_law_jar, F_law_jar⟩ := fun_e c 9 19 (x := "_law_jar") (st := s_law_jar) rfl rfl
  have g_law_jar := He.glo_ok X G (c.fact 18 (f := .glo "_law_jar") rfl)
  obtain ⟨fd_law_draw, F_law_draw⟩ := fun_e c 10 21 (x := "_law_draw") (st := s_law_draw) rfl rfl
  have g_law_draw := He.glo_ok X G (c.fact 20 (f := .glo "_law_draw") rfl)
  obtain ⟨fd_law_pick, F_law_pick⟩ := fun_e c 11 23 (x := "_law_pick") (st := s_law_pick) rfl rfl
  have g_law_pick := He.glo_ok X G (c.fact 22 (f := .glo "_law_pick") rfl)
  obtain ⟨fd_law_few, F_law_few⟩ := fun_e c 12 25 (x := "_law_few") (st := s_law_few) rfl rfl
  have g_law_few := He.glo_ok X G (c.fact 24 (f := .glo "_law_few") rfl)
  obtain ⟨fd_law_net, F_law_net⟩ := fun_e c 13 27 (x := "_law_net") (st := s_law_net) rfl rfl
  have g_law_net := He.glo_ok X G (c.fact 26 (f := .glo "_law_net") rfl)
  obtain ⟨fd_law_stops, F_law_stops⟩ := fun_e c 14 29 (x := "_law_stops") (st := s_law_stops) rfl rfl
  have g_law_stops := He.glo_ok X G (c.fact 28 (f := .glo "_law_stops") rfl)
  obtain ⟨fd_law_goes, F_law_goes⟩ := fun_e c 15 31 (x := "_law_goes") (st := s_law_goes) rfl rfl
  have g_law_goes := He.glo_ok X G (c.fact 30 (f := .glo "_law_goes") rfl)
  obtain ⟨fd_law_comes, F_law_comes⟩ := fun_e c 16 33 (x := "_law_comes") (st := s_law_comes) rfl rfl
  have g_law_comes := He.glo_ok X G (c.fact 32 (f := .glo "_law_comes") rfl)
  obtain ⟨fd_law_worth, F_law_worth⟩ := fun_e c 17 35 (x := "_law_worth") (st := s_law_worth) rfl rfl
  have g_law_worth := He.glo_ok X G (c.fact 34 (f := .glo "_law_worth") rfl)
  obtain ⟨fd_law_bad_place, F_law_bad_place⟩ := fun_e c 18 37 (x := "_law_bad_place") (st := s_law_bad_place) rfl rfl
  have g_law_bad_place := He.glo_ok X G (c.fact 36 (f := .glo "_law_bad_place") rfl)
  obtain ⟨fd_law_all_flows, F_law_all_flows⟩ := fun_e c 19 39 (x := "_law_all_flows") (st := s_law_all_flows) rfl rfl
  have g_law_all_flows := He.glo_ok X G (c.fact 38 (f := .glo "_law_all_flows") rfl)
  obtain ⟨fd_law, F_law⟩ := fun_e c 20 41 (x := "law") (st := s_law) rfl rfl
  have g_law := He.glo_ok X G (c.fact 40 (f := .glo "law") rfl)
  have z_enumerate := He.free_ok X G (c.fact 42 (f := .free "enumerate") rfl)
  have z_BEGIN := He.int_ok X G (c.fact 43 (f := .int "BEGIN" (-1)) rfl)
  have z_END := He.int_ok X G (c.fact 44 (f := .int "END" (-2)) rfl)
  have z_len := He.free_ok X G (c.fact 45 (f := .free "len") rfl)
  have z_min := He.free_ok X G (c.fact 46 (f := .free "min") rfl)
  have z_tuple := He.free_ok X G (c.fact 47 (f := .free "tuple") rfl)
  have z_list := He.free_ok X G (c.fact 48 (f := .free "list") rfl)
  have z_sum := He.free_ok X G (c.fact 49 (f := .free "sum") rfl)
  have z_sorted := He.free_ok X G (c.fact 50 (f := .free "sorted") rfl)
  have z_abs := He.free_ok X G (c.fact 51 (f := .free "abs") rfl)
  have z_int := He.free_ok X G (c.fact 52 (f := .free "int") rfl)
  have z_range := He.free_ok X G (c.fact 53 (f := .free "range") rfl)
  have z_zip := He.free_ok X G (c.fact 54 (f := .free "zip") rfl)
  have z_max := He.free_ok X G (c.fact 55 (f := .free "max") rfl)
  have z_repr := He.free_ok X G (c.fact 56 (f := .free "repr") rfl)
  have e := hfa.symm.trans g_law
  cases e
  have bL : ∀ (s : Shared) (v : Value), BindsTo s fd_law ⟨[v], []⟩ [("_law_script", v)] := by
    obtain ⟨oc, od, kV, doc, pm, an, cdv, ct, osl, rfl, lk, hcd⟩ := F_law.ex
    exact fun s v => .of_eq rfl
  refine ⟨fd_law, bL, fun base _ _ => ?_⟩
  have G_led_ways : FnG P w K mg base CX0 1 _ fd_led_ways ps_led_ways (toSp .e ms_led_ways Φ_led_ways) := fn_bv F_led_ways sc_led_ways rfl (fun X e1 e2 e3 e4 e5 hf _ cz => by subst e1 e2 e3 e4 e5; exact d_led_ways cz hf z_enumerate z_BEGIN z_END) (fun ds Q _ h => l_led_ways ds Q _ h)
  have C_led_ways : Cal P w K mg base CX0 1 "led_ways" ps_led_ways (toSp .e ms_led_ways Φ_led_ways) := cal_of G_led_ways g_led_ways F_led_ways.kp (F_led_ways.binds (ps := ps_led_ways) fun _ _ _ _ _ _ us hl => match us, hl with | [_], _ => rfl)
  have G_has_room : FnG P w K mg base CX0 1 _ fd_has_room ps_has_room (toSp .e ms_has_room Φ_has_room) := fn_bv F_has_room sc_has_room rfl (fun X e1 e2 e3 e4 e5 hf _ cz => by subst e1 e2 e3 e4 e5; exact d_has_room cz hf ) (fun ds Q _ h => l_has_room ds Q _ h)
  have C_has_room : Cal P w K mg base CX0 1 "has_room" ps_has_room (toSp .e ms_has_room Φ_has_room) := cal_of G_has_room g_has_room F_has_room.kp (F_has_room.binds (ps := ps_has_room) fun _ _ _ _ _ _ us hl => match us, hl with | [_, _, _, _], _ => rfl)
  have G_steps_back : FnG P w K mg base CX0 1 _ fd_steps_back ps_steps_back (toSp .e ms_steps_back Φ_steps_back) := fn_bv F_steps_back sc_steps_back rfl (fun X e1 e2 e3 e4 e5 hf _ cz => by subst e1 e2 e3 e4 e5; exact d_steps_back cz hf ) (fun ds Q _ h => l_steps_back ds Q _ h)
  have C_steps_back : Cal P w K mg base CX0 1 "steps_back" ps_steps_back (toSp .e ms_steps_back Φ_steps_back) := cal_of G_steps_back g_steps_back F_steps_back.kp (F_steps_back.binds (ps := ps_steps_back) fun _ _ _ _ _ _ us hl => match us, hl with | [_, _], _ => rfl)
  have G_least_left : FnG P w K mg base CX0 1 _ fd_least_left ps_least_left (toSp .e ms_least_left Φ_least_left) := fn_bv F_least_left sc_least_left rfl (fun X e1 e2 e3 e4 e5 hf _ cz => by subst e1 e2 e3 e4 e5; exact d_least_left cz hf z_min) (fun ds Q _ h => l_least_left ds Q _ h)
  have C_least_left : Cal P w K mg base CX0 1 "least_left" ps_least_left (toSp .e ms_least_left Φ_least_left) := cal_of G_least_left g_least_left F_least_left.kp (F_least_left.binds (ps := ps_least_left) fun _ _ _ _ _ _ us hl => match us, hl with | [_, _, _], _ => rfl)
  have G_arcs_for : FnG P w K mg base CX0 1 _ fd_arcs_for ps_arcs_for (toSp .e ms_arcs_for Φ_arcs_for) := fn_bv F_arcs_for sc_arcs_for rfl (fun X e1 e2 e3 e4 e5 hf _ cz => by subst e1 e2 e3 e4 e5; exact d_arcs_for cz hf z_enumerate z_END z_BEGIN) (fun ds Q _ h => l_arcs_for ds Q _ h)
  have C_arcs_for : Cal P w K mg base CX0 1 "arcs_for" ps_arcs_for (toSp .e ms_arcs_for Φ_arcs_for) := cal_of G_arcs_for g_arcs_for F_arcs_for.kp (F_arcs_for.binds (ps := ps_arcs_for) fun _ _ _ _ _ _ us hl => match us, hl with | [_, _, _, _], _ => rfl)
  have G_law_jar : FnG P w K mg base CX0 1 _ fd_law_jar ps_law_jar (spJar "far" "stirred" "turn" K) := fn_jar (t := b_law_jar) F_law_jar sc_law_jar (fun X e1 e2 e3 e4 e5 hf cz => by subst e1 e2 e3 e4 e5; exact d_law_jar cz hf z_abs z_int z_len) (fun ns hz => l_law_jar K ns hz)
  have C_law_jar : Cal P w K mg base CX0 1 "_law_jar" ps_law_jar (spJar "far" "stirred" "turn" K) := cal_of G_law_jar g_law_jar F_law_jar.kp (F_law_jar.binds (ps := ps_law_jar) fun _ _ _ _ _ _ us hl => match us, hl with | [_], _ => rfl)
  have G_law_draw : FnG P w K mg base CX0 1 _ fd_law_draw ps_law_draw (toSp .e ms_law_draw Φ_law_draw) := fn_law_draw F_law_draw z_int
  have C_law_draw : Cal P w K mg base CX0 1 "_law_draw" ps_law_draw (toSp .e ms_law_draw Φ_law_draw) := cal_of G_law_draw g_law_draw F_law_draw.kp (F_law_draw.binds (ps := ps_law_draw) fun _ _ _ _ _ _ us hl => match us, hl with | [_, _], _ => rfl)
  have G_law_goes : FnG P w K mg base CX0 1 _ fd_law_goes ps_law_goes (toSp .e ms_law_goes Φ_law_goes) := fn_bv F_law_goes sc_law_goes rfl (fun X e1 e2 e3 e4 e5 hf _ cz => by subst e1 e2 e3 e4 e5; exact d_law_goes cz hf z_zip z_sum) (fun ds Q _ h => l_law_goes ds Q _ h)
  have C_law_goes : Cal P w K mg base CX0 1 "_law_goes" ps_law_goes (toSp .e ms_law_goes Φ_law_goes) := cal_of G_law_goes g_law_goes F_law_goes.kp (F_law_goes.binds (ps := ps_law_goes) fun _ _ _ _ _ _ us hl => match us, hl with | [_, _, _], _ => rfl)
  have G_law_comes : FnG P w K mg base CX0 1 _ fd_law_comes ps_law_comes (toSp .e ms_law_comes Φ_law_comes) := fn_bv F_law_comes sc_law_comes rfl (fun X e1 e2 e3 e4 e5 hf _ cz => by subst e1 e2 e3 e4 e5; exact d_law_comes cz hf z_enumerate z_sum) (fun ds Q _ h => l_law_comes ds Q _ h)
  have C_law_comes : Cal P w K mg base CX0 1 "_law_comes" ps_law_comes (toSp .e ms_law_comes Φ_law_comes) := cal_of G_law_comes g_law_comes F_law_comes.kp (F_law_comes.binds (ps := ps_law_comes) fun _ _ _ _ _ _ us hl => match us, hl with | [_, _, _, _], _ => rfl)
  have G_reached : FnG P w K mg base CX0 2 _ fd_reached ps_reached (toSp .e ms_reached Φ_reached) := fn_bv F_reached sc_reached rfl (fun X e1 e2 e3 e4 e5 hf _ cz => by subst e1 e2 e3 e4 e5; exact d_reached cz hf C_has_room z_len) (fun ds Q _ h => l_reached ds Q _ h)
  have C_reached : Cal P w K mg base CX0 2 "reached" ps_reached (toSp .e ms_reached Φ_reached) := cal_of G_reached g_reached F_reached.kp (F_reached.binds (ps := ps_reached) fun _ _ _ _ _ _ us hl => match us, hl with | [_, _, _, _, _], _ => rfl)
  have G_law_pick : FnG P w K mg base CX0 2 _ fd_law_pick ps_law_pick (toSp .e ms_law_pick Φ_law_pick) := fn_bv F_law_pick sc_law_pick rfl (fun X e1 e2 e3 e4 e5 hf _ cz => by subst e1 e2 e3 e4 e5; exact d_law_pick cz hf C_law_draw z_len) (fun ds Q _ h => l_law_pick ds Q _ h)
  have C_law_pick : Cal P w K mg base CX0 2 "_law_pick" ps_law_pick (toSp .e ms_law_pick Φ_law_pick) := cal_of G_law_pick g_law_pick F_law_pick.kp (F_law_pick.binds (ps := ps_law_pick) fun _ _ _ _ _ _ us hl => match us, hl with | [_, _], _ => rfl)
  have G_law_few : FnG P w K mg base CX0 2 _ fd_law_few ps_law_few (toSp .e ms_law_few Φ_law_few) := fn_bv F_law_few sc_law_few rfl (fun X e1 e2 e3 e4 e5 hf _ cz => by subst e1 e2 e3 e4 e5; exact d_law_few cz hf C_law_draw z_list z_len z_min z_range) (fun ds Q _ h => l_law_few ds Q _ h)
  have C_law_few : Cal P w K mg base CX0 2 "_law_few" ps_law_few (toSp .e ms_law_few Φ_law_few) := cal_of G_law_few g_law_few F_law_few.kp (F_law_few.binds (ps := ps_law_few) fun _ _ _ _ _ _ us hl => match us, hl with | [_, _, _], _ => rfl)
  have G_law_worth : FnG P w K mg base CX0 2 _ fd_law_worth ps_law_worth (toSp .e ms_law_worth Φ_law_worth) := fn_bv F_law_worth sc_law_worth rfl (fun X e1 e2 e3 e4 e5 hf _ cz => by subst e1 e2 e3 e4 e5; exact d_law_worth cz hf C_law_goes C_law_comes z_sum) (fun ds Q _ h => l_law_worth ds Q _ h)
  have C_law_worth : Cal P w K mg base CX0 2 "_law_worth" ps_law_worth (toSp .e ms_law_worth Φ_law_worth) := cal_of G_law_worth g_law_worth F_law_worth.kp (F_law_worth.binds (ps := ps_law_worth) fun _ _ _ _ _ _ us hl => match us, hl with | [_, _, _, _], _ => rfl)
  have G_law_bad_place : FnG P w K mg base CX0 2 _ fd_law_bad_place ps_law_bad_place (toSp .e ms_law_bad_place Φ_law_bad_place) := fn_bv F_law_bad_place sc_law_bad_place rfl (fun X e1 e2 e3 e4 e5 hf _ cz => by subst e1 e2 e3 e4 e5; exact d_law_bad_place cz hf C_law_goes C_law_comes z_range) (fun ds Q _ h => l_law_bad_place ds Q _ h)
  have C_law_bad_place : Cal P w K mg base CX0 2 "_law_bad_place" ps_law_bad_place (toSp .e ms_law_bad_place Φ_law_bad_place) := cal_of G_law_bad_place g_law_bad_place F_law_bad_place.kp (F_law_bad_place.binds (ps := ps_law_bad_place) fun _ _ _ _ _ _ us hl => match us, hl with | [_, _, _, _, _], _ => rfl)
  have G_pushed : FnG P w K mg base CX0 3 _ fd_pushed ps_pushed (toSp .e ms_pushed Φ_pushed) := fn_bv F_pushed sc_pushed rfl (fun X e1 e2 e3 e4 e5 hf _ cz => by subst e1 e2 e3 e4 e5; exact d_pushed cz hf C_led_ways C_reached C_steps_back C_least_left z_len) (fun ds Q _ h => l_pushed ds Q _ h)
  have C_pushed : Cal P w K mg base CX0 3 "pushed" ps_pushed (toSp .e ms_pushed Φ_pushed) := cal_of G_pushed g_pushed F_pushed.kp (F_pushed.binds (ps := ps_pushed) fun _ _ _ _ _ _ us hl => match us, hl with | [_, _, _, _], _ => rfl)
  have G_endless_way : FnG P w K mg base CX0 3 _ fd_endless_way ps_endless_way (toSp .e ms_endless_way Φ_endless_way) := fn_bv F_endless_way sc_endless_way rfl (fun X e1 e2 e3 e4 e5 hf _ cz => by subst e1 e2 e3 e4 e5; exact d_endless_way cz hf C_arcs_for C_led_ways C_reached C_steps_back z_len z_END z_BEGIN z_tuple) (fun ds Q _ h => l_endless_way ds Q _ h)
  have C_endless_way : Cal P w K mg base CX0 3 "endless_way" ps_endless_way (toSp .e ms_endless_way Φ_endless_way) := cal_of G_endless_way g_endless_way F_endless_way.kp (F_endless_way.binds (ps := ps_endless_way) fun _ _ _ _ _ _ us hl => match us, hl with | [_, _, _, _, _], _ => rfl)
  have G_law_net : FnG P w K mg base CX0 3 _ fd_law_net ps_law_net (toSp .e ms_law_net Φ_law_net) := fn_bv F_law_net sc_law_net rfl (fun X e1 e2 e3 e4 e5 hf _ cz => by subst e1 e2 e3 e4 e5; exact d_law_net cz hf C_law_draw C_law_few z_list z_range z_sorted z_zip z_len z_max z_tuple) (fun ds Q _ h => l_law_net ds Q _ h)
  have C_law_net : Cal P w K mg base CX0 3 "_law_net" ps_law_net (toSp .e ms_law_net Φ_law_net) := cal_of G_law_net g_law_net F_law_net.kp (F_law_net.binds (ps := ps_law_net) fun _ _ _ _ _ _ us hl => match us, hl with | [_, _, _], _ => rfl)
  have G_law_stops : FnG P w K mg base CX0 3 _ fd_law_stops ps_law_stops (toSp .e ms_law_stops Φ_law_stops) := fn_bv F_law_stops sc_law_stops rfl (fun X e1 e2 e3 e4 e5 hf _ cz => by subst e1 e2 e3 e4 e5; exact d_law_stops cz hf C_law_draw C_law_few C_law_pick z_len z_list z_range z_sorted z_tuple) (fun ds Q _ h => l_law_stops ds Q _ h)
  have C_law_stops : Cal P w K mg base CX0 3 "_law_stops" ps_law_stops (toSp .e ms_law_stops Φ_law_stops) := cal_of G_law_stops g_law_stops F_law_stops.kp (F_law_stops.binds (ps := ps_law_stops) fun _ _ _ _ _ _ us hl => match us, hl with | [_, _], _ => rfl)
  have G_law_all_flows : FnG P w K mg base CX0 3 _ fd_law_all_flows ps_law_all_flows (toSp .e ms_law_all_flows Φ_law_all_flows) := fn_bv F_law_all_flows sc_law_all_flows rfl (fun X e1 e2 e3 e4 e5 hf _ cz => by subst e1 e2 e3 e4 e5; exact d_law_all_flows cz hf C_law_bad_place z_range z_int z_tuple) (fun ds Q _ h => l_law_all_flows ds Q _ h)
  have C_law_all_flows : Cal P w K mg base CX0 3 "_law_all_flows" ps_law_all_flows (toSp .e ms_law_all_flows Φ_law_all_flows) := cal_of G_law_all_flows g_law_all_flows F_law_all_flows.kp (F_law_all_flows.binds (ps := ps_law_all_flows) fun _ _ _ _ _ _ us hl => match us, hl with | [_, _, _, _, _], _ => rfl)
  have G_greatest_flow : FnG P w K mg base CX0 4 _ fd_greatest_flow ps_greatest_flow (toSp .e ms_greatest_flow Φ_greatest_flow) := fn_bv F_greatest_flow sc_greatest_flow rfl (fun X e1 e2 e3 e4 e5 hf _ cz => by subst e1 e2 e3 e4 e5; exact d_greatest_flow cz hf C_endless_way C_arcs_for C_pushed z_len z_END z_BEGIN z_list z_sum z_sorted z_tuple) (fun ds Q _ h => l_greatest_flow ds Q _ h)
  have C_greatest_flow : Cal P w K mg base CX0 4 "greatest_flow" ps_greatest_flow (toSp .e ms_greatest_flow Φ_greatest_flow) := cal_of G_greatest_flow g_greatest_flow F_greatest_flow.kp (F_greatest_flow.binds (ps := ps_greatest_flow) fun _ _ _ _ _ _ us hl => match us, hl with | [_, _, _, _, _], _ => rfl)
  exact fn_law (i := 1) F_law sc_law rfl C_law_jar (by decide) (by decide +kernel) (by decide) (by decide +kernel) (by decide +kernel) (by decide) (fun X e1 e2 e3 e4 e5 hf cz => by subst e1 e2 e3 e4 e5; exact d_law cz hf C_law_draw C_law_net C_law_pick C_law_stops C_greatest_flow C_law_all_flows C_law_worth z_range z_min z_tuple z_repr z_max) l_law
end K46
open PySem PySem.W PySem.Calls PyProof.Rows
theorem PySem.Challenge.cw_suretrips_k46_whole_values_beside_all_fl_holds : PySem.Challenge.rw_suretrips_k46_whole_values_beside_all_fl.Holds := by
  w_on; o_law
  refine HandSHeadRun.head_any (r := OpenLaw.row PySem.Challenge.rw_suretrips_k46_whole_values_beside_all_fl) (q := view (OpenLaw.row PySem.Challenge.rw_suretrips_k46_whole_values_beside_all_fl).prog [24]) (H := K46.hk) (ob := K46.ob) (M := 2000) (loose := K46.loose) (d := HandSHeadRun.topDef (OpenLaw.row PySem.Challenge.rw_suretrips_k46_whole_values_beside_all_fl).prog 24) (kwd := []) K46.ob_eq
    (by kernel_rfl) (fun s => by kernel_rfl) K46.run (by kernel_rfl) (by kernel_rfl) (by kernel_rfl) (by rfl) (by first | assumption | decide +kernel) (by decide +kernel) ⟨rfl, rfl, rfl, rfl, rfl, by decide +kernel⟩ ?hw ?hc
  case hw => w_witness2
  case hc =>
    refine BV.walk_ofE (l := PySem.Challenge.rw_suretrips_k46_whole_values_beside_all_fl) (n := 63) (k := 5) (x := "_law_script") (spp := BV.spLaw) rfl (by decide) (by kernel_rfl) ⟨rfl, by decide, by decide⟩ ?F (fun K H a ns hl ho hS => ⟨a, ns, rfl, hl, BV.scr_of ho hS, fun _ => rfl⟩)
    intro w mg fa h Y G hmg0
    obtain ⟨K, KX, c⟩ := Y
    have hmg : mg ("law" : PySem.Str) = some (.ref fa) := by
      have e : (HandSHeadRun.topDef (OpenLaw.row PySem.Challenge.rw_suretrips_k46_whole_values_beside_all_fl).prog 24).name = ("law" : PySem.Str) := by kernel_rfl
      rw [← e]
      exact hmg0
    obtain ⟨fd, hb, hF⟩ := K46.facts (P := (PySem.Challenge.rw_suretrips_k46_whole_values_beside_all_fl).prog) (w := w) KX G hmg c
    exact ⟨K, fd, KX, hb, hF⟩
