import PyProof.Rows.All
import Wide.All
import OpenK.AllK
import Wide.FinOn
import PySem.Challenge.RW_lowturns_k43_whole_settings_that_stay
import HandS.ForMost
import HandS.ForExc
import HandS.Lambda
import KE.KDictKeyed
import HandS.TupAny
import HandS.TupMul
import HandS.TupLe
import HandS.IsInst
import HandS.FStr
import HandS.Conv
import HandS.Style
import HandS.Defaults
import HandS.Property
import HandS.MakeKwOnly
import HandS.ClsMeth
import HandS.Zip
import HandS.Words
import HandS.WordsExc
import HandS.Head0
import HandS.Head1
import HandS.Head2
import HandS.HeadEnd
import HandS.HeadHook1
import HandS.HeadHook2
import HandS.HeadHook3
import HandS.HeadHook4
import HandS.Star
import HandS.HeadNt
import HandS.SlotsOwn
import HandS.Deep
import HandS.Dict
import HandS.ExcInit
import HandS.ExcField
import KE.KExcSuper
import KE.KTryMore
import HandS.EndTab
import OpenK.KWalk
import PyProof.StrHeap
import KE.GoesMore
import KE.KDictDisplayH
import KE.SortCalls
import HandS.TupSets
import HandS.Codes
import Open.SpecLaws
set_option Elab.async false
set_option linter.all false
set_option maxRecDepth 100000
set_option maxHeartbeats 0
/-! Z: values without a heap (D), what is owned by a frame (RV), and the relation to the layer's heap. -/
namespace Z
open PySem PySem.Spec PyProof.Rows L2

/-- a lambda as it is written: its qualified name, its parameters, its body, its names, the maker's names, its default -/
structure LamI where
  qual : Str
  params : Arguments
  body : Expr
  scope : Scope
  pnames : List (Str × NameKind)
  dfl : Option Int
/-- a datum, without addresses (but for the frame of a lambda's maker) -/
inductive D where
  | non
  | bl (b : Bool)
  | int (i : Int)
  | str (x : Str)
  | tup (xs : List D)
  | lst (xs : List D)
  | fls (xs : List D)
  | dct (kvs : List (NestedKey × D))
  | obj (c : Str) (fs : List (Str × D))
  | cls (c : Str)
  | lam (k : Nat) (I : LamI) (L : Nat) (ds : List D)

/-! ### keys of dicts -/
mutual
def nkD : NestedKey → D
  | .none => .non
  | .num i => .int i
  | .text x => .str x
  | .tup ks => .tup (nkDs ks)
def nkDs : List NestedKey → List D
  | [] => []
  | k :: ks => nkD k :: nkDs ks
end
def kN : Key → NestedKey
  | .inl i => .num i
  | .inr x => .text x
mutual
def txl : NestedKey → Bool
  | .text _ => false
  | .none => true
  | .num _ => true
  | .tup ks => txls ks
def txls : List NestedKey → Bool
  | [] => true
  | k :: ks => txl k && txls ks
end
/-- a key that is a tuple, without texts, not nested too deep -/
def tupKey : NestedKey → Bool
  | .tup ks => txls ks && Nat.ble ((NestedKey.tup ks).depth) 8
  | _ => false
def entN (w0 : World) (x : NestedKey × Addr × Value) : DictEntry := ⟨x.1.hash w0, .ref x.2.1, x.2.2⟩
/-- a dict whose keys are tuples: the keys, where they stand, the values -/
def DcN (a : Addr) (es : List (NestedKey × Addr × V)) : Heap → Prop := fun h =>
  es ≠ [] ∧ es.length ≤ sizeLine ∧ (a == sysModules) = false ∧ (∀ e ∈ es, tupKey e.1 = true) ∧ ∃ (w0 : World) (xs : List (NestedKey × Addr × Value)), Paired (fun p q => p.1 = q.1 ∧ p.2.1 = q.2.1 ∧ RelV p.2.2 q.2.2) es xs ∧
    ∃ o ents ep, h.get? a = some o ∧ o.ExactDict ∧ o.data = .dict ents ep ∧ ents.toList = xs.map (entN w0) ∧ (xs.map (·.1)).Nodup
def dcO (a : Addr) (es : List (NestedKey × Addr × V)) : HO := .ext (DcN a es)
theorem get_nf {h : Heap} {a : Addr} {o : Obj} (e : h.get? a = some o) : o.data ≠ .freed := fun z => by
  obtain ⟨c, d, dt, sl⟩ := o
  simp only at z
  subst z
  unfold Heap.get? at e
  split at e
  · cases e
  · rename_i n
    exact n _ _ _ e
theorem flat_get {o : Obj} (nf : o.data ≠ .freed) {n b : Nat} (h : b < n) : (Heap.mk (Array.replicate n o) {}).get? b = some o := by
  obtain ⟨c, d, dt, sl⟩ := o
  unfold Heap.get?
  rw [Array.getElem?_replicate, if_pos h]
  cases dt <;> first | rfl | exact absurd rfl nf
theorem dcO_ne {a b : Addr} {es : List (NestedKey × Addr × V)} {o : Obj} (nf : o.data ≠ .freed) : dcO a es ≠ .ext fun h => h.get? b = some o := fun e => by
  have e1 : DcN a es = fun h => h.get? b = some o := by unfold dcO at e; injection e
  have h0 : DcN a es (Heap.mk (Array.replicate (b + 1) o) {}) := by rw [e1]; exact flat_get nf (Nat.lt_succ_self b)
  obtain ⟨z0, z1, z2, z3, w0, xs, z4, o2, ents, ep, z5, z6, z7, z8, z9⟩ := h0
  have ha : a < b + 1 := by
    have := Heap.lt_size z5
    simpa using this
  rw [flat_get nf ha] at z5
  cases z5
  have nf2 : ({ o with data := .dict ents (ep + 1) } : Obj).data ≠ .freed := nofun
  have h1 : DcN a es (Heap.mk (Array.replicate (b + 1) { o with data := .dict ents (ep + 1) }) {}) := ⟨z0, z1, z2, z3, w0, xs, z4, _, ents, ep + 1, flat_get nf2 ha, z6, rfl, z8, z9⟩
  rw [e1] at h1
  have h2 := (flat_get nf2 (Nat.lt_succ_self b)).symm.trans h1
  have h3 := congrArg Obj.data (Option.some.inj h2)
  rw [z7] at h3
  injection h3 with _ h4
  omega

theorem dcN_code {c : Addr} {es : List (NestedKey × Addr × V)} {q : Str} : (fun h : Heap => ∃ (oc : Obj) (vs : Array Value) (t : Tok), h.get? c = some oc ∧ oc.data = .fields vs ∧ vs[1]? = some (.str q t)) ≠ DcN c es := fun e => by
  have h2 : DcN c es (Heap.mk (Array.replicate (c + 1) { cls := .none, data := .fields #[.none, .str q 0] }) {}) := by
    rw [← e]; exact ⟨_, _, 0, flat_get (o := { cls := .none, data := .fields #[.none, .str q 0] }) nofun (Nat.lt_succ_self c), rfl, rfl⟩
  obtain ⟨_, _, _, _, _, _, _, o2, ents, ep, z5, _, z7, _, _⟩ := h2
  rw [flat_get (o := { cls := .none, data := .fields #[.none, .str q 0] }) nofun (Nat.lt_succ_self c)] at z5
  cases z5
  cases z7
/-- the heap grows -/
def Ex (G H : Hp) : Prop := ∀ a o, G a = some o → H a = some o
theorem Ex.refl (H : Hp) : Ex H H := fun _ _ h => h
theorem Ex.trans {H H1 H2 : Hp} (a : Ex H H1) (b : Ex H1 H2) : Ex H H2 := fun x o h => b x o (a x o h)
theorem Ex.new {H : Hp} {p : Addr} {o : HO} (h : H p = none) : Ex H (upd H p o) := fun a u e => by
  rw [upd_ne (ne_of_none e h)]; exact e
theorem Ex.upd2 {G H : Hp} (e : Ex G H) (p : Addr) (o : HO) : Ex (upd G p o) (upd H p o) := fun a u h => by
  by_cases q : a = p
  · subst q; rw [upd_same] at h ⊢; exact h
  · rw [upd_ne q] at h ⊢; exact e a u h
theorem Ex.upd {G H : Hp} (e : Ex G H) {p : Addr} {o : HO} (h : G p = none) : Ex G (upd H p o) := fun a u q => by
  rw [upd_ne (ne_of_none q h)]; exact e a u q
theorem Ex.none {G H : Hp} (e : Ex G H) {p : Addr} (h : H p = none) : G p = none := by
  cases q : G p with
  | none => rfl
  | some o => rw [e p o q] at h; cases h
theorem Ex.rd {H H' : Hp} {a : Addr} {u : HO} (e : Ex H H') (h : Rd H a u) : Rd H' a u := by
  rcases h with h | ⟨o, h⟩
  · exact Or.inl (e a _ h)
  · exact Or.inr ⟨o, e a _ h⟩
theorem Ex.sqL {K : PySem.W.Frag} {H H' : Hp} {a : Addr} {xs : List V} (e : Ex H H') (h : SqL K H a xs) : SqL K H' a xs := by
  rcases h with h | h
  · exact Or.inl (e.rd h)
  · exact Or.inr h
theorem Ex.sqT {K : PySem.W.Frag} {H H' : Hp} {a : Addr} {xs : List V} (e : Ex H H') (h : SqT K H a xs) : SqT K H' a xs := by
  rcases h with h | h
  · exact Or.inl (e.rd h)
  · exact Or.inr h

/-! ### lambdas -/
def cloOf (I : LamI) (L : Addr) : List (Str × Addr) := cloFrom (cellsFrom (L + 1) I.pnames []) I.scope.names []
abbrev lamFn (I : LamI) (L : Addr) (pm cdv ct dV : Value) : FuncData :=
  { name := "<lambda>", qualname := I.qual, params := I.params, body := .expr I.body, scope := I.scope, globals := mainGlobals, closure := cloOf I L, defaults := dV, kwdefaults := .none, doc := .none, pyModule := pm, annotations := none, code := cdv, closureTuple := ct, builtins := builtinsNs }
/-- the function object of the lambda I that was made in the frame at L -/
def lamO (f : Addr) (I : LamI) (L : Addr) (pm ct dV : Value) (c' : Addr) : HO := .ext fun h => h.get? f = some { cls := .type "function", data := .func (lamFn I L pm (.ref c') ct dV) }
def cellO (c : Addr) (o : Obj) : HO := .ext fun h => h.get? c = some o
/-- the captured names -/
def fre (I : LamI) : List Str := (I.scope.names.filter (·.2 == .free)).map (·.1)
def DflR (G : Hp) (I : LamI) (dV : Value) : Prop := match I.dfl with
  | none => dV = .none
  | some i => ∃ t : Addr, dV = .ref t ∧ G t = some (.tup [.int i])
structure LamR (G : Hp) (f : Addr) (I : LamI) (L : Addr) (vs : List V) : Prop where
  fn : ∃ (pm ct dV : Value) (c' : Addr) (q : Str), G f = some (lamO f I L pm ct dV c') ∧ G c' = some (LamX.CodeO c' q) ∧ DflR G I dV
  cells : ∀ (j : Nat) (v : V), vs[j]? = some v → ∃ (x : Str) (c : Addr) (o : Obj) (u : Value), (fre I)[j]? = some x ∧ (cloOf I L).lookup x = some c ∧ G c = some (cellO c o) ∧ o.data = .cell (some u) ∧ RelV v u
theorem DflR.mono {G H : Hp} (e : Ex G H) {I : LamI} {dV : Value} (h : DflR G I dV) : DflR H I dV := by
  unfold DflR at h ⊢
  split at h
  · exact h
  · obtain ⟨t, h1, h2⟩ := h; exact ⟨t, h1, e _ _ h2⟩
theorem LamR.mono {G H : Hp} (e : Ex G H) {f : Addr} {I : LamI} {L : Addr} {vs : List V} (h : LamR G f I L vs) : LamR H f I L vs := by
  obtain ⟨⟨pm, ct, dV, c', q', h1, h2, h3⟩, hc⟩ := h
  refine ⟨⟨pm, ct, dV, c', q', e _ _ h1, e _ _ h2, h3.mono e⟩, fun j v q => ?_⟩
  obtain ⟨x, c, o, u, k1, k2, k3, k4⟩ := hc j v q
  exact ⟨x, c, o, u, k1, k2, e _ _ k3, k4⟩
section
variable (K : PySem.W.Frag) (mg : Str → Option Value)
/-- v stands for d in the heap G -/
inductive Den (G : Hp) : V → D → Prop
  | non : Den G .non .non
  | bl (b : Bool) : Den G (.bl b) (.bl b)
  | int (i : Int) : Den G (.int i) (.int i)
  | str (x : Str) : Den G (.str x) (.str x)
  | tup {a : Addr} {xs : List V} {ds : List D} : SqT K G a xs → xs.length = ds.length → (∀ (i : Nat) (v : V) (d : D), xs[i]? = some v → ds[i]? = some d → Den G v d) → Den G (.ref a) (.tup ds)
  | lst {a : Addr} {xs : List V} {ds : List D} : G a = some (.lst xs) → xs.length = ds.length → (∀ (i : Nat) (v : V) (d : D), xs[i]? = some v → ds[i]? = some d → Den G v d) → Den G (.ref a) (.lst ds)
  | fls {a : Addr} {xs : List V} {ds : List D} : SqL K G a xs → xs.length = ds.length → (∀ (i : Nat) (v : V) (d : D), xs[i]? = some v → ds[i]? = some d → Den G v d) → Den G (.ref a) (.fls ds)
  | dct {a : Addr} {gs : List (Key × V)} {kvs : List (NestedKey × D)} : G a = some (.dK gs) → gs.map (fun p => kN p.1) = kvs.map (·.1) → (∀ (i : Nat) (p : Key × V) (q : NestedKey × D), gs[i]? = some p → kvs[i]? = some q → Den G p.2 q.2) → Den G (.ref a) (.dct kvs)
  | dcn {a : Addr} {es : List (NestedKey × Addr × V)} {kvs : List (NestedKey × D)} : G a = some (dcO a es) → es.map (·.1) = kvs.map (·.1) → (∀ (i : Nat) (p : NestedKey × Addr × V), es[i]? = some p → Den G (.ref p.2.1) (nkD p.1)) → (∀ (i : Nat) (p : NestedKey × Addr × V) (q : NestedKey × D), es[i]? = some p → kvs[i]? = some q → Den G p.2.2 q.2) → Den G (.ref a) (.dct kvs)
  | obj {a : Addr} {c : Str} {C dx : Addr} {gs : List (Str × V)} {fs : List (Str × D)} : mg c = some (.ref C) → G a = some (.ins C dx gs) → gs.map (·.1) = fs.map (·.1) → (∀ (i : Nat) (p : Str × V) (q : Str × D), gs[i]? = some p → fs[i]? = some q → Den G p.2 q.2) → Den G (.ref a) (.obj c fs)
  | cls {c : Str} {C : Addr} : mg c = some (.ref C) → Den G (.ref C) (.cls c)
  | lam {f : Addr} {k : Nat} {I : LamI} {L : Nat} {vs : List V} {ds : List D} : LamR G f I L vs → vs.length = ds.length → (∀ (i : Nat) (v : V) (d : D), vs[i]? = some v → ds[i]? = some d → Den G v d) → Den G (.ref f) (.lam k I L ds)
def DenL (G : Hp) (xs : List V) (ds : List D) : Prop := xs.length = ds.length ∧ ∀ (i : Nat) (v : V) (d : D), xs[i]? = some v → ds[i]? = some d → Den K mg G v d
def DenK (G : Hp) (gs : List (Key × V)) (kvs : List (NestedKey × D)) : Prop := gs.map (fun p => kN p.1) = kvs.map (·.1) ∧ ∀ (i : Nat) (p : Key × V) (q : NestedKey × D), gs[i]? = some p → kvs[i]? = some q → Den K mg G p.2 q.2
def DenE (G : Hp) (es : List (NestedKey × Addr × V)) (kvs : List (NestedKey × D)) : Prop := es.map (·.1) = kvs.map (·.1) ∧ (∀ (i : Nat) (p : NestedKey × Addr × V), es[i]? = some p → Den K mg G (.ref p.2.1) (nkD p.1)) ∧ ∀ (i : Nat) (p : NestedKey × Addr × V) (q : NestedKey × D), es[i]? = some p → kvs[i]? = some q → Den K mg G p.2.2 q.2
def DenA {α : Type} (G : Hp) (gs : List (α × V)) (fs : List (α × D)) : Prop := gs.map (·.1) = fs.map (·.1) ∧ ∀ (i : Nat) (p : α × V) (q : α × D), gs[i]? = some p → fs[i]? = some q → Den K mg G p.2 q.2
end

section
variable {K : PySem.W.Frag} {mg : Str → Option Value} {G G' H H' : Hp}
theorem Den.mono (e : Ex G G') {v : V} {d : D} (h : Den K mg G v d) : Den K mg G' v d := by
  induction h with
  | non => exact .non
  | bl b => exact .bl b
  | int i => exact .int i
  | str x => exact .str x
  | tup h l _ ih => exact .tup (e.sqT h) l ih
  | lst h l _ ih => exact .lst (e _ _ h) l ih
  | fls h l _ ih => exact .fls (e.sqL h) l ih
  | dct h l _ ih => exact .dct (e _ _ h) l ih
  | dcn h l _ _ ik ih => exact .dcn (e _ _ h) l ik ih
  | obj m h l _ ih => exact .obj m (e _ _ h) l ih
  | cls m => exact .cls m
  | lam h l _ ih => exact .lam (h.mono e) l ih
theorem DenL.mono (e : Ex G G') {xs : List V} {ds : List D} (h : DenL K mg G xs ds) : DenL K mg G' xs ds := ⟨h.1, fun i v d a b => (h.2 i v d a b).mono e⟩
theorem DenA.mono {α : Type} (e : Ex G G') {xs : List (α × V)} {ds : List (α × D)} (h : DenA K mg G xs ds) : DenA K mg G' xs ds := ⟨h.1, fun i v d a b => (h.2 i v d a b).mono e⟩
theorem DenK.mono (e : Ex G G') {xs : List (Key × V)} {ds : List (NestedKey × D)} (h : DenK K mg G xs ds) : DenK K mg G' xs ds := ⟨h.1, fun i v d a b => (h.2 i v d a b).mono e⟩
theorem DenE.mono (e : Ex G G') {xs : List (NestedKey × Addr × V)} {ds : List (NestedKey × D)} (h : DenE K mg G xs ds) : DenE K mg G' xs ds := ⟨h.1, fun i v a => (h.2.1 i v a).mono e, fun i v d a b => (h.2.2 i v d a b).mono e⟩
theorem Den.tupL {a : Addr} {xs : List V} {ds : List D} (h : SqT K G a xs) (l : DenL K mg G xs ds) : Den K mg G (.ref a) (.tup ds) := .tup h l.1 l.2
theorem Den.lstL {a : Addr} {xs : List V} {ds : List D} (h : G a = some (.lst xs)) (l : DenL K mg G xs ds) : Den K mg G (.ref a) (.lst ds) := .lst h l.1 l.2
theorem Den.tup_inv {v : V} {ds : List D} (h : Den K mg G v (.tup ds)) : ∃ a xs, v = .ref a ∧ SqT K G a xs ∧ DenL K mg G xs ds := by
  cases h with
  | tup h l q => exact ⟨_, _, rfl, h, l, q⟩
theorem Den.lst_inv {v : V} {ds : List D} (h : Den K mg G v (.lst ds)) : ∃ a xs, v = .ref a ∧ G a = some (.lst xs) ∧ DenL K mg G xs ds := by
  cases h with
  | lst h l q => exact ⟨_, _, rfl, h, l, q⟩
theorem Den.int_inv {v : V} {i : Int} (h : Den K mg G v (.int i)) : v = .int i := by cases h; rfl
theorem Den.bl_inv {v : V} {i : Bool} (h : Den K mg G v (.bl i)) : v = .bl i := by cases h; rfl
theorem Den.str_inv {v : V} {i : Str} (h : Den K mg G v (.str i)) : v = .str i := by cases h; rfl
theorem Den.non_inv {v : V} (h : Den K mg G v .non) : v = .non := by cases h; rfl
theorem DenL.nil : DenL K mg G [] [] := ⟨rfl, fun i v d a => by simp at a⟩
theorem DenL.cons {v : V} {d : D} {xs : List V} {ds : List D} (h : Den K mg G v d) (t : DenL K mg G xs ds) : DenL K mg G (v :: xs) (d :: ds) := by
  refine ⟨by simp [t.1], fun i w e a b => ?_⟩
  cases i with
  | zero => simp at a b; subst a; subst b; exact h
  | succ i => simp at a b; exact t.2 i w e a b
theorem DenL.cons_inv {v : V} {d : D} {xs : List V} {ds : List D} (h : DenL K mg G (v :: xs) (d :: ds)) : Den K mg G v d ∧ DenL K mg G xs ds := by
  refine ⟨h.2 0 v d rfl rfl, by simpa using h.1, fun i w e a b => h.2 (i + 1) w e (by simpa using a) (by simpa using b)⟩
theorem DenL.nil_inv {xs : List V} (h : DenL K mg G xs []) : xs = [] := by
  have := h.1; simpa using this
theorem DenL.cons_ex {d : D} {xs : List V} {ds : List D} (h : DenL K mg G xs (d :: ds)) : ∃ v vs, xs = v :: vs ∧ Den K mg G v d ∧ DenL K mg G vs ds := by
  cases xs with
  | nil => have := h.1; simp at this
  | cons v vs => exact ⟨v, vs, rfl, h.cons_inv⟩
theorem DenL.app {xs ys : List V} {ds es : List D} (h : DenL K mg G xs ds) (t : DenL K mg G ys es) : DenL K mg G (xs ++ ys) (ds ++ es) := by
  induction ds generalizing xs with
  | nil => rw [h.nil_inv]; exact t
  | cons d ds ih =>
    obtain ⟨v, vs, rfl, h1, h2⟩ := h.cons_ex
    exact .cons h1 (ih h2)
theorem DenL.get {xs : List V} {ds : List D} {i : Nat} {d : D} (h : DenL K mg G xs ds) (e : ds[i]? = some d) : ∃ v, xs[i]? = some v ∧ Den K mg G v d := by
  have hi : i < ds.length := (List.getElem?_eq_some_iff.mp e).1
  have hx : i < xs.length := by rw [h.1]; exact hi
  exact ⟨xs[i], by simp [hx], h.2 i _ d (by simp [hx]) e⟩
theorem DenL.getV {xs : List V} {ds : List D} {i : Nat} {v : V} (h : DenL K mg G xs ds) (e : xs[i]? = some v) : ∃ d, ds[i]? = some d ∧ Den K mg G v d := by
  have hi : i < xs.length := (List.getElem?_eq_some_iff.mp e).1
  have hx : i < ds.length := by rw [← h.1]; exact hi
  exact ⟨ds[i], by simp [hx], h.2 i v _ e (by simp [hx])⟩
theorem DenL.one {v : V} {d : D} (h : Den K mg G v d) : DenL K mg G [v] [d] := .cons h .nil
theorem DenL.take {xs : List V} {ds : List D} (n : Nat) (h : DenL K mg G xs ds) : DenL K mg G (xs.take n) (ds.take n) := by
  refine ⟨by simp [h.1], fun i v d a b => ?_⟩
  rw [List.getElem?_take] at a b
  split at a
  · rename_i q; rw [if_pos q] at b; exact h.2 i v d a b
  · cases a
theorem DenL.drop {xs : List V} {ds : List D} (n : Nat) (h : DenL K mg G xs ds) : DenL K mg G (xs.drop n) (ds.drop n) := by
  refine ⟨by simp [h.1], fun i v d a b => ?_⟩
  rw [List.getElem?_drop] at a b
  exact h.2 _ v d a b
theorem DenL.set {xs : List V} {ds : List D} {v : V} {d : D} (n : Nat) (h : DenL K mg G xs ds) (q : Den K mg G v d) : DenL K mg G (xs.set n v) (ds.set n d) := by
  refine ⟨by simp [h.1], fun i w e a b => ?_⟩
  rw [List.getElem?_set] at a b
  by_cases hn : n = i
  · rw [if_pos hn] at a b
    split at a
    · rename_i hl
      rw [if_pos (by rw [← h.1]; exact hl)] at b
      cases a; cases b; exact q
    · cases a
  · rw [if_neg hn] at a b; exact h.2 i w e a b
theorem DenL.rev {xs : List V} {ds : List D} (h : DenL K mg G xs ds) : DenL K mg G xs.reverse ds.reverse := by
  induction ds generalizing xs with
  | nil => rw [h.nil_inv]; exact .nil
  | cons d ds ih =>
    obtain ⟨v, vs, rfl, h1, h2⟩ := h.cons_ex
    rw [List.reverse_cons, List.reverse_cons]
    exact (ih h2).app (.one h1)
theorem DenL.flat (k : Nat) {xs : List V} {ds : List D} (h : DenL K mg G xs ds) : DenL K mg G (List.replicate k xs).flatten (List.replicate k ds).flatten := by
  induction k with
  | zero => exact .nil
  | succ k ih => rw [List.replicate_succ, List.replicate_succ, List.flatten_cons, List.flatten_cons]; exact h.app ih
theorem DenA.get {α : Type} [BEq α] [LawfulBEq α] {gs : List (α × V)} {fs : List (α × D)} (h : DenA K mg G gs fs) {k : α} {d : D} (e : fs.lookup k = some d) : ∃ v, gs.lookup k = some v ∧ Den K mg G v d := by
  obtain ⟨h1, h2⟩ := h
  induction fs generalizing gs with
  | nil => cases e
  | cons q fs ih =>
    cases gs with
    | nil => simp at h1
    | cons p gs =>
      simp only [List.map_cons, List.cons.injEq] at h1
      obtain ⟨e1, e2⟩ := h1
      obtain ⟨pk, pv⟩ := p
      obtain ⟨qk, qd⟩ := q
      simp only at e1; subst e1
      simp only [List.lookup_cons] at e ⊢
      cases hk : k == pk with
      | true => rw [hk] at e; simp only [Option.some.injEq] at e; subst e; exact ⟨pv, rfl, h2 0 (pk, pv) (pk, qd) rfl rfl⟩
      | false => rw [hk] at e; exact ih e e2 (fun i p q a b => h2 (i + 1) p q (by simpa using a) (by simpa using b))
theorem DenA.none {α : Type} [BEq α] {gs : List (α × V)} {fs : List (α × D)} (h : DenA K mg G gs fs) {k : α} (e : fs.lookup k = .none) : gs.lookup k = .none := by
  obtain ⟨h1, h2⟩ := h
  clear h2
  induction fs generalizing gs with
  | nil => cases gs with
    | nil => rfl
    | cons p gs => simp at h1
  | cons q fs ih =>
    cases gs with
    | nil => simp at h1
    | cons p gs =>
      simp only [List.map_cons, List.cons.injEq] at h1
      obtain ⟨e1, e2⟩ := h1
      obtain ⟨pk, pv⟩ := p
      obtain ⟨qk, qd⟩ := q
      simp only at e1; subst e1
      simp only [List.lookup_cons] at e ⊢
      cases hk : k == pk with
      | true => rw [hk] at e; cases e
      | false => rw [hk] at e; exact ih e e2
end

/-! ### what a frame's slot holds -/
/-- shared data, or an object that this slot alone holds: a list, a dict, an instance -/
inductive RV where
  | sh (d : D)
  | ol (ds : List D)
  | od (kvs : List (NestedKey × D))
  | oo (c : Str) (fs : List (Str × D))
def RV.own : RV → Bool
  | .sh _ => false
  | _ => true
def RV.d : RV → D
  | .sh d => d
  | .ol ds => .lst ds
  | .od kvs => .dct kvs
  | .oo c fs => .obj c fs
section
variable (K : PySem.W.Frag) (mg : Str → Option Value)
def ObjR (G : Hp) (a : Addr) : HO → RV → Prop
  | .lst xs, .ol ds => DenL K mg G xs ds
  | .dK gs, .od kvs => DenK K mg G gs kvs
  | .ext φ, .od kvs => ∃ es, φ = DcN a es ∧ DenE K mg G es kvs
  | .ins C _ gs, .oo c fs => mg c = some (.ref C) ∧ DenA K mg G gs fs
  | _, _ => False
def View (G H : Hp) (v : V) : RV → Prop
  | .sh d => Den K mg G v d
  | r => ∃ a o, v = .ref a ∧ H a = some o ∧ G a = none ∧ ObjR K mg G a o r
end
section
variable {K : PySem.W.Frag} {mg : Str → Option Value} {G G' H H' : Hp}
theorem ObjR.mono (e : Ex G G') {a : Addr} {o : HO} {r : RV} (h : ObjR K mg G a o r) : ObjR K mg G' a o r := by
  cases o <;> cases r <;> first | exact h.elim | exact DenL.mono e h | exact DenK.mono e h | exact ⟨h.1, h.2.mono e⟩ | (obtain ⟨es, h1, h2⟩ := h; exact ⟨es, h1, h2.mono e⟩)
theorem ObjR.den {a : Addr} {o : HO} {r : RV} (h : ObjR K mg G a o r) (n : G a = none) : Den K mg (upd G a o) (.ref a) r.d := by
  have e : Ex G (upd G a o) := Ex.new n
  have h' := h.mono e
  cases o <;> cases r <;> first | exact h.elim | skip
  · exact .lst upd_same h'.1 h'.2
  · exact .dct upd_same h'.1 h'.2
  · exact .obj h'.1 upd_same h'.2.1 h'.2.2
  · obtain ⟨es, h1, h2⟩ := h'
    subst h1
    exact .dcn upd_same h2.1 h2.2.1 h2.2.2
theorem View.own_inv {v : V} {r : RV} (hr : r.own = true) (h : View K mg G H v r) : ∃ a o, v = .ref a ∧ H a = some o ∧ G a = none ∧ ObjR K mg G a o r := by
  cases r with
  | sh d => cases hr
  | _ => exact h
theorem View.of_own {a : Addr} {o : HO} {r : RV} (h : H a = some o) (n : G a = none) (q : ObjR K mg G a o r) : View K mg G H (.ref a) r := by
  cases r with
  | sh d => cases o <;> exact q.elim
  | _ => exact ⟨a, o, rfl, h, n, q⟩
theorem ObjR.nt {a : Addr} {o : HO} {r : RV} (h : ObjR K mg G a o r) : ∀ ps, o ≠ .tbl ps := fun ps z => by
  subst z; cases r <;> exact h
theorem ObjR.own {a : Addr} {o : HO} {r : RV} (h : ObjR K mg G a o r) : r.own = true := by
  cases o <;> cases r <;> first | exact h.elim | rfl
/-- a view stays where the shared part grows and the object itself stays -/
theorem View.keep {v : V} {r : RV} (h : View K mg G H v r) (e : Ex G G') (k : ∀ a o, v = .ref a → r.own = true → H a = some o → G a = none → H' a = some o ∧ G' a = none) : View K mg G' H' v r := by
  cases r with
  | sh d => exact Den.mono e h
  | ol _ => obtain ⟨a, o, rfl, h1, h2, h3⟩ := h; obtain ⟨k1, k2⟩ := k a o rfl rfl h1 h2; exact ⟨a, o, rfl, k1, k2, h3.mono e⟩
  | od _ => obtain ⟨a, o, rfl, h1, h2, h3⟩ := h; obtain ⟨k1, k2⟩ := k a o rfl rfl h1 h2; exact ⟨a, o, rfl, k1, k2, h3.mono e⟩
  | oo _ _ => obtain ⟨a, o, rfl, h1, h2, h3⟩ := h; obtain ⟨k1, k2⟩ := k a o rfl rfl h1 h2; exact ⟨a, o, rfl, k1, k2, h3.mono e⟩
end

/-! ### what a frame has besides: objects that stay, tables of code objects that grow -/
inductive FO where
  | obj (o : HO)
  | tab (ps : Array Value)
abbrev FHp := Addr → Option FO
def NT (o : HO) : Prop := ∀ ps, o ≠ .tbl ps
def toFO : HO → FO
  | .tbl ps => .tab ps
  | o => .obj o
theorem toFO_nt {o : HO} (h : NT o) : toFO o = .obj o := by
  cases o <;> first | rfl | exact absurd rfl (h _)
def updF (F : FHp) (a : Addr) (o : HO) : FHp := fun b => if b = a then some (.obj o) else F b
theorem updF_same {F : FHp} {a : Addr} {o : HO} : updF F a o a = some (.obj o) := by unfold updF; rw [if_pos rfl]
theorem updF_ne {F : FHp} {a b : Addr} {o : HO} (h : b ≠ a) : updF F a o b = F b := by unfold updF; rw [if_neg h]
/-- what stands in the tables of code objects -/
structure TabInv (G H : Hp) : Prop where
  nt : ∀ a o, G a = some o → NT o
  on : ∀ (P : Addr) (ps : Array Value), H P = some (.tbl ps) → TriplesOk ps.toList ∧ ∀ (pos : Pos) (cv : Value), codeAmong pos ps.toList = some cv → ∃ c q, cv = .ref c ∧ G c = some (LamX.CodeO c q)
/-- o stays; a table grows -/
def Grow : HO → Option HO → Prop
  | .tbl ps, x => ∃ more, x = some (.tbl (ps ++ more))
  | o, x => x = some o
theorem Grow.nt {o : HO} {x : Option HO} (n : NT o) (h : Grow o x) : x = some o := by
  cases o <;> first | exact h | exact absurd rfl (n _)
theorem Grow.self (o : HO) : Grow o (some o) := by
  cases o <;> first | rfl | exact ⟨#[], by simp⟩
theorem Grow.some {o : HO} {x : Option HO} (h : Grow o x) : ∃ u, x = some u := by
  cases o <;> first | exact ⟨_, h⟩ | (obtain ⟨m, e⟩ := h; exact ⟨_, e⟩)
def FhAt (x : Option HO) : FO → Prop
  | .obj o => x = some o
  | .tab ps => ∃ more, x = some (.tbl (ps ++ more))
theorem FhAt.some {x : Option HO} {f : FO} (h : FhAt x f) : ∃ u, x = some u := by
  cases f with
  | obj o => exact ⟨o, h⟩
  | tab q => obtain ⟨m, e⟩ := h; exact ⟨_, e⟩
theorem FhAt.grow {x y : Option HO} {f : FO} (h : FhAt x f) (g : ∀ u, x = Option.some u → (∀ o, f = .obj o → NT u) → Grow u y) (n : ∀ o, f = .obj o → NT o) : FhAt y f := by
  cases f with
  | obj o => exact (g o h fun o' e => by cases e; exact n o rfl).nt (n o rfl)
  | tab ps =>
    obtain ⟨m, e⟩ := h
    obtain ⟨m2, e2⟩ := g _ e fun o z => by cases z
    exact ⟨m ++ m2, by rw [e2, Array.append_assoc]⟩
structure FhOk (Fh : FHp) (G H : Hp) : Prop where
  on : ∀ a o, Fh a = some o → FhAt (H a) o
  nto : ∀ a o, Fh a = some (.obj o) → NT o
  tb : TabInv G H
section
variable {Fh : FHp} {G G' H H' : Hp} {p : Addr} {o : HO}
theorem TabInv.mono (h : TabInv G H) (e : Ex G G') (n : ∀ a o, G' a = some o → NT o) : TabInv G' H := ⟨n, fun P ps q => ⟨(h.on P ps q).1, fun pos cv z => by
  obtain ⟨c, q', h1, h2⟩ := (h.on P ps q).2 pos cv z
  exact ⟨c, q', h1, e _ _ h2⟩⟩⟩
theorem TabInv.ntu (h : TabInv G H) (n : NT o) : ∀ a u, L2.upd G p o a = some u → NT u := fun a u q => by
  by_cases z : a = p
  · subst z; rw [upd_same] at q; cases q; exact n
  · rw [upd_ne z] at q; exact h.nt a u q
theorem TabInv.upd (h : TabInv G H) (n : NT o) : TabInv G (L2.upd H p o) := ⟨h.nt, fun P ps q => by
  by_cases z : P = p
  · subst z; rw [upd_same] at q; cases q; exact absurd rfl (n _)
  · rw [upd_ne z] at q; exact h.on P ps q⟩
theorem TabInv.sub (h : TabInv G H) (e : ∀ b u, H' b = some u → H b = some u) : TabInv G H' := ⟨h.nt, fun P ps q => h.on P ps (e _ _ q)⟩
theorem FhOk.at (h : FhOk Fh G H) (e : Fh p = some (.obj o)) : H p = some o := h.on p _ e
theorem FhOk.none (h : FhOk Fh G H) (e : H p = Option.none) : Fh p = Option.none := by
  cases q : Fh p with
  | none => rfl
  | some x => obtain ⟨u, z⟩ := (h.on p x q).some; rw [e] at z; cases z
theorem FhOk.mono (h : FhOk Fh G H) (e : Ex G G') (n : ∀ a o, G' a = some o → NT o) : FhOk Fh G' H := ⟨h.on, h.nto, h.tb.mono e n⟩
theorem FhOk.upd (h : FhOk Fh G H) (e : Fh p = Option.none) (n : NT o) : FhOk Fh G (L2.upd H p o) := ⟨fun a x q => by
  rw [upd_ne (fun y => by rw [y, e] at q; cases q)]; exact h.on a x q, h.nto, h.tb.upd n⟩
theorem FhOk.upd2 (h : FhOk Fh G H) (p : Addr) (n : NT o) : FhOk (updF Fh p o) G (L2.upd H p o) := by
  refine ⟨fun a x q => ?_, fun a x q => ?_, h.tb.upd n⟩
  · by_cases z : a = p
    · subst z; rw [updF_same] at q; cases q; exact upd_same
    · rw [updF_ne z] at q; rw [upd_ne z]; exact h.on a x q
  · by_cases z : a = p
    · subst z; rw [updF_same] at q; cases q; exact n
    · rw [updF_ne z] at q; exact h.nto a x q
end
/-! ### the state of a frame -/
abbrev DEnv := List (Option RV)
structure SRel (K : PySem.W.Frag) (mg : Str → Option Value) (Fh : FHp) (P : List (Nat × V)) (G H : Hp) (σ : L2.St) (env : DEnv) (T : List Addr) : Prop where
  gh : Ex G H
  fh : FhOk Fh G H
  dj : ∀ b o, Fh b = some o → G b = none
  pin : ∀ p ∈ P, σ[p.1]? = some (some p.2)
  len : σ.length = env.length
  val : ∀ (i : Nat) (r : RV), env[i]? = some (some r) → ∃ v, σ[i]? = some (some v) ∧ View K mg G H v r
  dis : ∀ (i j : Nat) (r r' : RV) (a : Addr), env[i]? = some (some r) → env[j]? = some (some r') → r.own = true → r'.own = true → σ[i]? = some (some (.ref a)) → σ[j]? = some (some (.ref a)) → i = j
  nof : ∀ (i : Nat) (r : RV) (a : Addr), env[i]? = some (some r) → r.own = true → σ[i]? = some (some (.ref a)) → Fh a = none ∧ a ∉ T
  tmp : ∀ a ∈ T, Fh a = none ∧ G a = none ∧ ∃ o, H a = some o
section
variable {K : PySem.W.Frag} {mg : Str → Option Value} {Fh : FHp} {P : List (Nat × V)} {G G' H H' : Hp} {σ : L2.St} {env : DEnv} {T : List Addr}
/-- what an operation does to the heaps: nothing, a new shared object, a new owned one -/
inductive Step (G H : Hp) : Hp → Hp → List Addr → Prop
  | same : Step G H G H []
  | shr {p : Addr} {o : HO} (h : H p = none) (n : NT o := by exact nofun) : Step G H (upd G p o) (upd H p o) []
  | own {p : Addr} {o : HO} (h : H p = none) (n : NT o := by exact nofun) : Step G H G (upd H p o) [p]
theorem Step.ex (gh : Ex G H) (s : Step G H G' H' T) : Ex G G' := by
  cases s with
  | same => exact Ex.refl _
  | shr h => exact Ex.new (gh.none h)
  | own h => exact Ex.refl _
/-- one step of allocation keeps the frame's state -/
theorem SRel.step (S : SRel K mg Fh P G H σ env []) (s : Step G H G' H' T) : SRel K mg Fh P G' H' σ env T := by
  have ex := s.ex S.gh
  cases s with
  | same => exact S
  | @shr p o h n =>
    have hG := S.gh.none h
    have hF := S.fh.none h
    refine ⟨S.gh.upd2 p o, (S.fh.mono ex (S.fh.tb.ntu n)).upd hF n, fun b u e => ?_, S.pin, S.len, fun i r e => ?_, S.dis, S.nof, fun a m => absurd m List.not_mem_nil⟩
    · rw [upd_ne (fun y => by rw [y, hF] at e; cases e)]; exact S.dj b u e
    · obtain ⟨v, hv, w⟩ := S.val i r e
      refine ⟨v, hv, w.keep ex fun a o' ev hr h1 h2 => ?_⟩
      have ne := ne_of_none h1 h
      rw [upd_ne ne, upd_ne ne]; exact ⟨h1, h2⟩
  | @own p o h n =>
    have hG := S.gh.none h
    have hF := S.fh.none h
    refine ⟨S.gh.upd hG, S.fh.upd hF n, S.dj, S.pin, S.len, fun i r e => ?_, S.dis, fun i r a e hr ha => ⟨(S.nof i r a e hr ha).1, fun m => ?_⟩, fun a m => ?_⟩
    · obtain ⟨v, hv, w⟩ := S.val i r e
      refine ⟨v, hv, w.keep ex fun a o' ev hr h1 h2 => ?_⟩
      rw [upd_ne (ne_of_none h1 h)]; exact ⟨h1, h2⟩
    · have e2 : a = p := by simpa using m
      subst e2
      obtain ⟨v, hv, w⟩ := S.val i r e
      rw [ha] at hv; cases hv
      obtain ⟨b, o', eb, h1, _⟩ := w.own_inv hr
      cases eb
      rw [h] at h1; cases h1
    · have e2 : a = p := by simpa using m
      subst e2
      exact ⟨hF, hG, o, upd_same⟩
end
end Z
/-! Z: what an expression, a statement is worth; the readings that follow from it. -/
namespace Z
open PySem PySem.Spec PyProof.Rows L2

structure Exn where
  c : Str
  fs : List (Str × D)
inductive Res (α : Type) where
  | ok (a : α) (e : DEnv)
  | err (x : Exn) (e : DEnv)
  | stk
abbrev M (α : Type) := DEnv → Res α
def bindM {α β : Type} (m : M α) (f : α → M β) : M β := fun env => match m env with
  | .ok a e => f a e
  | .err x e => .err x e
  | .stk => .stk
def retM {α : Type} (a : α) : M α := fun env => .ok a env
inductive Opd where
  | val (d : D)
  | slot (i : Nat)
def tmps (v : V) (r : RV) : List Addr := if r.own = true then (match v with | .ref a => [a] | _ => []) else []
section
variable (K : PySem.W.Frag) (mg : Str → Option Value)
def XR (G : Hp) (cls : Value) (d : Option Addr) (x : Exn) : Prop := ∃ C dd gs, cls = .ref C ∧ mg x.c = some (.ref C) ∧ d = some dd ∧ G dd = some (.xd gs) ∧ DenA K mg G gs x.fs
def OpdR (G : Hp) (σ : L2.St) (v : V) : Opd → Prop
  | .val d => Den K mg G v d
  | .slot i => σ[i]? = some (some v)
def OpdRs (G : Hp) (σ : L2.St) (vs : List V) (os : List Opd) : Prop := vs.length = os.length ∧ ∀ (i : Nat) (v : V) (o : Opd), vs[i]? = some v → os[i]? = some o → OpdR K mg G σ v o
variable (W : WX) (Fh : FHp) (P : List (Nat × V))
/-- what is wanted behind: of a value, an operand, a datum, operands, an error -/
def PErr (σ : L2.St) (G : Hp) (x : Exn) (e : DEnv) : Prop := ∀ cls d G' H', Ex G G' → XR K mg G' cls d x → SRel K mg Fh P G' H' σ e [] → W cls d σ H'
def PV (σ : L2.St) (G : Hp) (Q : VK) : Res RV → Prop
  | .ok r e => ∀ v G' H', Ex G G' → View K mg G' H' v r → SRel K mg Fh P G' H' σ e (tmps v r) → Q v H'
  | .err x e => PErr K mg W Fh P σ G x e
  | .stk => False
def PO (σ : L2.St) (G : Hp) (Q : VK) : Res Opd → Prop
  | .ok o e => ∀ v G' H', Ex G G' → OpdR K mg G' σ v o → SRel K mg Fh P G' H' σ e [] → Q v H'
  | .err x e => PErr K mg W Fh P σ G x e
  | .stk => False
def PD (σ : L2.St) (G : Hp) (Q : VK) : Res D → Prop
  | .ok d e => ∀ v G' H', Ex G G' → Den K mg G' v d → SRel K mg Fh P G' H' σ e [] → Q v H'
  | .err x e => PErr K mg W Fh P σ G x e
  | .stk => False
def POs (σ : L2.St) (G : Hp) (Q : List V → Hp → Prop) : Res (List Opd) → Prop
  | .ok os e => ∀ vs G' H', Ex G G' → OpdRs K mg G' σ vs os → SRel K mg Fh P G' H' σ e [] → Q vs H'
  | .err x e => PErr K mg W Fh P σ G x e
  | .stk => False
def PB (σ : L2.St) (G : Hp) (Q : Bool → Hp → Prop) : Res Bool → Prop
  | .ok b e => ∀ G' H', Ex G G' → SRel K mg Fh P G' H' σ e [] → Q b H'
  | .err x e => PErr K mg W Fh P σ G x e
  | .stk => False
def rdV (m : M RV) : TE := fun σ H Q => ∃ G env, SRel K mg Fh P G H σ env [] ∧ PV K mg W Fh P σ G Q (m env)
def rdO (m : M Opd) : TE := fun σ H Q => ∃ G env, SRel K mg Fh P G H σ env [] ∧ PO K mg W Fh P σ G Q (m env)
def rdD (m : M D) : TE := fun σ H Q => ∃ G env, SRel K mg Fh P G H σ env [] ∧ PD K mg W Fh P σ G Q (m env)
def rdOs (m : M (List Opd)) : TA := fun σ H Q => ∃ G env, SRel K mg Fh P G H σ env [] ∧ POs K mg W Fh P σ G Q (m env)
def rdB (m : M Bool) : TT := fun σ H Q => ∃ G env, SRel K mg Fh P G H σ env [] ∧ PB K mg W Fh P σ G Q (m env)
end

section
variable {K : PySem.W.Frag} {mg : Str → Option Value} {W : WX} {Fh : FHp} {P : List (Nat × V)} {G G' H H' : Hp} {σ : L2.St} {env : DEnv} {T : List Addr}
theorem PErr.mono (e : Ex G G') {x : Exn} {en : DEnv} (h : PErr K mg W Fh P σ G x en) : PErr K mg W Fh P σ G' x en := fun cls d G1 H1 e1 => h cls d G1 H1 (e.trans e1)
theorem PV.mono (e : Ex G G') {Q : VK} {r : Res RV} (h : PV K mg W Fh P σ G Q r) : PV K mg W Fh P σ G' Q r := by
  cases r with
  | ok r en => exact fun v G1 H1 e1 => h v G1 H1 (e.trans e1)
  | err x en => exact PErr.mono e h
  | stk => exact h
theorem PO.mono (e : Ex G G') {Q : VK} {r : Res Opd} (h : PO K mg W Fh P σ G Q r) : PO K mg W Fh P σ G' Q r := by
  cases r with
  | ok r en => exact fun v G1 H1 e1 => h v G1 H1 (e.trans e1)
  | err x en => exact PErr.mono e h
  | stk => exact h
theorem PD.mono (e : Ex G G') {Q : VK} {r : Res D} (h : PD K mg W Fh P σ G Q r) : PD K mg W Fh P σ G' Q r := by
  cases r with
  | ok r en => exact fun v G1 H1 e1 => h v G1 H1 (e.trans e1)
  | err x en => exact PErr.mono e h
  | stk => exact h
theorem POs.mono (e : Ex G G') {Q : List V → Hp → Prop} {r : Res (List Opd)} (h : POs K mg W Fh P σ G Q r) : POs K mg W Fh P σ G' Q r := by
  cases r with
  | ok r en => exact fun v G1 H1 e1 => h v G1 H1 (e.trans e1)
  | err x en => exact PErr.mono e h
  | stk => exact h
theorem PB.mono (e : Ex G G') {Q : Bool → Hp → Prop} {r : Res Bool} (h : PB K mg W Fh P σ G Q r) : PB K mg W Fh P σ G' Q r := by
  cases r with
  | ok r en => exact fun G1 H1 e1 => h G1 H1 (e.trans e1)
  | err x en => exact PErr.mono e h
  | stk => exact h
theorem OpdR.mono (e : Ex G G') {v : V} {o : Opd} (h : OpdR K mg G σ v o) : OpdR K mg G' σ v o := by
  cases o with
  | val d => exact Den.mono e h
  | slot i => exact h
theorem OpdRs.mono (e : Ex G G') {vs : List V} {os : List Opd} (h : OpdRs K mg G σ vs os) : OpdRs K mg G' σ vs os := ⟨h.1, fun i v o a b => (h.2 i v o a b).mono e⟩
theorem OpdRs.nil : OpdRs K mg G σ [] [] := ⟨rfl, fun i v d a => by simp at a⟩
theorem OpdRs.cons {v : V} {d : Opd} {xs : List V} {ds : List Opd} (h : OpdR K mg G σ v d) (t : OpdRs K mg G σ xs ds) : OpdRs K mg G σ (v :: xs) (d :: ds) := by
  refine ⟨by simp [t.1], fun i w e a b => ?_⟩
  cases i with
  | zero => simp at a b; subst a; subst b; exact h
  | succ i => simp at a b; exact t.2 i w e a b
theorem OpdRs.cons_ex {d : Opd} {xs : List V} {ds : List Opd} (h : OpdRs K mg G σ xs (d :: ds)) : ∃ v vs, xs = v :: vs ∧ OpdR K mg G σ v d ∧ OpdRs K mg G σ vs ds := by
  cases xs with
  | nil => have := h.1; simp at this
  | cons v vs => exact ⟨v, vs, rfl, h.2 0 v d rfl rfl, by simpa using h.1, fun i w e a b => h.2 (i + 1) w e (by simpa using a) (by simpa using b)⟩
theorem OpdRs.nil_inv {xs : List V} (h : OpdRs K mg G σ xs []) : xs = [] := by
  have := h.1; simpa using this

/-! ### sharing -/
theorem tmps_sh {v : V} {d : D} : tmps v (.sh d) = [] := rfl
theorem tmps_own {a : Addr} {r : RV} (h : r.own = true) : tmps (.ref a) r = [a] := by unfold tmps; rw [if_pos h]
/-- an object in hand goes into the shared part -/
theorem SRel.share {v : V} {r : RV} (S : SRel K mg Fh P G H σ env (tmps v r)) (w : View K mg G H v r) : ∃ G', Ex G G' ∧ Den K mg G' v r.d ∧ SRel K mg Fh P G' H σ env [] := by
  cases hr : r.own with
  | false =>
    cases r with
    | sh d => exact ⟨G, Ex.refl _, w, S⟩
    | _ => cases hr
  | true =>
    obtain ⟨a, o, rfl, ha, hg, q⟩ := w.own_inv hr
    rw [tmps_own hr] at S
    obtain ⟨hF, _, _⟩ := S.tmp a (List.mem_singleton.mpr rfl)
    have ex : Ex G (upd G a o) := Ex.new hg
    refine ⟨upd G a o, ex, q.den hg, fun b u e => ?_, S.fh.mono ex (S.fh.tb.ntu q.nt), fun b u e => ?_, S.pin, S.len, fun i r' e => ?_, S.dis, fun i r' b e hr' hb => ⟨(S.nof i r' b e hr' hb).1, List.not_mem_nil⟩, fun b m => absurd m List.not_mem_nil⟩
    · by_cases z : b = a
      · subst z; rw [upd_same] at e; cases e; exact ha
      · rw [upd_ne z] at e; exact S.gh b u e
    · rw [upd_ne (fun y => by rw [y, hF] at e; cases e)]; exact S.dj b u e
    · obtain ⟨v', hv, w'⟩ := S.val i r' e
      refine ⟨v', hv, w'.keep ex fun b u ev hr' h1 h2 => ⟨h1, ?_⟩⟩
      subst ev
      have ne : b ≠ a := fun z => (S.nof i r' b e hr' hv).2 (by rw [z]; exact List.mem_singleton.mpr rfl)
      rw [upd_ne ne]; exact h2
/-- a slot's object goes into the shared part -/
theorem SRel.shareSlot {i : Nat} {r : RV} {v : V} (S : SRel K mg Fh P G H σ env []) (e : env[i]? = some (some r)) (hv : σ[i]? = some (some v)) :
    ∃ G', Ex G G' ∧ Den K mg G' v r.d ∧ SRel K mg Fh P G' H σ (env.set i (some (.sh r.d))) [] := by
  have hi : i < env.length := (List.getElem?_eq_some_iff.mp e).1
  obtain ⟨v', hv', w⟩ := S.val i r e
  rw [hv] at hv'; cases hv'
  have old : ∀ {j : Nat} {r' : RV}, (env.set i (some (.sh r.d)))[j]? = some (some r') → (j = i ∧ r' = .sh r.d) ∨ (j ≠ i ∧ env[j]? = some (some r')) := fun {j r'} h => by
    rw [List.getElem?_set] at h
    by_cases z : i = j
    · rw [if_pos z, if_pos hi] at h; exact .inl ⟨z.symm, by simpa using h.symm⟩
    · rw [if_neg z] at h; exact .inr ⟨Ne.symm z, h⟩
  cases hr : r.own with
  | false =>
    cases r with
    | sh d =>
      refine ⟨G, Ex.refl _, w, S.gh, S.fh, S.dj, S.pin, by rw [List.length_set]; exact S.len, fun j r' h => ?_, fun j k r1 r2 a h1 h2 o1 o2 => ?_, fun j r' a h o1 => ?_, S.tmp⟩
      · rcases old h with ⟨rfl, rfl⟩ | ⟨_, h⟩
        · exact ⟨v, hv, w⟩
        · exact S.val j r' h
      · rcases old h1 with ⟨rfl, rfl⟩ | ⟨_, h1⟩
        · cases o1
        · rcases old h2 with ⟨rfl, rfl⟩ | ⟨_, h2⟩
          · cases o2
          · exact S.dis j k r1 r2 a h1 h2 o1 o2
      · rcases old h with ⟨rfl, rfl⟩ | ⟨_, h⟩
        · cases o1
        · exact S.nof j r' a h o1
    | _ => cases hr
  | true =>
    obtain ⟨a, o, rfl, ha, hg, q⟩ := w.own_inv hr
    have hF := (S.nof i r a e hr hv).1
    have ex : Ex G (upd G a o) := Ex.new hg
    refine ⟨upd G a o, ex, q.den hg, fun b u z => ?_, S.fh.mono ex (S.fh.tb.ntu q.nt), fun b u z => ?_, S.pin, by rw [List.length_set]; exact S.len, fun j r' h => ?_, fun j k r1 r2 b h1 h2 o1 o2 => ?_, fun j r' b h o1 => ?_, fun b m => absurd m List.not_mem_nil⟩
    · by_cases y : b = a
      · subst y; rw [upd_same] at z; cases z; exact ha
      · rw [upd_ne y] at z; exact S.gh b u z
    · rw [upd_ne (fun y => by rw [y, hF] at z; cases z)]; exact S.dj b u z
    · rcases old h with ⟨rfl, rfl⟩ | ⟨ne, h⟩
      · exact ⟨_, hv, q.den hg⟩
      · obtain ⟨v', hv', w'⟩ := S.val j r' h
        refine ⟨v', hv', w'.keep ex fun b u ev hr' h1 h2 => ⟨h1, ?_⟩⟩
        subst ev
        have nb : b ≠ a := fun z => ne (S.dis j i r' r a h e hr' hr (by rw [← z]; exact hv') hv)
        rw [upd_ne nb]; exact h2
    · rcases old h1 with ⟨rfl, rfl⟩ | ⟨_, h1⟩
      · cases o1
      · rcases old h2 with ⟨rfl, rfl⟩ | ⟨_, h2⟩
        · cases o2
        · exact S.dis j k r1 r2 b h1 h2 o1 o2
    · rcases old h with ⟨rfl, rfl⟩ | ⟨_, h⟩
      · cases o1
      · exact S.nof j r' b h o1
end

/-! ### operands: what they are worth where they are used -/
def slotOf (env : DEnv) (i : Nat) : Option RV := (env[i]?).join
theorem slotOf_some {env : DEnv} {i : Nat} {r : RV} (h : slotOf env i = some r) : env[i]? = some (some r) := by
  unfold slotOf at h
  cases q : env[i]? with
  | none => rw [q] at h; cases h
  | some z => rw [q] at h; cases z with
    | none => cases h
    | some z => cases h; rfl
def resolve (env : DEnv) : Opd → Option RV
  | .val d => some (.sh d)
  | .slot i => slotOf env i
def resolves (env : DEnv) : List Opd → Option (List RV)
  | [] => some []
  | o :: os => match resolve env o, resolves env os with
    | some r, some rs => some (r :: rs)
    | _, _ => none
/-- an operand is stored: it is shared from then on -/
def dOf (o : Opd) (env : DEnv) : Res D := match o with
  | .val d => .ok d env
  | .slot i => match slotOf env i with
    | some r => .ok r.d (env.set i (some (.sh r.d)))
    | none => .stk
def dsOf : List Opd → DEnv → Res (List D)
  | [], env => .ok [] env
  | o :: os, env => match dOf o env with
    | .ok d e => (match dsOf os e with
      | .ok ds e' => .ok (d :: ds) e'
      | .err x e' => .err x e'
      | .stk => .stk)
    | .err x e => .err x e
    | .stk => .stk
section
variable {K : PySem.W.Frag} {mg : Str → Option Value} {W : WX} {Fh : FHp} {P : List (Nat × V)} {G G' H H' : Hp} {σ : L2.St} {env env' : DEnv} {T : List Addr}
theorem SRel.resolve (S : SRel K mg Fh P G H σ env T) {v : V} {o : Opd} {r : RV} (h : OpdR K mg G σ v o) (e : resolve env o = some r) : View K mg G H v r := by
  cases o with
  | val d => cases e; exact h
  | slot i =>
    have h' : σ[i]? = some (some v) := h
    obtain ⟨v', hv, w⟩ := S.val i r (slotOf_some e)
    rw [h'] at hv; cases hv
    exact w
theorem SRel.dOf (S : SRel K mg Fh P G H σ env []) {v : V} {o : Opd} {d : D} (h : OpdR K mg G σ v o) (e : dOf o env = .ok d env') : ∃ G', Ex G G' ∧ Den K mg G' v d ∧ SRel K mg Fh P G' H σ env' [] := by
  cases o with
  | val d' => cases e; exact ⟨G, Ex.refl _, h, S⟩
  | slot i =>
    unfold Z.dOf at e
    simp only at e
    split at e
    · rename_i r q
      cases e
      exact S.shareSlot (slotOf_some q) h
    · cases e
theorem dOf_noerr {o : Opd} {x : Exn} (h : dOf o env = .err x env') : False := by
  cases o with
  | val d => cases h
  | slot i => unfold dOf at h; simp only at h; split at h <;> cases h
theorem dsOf_noerr : ∀ {os : List Opd} {env env' : DEnv} {x : Exn}, dsOf os env = .err x env' → False
  | [], env, env', x, h => by cases h
  | o :: os, env, env', x, h => by
    unfold dsOf at h
    split at h
    · split at h
      · cases h
      · rename_i q; exact dsOf_noerr q
      · cases h
    · rename_i q; exact dOf_noerr q
    · cases h
theorem SRel.dsOf : ∀ {os : List Opd} {vs : List V} {ds : List D} {G : Hp} {env : DEnv}, SRel K mg Fh P G H σ env [] → OpdRs K mg G σ vs os → dsOf os env = .ok ds env' → ∃ G', Ex G G' ∧ DenL K mg G' vs ds ∧ SRel K mg Fh P G' H σ env' []
  | [], vs, ds, G, env, S, h, e => by
    unfold Z.dsOf at e; cases e
    rw [h.nil_inv]
    exact ⟨G, Ex.refl _, .nil, S⟩
  | o :: os, vs, ds, G, env, S, h, e => by
    obtain ⟨v, vs, rfl, h1, h2⟩ := h.cons_ex
    unfold Z.dsOf at e
    split at e
    · rename_i d e1 q1
      split at e
      · rename_i ds' e2 q2
        cases e
        obtain ⟨G1, x1, d1, S1⟩ := S.dOf h1 q1
        obtain ⟨G2, x2, d2, S2⟩ := S1.dsOf (h2.mono x1) q2
        exact ⟨G2, x1.trans x2, .cons (d1.mono x2) d2, S2⟩
      · cases e
      · cases e
    · cases e
    · cases e
end
end Z
/-! Z: expressions -/
namespace Z
open PySem PySem.Spec PyProof.Rows L2

theorem PE.weak {X : Cx} {e : Expr} {t t' : TE} (h : PE X e t) (w : ∀ σ H Q, t' σ H Q → t σ H Q) : PE X e t' := ⟨fun pins s σ H Q I q => h.run pins s σ H Q I (w σ H Q q)⟩
theorem PT.weak {X : Cx} {e : Expr} {t t' : TT} (h : PT X e t) (w : ∀ σ H Q, t' σ H Q → t σ H Q) : PT X e t' := ⟨fun pins s σ H Q I q => h.run pins s σ H Q I (w σ H Q q)⟩
theorem PW.weak {X : Cx} {e : Expr} {t t' : TT} (h : PW X e t) (w : ∀ σ H Q, t' σ H Q → t σ H Q) : PW X e t' := ⟨fun wh pins s σ H Q I q => h.run wh pins s σ H Q I (w σ H Q q)⟩
theorem PA.weak {X : Cx} {e : List Expr} {t t' : TA} (h : PA X e t) (w : ∀ σ H Q, t' σ H Q → t σ H Q) : PA X e t' := ⟨fun pos pins s σ H Q I q => h.run pos pins s σ H Q I (w σ H Q q)⟩
theorem PS.weak {X : Cx} {e : Stmt} {t t' : TS} (h : PS X e t) (w : ∀ D σ H, t' D σ H → t D σ H) : PS X e t' := ⟨fun pins s σ H D I q => h.run pins s σ H D I (w D σ H q)⟩
theorem PSs.weak {X : Cx} {e : List Stmt} {t t' : TS} (h : PSs X e t) (w : ∀ D σ H, t' D σ H → t D σ H) : PSs X e t' := ⟨fun pins s σ H D I q => h.run pins s σ H D I (w D σ H q)⟩

/-! ### judgements -/
def QV (X : Cx) (W : WX) (pn : List Nat) (e : Expr) (m : M RV) : Prop := ∀ Fh P, P.map (·.1) = pn → PE X e (rdV X.K X.mg W Fh P m)
def QO (X : Cx) (W : WX) (pn : List Nat) (e : Expr) (m : M Opd) : Prop := ∀ Fh P, P.map (·.1) = pn → PE X e (rdO X.K X.mg W Fh P m)
def QD (X : Cx) (W : WX) (pn : List Nat) (e : Expr) (m : M D) : Prop := ∀ Fh P, P.map (·.1) = pn → PE X e (rdD X.K X.mg W Fh P m)
def QOs (X : Cx) (W : WX) (pn : List Nat) (es : List Expr) (m : M (List Opd)) : Prop := ∀ Fh P, P.map (·.1) = pn → PA X es (rdOs X.K X.mg W Fh P m)
def QT (X : Cx) (W : WX) (pn : List Nat) (e : Expr) (m : M Bool) : Prop := ∀ Fh P, P.map (·.1) = pn → PT X e (rdB X.K X.mg W Fh P m)
def QW (X : Cx) (W : WX) (pn : List Nat) (e : Expr) (m : M Bool) : Prop := ∀ Fh P, P.map (·.1) = pn → PW X e (rdB X.K X.mg W Fh P m)

section
variable {K : PySem.W.Frag} {mg : Str → Option Value} {W : WX} {Fh : FHp} {P : List (Nat × V)} {G G' H H' : Hp} {σ : L2.St} {env env' : DEnv} {T : List Addr}
theorem PO_V {Q R : VK} {m : M Opd} {k : Opd → M RV} (h : PV K mg W Fh P σ G Q (bindM m k env))
    (hk : ∀ o e v G' H', Ex G G' → OpdR K mg G' σ v o → SRel K mg Fh P G' H' σ e [] → PV K mg W Fh P σ G' Q (k o e) → R v H') : PO K mg W Fh P σ G R (m env) := by
  unfold bindM at h
  cases q : m env with
  | ok o e => rw [q] at h; exact fun v G1 H1 ex ho S => hk o e v G1 H1 ex ho S (PV.mono ex h)
  | err x e => rw [q] at h; exact h
  | stk => rw [q] at h; exact h
theorem PO_O {Q R : VK} {m : M Opd} {k : Opd → M Opd} (h : PO K mg W Fh P σ G Q (bindM m k env))
    (hk : ∀ o e v G' H', Ex G G' → OpdR K mg G' σ v o → SRel K mg Fh P G' H' σ e [] → PO K mg W Fh P σ G' Q (k o e) → R v H') : PO K mg W Fh P σ G R (m env) := by
  unfold bindM at h
  cases q : m env with
  | ok o e => rw [q] at h; exact fun v G1 H1 ex ho S => hk o e v G1 H1 ex ho S (PO.mono ex h)
  | err x e => rw [q] at h; exact h
  | stk => rw [q] at h; exact h
theorem PO_B {Q : Bool → Hp → Prop} {R : VK} {m : M Opd} {k : Opd → M Bool} (h : PB K mg W Fh P σ G Q (bindM m k env))
    (hk : ∀ o e v G' H', Ex G G' → OpdR K mg G' σ v o → SRel K mg Fh P G' H' σ e [] → PB K mg W Fh P σ G' Q (k o e) → R v H') : PO K mg W Fh P σ G R (m env) := by
  unfold bindM at h
  cases q : m env with
  | ok o e => rw [q] at h; exact fun v G1 H1 ex ho S => hk o e v G1 H1 ex ho S (PB.mono ex h)
  | err x e => rw [q] at h; exact h
  | stk => rw [q] at h; exact h
theorem PO_Os {Q : List V → Hp → Prop} {R : VK} {m : M Opd} {k : Opd → M (List Opd)} (h : POs K mg W Fh P σ G Q (bindM m k env))
    (hk : ∀ o e v G' H', Ex G G' → OpdR K mg G' σ v o → SRel K mg Fh P G' H' σ e [] → POs K mg W Fh P σ G' Q (k o e) → R v H') : PO K mg W Fh P σ G R (m env) := by
  unfold bindM at h
  cases q : m env with
  | ok o e => rw [q] at h; exact fun v G1 H1 ex ho S => hk o e v G1 H1 ex ho S (POs.mono ex h)
  | err x e => rw [q] at h; exact h
  | stk => rw [q] at h; exact h
theorem POs_Os {Q R : List V → Hp → Prop} {m : M (List Opd)} {k : List Opd → M (List Opd)} (h : POs K mg W Fh P σ G Q (bindM m k env))
    (hk : ∀ o e v G' H', Ex G G' → OpdRs K mg G' σ v o → SRel K mg Fh P G' H' σ e [] → POs K mg W Fh P σ G' Q (k o e) → R v H') : POs K mg W Fh P σ G R (m env) := by
  unfold bindM at h
  cases q : m env with
  | ok o e => rw [q] at h; exact fun v G1 H1 ex ho S => hk o e v G1 H1 ex ho S (POs.mono ex h)
  | err x e => rw [q] at h; exact h
  | stk => rw [q] at h; exact h
theorem POs_V {Q : VK} {R : List V → Hp → Prop} {m : M (List Opd)} {k : List Opd → M RV} (h : PV K mg W Fh P σ G Q (bindM m k env))
    (hk : ∀ o e v G' H', Ex G G' → OpdRs K mg G' σ v o → SRel K mg Fh P G' H' σ e [] → PV K mg W Fh P σ G' Q (k o e) → R v H') : POs K mg W Fh P σ G R (m env) := by
  unfold bindM at h
  cases q : m env with
  | ok o e => rw [q] at h; exact fun v G1 H1 ex ho S => hk o e v G1 H1 ex ho S (PV.mono ex h)
  | err x e => rw [q] at h; exact h
  | stk => rw [q] at h; exact h
theorem PB_V {Q : VK} {R : Bool → Hp → Prop} {m : M Bool} {k : Bool → M RV} (h : PV K mg W Fh P σ G Q (bindM m k env))
    (hk : ∀ b e G' H', Ex G G' → SRel K mg Fh P G' H' σ e [] → PV K mg W Fh P σ G' Q (k b e) → R b H') : PB K mg W Fh P σ G R (m env) := by
  unfold bindM at h
  cases q : m env with
  | ok o e => rw [q] at h; exact fun G1 H1 ex S => hk o e G1 H1 ex S (PV.mono ex h)
  | err x e => rw [q] at h; exact h
  | stk => rw [q] at h; exact h
theorem PB_B {Q R : Bool → Hp → Prop} {m : M Bool} {k : Bool → M Bool} (h : PB K mg W Fh P σ G Q (bindM m k env))
    (hk : ∀ b e G' H', Ex G G' → SRel K mg Fh P G' H' σ e [] → PB K mg W Fh P σ G' Q (k b e) → R b H') : PB K mg W Fh P σ G R (m env) := by
  unfold bindM at h
  cases q : m env with
  | ok o e => rw [q] at h; exact fun G1 H1 ex S => hk o e G1 H1 ex S (PB.mono ex h)
  | err x e => rw [q] at h; exact h
  | stk => rw [q] at h; exact h
theorem PV_O {Q R : VK} {m : M RV} {k : RV → M Opd} (h : PO K mg W Fh P σ G Q (bindM m k env))
    (hk : ∀ r e v G' H', Ex G G' → View K mg G' H' v r → SRel K mg Fh P G' H' σ e (tmps v r) → PO K mg W Fh P σ G' Q (k r e) → R v H') : PV K mg W Fh P σ G R (m env) := by
  unfold bindM at h
  cases q : m env with
  | ok o e => rw [q] at h; exact fun v G1 H1 ex ho S => hk o e v G1 H1 ex ho S (PO.mono ex h)
  | err x e => rw [q] at h; exact h
  | stk => rw [q] at h; exact h
end

/-! ### names, constants -/
def nameO (i : Nat) : M Opd := fun env => match slotOf env i with
  | some _ => .ok (.slot i) env
  | none => .stk
def shareM (m : M RV) : M Opd := bindM m fun r e => .ok (.val r.d) e
def takeM (m : M Opd) : M RV := bindM m fun o env => match dOf o env with
  | .ok d e => .ok (.sh d) e
  | .err x e => .err x e
  | .stk => .stk
section
variable {X : Cx} {W : WX} {pn : List Nat} {e a b c : Expr} {pos : Pos}
theorem qo_name {i : Nat} {x : Str} (hN : X.N[i]? = some x) (hv : Vis X.env.scope x) (hd : (x == ("__debug__" : Str)) = false) (hcd : (x == ("__classdict__" : Str)) = false) : QO X W pn (.Name x pos) (nameO i) := fun Fh P hp =>
  PE.weak (pe_var hN hv hd hcd) fun σ H Q ⟨G, env, S, h⟩ => by
    unfold nameO at h
    cases q : slotOf env i with
    | none => rw [q] at h; exact h.elim
    | some r =>
      rw [q] at h
      obtain ⟨v, hv, _⟩ := S.val i r (slotOf_some q)
      exact ⟨v, hv, h v G H (Ex.refl _) hv S⟩
theorem qo_v {m : M RV} (h : QV X W pn e m) : QO X W pn e (shareM m) := fun Fh P hp => PE.weak (h Fh P hp) fun σ H Q ⟨G, env, S, q⟩ => by
  refine ⟨G, env, S, PV_O q fun r e' v G1 H1 ex w S1 hk => ?_⟩
  obtain ⟨G2, x2, d2, S2⟩ := S1.share w
  exact hk v G2 H1 x2 d2 S2
theorem qv_o {m : M Opd} (h : QO X W pn e m) : QV X W pn e (takeM m) := fun Fh P hp => PE.weak (h Fh P hp) fun σ H Q ⟨G, env, S, q⟩ => by
  refine ⟨G, env, S, PO_V q fun o e' v G1 H1 ex w S1 hk => ?_⟩
  cases z : dOf o e' with
  | ok d e2 =>
    rw [z] at hk
    obtain ⟨G2, x2, d2, S2⟩ := S1.dOf w z
    exact hk v G2 H1 x2 d2 S2
  | err x e2 => exact (dOf_noerr z).elim
  | stk => rw [z] at hk; exact hk.elim
def cM (d : D) : M RV := fun env => .ok (.sh d) env
theorem qv_c {d : D} {v : V} (h : PE X e (tC v)) (hd : ∀ G, Den X.K X.mg G v d) : QV X W pn e (cM d) := fun Fh P hp => PE.weak h fun σ H Q ⟨G, env, S, q⟩ => q v G H (Ex.refl _) (hd G) S
theorem qv_int {i : Int} {j : Nat} : QV X W pn (.Constant (.int i) j pos) (cM (.int i)) := qv_c pe_int fun _ => .int i
theorem qv_bl {i : Bool} {j : Nat} : QV X W pn (.Constant (.bool i) j pos) (cM (.bl i)) := qv_c pe_bl fun _ => .bl i
theorem qv_str {i : Str} {j : Nat} : QV X W pn (.Constant (.str i) j pos) (cM (.str i)) := qv_c pe_str fun _ => .str i
theorem qv_non {j : Nat} : QV X W pn (.Constant .none j pos) (cM .non) := qv_c pe_non fun _ => .non

/-! ### argument lists, displays -/
def nilO : M (List Opd) := fun env => .ok [] env
def consO (m : M Opd) (ms : M (List Opd)) : M (List Opd) := bindM m fun o => bindM ms fun os env => .ok (o :: os) env
theorem qs_nil : QOs X W pn [] nilO := fun Fh P hp => PA.weak pa_nil fun σ H Q ⟨G, env, S, q⟩ => q [] G H (Ex.refl _) .nil S
theorem qs_cons {es : List Expr} {m : M Opd} {ms : M (List Opd)} (h : QO X W pn e m) (t : QOs X W pn es ms) (hs : starEach (e :: es) X.env = (false, eval e X.env) :: starEach es X.env) : QOs X W pn (e :: es) (consO m ms) := fun Fh P hp =>
  PA.weak (pa_cons (h Fh P hp) (t Fh P hp) hs) fun σ H Q ⟨G, env, S, q⟩ => by
    refine ⟨G, env, S, PO_Os q fun o e' v G1 H1 ex w S1 hk => ?_⟩
    refine ⟨G1, e', S1, POs_Os hk fun os e2 vs G2 H2 ex2 w2 S2 hk2 => ?_⟩
    exact hk2 (v :: vs) G2 H2 (Ex.refl _) (.cons (w.mono ex2) w2) S2
def tupM (m : M (List Opd)) : M RV := bindM m fun os env => match dsOf os env with
  | .ok ds e => if ds.length ≤ sizeLine then .ok (.sh (.tup ds)) e else .stk
  | .err x e => .err x e
  | .stk => .stk
def lstM (m : M (List Opd)) : M RV := bindM m fun os env => match dsOf os env with
  | .ok ds e => if ds.length ≤ sizeLine then .ok (.ol ds) e else .stk
  | .err x e => .err x e
  | .stk => .stk
theorem qv_tup {es : List Expr} {m : M (List Opd)} {k : Nat} (h : QOs X W pn es m) : QV X W pn (.Tuple es k pos) (tupM m) := fun Fh P hp => PE.weak (pe_tup (h Fh P hp)) fun σ H Q ⟨G, env, S, q⟩ => by
  refine ⟨G, env, S, POs_V q fun os e' vs G1 H1 ex w S1 hk => ?_⟩
  cases z : dsOf os e' with
  | ok ds e2 =>
    rw [z] at hk
    obtain ⟨G2, x2, d2, S2⟩ := S1.dsOf w z
    simp only at hk
    by_cases hl : ds.length ≤ sizeLine
    · rw [if_pos hl] at hk
      refine ⟨by rw [d2.1]; exact hl, fun p hp => ?_⟩
      have st : Step G2 H1 (upd G2 p (.tup vs)) (upd H1 p (.tup vs)) [] := .shr hp
      have x3 := st.ex S2.gh
      exact hk _ _ _ (x2.trans x3) (Den.tupL (SqT.of upd_same) (d2.mono x3)) (S2.step st)
    · rw [if_neg hl] at hk; exact hk.elim
  | err x e2 => exact (dsOf_noerr z).elim
  | stk => rw [z] at hk; exact hk.elim
theorem qv_lst {es : List Expr} {m : M (List Opd)} (h : QOs X W pn es m) : QV X W pn (.List es pos) (lstM m) := fun Fh P hp => PE.weak (pe_lst (h Fh P hp)) fun σ H Q ⟨G, env, S, q⟩ => by
  refine ⟨G, env, S, POs_V q fun os e' vs G1 H1 ex w S1 hk => ?_⟩
  cases z : dsOf os e' with
  | ok ds e2 =>
    rw [z] at hk
    obtain ⟨G2, x2, d2, S2⟩ := S1.dsOf w z
    simp only at hk
    by_cases hl : ds.length ≤ sizeLine
    · rw [if_pos hl] at hk
      refine ⟨by rw [d2.1]; exact hl, fun p hp => ?_⟩
      have st : Step G2 H1 G2 (upd H1 p (.lst vs)) [p] := .own hp
      exact hk (.ref p) G2 _ x2 ⟨p, .lst vs, rfl, upd_same, S2.gh.none hp, d2⟩ (S2.step st)
    · rw [if_neg hl] at hk; exact hk.elim
  | err x e2 => exact (dsOf_noerr z).elim
  | stk => rw [z] at hk; exact hk.elim

/-! ### operations on values -/
def OpS (K : PySem.W.Frag) (mg : Str → Option Value) (r : R2) (f : RV → RV → Option RV) : Prop := ∀ (G H : Hp) (x y : V) (a b c : RV) (Q : VK), Ex G H → View K mg G H x a → View K mg G H y b → f a b = some c →
  (∀ v G' H', Step G H G' H' (tmps v c) → View K mg G' H' v c → Q v H') → r x y H Q
def UnS (K : PySem.W.Frag) (mg : Str → Option Value) (r : V → Hp → VK → Prop) (f : RV → Option RV) : Prop := ∀ (G H : Hp) (x : V) (a c : RV) (Q : VK), Ex G H → View K mg G H x a → f a = some c →
  (∀ v G' H', Step G H G' H' (tmps v c) → View K mg G' H' v c → Q v H') → r x H Q
def Views (K : PySem.W.Frag) (mg : Str → Option Value) (G H : Hp) (vs : List V) (rs : List RV) : Prop := vs.length = rs.length ∧ ∀ (i : Nat) (v : V) (r : RV), vs[i]? = some v → rs[i]? = some r → View K mg G H v r
def CallS (K : PySem.W.Frag) (mg : Str → Option Value) (r : List V → Hp → VK → Prop) (f : List RV → Option RV) : Prop := ∀ (G H : Hp) (xs : List V) (as : List RV) (c : RV) (Q : VK), Ex G H → Views K mg G H xs as → f as = some c →
  (∀ v G' H', Step G H G' H' (tmps v c) → View K mg G' H' v c → Q v H') → r xs H Q
def fin2 (f : RV → RV → Option RV) (o1 o2 : Opd) (env : DEnv) : Res RV := match resolve env o1, resolve env o2 with
  | some a, some b => (match f a b with
    | some c => .ok c env
    | none => .stk)
  | _, _ => .stk
def fin1 (f : RV → Option RV) (o1 : Opd) (env : DEnv) : Res RV := match resolve env o1 with
  | some a => (match f a with
    | some c => .ok c env
    | none => .stk)
  | none => .stk
def finN (f : List RV → Option RV) (os : List Opd) (env : DEnv) : Res RV := match resolves env os with
  | some as => (match f as with
    | some c => .ok c env
    | none => .stk)
  | none => .stk
def opM (f : RV → RV → Option RV) (ma mb : M Opd) : M RV := bindM ma fun o1 => bindM mb fun o2 => fin2 f o1 o2
def unM (f : RV → Option RV) (ma : M Opd) : M RV := bindM ma fun o1 => fin1 f o1
def callM (f : List RV → Option RV) (ma : M (List Opd)) : M RV := bindM ma fun os => finN f os
theorem Views.nil {K : PySem.W.Frag} {mg : Str → Option Value} {G H : Hp} : Views K mg G H [] [] := ⟨rfl, fun i v d a => by simp at a⟩
theorem Views.cons {K : PySem.W.Frag} {mg : Str → Option Value} {G H : Hp} {v : V} {d : RV} {xs : List V} {ds : List RV} (h : View K mg G H v d) (t : Views K mg G H xs ds) : Views K mg G H (v :: xs) (d :: ds) := by
  refine ⟨by simp [t.1], fun i w e a b => ?_⟩
  cases i with
  | zero => simp at a b; subst a; subst b; exact h
  | succ i => simp at a b; exact t.2 i w e a b
theorem Views.cons_ex {K : PySem.W.Frag} {mg : Str → Option Value} {G H : Hp} {d : RV} {xs : List V} {ds : List RV} (h : Views K mg G H xs (d :: ds)) : ∃ v vs, xs = v :: vs ∧ View K mg G H v d ∧ Views K mg G H vs ds := by
  cases xs with
  | nil => have := h.1; simp at this
  | cons v vs => exact ⟨v, vs, rfl, h.2 0 v d rfl rfl, by simpa using h.1, fun i w e a b => h.2 (i + 1) w e (by simpa using a) (by simpa using b)⟩
theorem Views.nil_inv {K : PySem.W.Frag} {mg : Str → Option Value} {G H : Hp} {xs : List V} (h : Views K mg G H xs []) : xs = [] := by
  have := h.1; simpa using this
theorem SRel.resolves {K : PySem.W.Frag} {mg : Str → Option Value} {Fh : FHp} {P : List (Nat × V)} {G H : Hp} {σ : L2.St} {env : DEnv} {T : List Addr} (S : SRel K mg Fh P G H σ env T) : ∀ {os : List Opd} {vs : List V} {rs : List RV}, OpdRs K mg G σ vs os → resolves env os = some rs → Views K mg G H vs rs
  | [], vs, rs, h, e => by cases e; rw [h.nil_inv]; exact .nil
  | o :: os, vs, rs, h, e => by
    obtain ⟨v, vs, rfl, h1, h2⟩ := h.cons_ex
    unfold Z.resolves at e
    split at e
    · rename_i r rs' q1 q2
      cases e
      exact .cons (S.resolve h1 q1) (S.resolves h2 q2)
    · cases e
theorem fin2_ok {r : R2} {f : RV → RV → Option RV} {Fh : FHp} {P : List (Nat × V)} {G H : Hp} {σ : L2.St} {env : DEnv} {o1 o2 : Opd} {x y : V} {Q : VK} (hs : OpS X.K X.mg r f) (S : SRel X.K X.mg Fh P G H σ env []) (h1 : OpdR X.K X.mg G σ x o1) (h2 : OpdR X.K X.mg G σ y o2)
    (h : PV X.K X.mg W Fh P σ G Q (fin2 f o1 o2 env)) : r x y H Q := by
  unfold fin2 at h
  split at h
  · rename_i a b q1 q2
    split at h
    · rename_i c q3
      exact hs G H x y a b c Q S.gh (S.resolve h1 q1) (S.resolve h2 q2) q3 fun v G' H' st w => h v G' H' (st.ex S.gh) w (S.step st)
    · exact h.elim
  · exact h.elim
theorem fin1_ok {r : V → Hp → VK → Prop} {f : RV → Option RV} {Fh : FHp} {P : List (Nat × V)} {G H : Hp} {σ : L2.St} {env : DEnv} {o1 : Opd} {x : V} {Q : VK} (hs : UnS X.K X.mg r f) (S : SRel X.K X.mg Fh P G H σ env []) (h1 : OpdR X.K X.mg G σ x o1)
    (h : PV X.K X.mg W Fh P σ G Q (fin1 f o1 env)) : r x H Q := by
  unfold fin1 at h
  split at h
  · rename_i a q1
    split at h
    · rename_i c q3
      exact hs G H x a c Q S.gh (S.resolve h1 q1) q3 fun v G' H' st w => h v G' H' (st.ex S.gh) w (S.step st)
    · exact h.elim
  · exact h.elim
theorem finN_ok {r : List V → Hp → VK → Prop} {f : List RV → Option RV} {Fh : FHp} {P : List (Nat × V)} {G H : Hp} {σ : L2.St} {env : DEnv} {os : List Opd} {xs : List V} {Q : VK} (hs : CallS X.K X.mg r f) (S : SRel X.K X.mg Fh P G H σ env []) (h1 : OpdRs X.K X.mg G σ xs os)
    (h : PV X.K X.mg W Fh P σ G Q (finN f os env)) : r xs H Q := by
  unfold finN at h
  split at h
  · rename_i as q1
    split at h
    · rename_i c q3
      exact hs G H xs as c Q S.gh (S.resolves h1 q1) q3 fun v G' H' st w => h v G' H' (st.ex S.gh) w (S.step st)
    · exact h.elim
  · exact h.elim
theorem rd_op {r : R2} {f : RV → RV → Option RV} {ma mb : M Opd} {Fh : FHp} {P : List (Nat × V)} (hs : OpS X.K X.mg r f) {σ : L2.St} {H : Hp} {Q : VK} (h : rdV X.K X.mg W Fh P (opM f ma mb) σ H Q) : tOp r (rdO X.K X.mg W Fh P ma) (rdO X.K X.mg W Fh P mb) σ H Q := by
  obtain ⟨G, env, S, q⟩ := h
  refine ⟨G, env, S, PO_V q fun o1 e1 x G1 H1 ex1 w1 S1 hk => ?_⟩
  refine ⟨G1, e1, S1, PO_V hk fun o2 e2 y G2 H2 ex2 w2 S2 hk2 => ?_⟩
  exact fin2_ok hs S2 (w1.mono ex2) w2 hk2
theorem qv_op {op : Operator} {r : R2} {f : RV → RV → Option RV} {ma mb : M Opd} (ho : OpR X (binaryOp op) r) (hs : OpS X.K X.mg r f) (ha : QO X W pn a ma) (hb : QO X W pn b mb) : QV X W pn (.BinOp a op b pos) (opM f ma mb) := fun Fh P hp =>
  PE.weak (pe_op ho (ha Fh P hp) (hb Fh P hp)) fun σ H Q h => rd_op hs h
theorem qv_cmp {op : CmpOp} {r : R2} {f : RV → RV → Option RV} {ma mb : M Opd} (ho : OpR X (compareOp op) r) (hs : OpS X.K X.mg r f) (ha : QO X W pn a ma) (hb : QO X W pn b mb) (hm : behindInMarks op b = false) : QV X W pn (.Compare a [op] [b] pos) (opM f ma mb) := fun Fh P hp =>
  PE.weak (pe_cmpR ho (ha Fh P hp) (hb Fh P hp) hm) fun σ H Q h => rd_op hs h
theorem qv_ix {r : R2} {f : RV → RV → Option RV} {ma mb : M Opd} (ho : IxR X r) (hs : OpS X.K X.mg r f) (ha : QO X W pn a ma) (hb : QO X W pn b mb) (hpx : PlainIx b) : QV X W pn (.Subscript a b pos) (opM f ma mb) := fun Fh P hp =>
  PE.weak (pe_ix ho (ha Fh P hp) (hb Fh P hp) hpx) fun σ H Q h => rd_op hs h
theorem qv_un {op : UnaryOp} {r : V → Hp → VK → Prop} {f : RV → Option RV} {ma : M Opd} (ho : UnR X (unaryOp op) r) (hs : UnS X.K X.mg r f) (ha : QO X W pn a ma) : QV X W pn (.UnaryOp op a pos) (unM f ma) := fun Fh P hp =>
  PE.weak (pe_un ho (ha Fh P hp)) fun σ H Q ⟨G, env, S, q⟩ => ⟨G, env, S, PO_V q fun o1 e1 x G1 H1 ex1 w1 S1 hk => fin1_ok hs S1 w1 hk⟩
theorem rd_call {r : List V → Hp → VK → Prop} {f : List RV → Option RV} {ma : M (List Opd)} {Fh : FHp} {P : List (Nat × V)} (hs : CallS X.K X.mg r f) {σ : L2.St} {H : Hp} {Q : VK} (h : rdV X.K X.mg W Fh P (callM f ma) σ H Q) : tCB r (rdOs X.K X.mg W Fh P ma) σ H Q := by
  obtain ⟨G, env, S, q⟩ := h
  exact ⟨G, env, S, POs_V q fun os e1 xs G1 H1 ex1 w1 S1 hk => finN_ok hs S1 w1 hk⟩
theorem qv_callB {id : String} {x : Str} {p : Pos} {es : List Expr} {r : List V → Hp → VK → Prop} {f : List RV → Option RV} {ma : M (List Opd)} (hc : CallR X (.builtin id) r) (hs : CallS X.K X.mg r f) (hg : Gl X x) (hm : X.mg x = none) (hv : bootBuiltins x = some (.builtin id)) (ha : QOs X W pn (e :: es) ma)
    (hn : x ≠ "__name__") (hdb : (x == ("__debug__" : Str)) = false) (he : starEach (e :: es) X.env = (false, eval e X.env) :: starEach es X.env) (hpl : (backTo pos (starEach es X.env)).any (·.1) = false) : QV X W pn (.Call (.Name x p) (e :: es) [] pos) (callM f ma) := fun Fh P hp =>
  PE.weak (pe_callB hc hg hm hv (ha Fh P hp) hn hdb he hpl) fun σ H Q h => rd_call hs h
theorem qv_callTy {id : String} {x : Str} {p : Pos} {es : List Expr} {r : List V → Hp → VK → Prop} {f : List RV → Option RV} {ma : M (List Opd)} (hc : CallR X (.type id) r) (hs : CallS X.K X.mg r f) (hg : Gl X x) (hm : X.mg x = none) (hv : bootBuiltins x = some (.type id)) (ha : QOs X W pn (e :: es) ma)
    (hn : x ≠ "__name__") (hdb : (x == ("__debug__" : Str)) = false) (he : starEach (e :: es) X.env = (false, eval e X.env) :: starEach es X.env) (hpl : (backTo pos (starEach es X.env)).any (·.1) = false) : QV X W pn (.Call (.Name x p) (e :: es) [] pos) (callM f ma) := fun Fh P hp =>
  PE.weak (pe_callTy hc hg hm hv (ha Fh P hp) hn hdb he hpl) fun σ H Q h => rd_call hs h
end
end Z
/-! Z: operations on values -/
namespace Z
open PySem PySem.Spec PyProof.Rows L2
section
variable {X : Cx} {K : PySem.W.Frag} {mg : Str → Option Value}
theorem OpR.or {f : Value → Value → Sem Value} {r r' : R2} (h : OpR X f r) (h' : OpR X f r') : OpR X f (fun x y H Q => r x y H Q ∨ r' x y H Q) := fun pins s σ H x y v u Q I rx ry q =>
  q.elim (h pins s σ H x y v u Q I rx ry) (h' pins s σ H x y v u Q I rx ry)
theorem CallR.or {f : Value} {r r' : List V → Hp → VK → Prop} (h : CallR X f r) (h' : CallR X f r') : CallR X f (fun xs H Q => r xs H Q ∨ r' xs H Q) := fun pins s σ H xs us Q I rx q =>
  q.elim (h pins s σ H xs us Q I rx) (h' pins s σ H xs us Q I rx)
theorem SlR.or {r r' : V → Option Int → Option Int → Hp → VK → Prop} (h : SlR X r) (h' : SlR X r') : SlR X (fun x l u H Q => r x l u H Q ∨ r' x l u H Q) := by
  intro pins s σ H x v vl vu lo hi sl Q I rx hs pl pu q
  exact q.elim (h pins s σ H x v vl vu lo hi sl Q I rx hs pl pu) (h' pins s σ H x v vl vu lo hi sl Q I rx hs pl pu)
def orF (f g : RV → RV → Option RV) (a b : RV) : Option RV := match f a b with
  | some c => some c
  | none => g a b
def orN (f g : List RV → Option RV) (a : List RV) : Option RV := match f a with
  | some c => some c
  | none => g a
theorem OpS.or {r r' : R2} {f g : RV → RV → Option RV} (h : OpS K mg r f) (h' : OpS K mg r' g) : OpS K mg (fun x y H Q => r x y H Q ∨ r' x y H Q) (orF f g) := fun G H x y a b c Q ex va vb e k => by
  unfold orF at e
  split at e
  · rename_i c' q; cases e; exact .inl (h G H x y a b _ Q ex va vb q k)
  · exact .inr (h' G H x y a b c Q ex va vb e k)
theorem CallS.or {r r' : List V → Hp → VK → Prop} {f g : List RV → Option RV} (h : CallS K mg r f) (h' : CallS K mg r' g) : CallS K mg (fun x H Q => r x H Q ∨ r' x H Q) (orN f g) := fun G H x a c Q ex va e k => by
  unfold orN at e
  split at e
  · rename_i c' q; cases e; exact .inl (h G H x a _ Q ex va q k)
  · exact .inr (h' G H x a c Q ex va e k)

/-! ### seeing a value -/
def listOf : RV → Option (List D)
  | .sh (.lst ds) => some ds
  | .ol ds => some ds
  | _ => none
def tupOf : RV → Option (List D)
  | .sh (.tup ds) => some ds
  | _ => none
def seqOf : RV → Option (List D)
  | .sh (.lst ds) => some ds
  | .ol ds => some ds
  | .sh (.tup ds) => some ds
  | _ => none
variable {G H : Hp}
theorem View.list (ex : Ex G H) {v : V} {r : RV} {ds : List D} (w : View K mg G H v r) (e : listOf r = some ds) : ∃ a xs, v = .ref a ∧ H a = some (.lst xs) ∧ DenL K mg G xs ds := by
  unfold listOf at e
  split at e
  · cases e; obtain ⟨a, xs, rfl, h1, h2⟩ := Den.lst_inv w; exact ⟨a, xs, rfl, ex _ _ h1, h2⟩
  · cases e
    obtain ⟨a, o, rfl, h1, h2, h3⟩ := w
    cases o <;> first | exact h3.elim | exact ⟨a, _, rfl, h1, h3⟩
  · cases e
theorem View.tup (ex : Ex G H) {v : V} {r : RV} {ds : List D} (w : View K mg G H v r) (e : tupOf r = some ds) : ∃ a xs, v = .ref a ∧ SqT K H a xs ∧ DenL K mg G xs ds := by
  unfold tupOf at e
  split at e
  · cases e; obtain ⟨a, xs, rfl, h1, h2⟩ := Den.tup_inv w; exact ⟨a, xs, rfl, ex.sqT h1, h2⟩
  · cases e
theorem View.seq (ex : Ex G H) {v : V} {r : RV} {ds : List D} (w : View K mg G H v r) (e : seqOf r = some ds) : ∃ a xs, v = .ref a ∧ (SqL K H a xs ∨ SqT K H a xs) ∧ DenL K mg G xs ds := by
  cases h : listOf r with
  | some es =>
    have : es = ds := by
      unfold listOf at h; unfold seqOf at e
      split at h <;> first | (cases h; cases e; rfl) | (cases h)
    subst this
    obtain ⟨a, xs, e1, e2, e3⟩ := w.list ex h
    exact ⟨a, xs, e1, .inl (SqL.of e2), e3⟩
  | none =>
    have h2 : tupOf r = some ds := by
      unfold listOf at h; unfold seqOf at e; unfold tupOf
      split at e
      · cases h
      · cases h
      · exact e
      · cases e
    obtain ⟨a, xs, e1, e2, e3⟩ := w.tup ex h2
    exact ⟨a, xs, e1, .inr e2, e3⟩

/-! ### ints -/
def iI (g : Int → Int → Option D) (a b : RV) : Option RV := match a, b with
  | .sh (.int i), .sh (.int j) => (g i j).map .sh
  | _, _ => none
theorem opS_I {C : Int → Int → Prop} {gv : Int → Int → V} {g : Int → Int → Option D} (hc : ∀ i j d, g i j = some d → C i j ∧ ∀ G, Den K mg G (gv i j) d) : OpS K mg (rI C gv) (iI g) := fun G H x y a b c Q ex va vb e k => by
  unfold iI at e
  split at e
  · rename_i i j
    cases hg : g i j with
    | none => rw [hg] at e; cases e
    | some d =>
      rw [hg] at e; cases e
      obtain ⟨h1, h2⟩ := hc i j d hg
      exact ⟨i, j, Den.int_inv va, Den.int_inv vb, h1, k _ G H .same (h2 G)⟩
  · cases e
theorem opS_I0 {gv : Int → Int → V} {g : Int → Int → Option D} (hc : ∀ i j d, g i j = some d → ∀ G, Den K mg G (gv i j) d) : OpS K mg (rI0 gv) (iI g) := fun G H x y a b c Q ex va vb e k => by
  unfold iI at e
  split at e
  · rename_i i j
    cases hg : g i j with
    | none => rw [hg] at e; cases e
    | some d =>
      rw [hg] at e; cases e
      exact ⟨i, j, Den.int_inv va, Den.int_inv vb, k _ G H .same (hc i j d hg G)⟩
  · cases e
instance (i j : Int) : Decidable (CMul i j) := by unfold CMul; exact inferInstance
instance (i j : Int) : Decidable (CDiv i j) := by unfold CDiv; exact inferInstance
instance (i j : Int) : Decidable (CPow i j) := by unfold CPow; exact inferInstance
def addI : RV → RV → Option RV := iI fun i j => some (.int (i + j))
def subI : RV → RV → Option RV := iI fun i j => some (.int (i - j))
def mulI : RV → RV → Option RV := iI fun i j => if CMul i j then some (.int (i * j)) else none
def divI : RV → RV → Option RV := iI fun i j => if CDiv i j then some (.int (i / j)) else none
def modI : RV → RV → Option RV := iI fun i j => if 0 < j then some (.int (i % j)) else none
def powI : RV → RV → Option RV := iI fun i j => if CPow i j then some (.int (i ^ j.toNat)) else none
def ltI : RV → RV → Option RV := iI fun i j => some (.bl (decide (i < j)))
def leI : RV → RV → Option RV := iI fun i j => some (.bl (decide (i ≤ j)))
def gtI : RV → RV → Option RV := iI fun i j => some (.bl (decide (j < i)))
def geI : RV → RV → Option RV := iI fun i j => some (.bl (decide (j ≤ i)))
theorem s_addI : OpS K mg (rI0 fun i j => .int (i + j)) addI := opS_I0 fun i j d e G => by cases e; exact .int _
theorem s_subI : OpS K mg (rI0 fun i j => .int (i - j)) subI := opS_I0 fun i j d e G => by cases e; exact .int _
theorem s_mulI : OpS K mg (rI CMul fun i j => .int (i * j)) mulI := opS_I fun i j d e => by
  by_cases h : CMul i j
  · rw [if_pos h] at e; cases e; exact ⟨h, fun _ => .int _⟩
  · rw [if_neg h] at e; cases e
theorem s_divI : OpS K mg (rI CDiv fun i j => .int (i / j)) divI := opS_I fun i j d e => by
  by_cases h : CDiv i j
  · rw [if_pos h] at e; cases e; exact ⟨h, fun _ => .int _⟩
  · rw [if_neg h] at e; cases e
theorem s_modI : OpS K mg (rI (fun _ j => 0 < j) fun i j => .int (i % j)) modI := opS_I fun i j d e => by
  by_cases h : 0 < j
  · rw [if_pos h] at e; cases e; exact ⟨h, fun _ => .int _⟩
  · rw [if_neg h] at e; cases e
theorem s_powI : OpS K mg (rI CPow fun i j => .int (i ^ j.toNat)) powI := opS_I fun i j d e => by
  by_cases h : CPow i j
  · rw [if_pos h] at e; cases e; exact ⟨h, fun _ => .int _⟩
  · rw [if_neg h] at e; cases e
theorem s_ltI : OpS K mg (rI0 fun i j => .bl (decide (i < j))) ltI := opS_I0 fun i j d e G => by cases e; exact .bl _
theorem s_leI : OpS K mg (rI0 fun i j => .bl (decide (i ≤ j))) leI := opS_I0 fun i j d e G => by cases e; exact .bl _
theorem s_gtI : OpS K mg (rI0 fun i j => .bl (decide (j < i))) gtI := opS_I0 fun i j d e G => by cases e; exact .bl _
theorem s_geI : OpS K mg (rI0 fun i j => .bl (decide (j ≤ i))) geI := opS_I0 fun i j d e G => by cases e; exact .bl _
/-! ### texts, tuples, lists: + and * -/
def addS (a b : RV) : Option RV := match a, b with
  | .sh (.str x), .sh (.str y) => if x.length + y.length ≤ sizeLine then some (.sh (.str (x ++ y))) else none
  | _, _ => none
theorem s_addS : OpS K mg (fun x y H Q => ∃ i j, x = .str i ∧ y = .str j ∧ i.length + j.length ≤ sizeLine ∧ Q (.str (i ++ j)) H) addS := fun G H x y a b c Q ex va vb e k => by
  unfold addS at e
  split at e
  · rename_i i j
    split at e
    · rename_i h; cases e
      exact ⟨i, j, Den.str_inv va, Den.str_inv vb, h, k _ G H .same (.str _)⟩
    · cases e
  · cases e
def addT (a b : RV) : Option RV := match tupOf a, tupOf b with
  | some x, some y => if x.length + y.length ≤ sizeLine then some (.sh (.tup (x ++ y))) else none
  | _, _ => none
theorem s_addT : OpS K mg (rCatA K) addT := fun G H x y a b c Q ex va vb e k => by
  unfold addT at e
  split at e
  · rename_i ds es q1 q2
    split at e
    · rename_i h; cases e
      obtain ⟨p, xs, rfl, h1, l1⟩ := va.tup ex q1
      obtain ⟨q, ys, rfl, h2, l2⟩ := vb.tup ex q2
      refine ⟨p, q, xs, ys, rfl, rfl, h1, h2, by rw [l1.1, l2.1]; exact h, fun z => ?_, fun _ z => ?_, fun _ _ b hb => ?_⟩
      · subst z
        have : ds = [] := by have := l1.1; simpa using this.symm
        subst this
        refine k _ G H .same ?_
        unfold tupOf at q2; split at q2
        · cases q2; exact vb
        · cases q2
      · subst z
        have : es = [] := by have := l2.1; simpa using this.symm
        subst this
        refine k _ G H .same ?_
        unfold tupOf at q1; split at q1
        · cases q1; rw [List.append_nil]; exact va
        · cases q1
      · have st : Step G H (upd G b (.tup (xs ++ ys))) (upd H b (.tup (xs ++ ys))) [] := .shr hb
        exact k _ _ _ st (Den.tupL (SqT.of upd_same) ((l1.app l2).mono (st.ex ex)))
    · cases e
  · cases e
def addL (a b : RV) : Option RV := match listOf a, listOf b with
  | some x, some y => if x.length + y.length ≤ sizeLine then some (.ol (x ++ y)) else none
  | _, _ => none
theorem s_addL : OpS K mg rCat addL := fun G H x y a b c Q ex va vb e k => by
  unfold addL at e
  split at e
  · rename_i ds es q1 q2
    split at e
    · rename_i h; cases e
      obtain ⟨p, xs, rfl, h1, l1⟩ := va.list ex q1
      obtain ⟨q, ys, rfl, h2, l2⟩ := vb.list ex q2
      refine ⟨p, q, xs, ys, rfl, rfl, h1, h2, by rw [l1.1, l2.1]; exact h, fun b hb => ?_⟩
      exact k (.ref b) G _ (.own hb) (View.of_own upd_same (ex.none hb) (l1.app l2))
    · cases e
  · cases e
def addD : RV → RV → Option RV := orF addI (orF addS (orF addT addL))
/-- so many items, so often -/
def fitR (n : Nat) (k : Int) : Bool := Nat.ble k.natAbs 4611686018427387903 && Nat.ble (n * k.toNat) 16777216
theorem fitR_ok {n : Nat} {k : Int} (h : fitR n k = true) : -(2 ^ 63) ≤ k ∧ k < 2 ^ 63 ∧ n * k.toNat ≤ sizeLine := by
  obtain ⟨h1, h2⟩ := Bool.and_eq_true_iff.mp h
  have h1 : k.natAbs ≤ 4611686018427387903 := Nat.le_of_ble_eq_true h1
  have h2 : n * k.toNat ≤ 16777216 := Nat.le_of_ble_eq_true h2
  exact ⟨by simp; omega, by simp; omega, by rw [sizeLine_eq]; exact h2⟩
def repL (a b : RV) : Option RV := match listOf a, b with
  | some x, .sh (.int k) => if fitR x.length k = true then some (.ol (List.replicate k.toNat x).flatten) else none
  | _, _ => none
def repT (a b : RV) : Option RV := match tupOf a, b with
  | some x, .sh (.int k) => if x ≠ [] ∧ 2 ≤ k ∧ k ≤ 1000 ∧ x.length ≤ 1000 then some (.sh (.tup (List.replicate k.toNat x).flatten)) else none
  | _, _ => none
theorem s_repT : OpS K mg (rRepT K) repT := fun G H x y a b c Q ex va vb e k => by
  unfold repT at e
  split at e
  · rename_i ds n q1
    split at e
    · rename_i h; cases e
      obtain ⟨h0, h2, h3, h4⟩ := h
      obtain ⟨p, xs, rfl, h1, l1⟩ := va.tup ex q1
      refine ⟨p, n, xs, rfl, Den.int_inv vb, h1, fun z => h0 (by subst z; have := l1.1; simpa using this.symm), h2, h3, by rw [l1.1]; exact h4, fun b hb => ?_⟩
      have st : Step G H (upd G b (.tup (List.replicate n.toNat xs).flatten)) (upd H b (.tup (List.replicate n.toNat xs).flatten)) [] := .shr hb
      exact k _ _ _ st (Den.tupL (SqT.of upd_same) ((l1.flat _).mono (st.ex ex)))
    · cases e
  · cases e
end
end Z
namespace Z
open PySem PySem.Spec PyProof.Rows L2
section
variable {X : Cx} {K : PySem.W.Frag} {mg : Str → Option Value} {G H : Hp}
theorem s_repL : OpS K mg rRep repL := fun G H x y a b c Q ex va vb e k => by
  unfold repL at e
  split at e
  · rename_i ds n q1
    split at e
    · rename_i h; cases e
      obtain ⟨h0, h2, h3⟩ := fitR_ok h
      obtain ⟨p, xs, rfl, h1, l1⟩ := va.list ex q1
      refine ⟨p, n, xs, rfl, Den.int_inv vb, h1, h0, h2, by rw [l1.1]; exact h3, fun b hb => ?_⟩
      exact k (.ref b) G _ (.own hb) (View.of_own upd_same (ex.none hb) (l1.flat _))
    · cases e
  · cases e
/-! ### equality of data -/
mutual
def toP : D → Option PyData
  | .non => some .none
  | .bl b => some (.bool b)
  | .int i => some (.int i)
  | .str x => some (.str x)
  | .tup xs => (toPs xs).map .tuple
  | .lst xs => (toPs xs).map .list
  | .fls _ => none
  | .dct _ => none
  | .obj _ _ => none
  | .cls _ => none
  | .lam _ _ _ _ => none
def toPs : List D → Option (List PyData)
  | [] => some []
  | x :: xs => match toP x, toPs xs with
    | some p, some ps => some (p :: ps)
    | _, _ => none
end
mutual
theorem Den.dp (ex : Ex G H) : ∀ (d : D) (v : V) (p : PyData), Den K mg G v d → toP d = some p → Dp K H v p
  | .non, v, p, h, e => by cases h; simp [toP] at e; subst e; exact .non
  | .bl b, v, p, h, e => by cases h; simp [toP] at e; subst e; exact .bl b
  | .int i, v, p, h, e => by cases h; simp [toP] at e; subst e; exact .int i
  | .str x, v, p, h, e => by cases h; simp [toP] at e; subst e; exact .str x
  | .tup xs, v, p, h, e => by
    obtain ⟨a, ys, rfl, h1, h2⟩ := h.tup_inv
    simp only [toP, Option.map_eq_some_iff] at e
    obtain ⟨ps, e1, e2⟩ := e
    subst e2
    exact .tup (ex.sqT h1) (DenL.dp ex xs ys ps h2 e1)
  | .lst xs, v, p, h, e => by
    obtain ⟨a, ys, rfl, h1, h2⟩ := h.lst_inv
    simp only [toP, Option.map_eq_some_iff] at e
    obtain ⟨ps, e1, e2⟩ := e
    subst e2
    exact .lst (SqL.of (ex _ _ h1)) (DenL.dp ex xs ys ps h2 e1)
  | .fls _, v, p, h, e => by simp [toP] at e
  | .dct _, v, p, h, e => by simp [toP] at e
  | .obj _ _, v, p, h, e => by simp [toP] at e
  | .cls _, v, p, h, e => by simp [toP] at e
  | .lam _ _ _ _, v, p, h, e => by simp [toP] at e
theorem DenL.dp (ex : Ex G H) : ∀ (ds : List D) (vs : List V) (ps : List PyData), DenL K mg G vs ds → toPs ds = some ps → DpAll K H vs ps
  | [], vs, ps, h, e => by
    rw [h.nil_inv]
    simp [toPs] at e; subst e; exact .nil
  | d :: ds, vs, ps, h, e => by
    obtain ⟨v, vs, rfl, h1, h2⟩ := h.cons_ex
    unfold toPs at e
    split at e
    · rename_i p ps' q1 q2
      cases e
      exact .cons (Den.dp ex d v p h1 q1) (DenL.dp ex ds vs ps' h2 q2)
    · cases e
end
theorem View.dp (ex : Ex G H) {v : V} {r : RV} {p : PyData} (w : View K mg G H v r) (e : toP r.d = some p) : Dp K H v p := by
  cases r with
  | sh d => exact Den.dp ex d v p w e
  | ol ds =>
    obtain ⟨a, o, rfl, h1, h2, h3⟩ := w
    cases o <;> first | exact h3.elim | skip
    simp only [RV.d, toP, Option.map_eq_some_iff] at e
    obtain ⟨ps, e1, e2⟩ := e
    subst e2
    exact .lst (SqL.of h1) (DenL.dp ex _ _ _ h3 e1)
  | od _ => simp [RV.d, toP] at e
  | oo _ _ => simp [RV.d, toP] at e
def eqP (a b : RV) : Option Bool := match toP a.d, toP b.d with
  | some p, some q => if SeqAt.shaped p && SeqAt.shaped q then some (PyData.eqv p q) else none
  | _, _ => none
def eqF (a b : RV) : Option RV := (eqP a b).map fun c => .sh (.bl c)
def neF (a b : RV) : Option RV := (eqP a b).map fun c => .sh (.bl (!c))
theorem eqP_dp (ex : Ex G H) {x y : V} {a b : RV} {c : Bool} (va : View K mg G H x a) (vb : View K mg G H y b) (e : eqP a b = some c) : ∃ d e, Dp K H x d ∧ Dp K H y e ∧ SeqAt.shaped d = true ∧ SeqAt.shaped e = true ∧ PyData.eqv d e = c := by
  unfold eqP at e
  split at e
  · rename_i p q e1 e2
    split at e
    · rename_i hs
      cases e
      rw [Bool.and_eq_true] at hs
      exact ⟨p, q, va.dp ex e1, vb.dp ex e2, hs.1, hs.2, rfl⟩
    · cases e
  · cases e
theorem s_eqF : OpS K mg (rEqD K) eqF := fun G H x y a b c Q ex va vb e k => by
  unfold eqF at e
  simp only [Option.map_eq_some_iff] at e
  obtain ⟨z, e1, e2⟩ := e
  subst e2
  obtain ⟨d, e', h1, h2, h3, h4, h5⟩ := eqP_dp ex va vb e1
  refine ⟨d, e', h1, h2, h3, h4, ?_⟩
  rw [h5]
  exact k _ G H .same (.bl _)
theorem s_neF : OpS K mg (rNeD K) neF := fun G H x y a b c Q ex va vb e k => by
  unfold neF at e
  simp only [Option.map_eq_some_iff] at e
  obtain ⟨z, e1, e2⟩ := e
  subst e2
  obtain ⟨d, e', h1, h2, h3, h4, h5⟩ := eqP_dp ex va vb e1
  refine ⟨d, e', h1, h2, h3, h4, ?_⟩
  rw [h5]
  exact k _ G H .same (.bl _)
/-! ### is None -/
def isNon : RV → Bool
  | .sh .non => true
  | _ => false
theorem View.isNon {v : V} {r : RV} (w : View K mg G H v r) : decide (v = .non) = isNon r := by
  cases r with
  | sh d => cases d <;> cases w <;> simp [Z.isNon]
  | _ => obtain ⟨a, o, rfl, _⟩ := w; simp [Z.isNon]
def isF (a b : RV) : Option RV := if isNon b then some (.sh (.bl (isNon a))) else none
def isnF (a b : RV) : Option RV := if isNon b then some (.sh (.bl (!isNon a))) else none
theorem isNon_eq {r : RV} (h : isNon r = true) : r = .sh .non := by
  cases r with
  | sh d => cases d <;> first | rfl | cases h
  | _ => cases h
theorem s_isF : OpS K mg (fun x y H Q => y = .non ∧ Q (.bl (decide (x = .non))) H) isF := fun G H x y a b c Q ex va vb e k => by
  unfold isF at e
  split at e
  · rename_i h; cases e
    rw [isNon_eq h] at vb
    refine ⟨Den.non_inv vb, ?_⟩
    rw [va.isNon]
    exact k _ G H .same (.bl _)
  · cases e
theorem s_isnF : OpS K mg (fun x y H Q => y = .non ∧ Q (.bl (!decide (x = .non))) H) isnF := fun G H x y a b c Q ex va vb e k => by
  unfold isnF at e
  split at e
  · rename_i h; cases e
    rw [isNon_eq h] at vb
    refine ⟨Den.non_inv vb, ?_⟩
    rw [va.isNon]
    exact k _ G H .same (.bl _)
  · cases e
/-! ### in -/
def flatD : D → Bool
  | .non => true
  | .bl _ => true
  | .int _ => true
  | .str _ => true
  | _ => false
def eqFl : D → D → Bool
  | .non, .non => true
  | .bl a, .bl b => a == b
  | .bl a, .int b => (if a then 1 else 0) == b
  | .int a, .bl b => a == (if b then 1 else 0)
  | .int a, .int b => a == b
  | .str a, .str b => a == b
  | _, _ => false
theorem Den.flat {v : V} {d : D} (h : Den K mg G v d) (f : flatD d = true) : flatV v = true := by
  cases h <;> first | rfl | cases f
theorem Den.eqV {v u : V} {d e : D} (h : Den K mg G v d) (h' : Den K mg G u e) (f : flatD d = true) (f' : flatD e = true) : eqV v u = eqFl d e := by
  cases h <;> first | (exact absurd f Bool.false_ne_true) | (cases h' <;> first | rfl | (exact absurd f' Bool.false_ne_true))
def inD (x : D) (ds : List D) : Bool := ds.any fun y => eqFl y x
theorem DenL.flats : ∀ {ds : List D} {xs : List V}, DenL K mg G xs ds → ds.all flatD = true → xs.all flatV = true
  | [], xs, h, f => by rw [h.nil_inv]; rfl
  | d :: ds, xs, h, f => by
    obtain ⟨v, vs, rfl, h1, h2⟩ := h.cons_ex
    rw [List.all_cons, Bool.and_eq_true] at f
    rw [List.all_cons, h1.flat f.1, h2.flats f.2]; rfl
theorem DenL.inV {x : V} {e : D} (hx : Den K mg G x e) (fx : flatD e = true) : ∀ {ds : List D} {xs : List V}, DenL K mg G xs ds → ds.all flatD = true → inV x xs = inD e ds
  | [], xs, h, f => by rw [h.nil_inv]; rfl
  | d :: ds, xs, h, f => by
    obtain ⟨v, vs, rfl, h1, h2⟩ := h.cons_ex
    rw [List.all_cons, Bool.and_eq_true] at f
    have ih := DenL.inV hx fx h2 f.2
    unfold L2.inV inD at *
    rw [List.any_cons, List.any_cons, ih, h1.eqV hx f.1 fx]
def inS (neg : Bool) (a b : RV) : Option RV := match a, seqOf b with
  | .sh x, some ds => if flatD x && ds.all flatD then some (.sh (.bl (if neg then !inD x ds else inD x ds))) else none
  | _, _ => none
theorem s_inS {neg : Bool} : OpS K mg (rIn K neg) (inS neg) := fun G H x y a b c Q ex va vb e k => by
  unfold inS at e
  split at e
  · rename_i d ds q
    split at e
    · rename_i h; cases e
      rw [Bool.and_eq_true] at h
      obtain ⟨p, xs, rfl, h1, h2⟩ := vb.seq ex q
      have va : Den K mg G x d := va
      refine ⟨p, xs, rfl, h1, va.flat h.1, h2.flats h.2, ?_⟩
      rw [DenL.inV va h.1 h2 h.2]
      exact k _ G H .same (.bl _)
    · cases e
  · cases e
def inT (neg : Bool) (a b : RV) : Option RV := match a, b with
  | .sh (.str x), .sh (.str y) => some (.sh (.bl (if neg then !(!(Builtin.Str.occurrences y x 0 y.length 1).isEmpty) else !(Builtin.Str.occurrences y x 0 y.length 1).isEmpty)))
  | _, _ => none
theorem s_inT : OpS K mg (fun x y H Q => ∃ i j, x = .str i ∧ y = .str j ∧ Q (.bl (!(Builtin.Str.occurrences j i 0 j.length 1).isEmpty)) H) (inT false) := fun G H x y a b c Q ex va vb e k => by
  unfold inT at e
  split at e
  · rename_i i j; cases e
    exact ⟨i, j, Den.str_inv va, Den.str_inv vb, k _ G H .same (.bl _)⟩
  · cases e
theorem s_ninT : OpS K mg (fun x y H Q => ∃ i j, x = .str i ∧ y = .str j ∧ Q (.bl (!(!(Builtin.Str.occurrences j i 0 j.length 1).isEmpty))) H) (inT true) := fun G H x y a b c Q ex va vb e k => by
  unfold inT at e
  split at e
  · rename_i i j; cases e
    exact ⟨i, j, Den.str_inv va, Den.str_inv vb, k _ G H .same (.bl _)⟩
  · cases e
/-! ### subscripts -/
theorem DenL.atI {xs : List V} {ds : List D} {i : Int} {d : D} (h : DenL K mg G xs ds) (e : atI ds i = some d) : ∃ v, atI xs i = some v ∧ Den K mg G v d := by
  unfold L2.atI at *
  rw [h.1]
  cases q : ixN ds.length i with
  | none => rw [q] at e; cases e
  | some j =>
    rw [q] at e
    obtain ⟨v, h1, h2⟩ := h.get (i := j) e
    exact ⟨v, h1, h2⟩
def ixF (a b : RV) : Option RV := match b with
  | .sh (.int i) => (match listOf a with
    | some ds => (atI ds i).map .sh
    | none => match tupOf a with
      | some ds => (atI ds i).map .sh
      | none => match a with
        | .sh (.str z) => if z.length ≤ sizeLine then (atI z.cps.toList i).map fun c => .sh (.str ⟨#[c]⟩) else none
        | _ => none)
  | _ => none
theorem s_ixF : OpS K mg (rIx K) ixF := fun G H x y a b c Q ex va vb e k => by
  unfold ixF at e
  split at e
  · rename_i i
    have hy := Den.int_inv vb
    split at e
    · rename_i ds q
      simp only [Option.map_eq_some_iff] at e
      obtain ⟨d, e1, rfl⟩ := e
      obtain ⟨p, xs, rfl, h1, h2⟩ := va.list ex q
      obtain ⟨v, h3, h4⟩ := h2.atI e1
      exact .inl ⟨p, xs, i, v, rfl, hy, SqL.of h1, h3, k _ G H .same h4⟩
    · split at e
      · rename_i ds q
        simp only [Option.map_eq_some_iff] at e
        obtain ⟨d, e1, rfl⟩ := e
        obtain ⟨p, xs, rfl, h1, h2⟩ := va.tup ex q
        obtain ⟨v, h3, h4⟩ := h2.atI e1
        exact .inr (.inl ⟨p, xs, i, v, rfl, hy, h1, h3, k _ G H .same h4⟩)
      · split at e
        · rename_i z _ _
          split at e
          · rename_i hz
            simp only [Option.map_eq_some_iff] at e
            obtain ⟨c', e1, rfl⟩ := e
            exact .inr (.inr ⟨z, i, c', Den.str_inv va, hy, hz, e1, k _ G H .same (.str _)⟩)
          · cases e
        · cases e
  · cases e
end
end Z
namespace Z
open PySem PySem.Spec PyProof.Rows L2
section
variable {X : Cx} {W : WX} {pn : List Nat} {K : PySem.W.Frag} {mg : Str → Option Value} {G H : Hp}
/-! ### slices -/
def cutG {α : Type} (xs : List α) (lo hi : Option Int) : List α := (xs.drop (HT.sIx xs.length 0 lo)).take (HT.sIx xs.length xs.length hi - HT.sIx xs.length 0 lo)
theorem DenL.cut {xs : List V} {ds : List D} (h : DenL K mg G xs ds) (lo hi : Option Int) : DenL K mg G (cutV xs lo hi) (cutG ds lo hi) := by
  unfold cutV cutG
  rw [h.1]
  exact (h.drop _).take _
theorem cutG_whole {α : Type} {xs : List α} {lo hi : Option Int} (h : HT.sIx xs.length 0 lo = 0 ∧ HT.sIx xs.length xs.length hi = xs.length) : cutG xs lo hi = xs := by
  unfold cutG
  rw [h.1, h.2]
  simp
def slF (r : RV) (lo hi : Option Int) : Option RV := match listOf r with
  | some ds => some (.ol (cutG ds lo hi))
  | none => match r with
    | .sh (.tup ds) => some (.sh (.tup (cutG ds lo hi)))
    | .sh (.fls ds) => some (.ol (cutG ds lo hi))
    | .sh (.str z) => if z.length ≤ sizeLine then some (.sh (.str (cutS z lo hi))) else none
    | _ => none
def rSl (K : PySem.W.Frag) : V → Option Int → Option Int → Hp → VK → Prop := fun x l u H Q => rSlL K x l u H Q ∨ rSlA K x l u H Q ∨ rSlS x l u H Q
theorem sl_any : SlR X (rSl X.K) := SlR.or sl_list (SlR.or sl_tupA sl_str)
theorem s_slF {x : V} {a c : RV} {lo hi : Option Int} {Q : VK} (ex : Ex G H) (va : View K mg G H x a) (e : slF a lo hi = some c) (k : ∀ v G' H', Step G H G' H' (tmps v c) → View K mg G' H' v c → Q v H') : rSl K x lo hi H Q := by
  unfold slF at e
  split at e
  · rename_i ds q
    cases e
    obtain ⟨p, xs, rfl, h1, h2⟩ := va.list ex q
    exact .inl ⟨p, xs, rfl, SqL.of h1, fun b hb => k (.ref b) G _ (.own hb) (View.of_own upd_same (ex.none hb) (h2.cut lo hi))⟩
  · split at e
    · rename_i ds _; cases e
      obtain ⟨p, xs, rfl, h1, h2⟩ := Den.tup_inv va
      refine .inr (.inl ⟨p, xs, rfl, ex.sqT h1, fun hw => ?_, fun _ b hb => ?_⟩)
      · refine k _ G H .same ?_
        rw [cutG_whole (by rw [← h2.1]; exact hw)]
        exact va
      · have st : Step G H (upd G b (.tup (cutV xs lo hi))) (upd H b (.tup (cutV xs lo hi))) [] := .shr hb
        exact k _ _ _ st (Den.tupL (SqT.of upd_same) ((h2.cut lo hi).mono (st.ex ex)))
    · rename_i ds _; cases e
      cases va with
      | fls h1 h2 h3 =>
        exact .inl ⟨_, _, rfl, ex.sqL h1, fun b hb => k (.ref b) G _ (.own hb) (View.of_own upd_same (ex.none hb) (DenL.cut ⟨h2, h3⟩ lo hi))⟩
    · rename_i z _
      split at e
      · rename_i hz; cases e
        exact .inr (.inr ⟨z, Den.str_inv va, hz, k _ G H .same (.str _)⟩)
      · cases e
    · cases e
def PPo (K : PySem.W.Frag) (mg : Str → Option Value) (W : WX) (Fh : FHp) (P : List (Nat × V)) (σ : L2.St) (G : Hp) (Q : Option Int → Hp → Prop) : Res (Option Int) → Prop
  | .ok o e => ∀ G' H', Ex G G' → SRel K mg Fh P G' H' σ e [] → Q o H'
  | .err x e => PErr K mg W Fh P σ G x e
  | .stk => False
def rdP (W : WX) (Fh : FHp) (P : List (Nat × V)) (K : PySem.W.Frag) (mg : Str → Option Value) (m : M (Option Int)) : TO := fun σ H Q => ∃ G env, SRel K mg Fh P G H σ env [] ∧ PPo K mg W Fh P σ G Q (m env)
def QP (X : Cx) (W : WX) (pn : List Nat) (e : Option Expr) (m : M (Option Int)) : Prop := ∀ Fh P, P.map (·.1) = pn → L2.PO X e (rdP W Fh P X.K X.mg m)
def asInt : RV → Option Int
  | .sh (.int i) => some i
  | _ => none
theorem View.asInt {v : V} {r : RV} {i : Int} (w : View K mg G H v r) (e : asInt r = some i) : v = .int i := by
  unfold Z.asInt at e
  split at e
  · cases e; exact Den.int_inv w
  · cases e
def noP : M (Option Int) := fun env => .ok none env
def someP (m : M Opd) : M (Option Int) := bindM m fun o env => match (resolve env o).bind asInt with
  | some i => .ok (some i) env
  | none => .stk
theorem qp_none : QP X W pn none noP := fun Fh P hp => ⟨fun pins s σ H Q I ⟨G, env, S, h⟩ => po_none.run pins s σ H Q I (h G H (Ex.refl _) S)⟩
theorem qp_some {e : Expr} {m : M Opd} (h : QO X W pn e m) : QP X W pn (some e) (someP m) := fun Fh P hp => ⟨fun pins s σ H Q I ⟨G, env, S, q⟩ => (po_some (h Fh P hp)).run pins s σ H Q I (by
  refine ⟨G, env, S, ?_⟩
  unfold someP bindM at q
  cases z : m env with
  | ok o e1 =>
    rw [z] at q
    intro v G1 H1 ex w S1
    simp only at q
    cases hi : (resolve e1 o).bind asInt with
    | none => rw [hi] at q; exact q.elim
    | some i =>
      rw [hi] at q
      simp only [Option.bind_eq_some_iff] at hi
      obtain ⟨r, h1, h2⟩ := hi
      exact ⟨i, (S1.resolve w h1).asInt h2, q G1 H1 ex S1⟩
  | err x e1 => rw [z] at q; exact q
  | stk => rw [z] at q; exact q)⟩
def finS (o : Opd) (l u : Option Int) (env : DEnv) : Res RV := match resolve env o with
  | some a => (match slF a l u with
    | some c => .ok c env
    | none => .stk)
  | none => .stk
def slM (m : M Opd) (ml mu : M (Option Int)) : M RV := bindM m fun o => bindM ml fun l => bindM mu fun u => finS o l u
theorem qv_sl {e : Expr} {lo hi : Option Expr} {p2 pos : Pos} {m : M Opd} {ml mu : M (Option Int)} (h : QO X W pn e m) (hl : QP X W pn lo ml) (hu : QP X W pn hi mu) : QV X W pn (.Subscript e (.Slice lo hi none p2) pos) (slM m ml mu) := fun Fh P hp =>
  PE.weak (pe_slice sl_any (h Fh P hp) (hl Fh P hp) (hu Fh P hp)) fun σ H Q ⟨G, env, S, q⟩ => by
    refine ⟨G, env, S, PO_V q fun o e1 v G1 H1 ex w S1 hk => ?_⟩
    refine ⟨G1, e1, S1, ?_⟩
    unfold bindM at hk
    cases z : ml e1 with
    | ok l e2 =>
      simp only [z] at hk
      intro G2 H2 ex2 S2
      refine ⟨G2, e2, S2, ?_⟩
      cases z2 : mu e2 with
      | ok u e3 =>
        simp only [z2] at hk
        intro G3 H3 ex3 S3
        unfold finS at hk
        cases q1 : resolve e3 o with
        | none => simp only [q1] at hk; exact hk.elim
        | some a =>
          simp only [q1] at hk
          cases q2 : slF a l u with
          | none => simp only [q2] at hk; exact hk.elim
          | some c =>
            simp only [q2] at hk
            exact s_slF S3.gh (S3.resolve (w.mono (ex2.trans ex3)) q1) q2 fun v' G' H' st w' => hk v' G' H' ((ex2.trans ex3).trans (st.ex S3.gh)) w' (S3.step st)
      | err x e3 => simp only [z2] at hk; exact PErr.mono ex2 hk
      | stk => simp only [z2] at hk; exact hk.elim
    | err x e2 => simp only [z] at hk; exact hk
    | stk => simp only [z] at hk; exact hk
/-! ### built-in calls -/
def lenF (as : List RV) : Option RV := match as with
  | [r] => (match seqOf r with
    | some ds => some (.sh (.int ds.length))
    | none => match r with
      | .sh (.str z) => if z.length ≤ sizeLine then some (.sh (.int z.length)) else none
      | _ => none)
  | _ => none
def rLen1 (K : PySem.W.Frag) : List V → Hp → VK → Prop := fun xs H Q => (∃ p ys, xs = [.ref p] ∧ (SqL K H p ys ∨ SqT K H p ys) ∧ Q (.int ys.length) H) ∨ ∃ z, xs = [.str z] ∧ z.length ≤ sizeLine ∧ Q (.int z.length) H
theorem cr_len1 : CallR X (.builtin "len") (rLen1 X.K) := CallR.or call_len_seq call_len_str
theorem Views.one {xs : List V} {a : RV} (h : Views K mg G H xs [a]) : ∃ v, xs = [v] ∧ View K mg G H v a := by
  obtain ⟨v, vs, rfl, h1, h2⟩ := h.cons_ex
  rw [h2.nil_inv]
  exact ⟨v, rfl, h1⟩
theorem Views.two {xs : List V} {a b : RV} (h : Views K mg G H xs [a, b]) : ∃ v w, xs = [v, w] ∧ View K mg G H v a ∧ View K mg G H w b := by
  obtain ⟨v, vs, rfl, h1, h2⟩ := h.cons_ex
  obtain ⟨w, rfl, h3⟩ := h2.one
  exact ⟨v, w, rfl, h1, h3⟩
theorem s_lenF : CallS K mg (rLen1 K) lenF := fun G H xs as c Q ex va e k => by
  unfold lenF at e
  split at e
  · rename_i r
    obtain ⟨v, rfl, w⟩ := va.one
    split at e
    · rename_i ds q; cases e
      obtain ⟨a, ys, rfl, h1, h2⟩ := w.seq ex q
      refine .inl ⟨a, ys, rfl, h1, ?_⟩
      rw [h2.1]; exact k _ G H .same (.int _)
    · split at e
      · rename_i z _
        split at e
        · rename_i hz; cases e
          rw [Den.str_inv w]
          exact .inr ⟨z, rfl, hz, k _ G H .same (.int _)⟩
        · cases e
      · cases e
  · cases e
def intF (as : List RV) : Option RV := match as with
  | [.sh (.int i)] => some (.sh (.int i))
  | [.sh (.bl b)] => some (.sh (.int (if b then 1 else 0)))
  | [.sh (.str x)] => if x.length ≤ 640 then (PySem.intText? x).map fun n => .sh (.int n) else none
  | _ => none
def rInt1 : List V → Hp → VK → Prop := fun xs H Q => ((∃ i, xs = [.int i] ∧ Q (.int i) H) ∨ ∃ k, xs = [.bl k] ∧ Q (.int (if k then 1 else 0)) H) ∨ ∃ a n, xs = [.str a] ∧ PySem.intText? a = some n ∧ a.length ≤ 640 ∧ Q (.int n) H
theorem cr_int1 : CallR X (.type "int") rInt1 := CallR.or call_int1 call_int_str
theorem s_intF : CallS K mg rInt1 intF := fun G H xs as c Q ex va e k => by
  unfold intF at e
  split at e
  · obtain ⟨v, rfl, w⟩ := va.one; cases e
    rw [Den.int_inv w]
    exact .inl (.inl ⟨_, rfl, k _ G H .same (.int _)⟩)
  · obtain ⟨v, rfl, w⟩ := va.one; cases e
    rw [Den.bl_inv w]
    exact .inl (.inr ⟨_, rfl, k _ G H .same (.int _)⟩)
  · rename_i x
    obtain ⟨v, rfl, w⟩ := va.one
    split at e
    · rename_i hz
      simp only [Option.map_eq_some_iff] at e
      obtain ⟨n, e1, rfl⟩ := e
      rw [Den.str_inv w]
      exact .inr ⟨x, n, rfl, e1, hz, k _ G H .same (.int _)⟩
    · cases e
  · cases e
def strF (as : List RV) : Option RV := match as with
  | [.sh (.int i)] => if i.natAbs.log2 < 1920 then some (.sh (.str (toString i))) else none
  | _ => none
theorem s_strF : CallS K mg (fun xs H Q => ∃ i, xs = [.int i] ∧ i.natAbs.log2 < 1920 ∧ Q (.str (toString i)) H) strF := fun G H xs as c Q ex va e k => by
  unfold strF at e
  split at e
  · obtain ⟨v, rfl, w⟩ := va.one
    split at e
    · rename_i h; cases e
      rw [Den.int_inv w]
      exact ⟨_, rfl, h, k _ G H .same (.str _)⟩
    · cases e
  · cases e
def absF (as : List RV) : Option RV := match as with
  | [.sh (.int i)] => some (.sh (.int (if i < 0 then -i else i)))
  | _ => none
theorem s_absF : CallS K mg (fun xs H Q => ∃ i, xs = [.int i] ∧ Q (.int (if i < 0 then -i else i)) H) absF := fun G H xs as c Q ex va e k => by
  unfold absF at e
  split at e
  · obtain ⟨v, rfl, w⟩ := va.one; cases e
    rw [Den.int_inv w]
    exact ⟨_, rfl, k _ G H .same (.int _)⟩
  · cases e
def listF (as : List RV) : Option RV := match as with
  | [r] => (seqOf r).map .ol
  | _ => none
theorem s_listF : CallS K mg (fun xs H Q => ∃ p ys, xs = [.ref p] ∧ (SqL K H p ys ∨ SqT K H p ys) ∧ ∀ l, H l = none → Q (.ref l) (upd H l (.lst ys))) listF := fun G H xs as c Q ex va e k => by
  unfold listF at e
  split at e
  · obtain ⟨v, rfl, w⟩ := va.one
    simp only [Option.map_eq_some_iff] at e
    obtain ⟨ds, e1, rfl⟩ := e
    obtain ⟨a, ys, rfl, h1, h2⟩ := w.seq ex e1
    exact ⟨a, ys, rfl, h1, fun b hb => k (.ref b) G _ (.own hb) (View.of_own upd_same (ex.none hb) h2)⟩
  · cases e
def tupleF (as : List RV) : Option RV := match as with
  | [r] => (match listOf r with
    | some ds => some (.sh (.tup ds))
    | none => (tupOf r).map fun ds => .sh (.tup ds))
  | _ => none
theorem s_tupleF : CallS K mg (fun xs H Q => ∃ p ys, xs = [.ref p] ∧ ((SqL K H p ys ∧ ∀ l, H l = none → Q (.ref l) (upd H l (.tup ys))) ∨ (SqT K H p ys ∧ Q (.ref p) H))) tupleF := fun G H xs as c Q ex va e k => by
  unfold tupleF at e
  split at e
  · rename_i r
    obtain ⟨v, rfl, w⟩ := va.one
    split at e
    · rename_i ds q; cases e
      obtain ⟨a, ys, rfl, h1, h2⟩ := w.list ex q
      refine ⟨a, ys, rfl, .inl ⟨SqL.of h1, fun b hb => ?_⟩⟩
      have st : Step G H (upd G b (.tup ys)) (upd H b (.tup ys)) [] := .shr hb
      exact k _ _ _ st (Den.tupL (SqT.of upd_same) (h2.mono (st.ex ex)))
    · simp only [Option.map_eq_some_iff] at e
      obtain ⟨ds, e1, rfl⟩ := e
      have w' := w
      obtain ⟨a, ys, rfl, h1, h2⟩ := w.tup ex e1
      refine ⟨a, ys, rfl, .inr ⟨h1, k _ G H .same ?_⟩⟩
      unfold tupOf at e1
      split at e1
      · cases e1; exact w'
      · cases e1
  · cases e
def boolsOf : List D → Option (List Bool)
  | [] => some []
  | .bl b :: ds => (boolsOf ds).map (b :: ·)
  | _ :: _ => none
def intsOf : List D → Option (List Int)
  | [] => some []
  | .int b :: ds => (intsOf ds).map (b :: ·)
  | _ :: _ => none
theorem DenL.bools : ∀ {ds : List D} {xs : List V} {bs : List Bool}, DenL K mg G xs ds → boolsOf ds = some bs → xs = bs.map V.bl
  | [], xs, bs, h, e => by cases e; exact h.nil_inv
  | .bl b :: ds, xs, bs, h, e => by
    obtain ⟨v, vs, rfl, h1, h2⟩ := h.cons_ex
    simp only [boolsOf, Option.map_eq_some_iff] at e
    obtain ⟨bs', e1, rfl⟩ := e
    rw [Den.bl_inv h1, h2.bools e1]; rfl
  | .non :: ds, xs, bs, h, e => by cases e
  | .int _ :: ds, xs, bs, h, e => by cases e
  | .str _ :: ds, xs, bs, h, e => by cases e
  | .tup _ :: ds, xs, bs, h, e => by cases e
  | .lst _ :: ds, xs, bs, h, e => by cases e
  | .fls _ :: ds, xs, bs, h, e => by cases e
  | .dct _ :: ds, xs, bs, h, e => by cases e
  | .obj _ _ :: ds, xs, bs, h, e => by cases e
theorem DenL.ints : ∀ {ds : List D} {xs : List V} {bs : List Int}, DenL K mg G xs ds → intsOf ds = some bs → xs = bs.map V.int
  | [], xs, bs, h, e => by cases e; exact h.nil_inv
  | .int b :: ds, xs, bs, h, e => by
    obtain ⟨v, vs, rfl, h1, h2⟩ := h.cons_ex
    simp only [intsOf, Option.map_eq_some_iff] at e
    obtain ⟨bs', e1, rfl⟩ := e
    rw [Den.int_inv h1, h2.ints e1]; rfl
  | .non :: ds, xs, bs, h, e => by cases e
  | .bl _ :: ds, xs, bs, h, e => by cases e
  | .str _ :: ds, xs, bs, h, e => by cases e
  | .tup _ :: ds, xs, bs, h, e => by cases e
  | .lst _ :: ds, xs, bs, h, e => by cases e
  | .fls _ :: ds, xs, bs, h, e => by cases e
  | .dct _ :: ds, xs, bs, h, e => by cases e
  | .obj _ _ :: ds, xs, bs, h, e => by cases e
def allF (as : List RV) : Option RV := match as with
  | [r] => ((listOf r).bind boolsOf).map fun bs => .sh (.bl (bs.all id))
  | _ => none
def anyF (as : List RV) : Option RV := match as with
  | [r] => ((listOf r).bind boolsOf).map fun bs => .sh (.bl (bs.any id))
  | _ => none
def sumF (as : List RV) : Option RV := match as with
  | [r] => ((listOf r).bind intsOf).map fun bs => .sh (.int bs.sum)
  | _ => none
theorem s_allF : CallS K mg (rAll K) allF := fun G H xs as c Q ex va e k => by
  unfold allF at e
  split at e
  · obtain ⟨v, rfl, w⟩ := va.one
    simp only [Option.map_eq_some_iff, Option.bind_eq_some_iff] at e
    obtain ⟨bs, ⟨ds, e1, e2⟩, rfl⟩ := e
    obtain ⟨a, ys, rfl, h1, h2⟩ := w.list ex e1
    exact ⟨a, bs, rfl, SqL.of (by rw [← h2.bools e2]; exact h1), k _ G H .same (.bl _)⟩
  · cases e
theorem s_anyF : CallS K mg (rAny K) anyF := fun G H xs as c Q ex va e k => by
  unfold anyF at e
  split at e
  · obtain ⟨v, rfl, w⟩ := va.one
    simp only [Option.map_eq_some_iff, Option.bind_eq_some_iff] at e
    obtain ⟨bs, ⟨ds, e1, e2⟩, rfl⟩ := e
    obtain ⟨a, ys, rfl, h1, h2⟩ := w.list ex e1
    exact ⟨a, bs, rfl, SqL.of (by rw [← h2.bools e2]; exact h1), k _ G H .same (.bl _)⟩
  · cases e
theorem s_sumF : CallS K mg (rSum K) sumF := fun G H xs as c Q ex va e k => by
  unfold sumF at e
  split at e
  · obtain ⟨v, rfl, w⟩ := va.one
    simp only [Option.map_eq_some_iff, Option.bind_eq_some_iff] at e
    obtain ⟨bs, ⟨ds, e1, e2⟩, rfl⟩ := e
    obtain ⟨a, ys, rfl, h1, h2⟩ := w.list ex e1
    exact ⟨a, bs, rfl, SqL.of (by rw [← h2.ints e2]; exact h1), k _ G H .same (.int _)⟩
  · cases e
/-! ### truth, and, or, not, if -/
def truF (r : RV) : Option Bool := match r with
  | .sh .non => some false
  | .sh (.bl b) => some b
  | .sh (.int i) => some (i != 0)
  | .sh (.str y) => if y.length ≤ sizeLine then some ((y.length : Int) != 0) else none
  | r => (seqOf r).map fun ds => !ds.isEmpty
theorem View.tru (ex : Ex G H) {v : V} {r : RV} {b : Bool} (w : View K mg G H v r) (e : truF r = some b) : TruV K v H b := by
  have seq : ∀ {r : RV}, View K mg G H v r → (seqOf r).map (fun ds => !ds.isEmpty) = some b → TruV K v H b := fun {r} w e => by
    simp only [Option.map_eq_some_iff] at e
    obtain ⟨ds, e1, rfl⟩ := e
    obtain ⟨a, ys, rfl, h1, h2⟩ := w.seq ex e1
    have hl : (!ds.isEmpty) = !ys.isEmpty := by
      have := h2.1
      cases ds <;> cases ys <;> first | rfl | (simp at this)
    rw [hl]
    rcases h1 with h1 | h1
    · exact .inl ⟨ys, h1, rfl⟩
    · exact .inr (.inl ⟨ys, h1, rfl⟩)
  unfold truF at e
  split at e
  · cases e; rw [Den.non_inv w]; rfl
  · cases e; rw [Den.bl_inv w]; rfl
  · cases e; rw [Den.int_inv w]; rfl
  · split at e
    · rename_i h; cases e; rw [Den.str_inv w]; exact ⟨h, rfl⟩
    · cases e
  · exact seq w e
def truM (m : M Opd) : M Bool := bindM m fun o env => match resolve env o with
  | some r => (match truF r with
    | some b => .ok b env
    | none => .stk)
  | none => .stk
theorem qt_truth {e : Expr} {m : M Opd} (h : QO X W pn e m) (he : ∀ whole, isTrue e X.env whole = (do let v ← whole; standAt e.pos; holding [v] (truthy v))) : QT X W pn e (truM m) := fun Fh P hp =>
  PT.weak (pt_truth (h Fh P hp) he) fun σ H Q ⟨G, env, S, q⟩ => by
    refine ⟨G, env, S, PO_B q fun o e1 v G1 H1 ex w S1 hk => ?_⟩
    split at hk
    · rename_i r q1
      split at hk
      · rename_i b q2
        exact ⟨b, (S1.resolve w q1).tru S1.gh q2, hk G1 H1 (Ex.refl _) S1⟩
      · exact hk.elim
    · exact hk.elim
def notM (m : M Bool) : M Bool := bindM m fun b env => .ok (!b) env
theorem qt_not {a : Expr} {pos : Pos} {m : M Bool} (h : QT X W pn a m) : QT X W pn (.UnaryOp .Not a pos) (notM m) := fun Fh P hp =>
  PT.weak (pt_not (h Fh P hp)) fun σ H Q ⟨G, env, S, q⟩ => ⟨G, env, S, PB_B q fun b e1 G1 H1 ex S1 hk => hk G1 H1 (Ex.refl _) S1⟩
def andM (ma mb : M Bool) : M Bool := bindM ma fun b => if b = true then mb else fun env => .ok false env
def orM (ma mb : M Bool) : M Bool := bindM ma fun b => if b = true then (fun env => .ok true env) else mb
theorem qw_and1 {a : Expr} {pos : Pos} {m : M Bool} (h : QT X W pn a m) : QW X W pn (.BoolOp .And [a] pos) m := fun Fh P hp => pw_and1 (h Fh P hp)
theorem qw_or1 {a : Expr} {pos : Pos} {m : M Bool} (h : QT X W pn a m) : QW X W pn (.BoolOp .Or [a] pos) m := fun Fh P hp => pw_or1 (h Fh P hp)
theorem qw_and {a b : Expr} {rest : List Expr} {pos : Pos} {ma mb : M Bool} (ha : QT X W pn a ma) (hb : QW X W pn (.BoolOp .And (b :: rest) pos) mb) : QW X W pn (.BoolOp .And (a :: b :: rest) pos) (andM ma mb) := fun Fh P hp =>
  PW.weak (pw_and (ha Fh P hp) (hb Fh P hp)) fun σ H Q ⟨G, env, S, q⟩ => by
    refine ⟨G, env, S, PB_B q fun c e1 G1 H1 ex S1 hk => ?_⟩
    cases c with
    | true => exact ⟨G1, e1, S1, hk⟩
    | false => exact hk G1 H1 (Ex.refl _) S1
theorem qw_or {a b : Expr} {rest : List Expr} {pos : Pos} {ma mb : M Bool} (ha : QT X W pn a ma) (hb : QW X W pn (.BoolOp .Or (b :: rest) pos) mb) : QW X W pn (.BoolOp .Or (a :: b :: rest) pos) (orM ma mb) := fun Fh P hp =>
  PW.weak (pw_or (ha Fh P hp) (hb Fh P hp)) fun σ H Q ⟨G, env, S, q⟩ => by
    refine ⟨G, env, S, PB_B q fun c e1 G1 H1 ex S1 hk => ?_⟩
    cases c with
    | true => exact hk G1 H1 (Ex.refl _) S1
    | false => exact ⟨G1, e1, S1, hk⟩
theorem qt_w {e : Expr} {m : M Bool} (h : QW X W pn e m) : QT X W pn e m := fun Fh P hp => PW.pt (h Fh P hp)
def ifM (mt : M Bool) (ma mb : M RV) : M RV := bindM mt fun b => if b = true then ma else mb
theorem qv_if {c a b : Expr} {pos : Pos} {mt : M Bool} {ma mb : M RV} (hc : QT X W pn c mt) (ha : QV X W pn a ma) (hb : QV X W pn b mb) : QV X W pn (.IfExp c a b pos) (ifM mt ma mb) := fun Fh P hp =>
  PE.weak (pe_ifExp (hc Fh P hp) (ha Fh P hp) (hb Fh P hp)) fun σ H Q ⟨G, env, S, q⟩ => by
    refine ⟨G, env, S, PB_V q fun c e1 G1 H1 ex S1 hk => ?_⟩
    cases c with
    | true => exact ⟨G1, e1, S1, hk⟩
    | false => exact ⟨G1, e1, S1, hk⟩
end
end Z
/-! Z: defs, their promises, calls -/
namespace Z
open PySem PySem.Spec PyProof.Rows L2
inductive FRes where
  | ok (r : RV) (as : List RV)
  | err (x : Exn) (as : List RV)
  | stk
abbrev FnD := List RV → FRes
/-- the object at a is lent to the call -/
def OwnAt (vs : List V) (rs : List RV) (a : Addr) : Prop := ∃ (j : Nat) (r : RV), rs[j]? = some r ∧ r.own = true ∧ vs[j]? = some (.ref a)
def Dist (vs : List V) (rs : List RV) : Prop := ∀ (i j : Nat) (r r' : RV) (a : Addr), rs[i]? = some r → rs[j]? = some r' → r.own = true → r'.own = true → vs[i]? = some (.ref a) → vs[j]? = some (.ref a) → i = j
def Frm (G H : Hp) (vs : List V) (rs : List RV) (G' H' : Hp) : Prop := ∀ b o, H b = some o → G b = none → ¬ OwnAt vs rs b → Grow o (H' b) ∧ G' b = none
/-- the shared part of a heap, its tables told -/
def GH (G H : Hp) : Prop := Ex G H ∧ TabInv G H
/-- what is lent comes back, or is shared -/
def Sub (rs rs' : List RV) : Prop := ∀ (j : Nat) (r' : RV), rs'[j]? = some r' → r'.own = true → ∃ r, rs[j]? = some r ∧ r.own = true
structure Back (K : PySem.W.Frag) (mg : Str → Option Value) (G H : Hp) (vs : List V) (rs : List RV) (G' H' : Hp) (rs' : List RV) : Prop where
  ex : Ex G G'
  gh : GH G' H'
  frm : Frm G H vs rs G' H'
  views : Views K mg G' H' vs rs'
  sub : Sub rs rs'
def TmpOk (H : Hp) (vs : List V) (rs rs' : List RV) (v : V) (r : RV) : Prop := ∀ a ∈ tmps v r, (H a = none ∨ OwnAt vs rs a) ∧ ¬ OwnAt vs rs' a
def PF (K : PySem.W.Frag) (mg : Str → Option Value) (G H : Hp) (vs : List V) (rs : List RV) (Q : VK) (E : XK) : FRes → Prop
  | .ok r rs' => ∀ v G' H', Back K mg G H vs rs G' H' rs' → View K mg G' H' v r → TmpOk H vs rs rs' v r → Q v H'
  | .err x rs' => ∀ cls d G' H', Back K mg G H vs rs G' H' rs' → XR K mg G' cls d x → E cls d H'
  | .stk => False
/-- the promise of a def that is worth m -/
def spOf (K : PySem.W.Frag) (mg : Str → Option Value) (n : Nat) (m : FnD) : Sp := fun vs H Q E => ∃ G rs, GH G H ∧ vs.length = n ∧ Views K mg G H vs rs ∧ Dist vs rs ∧ PF K mg G H vs rs Q E (m rs)

/-! ### the caller -/
def wb : List Opd → List RV → List RV → DEnv → DEnv
  | .slot i :: os, r :: rs, r' :: rs', env => if r.own = true then wb os rs rs' (env.set i (some r')) else wb os rs rs' env
  | .val _ :: os, _ :: rs, _ :: rs', env => wb os rs rs' env
  | _, _, _, env => env
def lent : List Opd → List RV → List Nat
  | .slot i :: os, r :: rs => if r.own = true then i :: lent os rs else lent os rs
  | .val _ :: os, _ :: rs => lent os rs
  | _, _ => []
def finF (f : FnD) (os : List Opd) (env : DEnv) : Res RV := match resolves env os with
  | some rs => if (lent os rs).Nodup then (match f rs with
    | .ok r rs' => if rs'.length = rs.length then .ok r (wb os rs rs' env) else .stk
    | .err x rs' => if rs'.length = rs.length then .err x (wb os rs rs' env) else .stk
    | .stk => .stk) else .stk
  | none => .stk
theorem wb_len : ∀ (os : List Opd) (rs rs' : List RV) (env : DEnv), (wb os rs rs' env).length = env.length
  | [], rs, rs', env => by cases rs <;> cases rs' <;> rfl
  | .val _ :: os, [], rs', env => by cases rs' <;> rfl
  | .slot _ :: os, [], rs', env => by cases rs' <;> rfl
  | .val _ :: os, _ :: _, [], env => rfl
  | .slot _ :: os, _ :: _, [], env => rfl
  | .val _ :: os, r :: rs, r' :: rs', env => by unfold wb; exact wb_len os rs rs' env
  | .slot i :: os, r :: rs, r' :: rs', env => by
    unfold wb
    split
    · rw [wb_len]; simp
    · exact wb_len os rs rs' env
/-- a slot behind the call: as it was, or what came back -/
theorem wb_get : ∀ {os : List Opd} {rs rs' : List RV} {env : DEnv} {i : Nat} {x : RV}, rs.length = os.length → rs'.length = rs.length → (wb os rs rs' env)[i]? = some (some x) →
    (env[i]? = some (some x) ∧ ∀ (j : Nat) (r : RV), os[j]? = some (Opd.slot i) → rs[j]? = some r → r.own = false) ∨ ∃ (j : Nat) (r : RV), os[j]? = some (Opd.slot i) ∧ rs[j]? = some r ∧ r.own = true ∧ rs'[j]? = some x
  | [], rs, rs', env, i, x, h1, h2, h => by
    have : rs = [] := by simpa using h1
    subst this
    refine .inl ⟨?_, fun j r a => by simp at a⟩
    cases rs' <;> exact h
  | .val d :: os, r :: rs, r' :: rs', env, i, x, h1, h2, h => by
    unfold wb at h
    rcases wb_get (by simpa using h1) (by simpa using h2) h with ⟨a, b⟩ | ⟨j, r1, a, b, c, d'⟩
    · refine .inl ⟨a, fun j r1 p q => ?_⟩
      cases j with
      | zero => simp at p
      | succ j => exact b j r1 (by simpa using p) (by simpa using q)
    · exact .inr ⟨j + 1, r1, by simpa using a, by simpa using b, c, by simpa using d'⟩
  | .slot n :: os, r :: rs, r' :: rs', env, i, x, h1, h2, h => by
    unfold wb at h
    by_cases hr : r.own = true
    · rw [if_pos hr] at h
      rcases wb_get (by simpa using h1) (by simpa using h2) h with ⟨a, b⟩ | ⟨j, r1, a, b, c, d'⟩
      · by_cases hn : n = i
        · subst hn
          by_cases hl : n < env.length
          · rw [List.getElem?_set_self hl] at a
            exact .inr ⟨0, r, rfl, rfl, hr, by simpa using a⟩
          · rw [List.getElem?_eq_none (by simpa using hl)] at a; cases a
        · rw [List.getElem?_set_ne hn] at a
          refine .inl ⟨a, fun j r1 p q => ?_⟩
          cases j with
          | zero => simp at p; exact absurd p hn
          | succ j => exact b j r1 (by simpa using p) (by simpa using q)
      · exact .inr ⟨j + 1, r1, by simpa using a, by simpa using b, c, by simpa using d'⟩
    · rw [if_neg hr] at h
      rcases wb_get (by simpa using h1) (by simpa using h2) h with ⟨a, b⟩ | ⟨j, r1, a, b, c, d'⟩
      · refine .inl ⟨a, fun j r1 p q => ?_⟩
        cases j with
        | zero => simp at q; subst q; simpa using hr
        | succ j => exact b j r1 (by simpa using p) (by simpa using q)
      · exact .inr ⟨j + 1, r1, by simpa using a, by simpa using b, c, by simpa using d'⟩
theorem resolves_len : ∀ {os : List Opd} {env : DEnv} {rs : List RV}, resolves env os = some rs → rs.length = os.length
  | [], env, rs, h => by cases h; rfl
  | o :: os, env, rs, h => by
    unfold resolves at h
    split at h
    · rename_i r rs' q1 q2; cases h
      simp [resolves_len q2]
    · cases h
theorem resolves_get : ∀ {os : List Opd} {env : DEnv} {rs : List RV} {j : Nat} {r : RV}, resolves env os = some rs → rs[j]? = some r → ∃ o, os[j]? = some o ∧ resolve env o = some r
  | [], env, rs, j, r, h, e => by cases h; simp at e
  | o :: os, env, rs, j, r, h, e => by
    unfold resolves at h
    split at h
    · rename_i r1 rs' q1 q2; cases h
      cases j with
      | zero => simp at e; subst e; exact ⟨o, rfl, q1⟩
      | succ j => exact resolves_get (os := os) q2 (by simpa using e)
    · cases h
theorem lent_mem : ∀ {os : List Opd} {rs : List RV} {j i : Nat} {r : RV}, os[j]? = some (.slot i) → rs[j]? = some r → r.own = true → i ∈ lent os rs
  | [], rs, j, i, r, h, _, _ => by simp at h
  | o :: os, [], j, i, r, _, h, _ => by simp at h
  | o :: os, r1 :: rs, 0, i, r, h, h', hr => by
    simp at h h'; subst h; subst h'
    unfold lent; rw [if_pos hr]; exact List.mem_cons_self
  | .val d :: os, r1 :: rs, j + 1, i, r, h, h', hr => by
    unfold lent
    exact lent_mem (j := j) (by simpa using h) (by simpa using h') hr
  | .slot n :: os, r1 :: rs, j + 1, i, r, h, h', hr => by
    unfold lent
    have := lent_mem (os := os) (rs := rs) (j := j) (by simpa using h) (by simpa using h') hr
    split
    · exact List.mem_cons_of_mem _ this
    · exact this
theorem lent_inj : ∀ {os : List Opd} {rs : List RV} {j k i : Nat} {r r' : RV}, (lent os rs).Nodup → os[j]? = some (.slot i) → os[k]? = some (.slot i) → rs[j]? = some r → rs[k]? = some r' → r.own = true → r'.own = true → j = k
  | [], rs, j, k, i, r, r', _, h, _, _, _, _, _ => by simp at h
  | o :: os, [], j, k, i, r, r', _, _, _, h, _, _, _ => by simp at h
  | o :: os, r1 :: rs, 0, 0, i, r, r', _, _, _, _, _, _, _ => rfl
  | o :: os, r1 :: rs, 0, k + 1, i, r, r', nd, h1, h2, h3, h4, o1, o2 => by
    simp at h1 h3; subst h1; subst h3
    unfold lent at nd; rw [if_pos o1] at nd
    exact absurd (lent_mem (os := os) (rs := rs) (j := k) (by simpa using h2) (by simpa using h4) o2) (List.nodup_cons.mp nd).1
  | o :: os, r1 :: rs, j + 1, 0, i, r, r', nd, h1, h2, h3, h4, o1, o2 => by
    simp at h2 h4; subst h2; subst h4
    unfold lent at nd; rw [if_pos o2] at nd
    exact absurd (lent_mem (os := os) (rs := rs) (j := j) (by simpa using h1) (by simpa using h3) o1) (List.nodup_cons.mp nd).1
  | o :: os, r1 :: rs, j + 1, k + 1, i, r, r', nd, h1, h2, h3, h4, o1, o2 => by
    have nd' : (lent os rs).Nodup := by
      cases o with
      | val d => unfold lent at nd; exact nd
      | slot n =>
        unfold lent at nd
        split at nd
        · exact (List.nodup_cons.mp nd).2
        · exact nd
    rw [lent_inj (os := os) (rs := rs) (j := j) (k := k) nd' (by simpa using h1) (by simpa using h2) (by simpa using h3) (by simpa using h4) o1 o2]
section
variable {X : Cx} {W : WX} {pn : List Nat} {K : PySem.W.Frag} {mg : Str → Option Value} {Fh : FHp} {P : List (Nat × V)} {G G' H H' : Hp} {σ : L2.St} {env : DEnv} {os : List Opd} {vs : List V} {rs rs' : List RV}
theorem lent_slot (S : SRel K mg Fh P G H σ env []) (h : OpdRs K mg G σ vs os) (e : resolves env os = some rs) {j : Nat} {r : RV} (hr : rs[j]? = some r) (ho : r.own = true) : ∃ (i : Nat) (v : V), os[j]? = some (.slot i) ∧ env[i]? = some (some r) ∧ vs[j]? = some v ∧ σ[i]? = some (some v) := by
  obtain ⟨o, h1, h2⟩ := resolves_get e hr
  cases o with
  | val d => cases h2; cases ho
  | slot i =>
    have hj : j < vs.length := by rw [h.1]; exact (List.getElem?_eq_some_iff.mp h1).1
    exact ⟨i, vs[j], h1, slotOf_some h2, by simp [hj], h.2 j _ _ (by simp [hj]) h1⟩
theorem lent_dist (S : SRel K mg Fh P G H σ env []) (h : OpdRs K mg G σ vs os) (e : resolves env os = some rs) (nd : (lent os rs).Nodup) : Dist vs rs := fun i j r r' a h1 h2 o1 o2 v1 v2 => by
  obtain ⟨n, w, a1, a2, a3, a4⟩ := lent_slot S h e h1 o1
  obtain ⟨m, w', b1, b2, b3, b4⟩ := lent_slot S h e h2 o2
  rw [v1] at a3; cases a3
  rw [v2] at b3; cases b3
  have := S.dis n m r r' a a2 b2 o1 o2 a4 b4
  subst this
  exact lent_inj nd a1 b1 h1 h2 o1 o2
/-- the caller's state behind the call -/
theorem SRel.back (S : SRel K mg Fh P G H σ env []) (h : OpdRs K mg G σ vs os) (e : Z.resolves env os = some rs) (hl : rs'.length = rs.length) (B : Back K mg G H vs rs G' H' rs') {v : V} {r : RV} (w : View K mg G' H' v r) (t : TmpOk H vs rs rs' v r) :
    SRel K mg Fh P G' H' σ (wb os rs rs' env) (tmps v r) := by
  have l1 := resolves_len e
  -- what is owned behind was owned before
  have old : ∀ {i : Nat} {x : RV}, (wb os rs rs' env)[i]? = some (some x) → x.own = true → ∃ y, env[i]? = some (some y) ∧ y.own = true := fun {i x} hx ho => by
    rcases wb_get l1 hl hx with ⟨a, _⟩ | ⟨j, y, a, b, c, d⟩
    · exact ⟨x, a, ho⟩
    · obtain ⟨n, w', a1, a2, a3, a4⟩ := lent_slot S h e b c
      rw [a] at a1; cases a1
      exact ⟨y, a2, c⟩
  have lentF : ∀ {b : Addr}, OwnAt vs rs b → Fh b = none := fun {b} ⟨j, y, h1, h2, h3⟩ => by
    obtain ⟨n, w', a1, a2, a3, a4⟩ := lent_slot S h e h1 h2
    rw [h3] at a3; cases a3
    exact (S.nof n y b a2 h2 a4).1
  have keepF : ∀ b o, Fh b = some o → ∀ u, H b = some u → Grow u (H' b) ∧ G' b = none := fun b o q u hu => B.frm b u hu (S.dj b o q) fun z => by rw [lentF z] at q; cases q
  refine ⟨B.gh.1, ⟨fun b o q => (S.fh.on b o q).grow (fun u hu _ => (keepF b o q u hu).1) (fun o' e => S.fh.nto b o' (by rw [q, e])), S.fh.nto, B.gh.2⟩, fun b o q => by
      obtain ⟨u, hu⟩ := (S.fh.on b o q).some
      exact (keepF b o q u hu).2,
    S.pin, by rw [wb_len]; exact S.len, fun i x hx => ?_, fun i j x y a h1 h2 o1 o2 s1 s2 => ?_, fun i x a hx ho ha => ⟨?_, fun m => ?_⟩, fun a m => ?_⟩
  · rcases wb_get l1 hl hx with ⟨a, b⟩ | ⟨j, y, a, b, c, d⟩
    · obtain ⟨u, hu, wu⟩ := S.val i x a
      refine ⟨u, hu, wu.keep B.ex fun p o ev hr h1 h2 => ?_⟩
      obtain ⟨p', o', ep, k1, k2, k3⟩ := wu.own_inv hr
      rw [ev] at ep; cases ep
      rw [h1] at k1; cases k1
      have bf := B.frm p o h1 h2 fun ⟨j, y, z1, z2, z3⟩ => ?_
      · exact ⟨bf.1.nt k3.nt, bf.2⟩
      obtain ⟨n, w', a1, a2, a3, a4⟩ := lent_slot S h e z1 z2
      rw [z3] at a3; cases a3
      subst ev
      have := S.dis i n x y p a a2 hr z2 hu a4
      subst this
      rw [b j y a1 z1] at z2; cases z2
    · obtain ⟨n, w', a1, a2, a3, a4⟩ := lent_slot S h e b c
      rw [a] at a1; cases a1
      exact ⟨w', a4, B.views.2 j w' x a3 d⟩
  · obtain ⟨x', e1, p1⟩ := old h1 o1
    obtain ⟨y', e2, p2⟩ := old h2 o2
    exact S.dis i j x' y' a e1 e2 p1 p2 s1 s2
  · obtain ⟨x', e1, p1⟩ := old hx ho
    exact (S.nof i x' a e1 p1 ha).1
  · obtain ⟨t1, t2⟩ := t a m
    rcases wb_get l1 hl hx with ⟨z, b⟩ | ⟨j, y, z, b, c, d⟩
    · rcases t1 with t1 | ⟨j, y, z1, z2, z3⟩
      · obtain ⟨u, hu, wu⟩ := S.val i x z
        rw [ha] at hu; cases hu
        obtain ⟨p, o, ep, h1, _⟩ := wu.own_inv ho
        cases ep; rw [t1] at h1; cases h1
      · obtain ⟨n, w', a1, a2, a3, a4⟩ := lent_slot S h e z1 z2
        rw [z3] at a3; cases a3
        have := S.dis i n x y a z a2 ho z2 ha a4
        subst this
        rw [b j y a1 z1] at z2; cases z2
    · obtain ⟨n, w', a1, a2, a3, a4⟩ := lent_slot S h e b c
      rw [z] at a1; cases a1
      rw [ha] at a4; cases a4
      exact t2 ⟨j, x, d, ho, a3⟩
  · obtain ⟨t1, t2⟩ := t a m
    have hF : Fh a = none := by
      rcases t1 with t1 | t1
      · exact S.fh.none t1
      · exact lentF t1
    cases hr : r.own with
    | false => unfold tmps at m; rw [if_neg (by rw [hr]; exact Bool.false_ne_true)] at m; cases m
    | true =>
      obtain ⟨p, o, ep, h1, h2, _⟩ := w.own_inv hr
      subst ep
      rw [tmps_own hr] at m
      have : a = p := by simpa using m
      subst this
      exact ⟨hF, h2, o, h1⟩
theorem finF_ok {f : FnD} {n : Nat} {E : XK} {Q : VK} (S : SRel K mg Fh P G H σ env []) (h : OpdRs K mg G σ vs os) (hn : os.length = n) (q : PV K mg W Fh P σ G Q (finF f os env)) (hE : ∀ cls d H', E cls d H' ↔ W cls d σ H') : spOf K mg n f vs H Q E := by
  unfold finF at q
  cases e : resolves env os with
  | none => simp only [e] at q; exact q.elim
  | some rs =>
    simp only [e] at q
    by_cases nd : (lent os rs).Nodup
    · rw [if_pos nd] at q
      refine ⟨G, rs, ⟨S.gh, S.fh.tb⟩, by rw [h.1]; exact hn, S.resolves h e, lent_dist S h e nd, ?_⟩
      cases z : f rs with
      | ok r rs' =>
        simp only [z] at q
        by_cases hl : rs'.length = rs.length
        · rw [if_pos hl] at q
          exact fun v G' H' B w t => q v G' H' B.ex w (S.back h e hl B w t)
        · rw [if_neg hl] at q; exact q.elim
      | err x rs' =>
        simp only [z] at q
        by_cases hl : rs'.length = rs.length
        · rw [if_pos hl] at q
          refine fun cls d G' H' B w => (hE cls d H').mpr (q cls d G' H' B.ex w ?_)
          have t : TmpOk H vs rs rs' .non (.sh .non) := fun a m => by cases m
          exact S.back h e hl B (v := .non) (r := .sh .non) Den.non t
        · rw [if_neg hl] at q; exact q.elim
      | stk => simp only [z] at q; exact q.elim
    · rw [if_neg nd] at q; exact q.elim
def fnM (f : FnD) (m : M (List Opd)) : M RV := bindM m fun os => finF f os
/-- f(e, ..), every parameter given by place -/
theorem qv_call {k n : Nat} {f : Addr} {fd : FuncData} {ps : List Str} {x : Str} {p pos : Pos} {e : Expr} {es : List Expr} {fD : FnD} {m : M (List Opd)} (F : FnOk X.prog X.w X.K X.mg X.base (L2.CX X.prog X.w) k f fd ps (spOf X.K X.mg n fD)) (tk : Takes X W) (hr : Room k X.A) (hg : Gl X x) (hm : X.mg x = some (.ref f))
    (hk : PySem.W.keepIn X.K (.ref f) = true) (hb : Binds X.K fd ps []) (ha : QOs X W pn (e :: es) m) (hn : ∀ env os e', m env = .ok os e' → os.length = n) (hdb : (x == ("__debug__" : Str)) = false) (he : starEach (e :: es) X.env = (false, eval e X.env) :: starEach es X.env) (hpl : (backTo pos (starEach es X.env)).any (·.1) = false) :
    QV X W pn (.Call (.Name x p) (e :: es) [] pos) (fnM fD m) := fun Fh P hp =>
  PE.weak (pe_callS F hr hg hm hk hb (fun σ => passAt tk σ) (ha Fh P hp) hdb he hpl) fun σ H Q ⟨G, env, S, q⟩ => by
    refine ⟨G, env, S, ?_⟩
    unfold fnM bindM at q
    cases z : m env with
    | ok os e1 =>
      simp only [z] at q
      exact fun vs G1 H1 ex w S1 => finF_ok S1 w (hn env os e1 z) (PV.mono ex q) fun _ _ _ => Iff.rfl
    | err x e1 => simp only [z] at q; exact q
    | stk => simp only [z] at q; exact q
end
end Z
/-! Z: statements -/
namespace Z
open PySem PySem.Spec PyProof.Rows L2
inductive Out where
  | nx (e : DEnv)
  | rt (r : RV) (e : DEnv)
  | bk (e : DEnv)
  | ct (e : DEnv)
  | err (x : Exn) (e : DEnv)
  | stk
abbrev MS := DEnv → Out
def bindS {α : Type} (m : M α) (k : α → MS) : MS := fun env => match m env with
  | .ok r e => k r e
  | .err x e => .err x e
  | .stk => .stk
section
variable (K : PySem.W.Frag) (mg : Str → Option Value) (W : WX) (Fh : FHp) (P : List (Nat × V))
def PSt (D : Ends) (G : Hp) : Out → Prop
  | .nx e => ∀ σ' G' H', Ex G G' → SRel K mg Fh P G' H' σ' e [] → D.nx σ' H'
  | .rt r e => ∀ v σ' G' H', Ex G G' → View K mg G' H' v r → SRel K mg Fh P G' H' σ' e (tmps v r) → D.rt v H'
  | .bk e => ∀ σ' G' H', Ex G G' → SRel K mg Fh P G' H' σ' e [] → D.bk σ' H'
  | .ct e => ∀ σ' G' H', Ex G G' → SRel K mg Fh P G' H' σ' e [] → D.ct σ' H'
  | .err x e => ∀ cls d σ' G' H', Ex G G' → XR K mg G' cls d x → SRel K mg Fh P G' H' σ' e [] → W cls d σ' H'
  | .stk => False
def rdS (s : MS) : TS := fun D σ H => ∃ G env, SRel K mg Fh P G H σ env [] ∧ PSt K mg W Fh P D G (s env)
end
def QS (X : Cx) (W : WX) (pn : List Nat) (st : Stmt) (s : MS) : Prop := ∀ Fh P, P.map (·.1) = pn → PS X st (rdS X.K X.mg W Fh P s)
def QSs (X : Cx) (W : WX) (pn : List Nat) (st : List Stmt) (s : MS) : Prop := ∀ Fh P, P.map (·.1) = pn → PSs X st (rdS X.K X.mg W Fh P s)
section
variable {K : PySem.W.Frag} {mg : Str → Option Value} {W : WX} {Fh : FHp} {P : List (Nat × V)} {G G' H H' : Hp} {σ : L2.St} {env : DEnv} {T : List Addr} {D : Ends}
theorem PSt.mono (e : Ex G G') {o : Out} (h : PSt K mg W Fh P D G o) : PSt K mg W Fh P D G' o := by
  cases o with
  | nx _ => exact fun σ' G1 H1 e1 => h σ' G1 H1 (e.trans e1)
  | rt _ _ => exact fun v σ' G1 H1 e1 => h v σ' G1 H1 (e.trans e1)
  | bk _ => exact fun σ' G1 H1 e1 => h σ' G1 H1 (e.trans e1)
  | ct _ => exact fun σ' G1 H1 e1 => h σ' G1 H1 (e.trans e1)
  | err _ _ => exact fun c d σ' G1 H1 e1 => h c d σ' G1 H1 (e.trans e1)
  | stk => exact h
theorem SRel.drop (S : SRel K mg Fh P G H σ env T) : SRel K mg Fh P G H σ env [] := ⟨S.gh, S.fh, S.dj, S.pin, S.len, S.val, S.dis, fun i r a e o h => ⟨(S.nof i r a e o h).1, List.not_mem_nil⟩, fun a m => absurd m List.not_mem_nil⟩
theorem set_get {α : Type} {l : List α} {i j : Nat} {x y : α} (h : (l.set i x)[j]? = some y) : (j = i ∧ y = x ∧ i < l.length) ∨ (j ≠ i ∧ l[j]? = some y) := by
  rw [List.getElem?_set] at h
  by_cases z : i = j
  · rw [if_pos z] at h
    split at h
    · rename_i hl; exact .inl ⟨z.symm, by simpa using h.symm, hl⟩
    · cases h
  · rw [if_neg z] at h; exact .inr ⟨Ne.symm z, h⟩
/-- a value comes to a slot -/
theorem SRel.set {v : V} {r : RV} {i : Nat} (S : SRel K mg Fh P G H σ env (tmps v r)) (w : View K mg G H v r) (hi : i < env.length) (hp : i ∉ P.map (·.1)) : SRel K mg Fh P G H (σ.set i (some v)) (env.set i (some r)) [] := by
  have his : i < σ.length := by rw [S.len]; exact hi
  have ad : ∀ {a : Addr}, r.own = true → v = .ref a → a ∈ tmps v r := fun {a} hr e => by subst e; rw [tmps_own hr]; exact List.mem_singleton.mpr rfl
  have sg : ∀ {j : Nat}, j ≠ i → (σ.set i (some v))[j]? = σ[j]? := fun {j} h => List.getElem?_set_ne (Ne.symm h)
  have si : (σ.set i (some v))[i]? = some (some v) := by rw [List.getElem?_set_self his]
  refine ⟨S.gh, S.fh, S.dj, fun p hp' => ?_, by simp [S.len], fun j r' e => ?_, fun j k r1 r2 a h1 h2 o1 o2 s1 s2 => ?_, fun j r' a e o h => ⟨?_, List.not_mem_nil⟩, fun a m => absurd m List.not_mem_nil⟩
  · have ne : p.1 ≠ i := fun z => hp (by rw [← z]; exact List.mem_map_of_mem hp')
    rw [sg ne]; exact S.pin p hp'
  · rcases set_get e with ⟨rfl, e1, _⟩ | ⟨ne, e1⟩
    · cases e1; exact ⟨v, si, w⟩
    · obtain ⟨u, hu, wu⟩ := S.val j r' e1
      exact ⟨u, by rw [sg ne]; exact hu, wu⟩
  · rcases set_get h1 with ⟨rfl, e1, _⟩ | ⟨n1, e1⟩
    · cases e1
      rw [si] at s1; cases s1
      rcases set_get h2 with ⟨rfl, _, _⟩ | ⟨n2, e2⟩
      · rfl
      · rw [sg n2] at s2
        exact absurd (ad o1 rfl) (S.nof k r2 a e2 o2 s2).2
    · rw [sg n1] at s1
      rcases set_get h2 with ⟨rfl, e2, _⟩ | ⟨n2, e2⟩
      · cases e2
        rw [si] at s2; cases s2
        exact absurd (ad o2 rfl) (S.nof j r1 a e1 o1 s1).2
      · rw [sg n2] at s2
        exact S.dis j k r1 r2 a e1 e2 o1 o2 s1 s2
  · rcases set_get e with ⟨rfl, e1, _⟩ | ⟨ne, e1⟩
    · cases e1
      rw [si] at h; cases h
      exact (S.tmp a (ad o rfl)).1
    · rw [sg ne] at h; exact (S.nof j r' a e1 o h).1
theorem PV_S {R : VK} {m : M RV} {k : RV → MS} {D : Ends} (h : PSt K mg W Fh P D G (bindS m k env))
    (hk : ∀ r e v G' H', Ex G G' → View K mg G' H' v r → SRel K mg Fh P G' H' σ e (tmps v r) → PSt K mg W Fh P D G' (k r e) → R v H') : PV K mg W Fh P σ G R (m env) := by
  unfold bindS at h
  cases q : m env with
  | ok r e => rw [q] at h; exact fun v G1 H1 ex ho S => hk r e v G1 H1 ex ho S (PSt.mono ex h)
  | err x e => rw [q] at h; exact fun cls d G1 H1 ex hx S => h cls d σ G1 H1 ex hx S
  | stk => rw [q] at h; exact h
theorem PB_S {R : Bool → Hp → Prop} {m : M Bool} {k : Bool → MS} {D : Ends} (h : PSt K mg W Fh P D G (bindS m k env))
    (hk : ∀ r e G' H', Ex G G' → SRel K mg Fh P G' H' σ e [] → PSt K mg W Fh P D G' (k r e) → R r H') : PB K mg W Fh P σ G R (m env) := by
  unfold bindS at h
  cases q : m env with
  | ok r e => rw [q] at h; exact fun G1 H1 ex S => hk r e G1 H1 ex S (PSt.mono ex h)
  | err x e => rw [q] at h; exact fun cls d G1 H1 ex hx S => h cls d σ G1 H1 ex hx S
  | stk => rw [q] at h; exact h
theorem PO_S {R : VK} {m : M Opd} {k : Opd → MS} {D : Ends} (h : PSt K mg W Fh P D G (bindS m k env))
    (hk : ∀ o e v G' H', Ex G G' → OpdR K mg G' σ v o → SRel K mg Fh P G' H' σ e [] → PSt K mg W Fh P D G' (k o e) → R v H') : PO K mg W Fh P σ G R (m env) := by
  unfold bindS at h
  cases q : m env with
  | ok r e => rw [q] at h; exact fun v G1 H1 ex ho S => hk r e v G1 H1 ex ho S (PSt.mono ex h)
  | err x e => rw [q] at h; exact fun cls d G1 H1 ex hx S => h cls d σ G1 H1 ex hx S
  | stk => rw [q] at h; exact h
theorem POs_S {R : List V → Hp → Prop} {m : M (List Opd)} {k : List Opd → MS} {D : Ends} (h : PSt K mg W Fh P D G (bindS m k env))
    (hk : ∀ o e v G' H', Ex G G' → OpdRs K mg G' σ v o → SRel K mg Fh P G' H' σ e [] → PSt K mg W Fh P D G' (k o e) → R v H') : POs K mg W Fh P σ G R (m env) := by
  unfold bindS at h
  cases q : m env with
  | ok r e => rw [q] at h; exact fun v G1 H1 ex ho S => hk r e v G1 H1 ex ho S (PSt.mono ex h)
  | err x e => rw [q] at h; exact fun cls d G1 H1 ex hx S => h cls d σ G1 H1 ex hx S
  | stk => rw [q] at h; exact h
end
def seqM (s t : MS) : MS := fun env => match s env with
  | .nx e => t e
  | o => o
def nopM : MS := fun env => .nx env
def dropM (m : M RV) : MS := bindS m fun _ e => .nx e
def retS (m : M RV) : MS := bindS m fun r e => .rt r e
def retN : MS := fun env => .rt (.sh .non) env
/-- return x: an object that x alone holds goes out with it -/
def retName (pn : List Nat) (i : Nat) : MS := fun env => match slotOf env i with
  | some r => if r.own = true ∧ i ∉ pn then .rt r (env.set i none) else .rt (.sh r.d) (env.set i (some (.sh r.d)))
  | none => .stk
def asgM (pn : List Nat) (i : Nat) (m : M RV) : MS := bindS m fun r e => if i < e.length ∧ i ∉ pn then .nx (e.set i (some r)) else .stk
def ifS (m : M Bool) (s t : MS) : MS := bindS m fun b => if b = true then s else t
def brkM : MS := fun env => .bk env
def cntM : MS := fun env => .ct env
def whileM (c : M Bool) (b : MS) : Nat → MS
  | 0 => fun _ => .stk
  | n + 1 => bindS c fun t env => if t = true then (match b env with
    | .nx e => whileM c b n e
    | .ct e => whileM c b n e
    | .bk e => .nx e
    | .rt r e => .rt r e
    | .err x e => .err x e
    | .stk => .stk) else .nx env
section
variable {X : Cx} {W : WX} {pn : List Nat} {pos : Pos}
theorem qss_nil : QSs X W pn [] nopM := fun Fh P hp => PSs.weak pss_nil fun D σ H ⟨G, env, S, q⟩ => q σ G H (Ex.refl _) S
theorem qss_cons {st : Stmt} {rest : List Stmt} {s t : MS} (h : QS X W pn st s) (h' : QSs X W pn rest t) : QSs X W pn (st :: rest) (seqM s t) := fun Fh P hp => PSs.weak (pss_cons (h Fh P hp) (h' Fh P hp)) fun D σ H ⟨G, env, S, q⟩ => by
  refine ⟨G, env, S, ?_⟩
  unfold seqM at q
  cases z : s env with
  | nx e => rw [z] at q; exact fun σ' G' H' ex S' => ⟨G', e, S', PSt.mono ex q⟩
  | rt r e => rw [z] at q; exact q
  | bk e => rw [z] at q; exact q
  | ct e => rw [z] at q; exact q
  | err x e => rw [z] at q; exact q
  | stk => rw [z] at q; exact q
theorem qs_pass : QS X W pn (.Pass pos) nopM := fun Fh P hp => PS.weak ps_pass fun D σ H ⟨G, env, S, q⟩ => q σ G H (Ex.refl _) S
theorem qs_break : QS X W pn (.Break pos) brkM := fun Fh P hp => PS.weak ps_break fun D σ H ⟨G, env, S, q⟩ => q σ G H (Ex.refl _) S
theorem qs_continue : QS X W pn (.Continue pos) cntM := fun Fh P hp => PS.weak ps_continue fun D σ H ⟨G, env, S, q⟩ => q σ G H (Ex.refl _) S
theorem qs_expr {e : Expr} {m : M RV} (h : QV X W pn e m) (hs : swapsWith e none pos.line X.env = pure false) : QS X W pn (.Expr e pos) (dropM m) := fun Fh P hp => PS.weak (ps_expr (h Fh P hp) hs) fun D σ H ⟨G, env, S, q⟩ =>
  ⟨G, env, S, PV_S (σ := σ) q fun r e v G' H' ex w S' hk => hk σ G' H' (Ex.refl _) S'.drop⟩
theorem qs_ret {e : Expr} {m : M RV} (h : QV X W pn e m) : QS X W pn (.Return (some e) pos) (retS m) := fun Fh P hp => PS.weak (ps_ret (h Fh P hp)) fun D σ H ⟨G, env, S, q⟩ =>
  ⟨G, env, S, PV_S (σ := σ) q fun r e v G' H' ex w S' hk => hk v σ G' H' (Ex.refl _) w S'⟩
theorem qs_retN : QS X W pn (.Return none pos) retN := fun Fh P hp => PS.weak ps_retN fun D σ H ⟨G, env, S, q⟩ => q .non σ G H (Ex.refl _) Den.non S
theorem qs_retName {i : Nat} {x : Str} {p : Pos} (hN : X.N[i]? = some x) (hv : Vis X.env.scope x) (hd : (x == ("__debug__" : Str)) = false) (hcd : (x == ("__classdict__" : Str)) = false) : QS X W pn (.Return (some (.Name x p)) pos) (retName pn i) := fun Fh P hp =>
  PS.weak (ps_ret (pe_var (pos := p) hN hv hd hcd)) fun D σ H ⟨G, env, S, q⟩ => by
    unfold retName at q
    cases z : slotOf env i with
    | none => simp only [z] at q; exact q.elim
    | some r =>
      simp only [z] at q
      have e := slotOf_some z
      obtain ⟨v, hv, w⟩ := S.val i r e
      refine ⟨v, hv, ?_⟩
      by_cases hr : r.own = true ∧ i ∉ pn
      · rw [if_pos hr] at q
        refine q v σ G H (Ex.refl _) w ?_
        obtain ⟨a, o, ev, h1, h2, h3⟩ := w.own_inv hr.1
        subst ev
        rw [tmps_own hr.1]
        have old : ∀ {j : Nat} {r' : RV}, (env.set i none)[j]? = some (some r') → j ≠ i ∧ env[j]? = some (some r') := fun {j r'} h => by
          rcases set_get h with ⟨_, z, _⟩ | z
          · cases z
          · exact z
        refine ⟨S.gh, S.fh, S.dj, S.pin, by simp [S.len], fun j r' h => S.val j r' (old h).2, fun j k r1 r2 b g1 g2 => S.dis j k r1 r2 b (old g1).2 (old g2).2, fun j r' b h o1 hb => ⟨(S.nof j r' b (old h).2 o1 hb).1, fun m => ?_⟩, fun b m => ?_⟩
        · have eb : b = a := by simpa using m
          subst eb
          exact (old h).1 (S.dis j i r' r b (old h).2 e o1 hr.1 hb hv)
        · have eb : b = a := by simpa using m
          subst eb
          exact ⟨(S.nof i r b e hr.1 hv).1, h2, o, h1⟩
      · rw [if_neg hr] at q
        obtain ⟨G2, x2, d2, S2⟩ := S.shareSlot e hv
        exact q v σ G2 H x2 d2 S2
theorem qs_asg {i : Nat} {x : Str} {e : Expr} {p : Pos} {m : M RV} (hN : X.N.Nodup) (hi : X.N[i]? = some x) (hx : Loc X.env.scope x) (h : QV X W pn e m) (hs : swapsWith e (some (.Name x p)) pos.line X.env = pure false) (hf : X.fn x = true ∨ X.env.scope.names.lookup x = some .local) :
    QS X W pn (.Assign [.Name x p] e pos) (asgM pn i m) := fun Fh P hp => PS.weak (ps_set hN hi hx (h Fh P hp) hs hf) fun D σ H ⟨G, env, S, q⟩ => by
  refine ⟨G, env, S, PV_S (σ := σ) q fun r e v G' H' ex w S' hk => ?_⟩
  by_cases hc : i < e.length ∧ i ∉ pn
  · rw [if_pos hc] at hk
    exact hk _ G' H' (Ex.refl _) (S'.set w hc.1 (by rw [hp]; exact hc.2))
  · rw [if_neg hc] at hk; exact hk.elim
theorem qs_if {c : Expr} {a b : List Stmt} {m : M Bool} {s t : MS} (hc : QT X W pn c m) (ha : QSs X W pn a s) (hb : QSs X W pn b t) : QS X W pn (.If c a b pos) (ifS m s t) := fun Fh P hp => PS.weak (ps_if (hc Fh P hp) (ha Fh P hp) (hb Fh P hp)) fun D σ H ⟨G, env, S, q⟩ => by
  refine ⟨G, env, S, PB_S (σ := σ) q fun b e G' H' ex S' hk => ?_⟩
  cases b with
  | true => exact ⟨G', e, S', hk⟩
  | false => exact ⟨G', e, S', hk⟩
theorem qs_while {c : Expr} {body : List Stmt} {m : M Bool} {s : MS} (n : Nat) (hpo : PassesOwn (model X.prog X.w) X.A X.env X.xe) (hc : QT X W pn c m) (hb : QSs X W pn body s) : QS X W pn (.While c body [] pos) (whileM m s n) := fun Fh P hp => PS.weak (ps_while hpo (hc Fh P hp) (hb Fh P hp)) fun D σ H ⟨G, env, S, q⟩ => by
  refine ⟨fun k σ' H' => ∃ G' env', SRel X.K X.mg Fh P G' H' σ' env' [] ∧ PSt X.K X.mg W Fh P D G' (whileM m s k env'), ⟨n, G, env, S, q⟩, fun k σ1 H1 ⟨G1, env1, S1, q1⟩ => ?_⟩
  cases k with
  | zero => exact (show False from q1).elim
  | succ k =>
    refine ⟨G1, env1, S1, PB_S (σ := σ1) (k := fun t env => if t = true then (match s env with
      | .nx e => whileM m s k e
      | .ct e => whileM m s k e
      | .bk e => .nx e
      | .rt r e => .rt r e
      | .err x e => .err x e
      | .stk => .stk) else .nx env) q1 fun b e2 G2 H2 ex2 S2 hk => ?_⟩
    cases b with
    | false => exact hk σ1 G2 H2 (Ex.refl _) S2
    | true =>
      simp only [if_true] at hk ⊢
      refine ⟨fun σ' H' => ∃ G' env', SRel X.K X.mg Fh P G' H' σ' env' [] ∧ PSt X.K X.mg W Fh P D G' (whileM m s k env'), fun σ' H' h => ⟨k, Nat.lt_succ_self k, h⟩, G2, e2, S2, ?_⟩
      cases z : s e2 with
      | nx e => rw [z] at hk; exact fun σ' G' H' ex S' => ⟨G', e, S', PSt.mono ex hk⟩
      | ct e => rw [z] at hk; exact fun σ' G' H' ex S' => ⟨G', e, S', PSt.mono ex hk⟩
      | bk e => rw [z] at hk; exact hk
      | rt r e => rw [z] at hk; exact hk
      | err x e => rw [z] at hk; exact hk
      | stk => rw [z] at hk; exact hk.elim
end
end Z
/-! Z: targets, for, comprehensions -/
namespace Z
open PySem PySem.Spec PyProof.Rows L2
inductive Tgt where
  | name (i : Nat)
  | tup (ts : List Tgt)
mutual
def asgT (pn : List Nat) : Tgt → D → DEnv → Option DEnv
  | .name i, d, env => if i < env.length ∧ i ∉ pn then some (env.set i (some (.sh d))) else none
  | .tup ts, .tup ds, env => asgTs pn ts ds env
  | .tup _, _, _ => none
def asgTs (pn : List Nat) : List Tgt → List D → DEnv → Option DEnv
  | [], [], env => some env
  | t :: ts, d :: ds, env => (asgT pn t d env).bind fun e => asgTs pn ts ds e
  | _, _, _ => none
end
mutual
def slotsT : Tgt → List Nat
  | .name i => [i]
  | .tup ts => slotsTs ts
def slotsTs : List Tgt → List Nat
  | [] => []
  | t :: ts => slotsT t ++ slotsTs ts
end
/-- only these slots change -/
def Only (l : List Nat) (σ σ' : L2.St) : Prop := σ'.length = σ.length ∧ ∀ i, i ∉ l → σ'[i]? = σ[i]?
theorem Only.refl {l : List Nat} {σ : L2.St} : Only l σ σ := ⟨rfl, fun _ _ => rfl⟩
theorem Only.app {l l' : List Nat} {σ σ' σ'' : L2.St} (a : Only l σ σ') (b : Only l' σ' σ'') : Only (l ++ l') σ σ'' := ⟨b.1.trans a.1, fun i h => (b.2 i fun z => h (List.mem_append_right _ z)).trans (a.2 i fun z => h (List.mem_append_left _ z))⟩
section
variable (K : PySem.W.Frag) (mg : Str → Option Value) (Fh : FHp) (P : List (Nat × V)) (pn : List Nat)
def rdG (t : Tgt) : TG := fun v σ H Q => ∃ G env d env', SRel K mg Fh P G H σ env [] ∧ Den K mg G v d ∧ asgT pn t d env = some env' ∧ ∀ σ', SRel K mg Fh P G H σ' env' [] → Only (slotsT t) σ σ' → Q σ' H
def rdGs (ts : List Tgt) : TGs := fun vs σ H Q => ∃ G env ds env', SRel K mg Fh P G H σ env [] ∧ DenL K mg G vs ds ∧ asgTs pn ts ds env = some env' ∧ ∀ σ', SRel K mg Fh P G H σ' env' [] → Only (slotsTs ts) σ σ' → Q σ' H
end
def QG (X : Cx) (pn : List Nat) (tg : Expr) (t : Tgt) : Prop := ∀ Fh P, P.map (·.1) = pn → PG X tg (rdG X.K X.mg Fh P pn t)
def QGs (X : Cx) (pn : List Nat) (tg : List Expr) (t : List Tgt) : Prop := ∀ Fh P, P.map (·.1) = pn → PGs X tg (rdGs X.K X.mg Fh P pn t)
theorem PG.weak {X : Cx} {e : Expr} {t t' : TG} (h : PG X e t) (w : ∀ v σ H Q, t' v σ H Q → t v σ H Q) : PG X e t' := ⟨fun pins s σ H v u Q I r q => h.run pins s σ H v u Q I r (w v σ H Q q)⟩
theorem PGs.weak {X : Cx} {e : List Expr} {t t' : TGs} (h : PGs X e t) (w : ∀ v σ H Q, t' v σ H Q → t v σ H Q) : PGs X e t' := ⟨fun pins s σ H v u Q I r q => h.run pins s σ H v u Q I r (w v σ H Q q)⟩
section
variable {X : Cx} {W : WX} {pn : List Nat} {pos : Pos}
theorem qg_name {i : Nat} {x : Str} (hN : X.N.Nodup) (hi : X.N[i]? = some x) (hx : Loc X.env.scope x) (hf : X.fn x = true ∨ X.env.scope.names.lookup x = some .local) : QG X pn (.Name x pos) (.name i) := fun Fh P hp =>
  PG.weak (pg_name hN hi hx hf) fun v σ H Q ⟨G, env, d, env', S, hd, e, q⟩ => by
    unfold asgT at e
    split at e
    · rename_i h; cases e
      exact q _ (S.set (v := v) (r := .sh d) hd h.1 (by rw [hp]; exact h.2)) ⟨by simp, fun j hj => List.getElem?_set_ne (fun z => hj (by unfold slotsT; rw [z]; exact List.mem_singleton.mpr rfl))⟩
    · cases e
theorem qgs_nil : QGs X pn [] [] := fun Fh P hp => PGs.weak pgs_nil fun v σ H Q ⟨G, env, ds, env', S, hd, e, q⟩ => by
  cases ds with
  | nil => simp only [asgTs] at e; cases e; exact ⟨hd.nil_inv, q σ S .refl⟩
  | cons d ds => simp only [asgTs] at e; cases e
theorem qgs_cons {e : Expr} {es : List Expr} {t : Tgt} {ts : List Tgt} (h1 : QG X pn e t) (h2 : QGs X pn es ts) (hs : (assignEach (e :: es) X.env).map (·.2) = assign e X.env :: (assignEach es X.env).map (·.2)) : QGs X pn (e :: es) (t :: ts) := fun Fh P hp =>
  PGs.weak (pgs_cons (h1 Fh P hp) (h2 Fh P hp) hs) fun vs σ H Q ⟨G, env, ds, env', S, hd, e, q⟩ => by
    cases ds with
    | nil => simp only [asgTs] at e; cases e
    | cons d ds =>
      obtain ⟨v, vs, rfl, d1, d2⟩ := hd.cons_ex
      simp only [asgTs, Option.bind_eq_some_iff] at e
      obtain ⟨e1, q1, q2⟩ := e
      exact ⟨v, vs, rfl, G, env, d, e1, S, d1, q1, fun σ' S' o1 => ⟨G, e1, ds, env', S', d2, q2, fun σ2 S2 o2 => q σ2 S2 (by unfold slotsTs; exact o1.app o2)⟩⟩
theorem asgTs_len : ∀ {ts : List Tgt} {ds : List D} {env env' : DEnv}, asgTs pn ts ds env = some env' → ds.length = ts.length
  | [], [], _, _, _ => rfl
  | [], _ :: _, _, _, h => by simp only [asgTs] at h; cases h
  | _ :: _, [], _, _, h => by simp only [asgTs] at h; cases h
  | t :: ts, d :: ds, env, env', h => by
    simp only [asgTs, Option.bind_eq_some_iff] at h
    obtain ⟨e1, _, q2⟩ := h
    simp [asgTs_len q2]
theorem qg_tup {es : List Expr} {k n : Nat} {ts : List Tgt} (hc : X.calm = true) (h : QGs X pn es ts) (hl : ts.length = n) (hn : (assignEach es X.env).length = n) (hst : (assignEach es X.env).findIdx? (·.1) = none) : QG X pn (.Tuple es k pos) (.tup ts) := fun Fh P hp =>
  PG.weak (pg_tup hc (h Fh P hp) hn hst) fun v σ H Q ⟨G, env, d, env', S, hd, e, q⟩ => by
    cases d with
    | tup ds =>
      simp only [asgT] at e
      obtain ⟨a, xs, rfl, h1, h2⟩ := hd.tup_inv
      exact ⟨a, xs, rfl, S.gh.sqT h1, by rw [h2.1, asgTs_len e]; exact hl, G, env, ds, env', S, h2, e, fun σ' S' o => q σ' S' (by unfold slotsT; exact o)⟩
    | _ => simp only [asgT] at e; cases e
/-! ### a, b = value -/
def asgTM (pn : List Nat) (t : Tgt) (m : M Opd) : MS := bindS m fun o env => match dOf o env with
  | .ok d e => (match asgT pn t d e with
    | some e' => .nx e'
    | none => .stk)
  | .err x e => .err x e
  | .stk => .stk
theorem qs_asgT {tg e : Expr} {t : Tgt} {m : M Opd} (h : QO X W pn e m) (hg : QG X pn tg t) (hs : swapsWithSole [tg] e pos.line X.env = pure false) (hw : swappedStores [tg] e X.env = pure none) (h1 : (assignEach [tg] X.env).map (·.2) = [assign tg X.env]) :
    QS X W pn (.Assign [tg] e pos) (asgTM pn t m) := fun Fh P hp => PS.weak (ps_asg (h Fh P hp) (hg Fh P hp) hs hw h1) fun D σ H ⟨G, env, S, q⟩ => by
  refine ⟨G, env, S, PO_S (σ := σ) q fun o e v G' H' ex w S' hk => ?_⟩
  cases z : dOf o e with
  | ok d e2 =>
    simp only [z] at hk
    obtain ⟨G2, x2, d2, S2⟩ := S'.dOf w z
    cases z2 : asgT pn t d e2 with
    | none => simp only [z2] at hk; exact hk.elim
    | some e3 =>
      simp only [z2] at hk
      exact ⟨G2, e2, d, e3, S2, d2, z2, fun σ' S3 _ => hk σ' G2 H' x2 S3⟩
  | err x e2 => exact (dOf_noerr z).elim
  | stk => simp only [z] at hk; exact hk.elim
/-! ### iterables -/
def ItD (K : PySem.W.Frag) (mg : Str → Option Value) (J : It) (G0 : Hp) (ds : List D) : Prop := ∀ (i : Nat) (G H : Hp), Ex G0 G → Ex G H →
  (∀ d, ds[i]? = some d → J.go i H ∧ ∀ x H', J.yld i H x H' → ∃ G', Step G H G' H' [] ∧ Den K mg G' x d) ∧ (ds.length ≤ i → J.stop i H)
theorem ItD.mono {K : PySem.W.Frag} {mg : Str → Option Value} {J : It} {G0 G1 : Hp} {ds : List D} (h : ItD K mg J G0 ds) (e : Ex G0 G1) : ItD K mg J G1 ds := fun i G H a b => h i G H (e.trans a) b
section
variable (K : PySem.W.Frag) (mg : Str → Option Value) (W : WX) (Fh : FHp) (P : List (Nat × V))
def PIt (σ : L2.St) (G : Hp) (R : It → Hp → Prop) : Res (List D) → Prop
  | .ok ds e => ∀ J G' H', Ex G G' → ItD K mg J G' ds → SRel K mg Fh P G' H' σ e [] → R J H'
  | .err x e => PErr K mg W Fh P σ G x e
  | .stk => False
def rdI (m : M (List D)) : TI := fun σ H R => ∃ G env, SRel K mg Fh P G H σ env [] ∧ PIt K mg W Fh P σ G R (m env)
end
def QI (X : Cx) (W : WX) (pn : List Nat) (tg iter : Expr) (m : M (List D)) : Prop := ∀ Fh P, P.map (·.1) = pn → PI X tg iter (rdI X.K X.mg W Fh P m)
theorem PI.weak {X : Cx} {tg e : Expr} {t t' : TI} (h : PI X tg e t) (w : ∀ σ H Q, t' σ H Q → t σ H Q) : PI X tg e t' := ⟨fun pins s σ H R I q => h.run pins s σ H R I (w σ H R q)⟩
theorem PI.or {X : Cx} {tg e : Expr} {t t' : TI} (h : PI X tg e t) (h' : PI X tg e t') : PI X tg e (fun σ H R => t σ H R ∨ t' σ H R) := ⟨fun pins s σ H R I q => q.elim (h.run pins s σ H R I) (h'.run pins s σ H R I)⟩
theorem itD_list {K : PySem.W.Frag} {mg : Str → Option Value} {G : Hp} {a : Addr} {xs : List V} {ds : List D} (ha : G a = some (.lst xs)) (h : DenL K mg G xs ds) : ItD K mg (Itl K a) G ds := fun i G1 H1 e1 e2 => by
  have hs : SqL K H1 a xs := SqL.of ((e1.trans e2) _ _ ha)
  refine ⟨fun d hd => ?_, fun hl => ⟨xs, hs, by rw [h.1]; exact hl⟩⟩
  obtain ⟨v, hv, hden⟩ := h.get hd
  refine ⟨⟨xs, v, hs, hv⟩, fun x H' ⟨hH, hx⟩ => ?_⟩
  subst hH
  have := hx xs hs
  rw [hv] at this; cases this
  exact ⟨G1, .same, hden.mono e1⟩
theorem itD_tup {K : PySem.W.Frag} {mg : Str → Option Value} {G : Hp} {a : Addr} {xs : List V} {ds : List D} (ha : SqT K G a xs) (h : DenL K mg G xs ds) : ItD K mg (Itt K a) G ds := fun i G1 H1 e1 e2 => by
  have hs : SqT K H1 a xs := (e1.trans e2).sqT ha
  refine ⟨fun d hd => ?_, fun hl => ⟨xs, hs, by rw [h.1]; exact hl⟩⟩
  obtain ⟨v, hv, hden⟩ := h.get hd
  refine ⟨⟨xs, v, hs, hv⟩, fun x H' ⟨hH, hx⟩ => ?_⟩
  subst hH
  have := hx xs hs
  rw [hv] at this; cases this
  exact ⟨G1, .same, hden.mono e1⟩
def rangeD (lo : Int) (n : Nat) : List D := (List.range n).map fun (i : Nat) => .int (lo + (i : Int))
theorem itD_rng {K : PySem.W.Frag} {mg : Str → Option Value} {G : Hp} (lo : Int) (n : Nat) : ItD K mg (Itr lo n) G (rangeD lo n) := fun i G1 H1 e1 e2 => by
  refine ⟨fun d hd => ?_, fun hl => ?_⟩
  · unfold rangeD at hd
    rw [List.getElem?_map] at hd
    by_cases hi : i < n
    · rw [List.getElem?_range hi] at hd
      simp only [Option.map_some, Option.some.injEq] at hd
      subst hd
      exact ⟨hi, fun x H' ⟨h1, h2⟩ => by subst h1; subst h2; exact ⟨G1, .same, .int _⟩⟩
    · rw [List.getElem?_eq_none (by simpa using hi)] at hd; cases hd
  · show n ≤ i
    unfold rangeD at hl
    simpa using hl
def itemsOf : D → Option (List D)
  | .lst ds => some ds
  | .tup ds => some ds
  | .str x => some (x.cps.toList.map fun c => .str ⟨#[c]⟩)
  | _ => none
def seqI (m : M Opd) : M (List D) := bindM m fun o env => match dOf o env with
  | .ok d e => (match itemsOf d with
    | some ds => .ok ds e
    | none => .stk)
  | .err x e => .err x e
  | .stk => .stk
theorem itD_str {K : PySem.W.Frag} {mg : Str → Option Value} {G : Hp} (x : Str) : ItD K mg (Its x) G (x.cps.toList.map fun c => .str ⟨#[c]⟩) := fun i G1 H1 e1 e2 => by
  refine ⟨fun d hd => ?_, fun hl => ?_⟩
  · rw [List.getElem?_map] at hd
    cases hc : x.cps.toList[i]? with
    | none => rw [hc] at hd; cases hd
    | some c =>
      rw [hc] at hd
      simp only [Option.map_some, Option.some.injEq] at hd
      subst hd
      have hi : i < x.cps.toList.length := (List.getElem?_eq_some_iff.mp hc).1
      refine ⟨show i < x.cps.size by simpa using hi, fun v H' ⟨h1, c', h2, h3⟩ => ?_⟩
      subst h1; subst h3
      have : c' = c := by
        rw [← Array.getElem?_toList, hc] at h2; cases h2; rfl
      subst this
      exact ⟨G1, .same, .str _⟩
  · show x.cps.size ≤ i
    simpa using hl
theorem qi_seq {tg e : Expr} {m : M Opd} (h : QO X W pn e m) : QI X W pn tg e (seqI m) := fun Fh P hp =>
  PI.weak (PI.or (pi_list (h Fh P hp)) (PI.or (pi_tup (h Fh P hp)) (pi_str (h Fh P hp)))) fun σ H R ⟨G, env, S, q⟩ => by
    unfold seqI bindM at q
    cases z : m env with
    | ok o e1 =>
      simp only [z] at q
      cases z2 : dOf o e1 with
      | ok d e2 =>
        simp only [z2] at q
        cases z3 : itemsOf d with
        | none => simp only [z3] at q; exact q.elim
        | some ds =>
          simp only [z3] at q
          cases d with
          | lst ds' =>
            cases z3
            refine .inl ⟨G, env, S, ?_⟩
            rw [z]
            intro v G1 H1 ex w S1
            obtain ⟨G2, x2, d2, S2⟩ := S1.dOf w z2
            obtain ⟨a, xs, rfl, h1, h2⟩ := d2.lst_inv
            exact ⟨a, rfl, ⟨xs, SqL.of (S2.gh _ _ h1)⟩, q _ G2 H1 (ex.trans x2) (itD_list h1 h2) S2⟩
          | tup ds' =>
            cases z3
            refine .inr (.inl ⟨G, env, S, ?_⟩)
            rw [z]
            intro v G1 H1 ex w S1
            obtain ⟨G2, x2, d2, S2⟩ := S1.dOf w z2
            obtain ⟨a, xs, rfl, h1, h2⟩ := d2.tup_inv
            exact ⟨a, rfl, ⟨xs, S2.gh.sqT h1⟩, q _ G2 H1 (ex.trans x2) (itD_tup h1 h2) S2⟩
          | str x =>
            cases z3
            refine .inr (.inr ⟨G, env, S, ?_⟩)
            rw [z]
            intro v G1 H1 ex w S1
            obtain ⟨G2, x2, d2, S2⟩ := S1.dOf w z2
            exact ⟨x, d2.str_inv, q _ G2 H1 (ex.trans x2) (itD_str x) S2⟩
          | _ => cases z3
      | err x e2 => exact (dOf_noerr z2).elim
      | stk => simp only [z2] at q; exact q.elim
    | err x e1 => simp only [z] at q; exact .inl ⟨G, env, S, by rw [z]; exact q⟩
    | stk => simp only [z] at q; exact q.elim
def in62 (j : Int) : Bool := Nat.ble j.natAbs 4611686018427387903
theorem in62_ok {j : Int} (h : in62 j = true) : -(2 ^ 62) ≤ j ∧ j < 2 ^ 62 := by
  have h1 : j.natAbs ≤ 4611686018427387903 := Nat.le_of_ble_eq_true h
  constructor <;> simp <;> omega
def rng1F (as : List RV) : Option (List D) := match as with
  | [.sh (.int j)] => if in62 j = true then some (rangeD 0 j.toNat) else none
  | _ => none
def rng2F (as : List RV) : Option (List D) := match as with
  | [.sh (.int i), .sh (.int j)] => if (in62 i && in62 j) = true then some (rangeD i (j - i).toNat) else none
  | _ => none
def rngI (f : List RV → Option (List D)) (m : M (List Opd)) : M (List D) := bindM m fun os env => match (resolves env os).bind f with
  | some ds => .ok ds env
  | none => .stk
theorem qi_rng1 {tg a : Expr} {p pos : Pos} {m : M (List Opd)} (hg : Gl X "range") (hm : X.mg "range" = none) (ha : QOs X W pn [a] m) (hs : starEach [a] X.env = [(false, eval a X.env)]) : QI X W pn tg (.Call (.Name "range" p) [a] [] pos) (rngI rng1F m) := fun Fh P hp =>
  PI.weak (pi_range1 hg hm (ha Fh P hp) hs) fun σ H R ⟨G, env, S, q⟩ => by
    refine ⟨G, env, S, ?_⟩
    unfold rngI bindM at q
    cases z : m env with
    | ok os e1 =>
      simp only [z] at q
      intro vs G1 H1 ex w S1
      cases z2 : (resolves e1 os).bind rng1F with
      | none => simp only [z2] at q; exact q.elim
      | some ds =>
        simp only [z2] at q
        simp only [Option.bind_eq_some_iff] at z2
        obtain ⟨rs, y1, y2⟩ := z2
        have vw := S1.resolves w y1
        unfold rng1F at y2
        split at y2
        · rename_i j
          split at y2
          · rename_i hj; cases y2
            obtain ⟨v, rfl, wv⟩ := vw.one
            rw [Den.int_inv wv]
            exact ⟨j, rfl, (in62_ok hj).1, (in62_ok hj).2, q _ G1 H1 ex (itD_rng 0 _) S1⟩
          · cases y2
        · cases y2
    | err x e1 => simp only [z] at q; exact q
    | stk => simp only [z] at q; exact q
theorem qi_rng2 {tg a b : Expr} {p pos : Pos} {m : M (List Opd)} (hg : Gl X "range") (hm : X.mg "range" = none) (ha : QOs X W pn [a, b] m) (hs : starEach [a, b] X.env = [(false, eval a X.env), (false, eval b X.env)]) (hs2 : starEach [b] X.env = [(false, eval b X.env)]) : QI X W pn tg (.Call (.Name "range" p) [a, b] [] pos) (rngI rng2F m) := fun Fh P hp =>
  PI.weak (pi_range2 hg hm (ha Fh P hp) hs hs2) fun σ H R ⟨G, env, S, q⟩ => by
    refine ⟨G, env, S, ?_⟩
    unfold rngI bindM at q
    cases z : m env with
    | ok os e1 =>
      simp only [z] at q
      intro vs G1 H1 ex w S1
      cases z2 : (resolves e1 os).bind rng2F with
      | none => simp only [z2] at q; exact q.elim
      | some ds =>
        simp only [z2] at q
        simp only [Option.bind_eq_some_iff] at z2
        obtain ⟨rs, y1, y2⟩ := z2
        have vw := S1.resolves w y1
        unfold rng2F at y2
        split at y2
        · rename_i i j
          split at y2
          · rename_i hj; cases y2
            obtain ⟨v, u, rfl, wv, wu⟩ := vw.two
            rw [Den.int_inv wv, Den.int_inv wu]
            obtain ⟨b1, b2⟩ := Bool.and_eq_true_iff.mp hj
            exact ⟨i, j, rfl, ⟨(in62_ok b1).1, (in62_ok b1).2, (in62_ok b2).1, (in62_ok b2).2⟩, q _ G1 H1 ex (itD_rng i _) S1⟩
          · cases y2
        · cases y2
    | err x e1 => simp only [z] at q; exact q
    | stk => simp only [z] at q; exact q
/-! ### for -/
def forM (pn : List Nat) (t : Tgt) (s : MS) : List D → MS
  | [] => fun env => .nx env
  | d :: ds => fun env => match asgT pn t d env with
    | none => .stk
    | some e1 => match s e1 with
      | .nx e => forM pn t s ds e
      | .ct e => forM pn t s ds e
      | .bk e => .nx e
      | .rt r e => .rt r e
      | .err x e => .err x e
      | .stk => .stk
def forS (pn : List Nat) (t : Tgt) (mi : M (List D)) (s : MS) : MS := bindS mi fun ds => forM pn t s ds
theorem drop_cons {α : Type} {l : List α} {i : Nat} {d : α} (h : l[i]? = some d) : l.drop i = d :: l.drop (i + 1) := by
  have hi : i < l.length := (List.getElem?_eq_some_iff.mp h).1
  rw [List.drop_eq_getElem_cons hi]
  congr 1
  rw [List.getElem?_eq_getElem hi] at h
  exact Option.some.inj h
theorem qs_for {tg iter : Expr} {body : List Stmt} {t : Tgt} {mi : M (List D)} {s : MS} (hpo : PassesOwn (model X.prog X.w) X.A X.env X.xe) (hc : X.calm = true) (hi : QI X W pn tg iter mi) (hg : QG X pn tg t) (hb : QSs X W pn body s) (hs : ∀ x, foldedSetIterable iter X.env x = pure x) :
    QS X W pn (.For tg iter body [] pos) (forS pn t mi s) := fun Fh P hp => PS.weak (ps_for hpo hc (hi Fh P hp) (hg Fh P hp) (hb Fh P hp) hs) fun D σ H ⟨G, env, S, q⟩ => by
  refine ⟨G, env, S, ?_⟩
  unfold forS bindS at q
  cases z : mi env with
  | err x e => simp only [z] at q; exact fun cls d G1 H1 ex hx S => q cls d σ G1 H1 ex hx S
  | stk => simp only [z] at q; exact q
  | ok ds e =>
    simp only [z] at q
    intro J G0 H0 ex0 it S0
    refine ⟨fun i m σ1 H1 => m = ds.length - i ∧ i ≤ ds.length ∧ ∃ G1 env1, Ex G0 G1 ∧ SRel X.K X.mg Fh P G1 H1 σ1 env1 [] ∧ PSt X.K X.mg W Fh P D G1 (forM pn t s (ds.drop i) env1), ⟨ds.length, by simp, Nat.zero_le _, G0, e, Ex.refl _, S0, PSt.mono ex0 q⟩, ?_⟩
    rintro i m σ1 H1 ⟨rfl, hi, G1, env1, ex1, S1, q1⟩
    obtain ⟨a1, a2⟩ := it i G1 H1 ex1 S1.gh
    by_cases hlt : i < ds.length
    · have hd : ds[i]? = some ds[i] := by simp [hlt]
      obtain ⟨go, yl⟩ := a1 _ hd
      rw [drop_cons hd] at q1
      refine .inr ⟨go, fun σ' H' => ∃ G2 env2, Ex G0 G2 ∧ SRel X.K X.mg Fh P G2 H' σ' env2 [] ∧ PSt X.K X.mg W Fh P D G2 (forM pn t s (ds.drop (i + 1)) env2), fun σ' H' h => ⟨ds.length - (i + 1), by omega, rfl, hlt, h⟩, fun x H2 hy => ?_⟩
      obtain ⟨G2, st, hden⟩ := yl x H2 hy
      have S2 := S1.step st
      have ex2 := st.ex S1.gh
      unfold forM at q1
      cases z1 : asgT pn t ds[i] env1 with
      | none => simp only [z1] at q1; exact q1.elim
      | some e1 =>
        simp only [z1] at q1
        refine ⟨G2, env1, ds[i], e1, S2, hden, z1, fun σ' S3 _ => ⟨G2, e1, S3, ?_⟩⟩
        cases z2 : s e1 with
        | nx e => simp only [z2] at q1; exact fun σ' G' H' ex S' => ⟨G', e, (ex1.trans ex2).trans ex, S', PSt.mono (ex2.trans ex) q1⟩
        | ct e => simp only [z2] at q1; exact fun σ' G' H' ex S' => ⟨G', e, (ex1.trans ex2).trans ex, S', PSt.mono (ex2.trans ex) q1⟩
        | bk e => simp only [z2] at q1; exact fun σ' G' H' ex S' => q1 σ' G' H' (ex2.trans ex) S'
        | rt r e => simp only [z2] at q1; exact fun v σ' G' H' ex S' => q1 v σ' G' H' (ex2.trans ex) S'
        | err x e => simp only [z2] at q1; exact fun c d σ' G' H' ex S' => q1 c d σ' G' H' (ex2.trans ex) S'
        | stk => simp only [z2] at q1; exact q1.elim
    · have e1 : i = ds.length := by omega
      subst e1
      rw [List.drop_length] at q1
      exact .inl ⟨a2 (Nat.le_refl _), q1 σ1 G1 H1 (Ex.refl _) S1⟩
end
end Z
/-! Z: comprehensions -/
namespace Z
open PySem PySem.Spec PyProof.Rows L2
def wipeD (env : DEnv) : List Nat → DEnv
  | [] => env
  | v :: vs => (wipeD env vs).set v none
theorem wipeD_len (env : DEnv) : ∀ vs, (wipeD env vs).length = env.length
  | [] => rfl
  | v :: vs => by unfold wipeD; rw [List.length_set, wipeD_len env vs]
theorem wipeD_some {env : DEnv} {i : Nat} {x : RV} : ∀ {vs : List Nat}, (wipeD env vs)[i]? = some (some x) → env[i]? = some (some x) ∧ i ∉ vs
  | [], h => ⟨h, by simp⟩
  | v :: vs, h => by
    unfold wipeD at h
    rcases set_get h with ⟨_, z, _⟩ | ⟨ne, h⟩
    · cases z
    · obtain ⟨a, b⟩ := wipeD_some h
      exact ⟨a, fun z => (List.mem_cons.mp z).elim ne b⟩
theorem wipe_out {σ : L2.St} {i : Nat} : ∀ {vs : List Nat}, i ∉ vs → (wipe σ vs)[i]? = σ[i]?
  | [], _ => rfl
  | v :: vs, h => by
    unfold wipe
    rw [List.getElem?_set_ne (fun z => h (by rw [z]; exact List.mem_cons_self))]
    exact wipe_out fun z => h (List.mem_cons_of_mem _ z)
section
variable {K : PySem.W.Frag} {mg : Str → Option Value} {Fh : FHp} {P : List (Nat × V)} {G H : Hp} {σ : L2.St} {env : DEnv} {vs : List Nat}
theorem SRel.wipe (S : SRel K mg Fh P G H σ env []) (hp : ∀ i ∈ vs, i ∉ P.map (·.1)) : SRel K mg Fh P G H (L2.wipe σ vs) (wipeD env vs) [] := by
  refine ⟨S.gh, S.fh, S.dj, fun p hp' => ?_, by rw [wipe_length, wipeD_len]; exact S.len, fun i r e => ?_, fun i j r r' a h1 h2 o1 o2 s1 s2 => ?_, fun i r a e o h => ?_, S.tmp⟩
  · rw [wipe_out fun z => hp p.1 z (List.mem_map_of_mem hp')]; exact S.pin p hp'
  · obtain ⟨e1, e2⟩ := wipeD_some e
    rw [wipe_out e2]; exact S.val i r e1
  · obtain ⟨e1, n1⟩ := wipeD_some h1
    obtain ⟨e2, n2⟩ := wipeD_some h2
    rw [wipe_out n1] at s1; rw [wipe_out n2] at s2
    exact S.dis i j r r' a e1 e2 o1 o2 s1 s2
  · obtain ⟨e1, n1⟩ := wipeD_some e
    rw [wipe_out n1] at h
    exact S.nof i r a e1 o h
theorem SRel.unwipe (S : SRel K mg Fh P G H (L2.wipe σ vs) env []) : SRel K mg Fh P G H σ (wipeD env vs) [] := by
  refine ⟨S.gh, S.fh, S.dj, fun p hp' => (wipe_some (S.pin p hp')).1, by rw [wipeD_len, ← S.len, wipe_length], fun i r e => ?_, fun i j r r' a h1 h2 o1 o2 s1 s2 => ?_, fun i r a e o h => ?_, S.tmp⟩
  · obtain ⟨e1, e2⟩ := wipeD_some e
    obtain ⟨v, hv, w⟩ := S.val i r e1
    exact ⟨v, (wipe_some hv).1, w⟩
  · obtain ⟨e1, n1⟩ := wipeD_some h1
    obtain ⟨e2, n2⟩ := wipeD_some h2
    exact S.dis i j r r' a e1 e2 o1 o2 (by rw [wipe_out n1]; exact s1) (by rw [wipe_out n2]; exact s2)
  · obtain ⟨e1, n1⟩ := wipeD_some e
    exact S.nof i r a e1 o (by rw [wipe_out n1]; exact h)
theorem wipe_only {σ σ' : L2.St} {l : List Nat} (o : Only l (L2.wipe σ vs) σ') (h : ∀ i ∈ l, i ∈ vs) : L2.wipe σ' vs = L2.wipe σ vs := by
  have hl : σ'.length = σ.length := by rw [o.1, wipe_length]
  apply List.ext_getElem?
  intro i
  by_cases hi : i ∈ vs
  · have key : ∀ (τ : L2.St), i < τ.length → (L2.wipe τ vs)[i]? = some none := fun τ ht => by
      clear o hl h
      induction vs with
      | nil => cases hi
      | cons v vs ih =>
        unfold L2.wipe
        by_cases z : v = i
        · subst z; rw [List.getElem?_set_self (by rw [wipe_length]; exact ht)]
        · rw [List.getElem?_set_ne z]
          exact ih ((List.mem_cons.mp hi).resolve_left (Ne.symm z))
    by_cases hb : i < σ.length
    · rw [key σ hb, key σ' (by rw [hl]; exact hb)]
    · rw [List.getElem?_eq_none (by rw [wipe_length]; omega), List.getElem?_eq_none (by rw [wipe_length]; omega)]
  · rw [wipe_out hi, o.2 i (fun z => hi (h i z)), wipe_out hi]
/-- an object of one's own is put among the foreign ones -/
theorem SRel.guard {p : Addr} {o : HO} (S : SRel K mg Fh P G H σ env []) (h : H p = none) (n : NT o) : SRel K mg (updF Fh p o) P G (upd H p o) σ env [] := by
  have hG := S.gh.none h
  have hF := S.fh.none h
  refine ⟨S.gh.upd hG, S.fh.upd2 p n, fun b u e => ?_, S.pin, S.len, fun i r e => ?_, S.dis, fun i r a e hr ha => ⟨?_, List.not_mem_nil⟩, fun a m => absurd m List.not_mem_nil⟩
  · by_cases z : b = p
    · subst z; exact hG
    · rw [updF_ne z] at e; exact S.dj b u e
  · obtain ⟨v, hv, w⟩ := S.val i r e
    refine ⟨v, hv, w.keep (Ex.refl _) fun a o' ev hr h1 h2 => ?_⟩
    rw [upd_ne (ne_of_none h1 h)]; exact ⟨h1, h2⟩
  · obtain ⟨v, hv, w⟩ := S.val i r e
    rw [ha] at hv; cases hv
    obtain ⟨b, o', eb, h1, _⟩ := w.own_inv hr
    cases eb
    rw [updF_ne (ne_of_none h1 h)]
    exact (S.nof i r a e hr ha).1
theorem SRel.reguard {p : Addr} {o o' : HO} (S : SRel K mg (updF Fh p o) P G H σ env []) (n : NT o') : SRel K mg (updF Fh p o') P G (upd H p o') σ env [] := by
  have hG : G p = none := S.dj p _ updF_same
  have ne : ∀ {i : Nat} {r : RV} {a : Addr}, env[i]? = some (some r) → r.own = true → σ[i]? = some (some (.ref a)) → a ≠ p := fun {i r a} e hr ha z => by
    have := (S.nof i r a e hr ha).1
    rw [z, updF_same] at this; cases this
  refine ⟨S.gh.upd hG, ⟨fun b u e => ?_, fun b u e => ?_, S.fh.tb.upd n⟩, fun b u e => ?_, S.pin, S.len, fun i r e => ?_, S.dis, fun i r a e hr ha => ⟨?_, List.not_mem_nil⟩, fun a m => absurd m List.not_mem_nil⟩
  · by_cases z : b = p
    · subst z; rw [updF_same] at e; cases e; exact upd_same
    · rw [updF_ne z] at e
      rw [upd_ne z]
      exact S.fh.on b u (by rw [updF_ne z]; exact e)
  · by_cases z : b = p
    · subst z; rw [updF_same] at e; cases e; exact n
    · rw [updF_ne z] at e
      exact S.fh.nto b u (by rw [updF_ne z]; exact e)
  · by_cases z : b = p
    · subst z; exact hG
    · rw [updF_ne z] at e; exact S.dj b u (by rw [updF_ne z]; exact e)
  · obtain ⟨v, hv, w⟩ := S.val i r e
    refine ⟨v, hv, w.keep (Ex.refl _) fun a u ev hr h1 h2 => ?_⟩
    subst ev
    rw [upd_ne (ne e hr hv)]; exact ⟨h1, h2⟩
  · rw [updF_ne (ne e hr ha)]
    have := (S.nof i r a e hr ha).1
    rw [updF_ne (ne e hr ha)] at this; exact this
theorem SRel.unguard {p : Addr} {o : HO} (S : SRel K mg (updF Fh p o) P G H σ env []) (hF : Fh p = none) : SRel K mg Fh P G H σ env [p] := by
  have ex : ∀ b u, Fh b = some u → updF Fh p o b = some u := fun b u e => by rw [updF_ne (fun z => by rw [z, hF] at e; cases e)]; exact e
  refine ⟨S.gh, ⟨fun b u e => S.fh.on b u (ex b u e), fun b u e => S.fh.nto b u (ex b _ e), S.fh.tb⟩, fun b u e => S.dj b u (ex b u e), S.pin, S.len, S.val, S.dis, fun i r a e hr ha => ?_, fun a m => ?_⟩
  · have h := (S.nof i r a e hr ha).1
    have ne : a ≠ p := fun z => by rw [z, updF_same] at h; cases h
    rw [updF_ne ne] at h
    exact ⟨h, fun m => ne (by simpa using m)⟩
  · have e : a = p := by simpa using m
    subst e
    exact ⟨hF, S.dj a _ updF_same, o, S.fh.at updF_same⟩
end
def lcGo (pn vs : List Nat) (t : Tgt) (mt : M Bool) (me : M Opd) : List D → List D → DEnv → Res (List D)
  | [], acc, env => .ok acc env
  | d :: ds, acc, env => match asgT pn t d env with
    | none => .stk
    | some e1 => match mt e1 with
      | .ok true e2 => (match me e2 with
        | .ok o e3 => (match dOf o e3 with
          | .ok y e4 => if acc.length < sizeLine then lcGo pn vs t mt me ds (acc ++ [y]) (wipeD e4 vs) else .stk
          | _ => .stk)
        | _ => .stk)
      | .ok false e2 => lcGo pn vs t mt me ds acc (wipeD e2 vs)
      | _ => .stk
def lcM (pn vs : List Nat) (t : Tgt) (mi : M (List D)) (mt : M Bool) (me : M Opd) : M RV := bindM mi fun ds env =>
  if (∀ i ∈ vs, i ∉ pn) ∧ (∀ i ∈ slotsT t, i ∈ vs) then (match lcGo pn vs t mt me ds [] (wipeD env vs) with
    | .ok acc e => .ok (.ol acc) (wipeD e vs)
    | _ => .stk) else .stk
theorem PG.ex {X : Cx} {e : Expr} {α : Type} {g : α → TG} (h : ∀ a, PG X e (g a)) : PG X e (fun v σ H Q => ∃ a, g a v σ H Q) := ⟨fun pins s σ H v u Q I r ⟨a, q⟩ => (h a).run pins s σ H v u Q I r q⟩
theorem PTs.ex {X : Cx} {e : List Expr} {α : Type} {g : α → TT} (h : ∀ a, PTs X e (g a)) : PTs X e (fun σ H Q => ∃ a, g a σ H Q) := ⟨fun pins s σ H Q I ⟨a, q⟩ => (h a).run pins s σ H Q I q⟩
theorem PE.ex {X : Cx} {e : Expr} {α : Type} {g : α → TE} (h : ∀ a, PE X e (g a)) : PE X e (fun σ H Q => ∃ a, g a σ H Q) := ⟨fun pins s σ H Q I ⟨a, q⟩ => (h a).run pins s σ H Q I q⟩
def QTs (X : Cx) (W : WX) (pn : List Nat) (es : List Expr) (m : M Bool) : Prop := ∀ Fh P, P.map (·.1) = pn → PTs X es (rdB X.K X.mg W Fh P m)
def yesM : M Bool := fun env => .ok true env
section
variable {X : Cx} {W : WX} {pn vs : List Nat} {pos : Pos}
theorem qts_nil : QTs X W pn [] yesM := fun Fh P hp => ⟨fun pins s σ H Q I ⟨G, env, S, q⟩ => pts_nil.run pins s σ H Q I (q G H (Ex.refl _) S)⟩
theorem qts_one {c : Expr} {m : M Bool} (h : QT X W pn c m) : QTs X W pn [c] m := fun Fh P hp => pts_one (h Fh P hp)
abbrev W0 : WX := fun _ _ _ _ => False
/-- the reading of a comprehension from what it is worth -/
theorem rd_lc {mi : M (List D)} {mt : M Bool} {me : M Opd} {t : Tgt} {Fh : FHp} {P : List (Nat × V)} {σ : L2.St} {H : Hp} {Q : VK} (hp : P.map (·.1) = pn) (h : rdV X.K X.mg W Fh P (lcM pn vs t mi mt me) σ H Q) :
    tLc (rdI X.K X.mg W Fh P mi) (fun v σ H Q => ∃ F, rdG X.K X.mg F P pn t v σ H Q) (fun σ H Q => ∃ F, rdB X.K X.mg W0 F P mt σ H Q) (fun σ H Q => ∃ F, rdO X.K X.mg W0 F P me σ H Q) vs σ H Q := by
  obtain ⟨G, env, S, q⟩ := h
  refine ⟨G, env, S, ?_⟩
  unfold lcM bindM at q
  cases z : mi env with
  | err x e => simp only [z] at q; exact q
  | stk => simp only [z] at q; exact q
  | ok ds e =>
    simp only [z] at q
    intro J G0 H0 ex0 it S0 Da hD
    by_cases hc : (∀ i ∈ vs, i ∉ pn) ∧ (∀ i ∈ slotsT t, i ∈ vs)
    · rw [if_pos hc] at q
      cases zf : lcGo pn vs t mt me ds [] (wipeD e vs) with
      | err x e => simp only [zf] at q; exact q.elim
      | stk => simp only [zf] at q; exact q.elim
      | ok accf ef =>
        simp only [zf] at q
        have hF0 : Fh Da = none := S0.fh.none hD
        have Sw := (S0.guard (o := .lst []) hD nofun).wipe (vs := vs) (fun i hi => by rw [hp]; exact hc.1 i hi)
        refine ⟨fun i m H1 => m = ds.length - i ∧ i ≤ ds.length ∧ ∃ G1 env1 acc xs, Ex G0 G1 ∧ SRel X.K X.mg (updF Fh Da (.lst xs)) P G1 H1 (wipe σ vs) env1 [] ∧ DenL X.K X.mg G1 xs acc ∧ lcGo pn vs t mt me (ds.drop i) acc env1 = .ok accf ef,
          ⟨ds.length, by simp, Nat.zero_le _, G0, wipeD e vs, [], [], Ex.refl _, Sw, .nil, by simpa using zf⟩, ?_⟩
        rintro i m H1 ⟨rfl, hi, G1, env1, acc, xs, ex1, S1, hacc, q1⟩
        obtain ⟨a1, a2⟩ := it i G1 H1 ex1 S1.gh
        by_cases hlt : i < ds.length
        · have hd : ds[i]? = some ds[i] := by simp [hlt]
          obtain ⟨go, yl⟩ := a1 _ hd
          rw [drop_cons hd] at q1
          refine .inr ⟨go, fun H' => ∃ G2 env2 acc2 xs2, Ex G0 G2 ∧ SRel X.K X.mg (updF Fh Da (.lst xs2)) P G2 H' (wipe σ vs) env2 [] ∧ DenL X.K X.mg G2 xs2 acc2 ∧ lcGo pn vs t mt me (ds.drop (i + 1)) acc2 env2 = .ok accf ef, fun H' h => ⟨ds.length - (i + 1), by omega, rfl, hlt, h⟩, fun x H2 hy => ?_⟩
          obtain ⟨G2, st, hden⟩ := yl x H2 hy
          have S2 := S1.step st
          have ex2 := st.ex S1.gh
          unfold lcGo at q1
          cases z1 : asgT pn t ds[i] env1 with
          | none => simp only [z1] at q1; cases q1
          | some e1 =>
            simp only [z1] at q1
            refine ⟨_, G2, env1, ds[i], e1, S2, hden, z1, fun σ2 S3 on => ⟨wipe_only on hc.2, ?_⟩⟩
            refine ⟨_, G2, e1, S3, ?_⟩
            cases z2 : mt e1 with
            | err x e2 => simp only [z2] at q1; cases q1
            | stk => simp only [z2] at q1; cases q1
            | ok b e2 =>
              intro G3 H3 ex3 S4
              have back : ∀ {F : FHp} {G' H' : Hp} {e' : DEnv}, SRel X.K X.mg F P G' H' σ2 e' [] → SRel X.K X.mg F P G' H' (wipe σ vs) (wipeD e' vs) [] := fun {F G' H' e'} SS => by
                rw [← wipe_only on hc.2]
                exact SS.wipe (fun i hi => by rw [hp]; exact hc.1 i hi)
              cases b with
              | false =>
                simp only [z2] at q1
                exact ⟨G3, wipeD e2 vs, acc, xs, (ex1.trans ex2).trans ex3, back S4, hacc.mono (ex2.trans ex3), q1⟩
              | true =>
                simp only [z2] at q1
                refine ⟨_, G3, e2, S4, ?_⟩
                cases z3 : me e2 with
                | err x e3 => simp only [z3] at q1; cases q1
                | stk => simp only [z3] at q1; cases q1
                | ok o e3 =>
                  simp only [z3] at q1
                  intro v G4 H4 ex4 w S5
                  cases z4 : dOf o e3 with
                  | err x e4 => simp only [z4] at q1; cases q1
                  | stk => simp only [z4] at q1; cases q1
                  | ok y e4 =>
                    simp only [z4] at q1
                    obtain ⟨G5, ex5, d5, S6⟩ := S5.dOf w z4
                    by_cases hsz : acc.length < sizeLine
                    · rw [if_pos hsz] at q1
                      refine ⟨xs, S6.fh.at updF_same, by rw [hacc.1]; exact hsz, G5, wipeD e4 vs, acc ++ [y], xs ++ [v], (((ex1.trans ex2).trans ex3).trans ex4).trans ex5, back (S6.reguard nofun), (hacc.mono (((ex2.trans ex3).trans ex4).trans ex5)).app (.one d5), q1⟩
                    · rw [if_neg hsz] at q1; cases q1
        · have e1 : i = ds.length := by omega
          subst e1
          rw [List.drop_length] at q1
          unfold lcGo at q1
          cases q1
          have S7 := S1.unwipe
          refine .inl ⟨a2 (Nat.le_refl _), ?_⟩
          have vw : View X.K X.mg G1 H1 (.ref Da) (.ol accf) := View.of_own (S1.fh.at updF_same) (S1.dj Da _ updF_same) hacc
          exact q (.ref Da) G1 H1 (ex0.trans ex1) vw (S7.unguard hF0)
    · rw [if_neg hc] at q; exact q.elim
/-- [e for x in xs if t] -/
theorem qv_lc {elt tg iter : Expr} {ifs : List Expr} {scope : Scope} {own : List (Str × Nat)} {t : Tgt} {mi : M (List D)} {mt : M Bool} {me : M Opd} (hc : X.calm = true) (hN : X.N.Nodup) (hi : QI X W pn tg iter mi) (ok : BlkOk X.N X.env.scope scope own)
    (hg : ∀ (s : Shared) (H : Hp) (C : Addr) (cl : List (Str × Addr)) (fp : List Addr), QG (X.blk s H scope (compEnvC scope cl C X.env) fp) pn tg t) (ht : ∀ (s : Shared) (H : Hp) (C : Addr) (cl : List (Str × Addr)) (fp : List Addr), QTs (X.blk s H scope (compEnvC scope cl C X.env) fp) W0 pn ifs mt)
    (he : ∀ (s : Shared) (H : Hp) (C : Addr) (cl : List (Str × Addr)) (fp : List Addr), QO (X.blk s H scope (compEnvC scope cl C X.env) fp) W0 pn elt me) (hs : ∀ x, foldedSetIterable iter X.env x = pure x) :
    QV X W pn (.ListComp elt [⟨tg, iter, ifs, 0⟩] scope pos) (lcM pn (own.map (·.2)) t mi mt me) := fun Fh P hp =>
  PE.weak (pe_lc hc hN (hi Fh P hp) ok (fun s H C cl fp => PG.ex fun F => hg s H C cl fp F P hp) (fun s H C cl fp => PTs.ex fun F => ht s H C cl fp F P hp) (fun s H C cl fp => PE.ex fun F => he s H C cl fp F P hp) hs) fun σ H Q h => rd_lc hp h
/-- y = [e for x in xs if t], on one line -/
theorem qs_setLc {i : Nat} {y : Str} {py : Pos} {elt tg iter : Expr} {ifs : List Expr} {scope : Scope} {own : List (Str × Nat)} {spos : Pos} {t : Tgt} {mi : M (List D)} {mt : M Bool} {me : M Opd} (hc : X.calm = true) (hN : X.N.Nodup) (hy : X.N[i]? = some y) (hyl : X.env.scope.names.lookup y = some .local)
    (hsw : swapsWith (.ListComp elt [⟨tg, iter, ifs, 0⟩] scope pos) (some (.Name y py)) spos.line X.env = pure true) (hi : QI X W pn tg iter mi) (ok : BlkOk X.N X.env.scope scope own)
    (hg : ∀ (s : Shared) (H : Hp) (C : Addr) (cl : List (Str × Addr)) (fp : List Addr), QG (X.blk s H scope (compEnvC scope cl C X.env) fp) pn tg t) (ht : ∀ (s : Shared) (H : Hp) (C : Addr) (cl : List (Str × Addr)) (fp : List Addr), QTs (X.blk s H scope (compEnvC scope cl C X.env) fp) W0 pn ifs mt)
    (he : ∀ (s : Shared) (H : Hp) (C : Addr) (cl : List (Str × Addr)) (fp : List Addr), QO (X.blk s H scope (compEnvC scope cl C X.env) fp) W0 pn elt me) (hs : ∀ x, foldedSetIterable iter X.env x = pure x) :
    QS X W pn (.Assign [.Name y py] (.ListComp elt [⟨tg, iter, ifs, 0⟩] scope pos) spos) (asgM pn i (lcM pn (own.map (·.2)) t mi mt me)) := fun Fh P hp =>
  PS.weak (ps_setLc hc hN hy hyl hsw (hi Fh P hp) ok (fun s H C cl fp => PG.ex fun F => hg s H C cl fp F P hp) (fun s H C cl fp => PTs.ex fun F => ht s H C cl fp F P hp) (fun s H C cl fp => PE.ex fun F => he s H C cl fp F P hp) hs) fun D σ H ⟨G, env, S, q⟩ => by
    refine rd_lc (W := W) hp ⟨G, env, S, PV_S (σ := σ) q fun r e v G' H' ex w S' hk => ?_⟩
    by_cases hcc : i < e.length ∧ i ∉ pn
    · rw [if_pos hcc] at hk
      exact hk _ G' H' (Ex.refl _) (S'.set w hcc.1 (by rw [hp]; exact hcc.2))
    · rw [if_neg hcc] at hk; exact hk.elim
end
end Z
/-! Z: what changes an object of one's own -/
namespace Z
open PySem PySem.Spec PyProof.Rows L2
section
variable {K : PySem.W.Frag} {mg : Str → Option Value} {Fh : FHp} {P : List (Nat × V)} {G H : Hp} {σ : L2.St} {env : DEnv}
theorem SRel.mut {i : Nat} {r r' : RV} {a : Addr} {o' : HO} (S : SRel K mg Fh P G H σ env []) (e : env[i]? = some (some r)) (ho : r.own = true) (ha : σ[i]? = some (some (.ref a))) (q : ObjR K mg G a o' r') : SRel K mg Fh P G (upd H a o') σ (env.set i (some r')) [] := by
  have hi : i < env.length := (List.getElem?_eq_some_iff.mp e).1
  obtain ⟨v, hv, w⟩ := S.val i r e
  rw [ha] at hv; cases hv
  obtain ⟨b, o, eb, h1, h2, h3⟩ := w.own_inv ho
  cases eb
  have hF := (S.nof i r a e ho ha).1
  have ho' := q.own
  -- an owned slot behind was owned before, and lies elsewhere
  have old : ∀ {j : Nat} {x : RV}, (env.set i (some r'))[j]? = some (some x) → x.own = true → ∃ y, env[j]? = some (some y) ∧ y.own = true := fun {j x} h hx => by
    rcases set_get h with ⟨rfl, _, _⟩ | ⟨_, h⟩
    · exact ⟨r, e, ho⟩
    · exact ⟨x, h, hx⟩
  refine ⟨S.gh.upd h2, S.fh.upd hF q.nt, S.dj, S.pin, by simp [S.len], fun j x h => ?_, fun j k x y b h1 h2 o1 o2 s1 s2 => ?_, fun j x b h hx hb => ⟨?_, List.not_mem_nil⟩, fun b m => absurd m List.not_mem_nil⟩
  · rcases set_get h with ⟨rfl, z, _⟩ | ⟨ne, h⟩
    · cases z; exact ⟨_, ha, View.of_own upd_same h2 q⟩
    · obtain ⟨u, hu, wu⟩ := S.val j x h
      refine ⟨u, hu, wu.keep (Ex.refl _) fun b o1 ev hx g1 g2 => ⟨?_, g2⟩⟩
      subst ev
      have nb : b ≠ a := fun z => ne (S.dis j i x r a h e hx ho (by rw [← z]; exact hu) ha)
      rw [upd_ne nb]; exact g1
  · obtain ⟨x', e1, p1⟩ := old h1 o1
    obtain ⟨y', e2, p2⟩ := old h2 o2
    exact S.dis j k x' y' b e1 e2 p1 p2 s1 s2
  · obtain ⟨x', e1, p1⟩ := old h hx
    exact (S.nof j x' b e1 p1 hb).1
end
/-- a built-in's method that changes its object -/
def MutS (K : PySem.W.Frag) (mg : Str → Option Value) (r : V → List V → Hp → VK → Prop) (f : RV → List D → Option (D × RV)) : Prop := ∀ (G H : Hp) (a : Addr) (o : HO) (rv rv' : RV) (vs : List V) (ds : List D) (res : D) (Q : VK), Ex G H → H a = some o → ObjR K mg G a o rv → DenL K mg G vs ds → f rv ds = some (res, rv') →
  (∀ v o', Den K mg G v res → ObjR K mg G a o' rv' → Q v (upd H a o')) → r (.ref a) vs H Q
def tyOk (T : String) (r : RV) : Bool := match r with
  | .ol _ => T == "list"
  | _ => false
def mutM (T : String) (i : Nat) (f : RV → List D → Option (D × RV)) (m : M (List Opd)) : M RV := fun env => match slotOf env i with
  | some r0 => if tyOk T r0 = true then bindM m (fun os e => match dsOf os e with
    | .ok ds e2 => (match slotOf e2 i with
      | some r => if r.own = true then (match f r ds with
        | some (res, r') => .ok (.sh res) (e2.set i (some r'))
        | none => .stk) else .stk
      | none => .stk)
    | _ => .stk) env else .stk
  | none => .stk
theorem tyOk_ty {K : PySem.W.Frag} {mg : Str → Option Value} {G H : Hp} {T : String} {v : V} {r : RV} (w : View K mg G H v r) (h : tyOk T r = true) : tyV K T v H := by
  cases r with
  | sh d => cases h
  | ol ds =>
    obtain ⟨a, o, rfl, h1, h2, h3⟩ := w
    cases o <;> first | exact h3.elim | exact .inl ⟨by simpa [tyOk] using h, _, SqL.of h1⟩
  | od _ => cases h
  | oo _ _ => cases h
section
variable {X : Cx} {W : WX} {pn : List Nat} {pos : Pos}
theorem qv_mut {T id : String} {name x : Str} {i : Nat} {px apos cpos : Pos} {e : Expr} {es : List Expr} {r : V → List V → Hp → VK → Prop} {f : RV → List D → Option (D × RV)} {m : M (List Opd)} (pa : PlainAttrs T) (slot : Slot T name id) (hty : typeOf (.builtin id) = pure (.type "method_descriptor")) (hm : MtR X id r) (hs : MutS X.K X.mg r f)
    (hN : X.N[i]? = some x) (hv : Vis X.env.scope x) (hd : (x == ("__debug__" : Str)) = false) (hcd : (x == ("__classdict__" : Str)) = false) (ha : QOs X W pn (e :: es) m) (hbase : attributeBase (.Name x px) name X.env (eval (.Name x px) X.env) = eval (.Name x px) X.env)
    (hfew : ((backTo cpos (starEach (e :: es) X.env)).all (fun x => !x.1) && (backToKw cpos (keywordEach [] X.env)).all (fun x => x.1.isSome)
      && decide ((e :: es).length + ([] : List Keyword).length + (if ([] : List Keyword).isEmpty then 0 else 1) < 30)) = true)
    (hline : (apos.endLine == cpos.line) = true) (hst : starEach (e :: es) X.env = (false, eval e X.env) :: starEach es X.env) (hpl : (backTo cpos (starEach es X.env)).any (·.1) = false) :
    QV X W pn (.Call (.Attribute (.Name x px) name apos) (e :: es) [] cpos) (mutM T i f m) := fun Fh P hp =>
  PE.weak (pe_bm pa slot hty hm (pe_var hN hv hd hcd) (ha Fh P hp) hbase hfew hline hst hpl) fun σ H Q ⟨G, env, S, q⟩ => by
    unfold mutM at q
    cases z : slotOf env i with
    | none => simp only [z] at q; exact q.elim
    | some r0 =>
      simp only [z] at q
      obtain ⟨v, hv, w⟩ := S.val i r0 (slotOf_some z)
      by_cases ht : tyOk T r0 = true
      · rw [if_pos ht] at q
        refine ⟨v, hv, tyOk_ty w ht, G, env, S, POs_V q fun os e1 vs G1 H1 ex w1 S1 hk => ?_⟩
        cases z1 : dsOf os e1 with
        | err x e2 => exact (dsOf_noerr z1).elim
        | stk => simp only [z1] at hk; exact hk.elim
        | ok ds e2 =>
          simp only [z1] at hk
          obtain ⟨G2, x2, d2, S2⟩ := S1.dsOf w1 z1
          cases z2 : slotOf e2 i with
          | none => simp only [z2] at hk; exact hk.elim
          | some r1 =>
            simp only [z2] at hk
            by_cases ho : r1.own = true
            · rw [if_pos ho] at hk
              cases z3 : f r1 ds with
              | none => simp only [z3] at hk; exact hk.elim
              | some p =>
                obtain ⟨res, r'⟩ := p
                simp only [z3] at hk
                have es := slotOf_some z2
                obtain ⟨v2, hv2, wv⟩ := S2.val i r1 es
                rw [hv] at hv2; cases hv2
                obtain ⟨a, o, rfl, g1, g2, g3⟩ := wv.own_inv ho
                exact hs G2 H1 a o r1 r' vs ds res Q S2.gh g1 g3 d2 z3 fun u o' hu ho' => hk u G2 _ x2 hu (S2.mut es ho hv ho')
            · rw [if_neg ho] at hk; exact hk.elim
      · rw [if_neg ht] at q; exact q.elim
theorem qv_mut0 {T id : String} {name x : Str} {i : Nat} {px apos cpos : Pos} {r : V → List V → Hp → VK → Prop} {f : RV → List D → Option (D × RV)} (pa : PlainAttrs T) (slot : Slot T name id) (hty : typeOf (.builtin id) = pure (.type "method_descriptor")) (hm : MtR X id r) (hs : MutS X.K X.mg r f)
    (hN : X.N[i]? = some x) (hv : Vis X.env.scope x) (hd : (x == ("__debug__" : Str)) = false) (hcd : (x == ("__classdict__" : Str)) = false) (hbase : attributeBase (.Name x px) name X.env (eval (.Name x px) X.env) = eval (.Name x px) X.env)
    (hline : (apos.endLine == cpos.line) = true) :
    QV X W pn (.Call (.Attribute (.Name x px) name apos) [] [] cpos) (mutM T i f nilO) := fun Fh P hp =>
  PE.weak (pe_bm0 pa slot hty hm (pe_var hN hv hd hcd) hbase hline) fun σ H Q ⟨G, env, S, q⟩ => by
    unfold mutM at q
    cases z : slotOf env i with
    | none => simp only [z] at q; exact q.elim
    | some r0 =>
      simp only [z] at q
      obtain ⟨v, hv, w⟩ := S.val i r0 (slotOf_some z)
      by_cases ht : tyOk T r0 = true
      · rw [if_pos ht] at q
        refine ⟨v, hv, tyOk_ty w ht, ?_⟩
        simp only [bindM, nilO, dsOf, z] at q
        by_cases ho : r0.own = true
        · rw [if_pos ho] at q
          cases z3 : f r0 [] with
          | none => simp only [z3] at q; exact q.elim
          | some p =>
            obtain ⟨res, r'⟩ := p
            simp only [z3] at q
            obtain ⟨a, o, rfl, g1, g2, g3⟩ := w.own_inv ho
            exact hs G H a o r0 r' [] [] res Q S.gh g1 g3 .nil z3 fun u o' hu ho' => q u G _ (Ex.refl _) hu (S.mut (slotOf_some z) ho hv ho')
        · rw [if_neg ho] at q; exact q.elim
      · rw [if_neg ht] at q; exact q.elim
/-! ### the methods of list -/
def appF (r : RV) (ds : List D) : Option (D × RV) := match r, ds with
  | .ol xs, [d] => if xs.length < sizeLine then some (.non, .ol (xs ++ [d])) else none
  | _, _ => none
theorem s_appF {K : PySem.W.Frag} {mg : Str → Option Value} : MutS K mg rAppend appF := fun G H a o rv rv' vs ds res Q ex h1 h3 hd e k => by
  unfold appF at e
  split at e
  · rename_i xs d
    split at e
    · rename_i hl; cases e
      obtain ⟨v, ws, rfl, hv, hn⟩ := hd.cons_ex
      rw [hn.nil_inv]
      cases o <;> first | exact h3.elim | skip
      rename_i ys
      have h3 : DenL K mg G ys xs := h3
      exact ⟨a, ys, v, rfl, rfl, h1, by rw [h3.1]; exact hl, k .non _ .non (h3.app (.one hv))⟩
    · cases e
  · cases e
def revF (r : RV) (ds : List D) : Option (D × RV) := match r, ds with
  | .ol xs, [] => some (.non, .ol xs.reverse)
  | _, _ => none
theorem s_revF {K : PySem.W.Frag} {mg : Str → Option Value} : MutS K mg rReverse revF := fun G H a o rv rv' vs ds res Q ex h1 h3 hd e k => by
  unfold revF at e
  split at e
  · cases e
    rw [hd.nil_inv]
    cases o <;> first | exact h3.elim | skip
    rename_i ys
    exact ⟨a, ys, rfl, rfl, h1, k .non _ .non (DenL.rev h3)⟩
  · cases e
def clrF (r : RV) (ds : List D) : Option (D × RV) := match r, ds with
  | .ol xs, [] => some (.non, .ol [])
  | _, _ => none
theorem s_clrF {K : PySem.W.Frag} {mg : Str → Option Value} : MutS K mg rClear clrF := fun G H a o rv rv' vs ds res Q ex h1 h3 hd e k => by
  unfold clrF at e
  split at e
  · cases e
    rw [hd.nil_inv]
    cases o <;> first | exact h3.elim | skip
    exact ⟨a, _, rfl, rfl, h1, k .non (.lst []) .non DenL.nil⟩
  · cases e
def popF (r : RV) (ds : List D) : Option (D × RV) := match r, ds with
  | .ol xs, [] => (xs[xs.length - 1]?).map fun y => (y, .ol xs.dropLast)
  | _, _ => none
theorem DenL.dropLast {K : PySem.W.Frag} {mg : Str → Option Value} {G : Hp} {xs : List V} {ds : List D} (h : DenL K mg G xs ds) : DenL K mg G xs.dropLast ds.dropLast := by
  rw [List.dropLast_eq_take, List.dropLast_eq_take, h.1]
  exact h.take _
theorem s_popF {K : PySem.W.Frag} {mg : Str → Option Value} : MutS K mg rPop popF := fun G H a o rv rv' vs ds res Q ex h1 h3 hd e k => by
  unfold popF at e
  split at e
  · rename_i xs
    simp only [Option.map_eq_some_iff] at e
    obtain ⟨y, e1, e2⟩ := e
    cases e2
    rw [hd.nil_inv]
    cases o <;> first | exact h3.elim | skip
    rename_i ys
    have h3 : DenL K mg G ys xs := h3
    obtain ⟨v, hv, hden⟩ := h3.get e1
    exact ⟨a, ys, v, rfl, rfl, h1, by rw [h3.1]; exact hv, k v _ hden h3.dropLast⟩
  · cases e
def extF (r : RV) (ds : List D) : Option (D × RV) := match r, ds with
  | .ol xs, [.lst zs] => if xs.length + zs.length ≤ sizeLine then some (.non, .ol (xs ++ zs)) else none
  | _, _ => none
theorem s_extF {K : PySem.W.Frag} {mg : Str → Option Value} : MutS K mg rExtend extF := fun G H a o rv rv' vs ds res Q ex h1 h3 hd e k => by
  unfold extF at e
  split at e
  · rename_i xs zs
    split at e
    · rename_i hl; cases e
      obtain ⟨v, ws, rfl, hv, hn⟩ := hd.cons_ex
      rw [hn.nil_inv]
      obtain ⟨b, us, rfl, hb, hus⟩ := hv.lst_inv
      cases o <;> first | exact h3.elim | skip
      rename_i ys
      have h3 : DenL K mg G ys xs := h3
      exact ⟨a, b, ys, us, rfl, rfl, h1, ex _ _ hb, by rw [h3.1, hus.1]; exact hl, k .non _ .non (h3.app hus)⟩
    · cases e
  · cases e
/-! ### x[k] = e, x += e, x[k] += e -/
def setM (i : Nat) (mv : M Opd) (mk : M Opd) : MS := bindS mv fun o1 e1 => match dOf o1 e1 with
  | .ok d e2 => (match slotOf e2 i with
    | some _ => bindS mk (fun o2 e3 => match slotOf e3 i, (resolve e3 o2).bind asInt with
      | some (.ol ds), some k => (match ixN ds.length k with
        | some j => .nx (e3.set i (some (.ol (ds.set j d))))
        | none => .stk)
      | _, _ => .stk) e2
    | none => .stk)
  | _ => .stk
theorem qs_setL {i : Nat} {x : Str} {px tpos : Pos} {e k : Expr} {mv mk : M Opd} (hN : X.N[i]? = some x) (hv : Vis X.env.scope x) (hd : (x == ("__debug__" : Str)) = false) (hcd : (x == ("__classdict__" : Str)) = false) (he : QO X W pn e mv) (hk : QO X W pn k mk)
    (ha : ∀ v, assign (.Subscript (.Name x px) k tpos) X.env v = (do
      let ov ← holding [v] (eval (.Name x px) X.env)
      let iv ← holding [v, ov] (eval k X.env)
      standAt tpos
      holding [v, ov, iv] (setItem ov iv v)
      release [v, ov, iv] []))
    (hs : swapsWithSole [.Subscript (.Name x px) k tpos] e pos.line X.env = pure false) (hw : swappedStores [.Subscript (.Name x px) k tpos] e X.env = pure none) (h1 : (assignEach [.Subscript (.Name x px) k tpos] X.env).map (·.2) = [assign (.Subscript (.Name x px) k tpos) X.env]) :
    QS X W pn (.Assign [.Subscript (.Name x px) k tpos] e pos) (setM i mv mk) := fun Fh P hp =>
  PS.weak (ps_asg (he Fh P hp) (pg_sub (pe_var hN hv hd hcd) (hk Fh P hp) set_list ha) hs hw h1) fun D σ H ⟨G, env, S, q⟩ => by
    refine ⟨G, env, S, PO_S (σ := σ) q fun o e1 v G1 H1 ex w S1 hk => ?_⟩
    cases z1 : dOf o e1 with
    | err x e2 => exact (dOf_noerr z1).elim
    | stk => simp only [z1] at hk; exact hk.elim
    | ok d e2 =>
      simp only [z1] at hk
      obtain ⟨G2, x2, d2, S2⟩ := S1.dOf w z1
      cases z2 : slotOf e2 i with
      | none => simp only [z2] at hk; exact hk.elim
      | some r0 =>
        simp only [z2] at hk
        obtain ⟨u, hu, _⟩ := S2.val i r0 (slotOf_some z2)
        refine ⟨u, hu, G2, e2, S2, PO_S (σ := σ) (PSt.mono x2 hk) fun o2 e3 y G3 H3 ex3 w3 S3 hk3 => ?_⟩
        cases z3 : slotOf e3 i with
        | none => simp only [z3] at hk3; exact hk3.elim
        | some r1 =>
          cases z4 : (resolve e3 o2).bind asInt with
          | none =>
            rw [z3, z4] at hk3
            cases r1 <;> exact hk3.elim
          | some kk =>
            rw [z3, z4] at hk3
            cases r1 with
            | ol ds =>
              simp only at hk3
              cases z5 : ixN ds.length kk with
              | none => simp only [z5] at hk3; exact hk3.elim
              | some j =>
                simp only [z5] at hk3
                have es := slotOf_some z3
                obtain ⟨u', hu', wu⟩ := S3.val i _ es
                rw [hu] at hu'; cases hu'
                obtain ⟨a, oo, rfl, g1, g2, g3⟩ := wu
                cases oo <;> first | exact g3.elim | skip
                rename_i xs
                have g3 : DenL X.K X.mg G3 xs ds := g3
                simp only [Option.bind_eq_some_iff] at z4
                obtain ⟨r, y1, y2⟩ := z4
                exact ⟨a, xs, kk, j, rfl, (S3.resolve w3 y1).asInt y2, g1, by rw [g3.1]; exact z5, hk3 σ G3 _ (Ex.refl _) (S3.mut (o' := .lst (xs.set j v)) es rfl hu (g3.set j (d2.mono ex3)))⟩
            | sh _ => exact hk3.elim
            | od _ => exact hk3.elim
            | oo _ _ => exact hk3.elim
def augM (pn : List Nat) (i : Nat) (g : Int → Int → Int) (m : M Opd) : MS := fun env => match (slotOf env i).bind asInt with
  | some a => bindS m (fun o e => match (resolve e o).bind asInt with
    | some b => if i < e.length ∧ i ∉ pn then .nx (e.set i (some (.sh (.int (g a b))))) else .stk
    | none => .stk) env
  | none => .stk
theorem qs_aug {i : Nat} {x : Str} {p : Pos} {e : Expr} {op : Operator} {g : Int → Int → Int} {m : M Opd} (hN : X.N.Nodup) (hi : X.N[i]? = some x) (hx : Loc X.env.scope x) (he : QO X W pn e m) (ho : PIp X op (ipI g)) (hf : X.fn x = true ∨ X.env.scope.names.lookup x = some .local) :
    QS X W pn (.AugAssign (.Name x p) op e pos) (augM pn i g m) := fun Fh P hp => PS.weak (ps_aug hN hi hx (he Fh P hp) ho hf) fun D σ H ⟨G, env, S, q⟩ => by
  unfold augM at q
  cases z : (slotOf env i).bind asInt with
  | none => simp only [z] at q; exact q.elim
  | some a =>
    simp only [z] at q
    simp only [Option.bind_eq_some_iff] at z
    obtain ⟨r, y1, y2⟩ := z
    obtain ⟨v, hv, w⟩ := S.val i r (slotOf_some y1)
    refine ⟨v, hv, G, env, S, PO_S (σ := σ) q fun o e1 u G1 H1 ex w1 S1 hk => ?_⟩
    cases z1 : (resolve e1 o).bind asInt with
    | none => simp only [z1] at hk; exact hk.elim
    | some b =>
      simp only [z1] at hk
      simp only [Option.bind_eq_some_iff] at z1
      obtain ⟨r1, t1, t2⟩ := z1
      refine ⟨a, b, w.asInt y2, (S1.resolve w1 t1).asInt t2, ?_⟩
      by_cases hc : i < e1.length ∧ i ∉ pn
      · rw [if_pos hc] at hk
        exact hk _ G1 H1 (Ex.refl _) (S1.set (v := .int (g a b)) (r := .sh (.int (g a b))) (Den.int _) hc.1 (by rw [hp]; exact hc.2))
      · rw [if_neg hc] at hk; exact hk.elim
end
end Z
/-! Z: a def's body keeps the promise of what it is worth -/
namespace Z
open PySem PySem.Spec PyProof.Rows L2
def ownIx : Nat → List RV → List Nat
  | _, [] => []
  | k, r :: rs => if r.own = true then k :: ownIx (k + 1) rs else ownIx (k + 1) rs
def pinsOf : Nat → List V → List RV → List (Nat × V)
  | k, v :: vs, r :: rs => if r.own = true then (k, v) :: pinsOf (k + 1) vs rs else pinsOf (k + 1) vs rs
  | _, _, _ => []
theorem pins_ix : ∀ {k : Nat} {vs : List V} {rs : List RV}, vs.length = rs.length → (pinsOf k vs rs).map (·.1) = ownIx k rs
  | k, [], [], _ => rfl
  | k, v :: vs, r :: rs, h => by
    have ih := pins_ix (k := k + 1) (vs := vs) (rs := rs) (by simpa using h)
    unfold pinsOf ownIx
    split
    · rw [List.map_cons, ih]
    · exact ih
  | k, [], r :: rs, h => by simp at h
  | k, v :: vs, [], h => by simp at h
theorem pins_at : ∀ {k : Nat} {vs : List V} {rs : List RV} {p : Nat × V}, p ∈ pinsOf k vs rs → ∃ j r, p.1 = k + j ∧ vs[j]? = some p.2 ∧ rs[j]? = some r ∧ r.own = true
  | k, v :: vs, r :: rs, p, h => by
    unfold pinsOf at h
    have rec_ : p ∈ pinsOf (k + 1) vs rs → ∃ j r', p.1 = k + j ∧ (v :: vs)[j]? = some p.2 ∧ (r :: rs)[j]? = some r' ∧ r'.own = true := fun h => by
      obtain ⟨j, r', h1, h2, h3, h4⟩ := pins_at h
      exact ⟨j + 1, r', by omega, by simpa using h2, by simpa using h3, h4⟩
    split at h
    · rename_i hr
      rcases List.mem_cons.mp h with e | h
      · subst e; exact ⟨0, r, rfl, rfl, rfl, hr⟩
      · exact rec_ h
    · exact rec_ h
  | k, [], rs, p, h => by unfold pinsOf at h; cases h
  | k, v :: vs, [], p, h => by unfold pinsOf at h; cases h
theorem own_pin : ∀ {k : Nat} {vs : List V} {rs : List RV} {j : Nat} {r : RV} {v : V}, rs[j]? = some r → vs[j]? = some v → r.own = true → (k + j, v) ∈ pinsOf k vs rs
  | k, v :: vs, r :: rs, 0, r', v', h1, h2, ho => by
    simp at h1 h2; subst h1; subst h2
    unfold pinsOf; rw [if_pos ho]; exact List.mem_cons_self
  | k, v :: vs, r :: rs, j + 1, r', v', h1, h2, ho => by
    have ih := own_pin (k := k + 1) (vs := vs) (rs := rs) (j := j) (by simpa using h1) (by simpa using h2) ho
    rw [show k + 1 + j = k + (j + 1) by omega] at ih
    unfold pinsOf
    split
    · exact List.mem_cons_of_mem _ ih
    · exact ih
  | k, [], rs, j, r, v, h1, h2, ho => by simp at h2
  | k, v :: vs, [], j, r, v', h1, h2, ho => by simp at h1
/-- what was lent, as the body leaves it -/
def backD : List RV → DEnv → Option (List RV)
  | [], _ => some []
  | r :: rs, x :: e => if r.own = true then (match x with
    | some r' => (backD rs e).map (r' :: ·)
    | none => none) else (backD rs e).map (r :: ·)
  | _ :: _, [] => none
theorem backD_get : ∀ {rs : List RV} {e : DEnv} {rs' : List RV} {j : Nat} {r' : RV}, backD rs e = some rs' → rs'[j]? = some r' → ∃ r, rs[j]? = some r ∧ ((r.own = true ∧ e[j]? = some (some r')) ∨ (r.own = false ∧ r' = r))
  | [], e, rs', j, r', h, h' => by cases h; simp at h'
  | r :: rs, [], rs', j, r', h, h' => by cases h
  | r :: rs, x :: e, rs', j, r', h, h' => by
    unfold backD at h
    by_cases ho : r.own = true
    · rw [if_pos ho] at h
      cases x with
      | none => cases h
      | some y =>
        simp only [Option.map_eq_some_iff] at h
        obtain ⟨t, h1, rfl⟩ := h
        cases j with
        | zero => simp at h'; subst h'; exact ⟨r, rfl, .inl ⟨ho, rfl⟩⟩
        | succ j =>
          obtain ⟨r0, a, b⟩ := backD_get (rs := rs) (e := e) (j := j) h1 (by simpa using h')
          exact ⟨r0, by simpa using a, by simpa using b⟩
    · rw [if_neg ho] at h
      simp only [Option.map_eq_some_iff] at h
      obtain ⟨t, h1, rfl⟩ := h
      cases j with
      | zero => simp at h'; subst h'; exact ⟨r, rfl, .inr ⟨by simpa using ho, rfl⟩⟩
      | succ j =>
        obtain ⟨r0, a, b⟩ := backD_get (rs := rs) (e := e) (j := j) h1 (by simpa using h')
        exact ⟨r0, by simpa using a, by simpa using b⟩
theorem backD_len : ∀ {rs : List RV} {e : DEnv} {rs' : List RV}, backD rs e = some rs' → rs'.length = rs.length
  | [], e, rs', h => by cases h; rfl
  | r :: rs, [], rs', h => by cases h
  | r :: rs, x :: e, rs', h => by
    unfold backD at h
    split at h
    · cases x with
      | none => cases h
      | some y =>
        simp only [Option.map_eq_some_iff] at h
        obtain ⟨t, h1, rfl⟩ := h
        simp [backD_len h1]
    · simp only [Option.map_eq_some_iff] at h
      obtain ⟨t, h1, rfl⟩ := h
      simp [backD_len h1]
/-- a def's body, called with rs; nN: the number of its slots -/
def runD (nN : Nat) (s : List Nat → MS) : FnD := fun rs => match s (ownIx 0 rs) (rs.map some ++ List.replicate (nN - rs.length) none) with
  | .nx e => (match backD rs e with
    | some rs' => .ok (.sh .non) rs'
    | none => .stk)
  | .rt r e => (match backD rs e with
    | some rs' => .ok r rs'
    | none => .stk)
  | .err x e => (match backD rs e with
    | some rs' => .err x rs'
    | none => .stk)
  | _ => .stk
open Classical in
/-- what the caller has besides -/
noncomputable def foreign (G H : Hp) (vs : List V) (rs : List RV) : FHp := fun b => if G b = none ∧ ¬ OwnAt vs rs b then (H b).map toFO else none
section
variable {K : PySem.W.Frag} {mg : Str → Option Value} {G H : Hp} {vs : List V} {rs : List RV}
theorem foreign_some {b : Addr} {o : FO} (h : foreign G H vs rs b = some o) : G b = none ∧ ¬ OwnAt vs rs b ∧ ∃ u, o = toFO u ∧ H b = some u := by
  unfold foreign at h
  split at h
  · rename_i q
    cases z : H b with
    | none => rw [z] at h; cases h
    | some u => rw [z] at h; cases h; exact ⟨q.1, q.2, u, rfl, rfl⟩
  · cases h
theorem foreign_none {b : Addr} (h : foreign G H vs rs b = none) (h' : H b ≠ none) (hg : G b = none) : OwnAt vs rs b := by
  unfold foreign at h
  split at h
  · cases z : H b with
    | none => exact absurd z h'
    | some u => rw [z] at h; cases h
  · rename_i q
    exact Classical.byContradiction fun z => q ⟨hg, z⟩
theorem foreign_own {b : Addr} (h : OwnAt vs rs b) : foreign G H vs rs b = none := by
  unfold foreign
  rw [if_neg fun z => z.2 h]
theorem foreign_at {b : Addr} {o : HO} (h : H b = some o) (hg : G b = none) (hn : ¬ OwnAt vs rs b) : foreign G H vs rs b = some (toFO o) := by
  unfold foreign
  rw [if_pos ⟨hg, hn⟩, h]; rfl
theorem start_get {N : List Str} {i : Nat} : (L2.start N vs)[i]? = if i < vs.length then (vs[i]?).map some else if i < vs.length + (N.length - vs.length) then some none else none := by
  unfold L2.start
  by_cases h : i < vs.length
  · rw [if_pos h, List.getElem?_append_left (by simpa using h), List.getElem?_map]
  · rw [if_neg h, List.getElem?_append_right (by simpa using h), List.getElem?_replicate]
    simp only [List.length_map]
    by_cases h2 : i < vs.length + (N.length - vs.length)
    · rw [if_pos h2, if_pos (by omega)]
    · rw [if_neg h2, if_neg (by omega)]
theorem env0_get {n : Nat} {i : Nat} {r : RV} (h : (rs.map some ++ List.replicate n none : DEnv)[i]? = some (some r)) : rs[i]? = some r := by
  by_cases hi : i < rs.length
  · rw [List.getElem?_append_left (by simpa using hi), List.getElem?_map] at h
    cases q : rs[i]? with
    | none => rw [q] at h; cases h
    | some x => rw [q] at h; cases h; rfl
  · rw [List.getElem?_append_right (by simpa using hi), List.getElem?_replicate] at h
    split at h <;> cases h
theorem start_rel {N : List Str} (ex : GH G H) (vw : Views K mg G H vs rs) (ds : Dist vs rs) (hl : vs.length ≤ N.length) :
    SRel K mg (foreign G H vs rs) (pinsOf 0 vs rs) G H (L2.start N vs) (rs.map some ++ List.replicate (N.length - rs.length) none) [] := by
  have hlen := vw.1
  have sg : ∀ {i : Nat} {v : V}, vs[i]? = some v → (L2.start N vs)[i]? = some (some v) := fun {i v} h => by
    have hi : i < vs.length := (List.getElem?_eq_some_iff.mp h).1
    rw [start_get, if_pos hi, h]; rfl
  have gv : ∀ {i : Nat} {r : RV}, rs[i]? = some r → ∃ v, vs[i]? = some v := fun {i r} h => by
    have hi : i < vs.length := by rw [hlen]; exact (List.getElem?_eq_some_iff.mp h).1
    exact ⟨vs[i], by simp [hi]⟩
  have back : ∀ {i : Nat} {r : RV} {a : Addr}, rs[i]? = some r → (L2.start N vs)[i]? = some (some (.ref a)) → vs[i]? = some (.ref a) := fun {i r a} h h' => by
    obtain ⟨v, hv⟩ := gv h
    rw [sg hv] at h'; cases h'; exact hv
  refine ⟨ex.1, ⟨fun b o h => by
      obtain ⟨_, _, u, rfl, hu⟩ := foreign_some h
      rw [hu]
      cases u <;> first | rfl | exact ⟨#[], by simp⟩, fun b o h => by
      obtain ⟨_, _, u, e, hu⟩ := foreign_some h
      cases u <;> first | (cases e; done) | (cases e; exact nofun), ex.2⟩, fun b o h => (foreign_some h).1, fun p hp => ?_, ?_, fun i r e => ?_, fun i j r r' a h1 h2 o1 o2 s1 s2 => ?_, fun i r a e o h => ⟨foreign_own ⟨i, r, env0_get e, o, back (env0_get e) h⟩, List.not_mem_nil⟩, fun a m => absurd m List.not_mem_nil⟩
  · obtain ⟨j, r, h1, h2, h3, h4⟩ := pins_at hp
    rw [h1, Nat.zero_add]; exact sg h2
  · unfold L2.start
    simp only [List.length_append, List.length_map, List.length_replicate, hlen]
  · have hr := env0_get e
    obtain ⟨v, hv⟩ := gv hr
    exact ⟨v, sg hv, vw.2 i v r hv hr⟩
  · exact ds i j r r' a (env0_get h1) (env0_get h2) o1 o2 (back (env0_get h1) s1) (back (env0_get h2) s2)
/-- the body's end, as the caller sees it -/
theorem end_back {G' H' : Hp} {σ' : L2.St} {e : DEnv} {rs' : List RV} {T : List Addr} (ex : Ex G H) (vw : Views K mg G H vs rs) (ex' : Ex G G') (S : SRel K mg (foreign G H vs rs) (pinsOf 0 vs rs) G' H' σ' e T) (hb : backD rs e = some rs') : Back K mg G H vs rs G' H' rs' := by
  refine ⟨ex', ⟨S.gh, S.fh.tb⟩, fun b o h1 h2 h3 => ?_, ⟨vw.1.trans (backD_len hb).symm, fun j v r' hv hr' => ?_⟩, fun j r' hr' ho => ?_⟩
  · have hf := foreign_at (rs := rs) (vs := vs) h1 h2 h3
    refine ⟨?_, S.dj b _ hf⟩
    have z := S.fh.on b _ hf
    cases o <;> exact z
  · obtain ⟨r, h1, h2⟩ := backD_get hb hr'
    rcases h2 with ⟨ho, he⟩ | ⟨ho, rfl⟩
    · obtain ⟨u, hu, w⟩ := S.val j r' he
      have := S.pin (0 + j, v) (own_pin h1 hv ho)
      rw [Nat.zero_add] at this
      rw [this] at hu; cases hu
      exact w
    · have w := vw.2 j v r' hv h1
      cases r' with
      | sh d => exact Den.mono ex' w
      | _ => cases ho
  · obtain ⟨r, h1, h2⟩ := backD_get hb hr'
    rcases h2 with ⟨ho', _⟩ | ⟨ho', rfl⟩
    · exact ⟨r, h1, ho'⟩
    · rw [ho'] at ho; cases ho
theorem end_tmp {G' H' : Hp} {σ' : L2.St} {e : DEnv} {rs' : List RV} {v : V} {r : RV} (vw : Views K mg G H vs rs) (ex' : Ex G G') (S : SRel K mg (foreign G H vs rs) (pinsOf 0 vs rs) G' H' σ' e (tmps v r)) (hb : backD rs e = some rs') : TmpOk H vs rs rs' v r := fun a m => by
  obtain ⟨h1, h2, o, h3⟩ := S.tmp a m
  refine ⟨?_, fun ⟨j, r', g1, g2, g3⟩ => ?_⟩
  · by_cases z : H a = none
    · exact .inl z
    · exact .inr (foreign_none h1 z (by
        cases q : G a with
        | none => rfl
        | some u => rw [ex' a u q] at h2; cases h2))
  · obtain ⟨r0, k1, k2⟩ := backD_get hb g1
    rcases k2 with ⟨ho, he⟩ | ⟨ho, rfl⟩
    · have := S.pin (0 + j, .ref a) (own_pin k1 g3 ho)
      rw [Nat.zero_add] at this
      exact (S.nof j r' a he g2 this).2 m
    · rw [ho] at g2; cases g2
end
/-- THE RULE: a def whose body is worth s -/
theorem fn_ok {Pr : Program} {w : World} {K : PySem.W.Frag} {mg : Str → Option Value} {base : Heap} {x qual : Str} {params : Arguments} {body : List Stmt} {scope : Scope} {dvs : List V} {kws : List (Str × V)} {f : Addr} {fd : FuncData} {N ps : List Str} {k : Nat} {s : List Nat → MS}
    (F : FunD K x qual params body scope dvs kws f fd) (S : FnScope N ps scope)
    (hbody : ∀ (pn : List Nat) (cdv : Value) (A : Around) (outer : List Env) (sh : Shared) (H : Hp) (E : XK), Room k (A.deeper (envOfC qual scope sh.heap.objs.size f cdv)) →
      QSs (cxOf (L2.CX Pr w) Pr w K mg base N qual scope f cdv A outer sh H E) (fun cls d _ H => E cls d H) pn body (s pn)) :
    FnOk Pr w K mg base (L2.CX Pr w) (k + 1) f fd ps (spOf K mg ps.length (runD N.length s)) := by
  have hpl : ps.length ≤ N.length := by have := congrArg List.length S.pre; rw [List.length_take] at this; omega
  refine F.ok S (fun vs H Q E h => ?_) (fun cdv A outer sh H vs Q E hr h => ?_)
  · obtain ⟨G, rs, _, hl, _⟩ := h; exact hl
  · obtain ⟨G, rs, ex, hl, vw, ds, q⟩ := h
    refine ⟨rdS K mg (fun cls d _ H => E cls d H) (foreign G H vs rs) (pinsOf 0 vs rs) (s (ownIx 0 rs)), hbody (ownIx 0 rs) cdv A outer sh H E hr (foreign G H vs rs) (pinsOf 0 vs rs) (pins_ix vw.1), G, _, start_rel ex vw ds (by rw [hl]; exact hpl), ?_⟩
    unfold runD at q
    cases z : s (ownIx 0 rs) (rs.map some ++ List.replicate (N.length - rs.length) none) with
    | nx e =>
      simp only [z] at q
      cases z2 : backD rs e with
      | none => simp only [z2] at q; exact q.elim
      | some rs' =>
        simp only [z2] at q
        exact fun σ' G' H' ex' S' => q .non G' H' (end_back ex.1 vw ex' S' z2) Den.non (fun a m => by cases m)
    | rt r e =>
      simp only [z] at q
      cases z2 : backD rs e with
      | none => simp only [z2] at q; exact q.elim
      | some rs' =>
        simp only [z2] at q
        exact fun v σ' G' H' ex' wv S' => q v G' H' (end_back ex.1 vw ex' S' z2) wv (end_tmp vw ex' S' z2)
    | err x e =>
      simp only [z] at q
      cases z2 : backD rs e with
      | none => simp only [z2] at q; exact q.elim
      | some rs' =>
        simp only [z2] at q
        exact fun cls d σ' G' H' ex' hx S' => q cls d G' H' (end_back ex.1 vw ex' S' z2) hx
    | bk e => simp only [z] at q; exact q.elim
    | ct e => simp only [z] at q; exact q.elim
    | stk => simp only [z] at q; exact q.elim
end Z
/-! Z: calls with keywords and defaults, classes -/
namespace Z
open PySem PySem.Spec PyProof.Rows L2
/-! ### how arguments come to parameters -/
/-- a parameter's source: an argument by its place (positional ones, then keywords), or a default -/
abbrev Src := Sum Nat D
def SrcV (K : PySem.W.Frag) (mg : Str → Option Value) (us : List Value) : Src → Value → Prop
  | .inl i, z => us[i]? = some z
  | .inr d, z => ∃ v, RelV v z ∧ ∀ G, Den K mg G v d
structure Bnd (K : PySem.W.Frag) (mg : Str → Option Value) (fd : FuncData) (ps : List Str) (np : Nat) (ks : List Str) (arr : List Src) : Prop where
  len : arr.length = ps.length
  to : ∀ (s : Shared) (us ws : List Value), K.In s.heap → us.length = np → ws.length = ks.length → ∃ zs : List Value, zs.length = arr.length ∧ (∀ (j : Nat) (c : Src) (z : Value), arr[j]? = some c → zs[j]? = some z → SrcV K mg (us ++ ws) c z) ∧ BindsTo s fd ⟨us, ks.zip ws⟩ (ps.zip zs)
def srcO (os : List Opd) : Src → Option Opd
  | .inl i => os[i]?
  | .inr d => some (.val d)
def arrO (os : List Opd) : List Src → Option (List Opd)
  | [] => some []
  | c :: cs => match srcO os c, arrO os cs with
    | some o, some r => some (o :: r)
    | _, _ => none
theorem arrO_len {os : List Opd} : ∀ {arr : List Src} {r : List Opd}, arrO os arr = some r → r.length = arr.length
  | [], r, h => by cases h; rfl
  | c :: cs, r, h => by
    unfold arrO at h
    split at h
    · rename_i o r' q1 q2; cases h; simp [arrO_len q2]
    · cases h
theorem arrO_get {os : List Opd} : ∀ {arr : List Src} {r : List Opd} {j : Nat} {c : Src}, arrO os arr = some r → arr[j]? = some c → ∃ o, r[j]? = some o ∧ srcO os c = some o
  | [], r, j, c, h, e => by simp at e
  | c :: cs, r, j, c', h, e => by
    unfold arrO at h
    split at h
    · rename_i o r' q1 q2; cases h
      cases j with
      | zero => simp at e; subst e; exact ⟨o, rfl, q1⟩
      | succ j =>
        obtain ⟨o', a, b⟩ := arrO_get q2 (by simpa using e)
        exact ⟨o', by simpa using a, b⟩
    · cases h
theorem Vals.getU : ∀ {xs : List V} {us : List Value} {i : Nat} {u : Value}, Vals xs us → us[i]? = some u → ∃ x, xs[i]? = some x ∧ RelV x u
  | _, _, _, _, .nil, e => by simp at e
  | _, _, 0, _, .cons r _, e => by simp at e; subst e; exact ⟨_, rfl, r⟩
  | _, _, i + 1, u, .cons _ t, e => by
    obtain ⟨x, h1, h2⟩ := Vals.getU (i := i) (u := u) t (by simpa using e)
    exact ⟨x, by simpa using h1, h2⟩
theorem vals_of {P : Nat → V → Prop} : ∀ {zs : List Value} (n : Nat), (∀ (j : Nat) (z : Value), zs[j]? = some z → ∃ v, RelV v z ∧ P (n + j) v) → ∃ vs, Vals vs zs ∧ ∀ (j : Nat) (v : V), vs[j]? = some v → P (n + j) v
  | [], n, h => ⟨[], .nil, fun j v e => by simp at e⟩
  | z :: zs, n, h => by
    obtain ⟨v, r, p⟩ := h 0 z rfl
    obtain ⟨vs, rs, ps⟩ := vals_of (P := P) (zs := zs) (n + 1) fun j z' e => by
      obtain ⟨v', r', p'⟩ := h (j + 1) z' (by simpa using e)
      exact ⟨v', r', by rw [show n + 1 + j = n + (j + 1) by omega]; exact p'⟩
    refine ⟨v :: vs, .cons r rs, fun j v' e => ?_⟩
    cases j with
    | zero => simp at e; subst e; exact p
    | succ j => have := ps j v' (by simpa using e); rw [show n + 1 + j = n + (j + 1) by omega] at this; exact this
/-- the arranged arguments, as values and as operands -/
theorem arranged {K : PySem.W.Frag} {mg : Str → Option Value} {G : Hp} {σ : L2.St} {arr : List Src} {us zs : List Value} {vs : List V} {os r : List Opd} (hz : zs.length = arr.length) (hs : ∀ (j : Nat) (c : Src) (z : Value), arr[j]? = some c → zs[j]? = some z → SrcV K mg us c z)
    (rv : Vals vs us) (ho : OpdRs K mg G σ vs os) (ha : arrO os arr = some r) : ∃ vz, Vals vz zs ∧ OpdRs K mg G σ vz r := by
  obtain ⟨vz, r1, p⟩ := vals_of (zs := zs) (P := fun j v => ∀ o, r[j]? = some o → OpdR K mg G σ v o) 0 fun j z e => by
    have hj : j < arr.length := by rw [← hz]; exact (List.getElem?_eq_some_iff.mp e).1
    have hc : arr[j]? = some arr[j] := by simp [hj]
    obtain ⟨o, g1, g2⟩ := arrO_get ha hc
    have hsrc := hs j _ z hc e
    cases hq : arr[j] with
    | inl i =>
      rw [hq] at hsrc g2
      have hsrc : us[i]? = some z := hsrc
      obtain ⟨v, h1, h2⟩ := Vals.getU rv hsrc
      refine ⟨v, h2, fun o' e' => ?_⟩
      rw [Nat.zero_add, g1] at e'; cases e'
      exact ho.2 i v o h1 g2
    | inr d =>
      rw [hq] at hsrc g2
      obtain ⟨v, h1, h2⟩ := hsrc
      refine ⟨v, h1, fun o' e' => ?_⟩
      rw [Nat.zero_add, g1] at e'; cases e'
      cases g2
      exact h2 G
  refine ⟨vz, r1, ?_, fun j v o e1 e2 => ?_⟩
  · rw [r1.length, hz, arrO_len ha]
  · have := p j v e1; rw [Nat.zero_add] at this; exact this o e2
def QK (X : Cx) (W : WX) (pn : List Nat) (kws : List Keyword) (m : M (List Opd)) : Prop := ∀ Fh P, P.map (·.1) = pn → PK X kws (rdOs X.K X.mg W Fh P m)
theorem PK.weak {X : Cx} {e : List Keyword} {t t' : TA} (h : PK X e t) (w : ∀ σ H Q, t' σ H Q → t σ H Q) : PK X e t' := ⟨fun pos pins s σ H Q I q => h.run pos pins s σ H Q I (w σ H Q q)⟩
section
variable {X : Cx} {W : WX} {pn : List Nat} {pos : Pos}
theorem qk_nil : QK X W pn [] nilO := fun Fh P hp => PK.weak pk_nil fun σ H Q ⟨G, env, S, q⟩ => q [] G H (Ex.refl _) .nil S
theorem qk_cons {nm : Option Str} {e : Expr} {kpos : Pos} {kws : List Keyword} {m : M Opd} {ms : M (List Opd)} (h : QO X W pn e m) (t : QK X W pn kws ms) : QK X W pn (⟨nm, e, kpos⟩ :: kws) (consO m ms) := fun Fh P hp =>
  PK.weak (pk_cons (h Fh P hp) (t Fh P hp)) fun σ H Q ⟨G, env, S, q⟩ => by
    refine ⟨G, env, S, PO_Os q fun o e' v G1 H1 ex w S1 hk => ?_⟩
    refine ⟨G1, e', S1, POs_Os hk fun os e2 vs G2 H2 ex2 w2 S2 hk2 => ?_⟩
    exact hk2 (v :: vs) G2 H2 (Ex.refl _) (.cons (w.mono ex2) w2) S2
/-- the callee runs, its arguments bound -/
theorem run_anyS {CX : CXT} {k : Nat} {f : Addr} {fd : FuncData} {ps : List Str} {sp : Sp} {E : XK} {pins : List (Addr × Obj)} {σ : L2.St} {H : Hp} {s : Shared} {Q : VK} {us zs : List Value} {kw : List (Str × Value)} {vz : List V} (F : FnOk X.prog X.w X.K X.mg X.base CX k f fd ps sp) (hr : Room k X.A) (hx : PassesAt CX X σ E)
    (I : Inv X pins σ H s) (hb : BindsTo s fd ⟨us, kw⟩ (ps.zip zs)) (r : Vals vz zs) (h : sp vz H Q E) : wpAny (model X.prog X.w) X.A (call (.ref f) us kw) (EP X pins σ Q) X.xe s := by
  refine wpAny_call (codeAny_mono (F.run X.A X.stack s H ⟨us, kw⟩ zs vz Q E hr I.env0 hb r h) fun r s' hq => ?_)
  cases r with
  | error e => exact hx pins H s e s' I hq
  | ok fl =>
    cases fl with
    | ret u => exact I.after hq
    | next => exact False.elim hq
    | brk => exact False.elim hq
    | cont => exact False.elim hq
/-- the arguments of a call -/
theorem args_run {fv : Value} {first : List Value} {e : Expr} {rest : List Expr} {kws : List Keyword} {ks : List Str} {t tk : TA} {pins : List (Addr × Obj)} {σ : L2.St} {H : Hp} {s : Shared} {R : List V → List V → Hp → Prop} {Q : Value → Shared → Prop} (I : Inv X pins σ H s) (hk : PySem.W.keepIn X.K fv = true)
    (ha : PA X (e :: rest) t) (hkw : PK X kws tk) (h : t σ H fun vs H1 => tk σ H1 fun zs H2 => R vs zs H2) (hall : (backToKw pos (keywordEach kws X.env)).all (·.1.isSome) = true) (hks : (backToKw pos (keywordEach kws X.env)).filterMap (·.1) = ks)
    (hst : starEach (e :: rest) X.env = (false, eval e X.env) :: starEach rest X.env) (hpl : ((backTo pos (starEach (e :: rest) X.env)).any (·.1) || (backToKw pos (keywordEach kws X.env)).any (·.1.isNone)) = false)
    (hc : ∀ us ws vs zs s2 H2, Inv X pins σ H2 s2 → Vals vs us → Vals zs ws → R vs zs H2 → wpAny (model X.prog X.w) X.A (call fv (first ++ us) (ks.zip ws)) Q X.xe s2) :
    wpAny (model X.prog X.w) X.A (callWith pos fv first (backTo pos (starEach (e :: rest) X.env)) (backToKw pos (keywordEach kws X.env))) Q X.xe s := by
  refine PySem.W.callWith_KW (h₀ := X.base) I.ok.mod.kin hk hall (thn (ha.run pos pins s σ H _ I h) fun us s1 ⟨vs, H1, I1, r, q⟩ => ?_) hpl hst
  refine thn (hkw.run pos pins s1 σ H1 _ I1 q) fun ws s2 ⟨zs, H2, I2, rz, q2⟩ => ⟨I2.kIn, ?_⟩
  rw [hks]
  exact hc us ws vs zs s2 H2 I2 r rz q2
theorem args_run0 {fv : Value} {first : List Value} {kws : List Keyword} {ks : List Str} {tk : TA} {pins : List (Addr × Obj)} {σ : L2.St} {H : Hp} {s : Shared} {R : List V → Hp → Prop} {Q : Value → Shared → Prop} (I : Inv X pins σ H s) (hk : PySem.W.keepIn X.K fv = true)
    (hkw : PK X kws tk) (h : tk σ H fun zs H2 => R zs H2) (hall : (backToKw pos (keywordEach kws X.env)).all (·.1.isSome) = true) (hks : (backToKw pos (keywordEach kws X.env)).filterMap (·.1) = ks)
    (hpl : ((backTo pos (starEach [] X.env)).any (·.1) || (backToKw pos (keywordEach kws X.env)).any (·.1.isNone)) = false)
    (hc : ∀ ws zs s2 H2, Inv X pins σ H2 s2 → Vals zs ws → R zs H2 → wpAny (model X.prog X.w) X.A (call fv first (ks.zip ws)) Q X.xe s2) :
    wpAny (model X.prog X.w) X.A (callWith pos fv first (backTo pos (starEach [] X.env)) (backToKw pos (keywordEach kws X.env))) Q X.xe s := by
  refine PySem.W.callWith_KW0 (h₀ := X.base) I.ok.mod.kin hk hall (thn (hkw.run pos pins s σ H _ I h) fun ws s2 ⟨zs, H2, I2, rz, q2⟩ => ⟨I2.kIn, ?_⟩) hpl
  rw [hks, List.append_nil]
  exact hc ws zs s2 H2 I2 rz q2
theorem OpdRs.app {K : PySem.W.Frag} {mg : Str → Option Value} {G : Hp} {σ : L2.St} {vs ws : List V} {os ps : List Opd} (a : OpdRs K mg G σ vs os) (b : OpdRs K mg G σ ws ps) : OpdRs K mg G σ (vs ++ ws) (os ++ ps) := by
  induction os generalizing vs with
  | nil => rw [a.nil_inv]; exact b
  | cons o os ih =>
    obtain ⟨v, vs, rfl, h1, h2⟩ := a.cons_ex
    exact .cons h1 (ih h2)
/-! ### f(..) of a def, a method, a class -/
def finA (f : FnD) (arr : List Src) (os : List Opd) (env : DEnv) : Res RV := match arrO os arr with
  | some r => finF f r env
  | none => .stk
def fnA (f : FnD) (arr : List Src) (mp mk : M (List Opd)) : M RV := bindM mp fun os1 => bindM mk fun os2 => finA f arr (os1 ++ os2)
theorem finA_ok {K : PySem.W.Frag} {mg : Str → Option Value} {Fh : FHp} {P : List (Nat × V)} {G H : Hp} {σ : L2.St} {env : DEnv} {f : FnD} {arr : List Src} {n : Nat} {E : XK} {Q : VK} {us zs : List Value} {vs : List V} {os : List Opd} (S : SRel K mg Fh P G H σ env []) (ho : OpdRs K mg G σ vs os) (rv : Vals vs us)
    (hz : zs.length = arr.length) (hs : ∀ (j : Nat) (c : Src) (z : Value), arr[j]? = some c → zs[j]? = some z → SrcV K mg us c z) (hn : arr.length = n) (q : PV K mg W Fh P σ G Q (finA f arr os env)) (hE : ∀ cls d H', E cls d H' ↔ W cls d σ H') : ∃ vz, Vals vz zs ∧ spOf K mg n f vz H Q E := by
  unfold finA at q
  cases e : arrO os arr with
  | none => simp only [e] at q; exact q.elim
  | some r =>
    simp only [e] at q
    obtain ⟨vz, r1, r2⟩ := arranged hz hs rv ho e
    exact ⟨vz, r1, finF_ok S r2 ((arrO_len e).trans hn) q hE⟩
/-- two rounds of arguments -/
theorem two_args {K : PySem.W.Frag} {mg : Str → Option Value} {Fh : FHp} {P : List (Nat × V)} {G : Hp} {σ : L2.St} {env : DEnv} {mp mk : M (List Opd)} {k : List Opd → M RV} {Q : VK} {R : List V → List V → Hp → Prop} (q : PV K mg W Fh P σ G Q (bindM mp (fun os1 => bindM mk fun os2 => k (os1 ++ os2)) env))
    (hk : ∀ os1 os2 e vs zs G' H', Ex G G' → OpdRs K mg G' σ vs os1 → OpdRs K mg G' σ zs os2 → SRel K mg Fh P G' H' σ e [] → PV K mg W Fh P σ G' Q (k (os1 ++ os2) e) → R vs zs H') :
    POs K mg W Fh P σ G (fun vs H1 => rdOs K mg W Fh P mk σ H1 fun zs H2 => R vs zs H2) (mp env) :=
  POs_V q fun os1 e1 vs G1 H1 ex w S1 h1 => ⟨G1, e1, S1, POs_V h1 fun os2 e2 zs G2 H2 ex2 w2 S2 h2 => hk os1 os2 e2 vs zs G2 H2 (ex.trans ex2) (w.mono ex2) w2 S2 h2⟩
theorem Vals.app {xs ys : List V} {us ws : List Value} (a : Vals xs us) (b : Vals ys ws) : Vals (xs ++ ys) (us ++ ws) := a.append b
theorem qv_fn {k np : Nat} {f : Addr} {fd : FuncData} {ps ks : List Str} {x : Str} {p : Pos} {e : Expr} {es : List Expr} {kws : List Keyword} {fD : FnD} {arr : List Src} {mp mk : M (List Opd)} (F : FnOk X.prog X.w X.K X.mg X.base (L2.CX X.prog X.w) k f fd ps (spOf X.K X.mg ps.length fD)) (tk : Takes X W) (hr : Room k X.A) (hg : Gl X x) (hm : X.mg x = some (.ref f))
    (hk : PySem.W.keepIn X.K (.ref f) = true) (hb : Bnd X.K X.mg fd ps np ks arr) (ha : QOs X W pn (e :: es) mp) (hkw : QK X W pn kws mk) (hnp : (e :: es).length = np) (hnk : kws.length = ks.length)
    (hall : (backToKw pos (keywordEach kws X.env)).all (·.1.isSome) = true) (hks : (backToKw pos (keywordEach kws X.env)).filterMap (·.1) = ks) (hdb : (x == ("__debug__" : Str)) = false)
    (hst : starEach (e :: es) X.env = (false, eval e X.env) :: starEach es X.env) (hpl : ((backTo pos (starEach (e :: es) X.env)).any (·.1) || (backToKw pos (keywordEach kws X.env)).any (·.1.isNone)) = false)
    (hlp : ∀ env os e', mp env = .ok os e' → os.length = np) (hlk : ∀ env os e', mk env = .ok os e' → os.length = ks.length) :
    QV X W pn (.Call (.Name x p) (e :: es) kws pos) (fnA fD arr mp mk) := fun Fh P hp => ⟨fun pins s σ H Q I ⟨G, env, S, q⟩ => by
  refine wpAny_Call_Name_kw (ld_glob I hg hm ?_ hdb)
  have h0 : rdOs X.K X.mg W Fh P mp σ H fun vs H1 => rdOs X.K X.mg W Fh P mk σ H1 fun zs H2 => vs.length = np ∧ zs.length = ks.length ∧ ∃ (os : List Opd) (G' : Hp) (e' : DEnv), SRel X.K X.mg Fh P G' H2 σ e' [] ∧ OpdRs X.K X.mg G' σ (vs ++ zs) os ∧ PV X.K X.mg W Fh P σ G' Q (finA fD arr os e') := by
    refine ⟨G, env, S, ?_⟩
    unfold fnA bindM at q
    cases z1 : mp env with
    | err x e1 => simp only [z1] at q; exact q
    | stk => simp only [z1] at q; exact q
    | ok os1 e1 =>
      simp only [z1] at q
      intro vs G1 H1 ex w S1
      refine ⟨G1, e1, S1, ?_⟩
      cases z2 : mk e1 with
      | err x e2 => simp only [z2] at q; exact PErr.mono ex q
      | stk => simp only [z2] at q; exact q
      | ok os2 e2 =>
        simp only [z2] at q
        intro zs G2 H2 ex2 w2 S2
        exact ⟨by rw [w.1]; exact hlp _ _ _ z1, by rw [w2.1]; exact hlk _ _ _ z2, os1 ++ os2, G2, e2, S2, (w.mono ex2).app w2, PV.mono (ex.trans ex2) q⟩
  refine args_run (X := X) (first := []) I hk (ha Fh P hp) (hkw Fh P hp) h0 hall hks hst hpl fun us ws vs zs s2 H2 I2 r rz ⟨l1, l2, os, G', e', S', ho, q'⟩ => ?_
  obtain ⟨zz, b1, b2, b3⟩ := hb.to s2 us ws I2.kIn (by rw [← r.length]; exact l1) (by rw [← rz.length]; exact l2)
  obtain ⟨vz, r1, hsp⟩ := finA_ok (E := WE W σ) S' ho (r.append rz) b1 b2 hb.len q' fun _ _ _ => Iff.rfl
  exact run_anyS F hr (passAt tk σ) I2 b3 r1 hsp⟩
end
end Z
namespace Z
open PySem PySem.Spec PyProof.Rows L2
section
variable {X : Cx} {W : WX} {pn : List Nat} {pos : Pos}
/-- the two rounds of arguments, their ends kept -/
theorem rd_two {Fh : FHp} {P : List (Nat × V)} {np nk : Nat} {mp mk : M (List Opd)} {k : List Opd → M RV} {σ : L2.St} {H : Hp} {Q : VK} {G : Hp} {env : DEnv} (S : SRel X.K X.mg Fh P G H σ env []) (q : PV X.K X.mg W Fh P σ G Q (bindM mp (fun os1 => bindM mk fun os2 => k (os1 ++ os2)) env)) (hlp : ∀ env os e', mp env = .ok os e' → os.length = np) (hlk : ∀ env os e', mk env = .ok os e' → os.length = nk) :
    rdOs X.K X.mg W Fh P mp σ H fun vs H1 => rdOs X.K X.mg W Fh P mk σ H1 fun zs H2 => vs.length = np ∧ zs.length = nk ∧ ∃ (os : List Opd) (G' : Hp) (e' : DEnv), Ex G G' ∧ SRel X.K X.mg Fh P G' H2 σ e' [] ∧ OpdRs X.K X.mg G' σ (vs ++ zs) os ∧ PV X.K X.mg W Fh P σ G' Q (k os e') := by
  refine ⟨G, env, S, ?_⟩
  unfold bindM at q
  cases z1 : mp env with
  | err x e1 => simp only [z1] at q; exact q
  | stk => simp only [z1] at q; exact q
  | ok os1 e1 =>
    simp only [z1] at q
    intro vs G1 H1 ex w S1
    refine ⟨G1, e1, S1, ?_⟩
    cases z2 : mk e1 with
    | err x e2 => simp only [z2] at q; exact PErr.mono ex q
    | stk => simp only [z2] at q; exact q
    | ok os2 e2 =>
      simp only [z2] at q
      intro zs G2 H2 ex2 w2 S2
      exact ⟨by rw [w.1]; exact hlp _ _ _ z1, by rw [w2.1]; exact hlk _ _ _ z2, os1 ++ os2, G2, e2, ex.trans ex2, S2, (w.mono ex2).app w2, PV.mono (ex.trans ex2) q⟩
theorem rd_one {Fh : FHp} {P : List (Nat × V)} {nk : Nat} {mk : M (List Opd)} {k : List Opd → M RV} {σ : L2.St} {H : Hp} {Q : VK} {G : Hp} {env : DEnv} (S : SRel X.K X.mg Fh P G H σ env []) (q : PV X.K X.mg W Fh P σ G Q (bindM nilO (fun os1 => bindM mk fun os2 => k (os1 ++ os2)) env)) (hlk : ∀ env os e', mk env = .ok os e' → os.length = nk) :
    rdOs X.K X.mg W Fh P mk σ H fun zs H2 => zs.length = nk ∧ ∃ (os : List Opd) (G' : Hp) (e' : DEnv), Ex G G' ∧ SRel X.K X.mg Fh P G' H2 σ e' [] ∧ OpdRs X.K X.mg G' σ zs os ∧ PV X.K X.mg W Fh P σ G' Q (k os e') := by
  refine ⟨G, env, S, ?_⟩
  unfold bindM nilO at q
  simp only [List.nil_append] at q
  cases z2 : mk env with
  | err x e2 => simp only [z2] at q; exact q
  | stk => simp only [z2] at q; exact q
  | ok os2 e2 =>
    simp only [z2] at q
    intro zs G2 H2 ex2 w2 S2
    exact ⟨by rw [w2.1]; exact hlk _ _ _ z2, os2, G2, e2, ex2, S2, w2, PV.mono ex2 q⟩
theorem qv_fn0 {k : Nat} {f : Addr} {fd : FuncData} {ps ks : List Str} {x : Str} {p : Pos} {kws : List Keyword} {fD : FnD} {arr : List Src} {mk : M (List Opd)} (F : FnOk X.prog X.w X.K X.mg X.base (L2.CX X.prog X.w) k f fd ps (spOf X.K X.mg ps.length fD)) (tk : Takes X W) (hr : Room k X.A) (hg : Gl X x) (hm : X.mg x = some (.ref f))
    (hk : PySem.W.keepIn X.K (.ref f) = true) (hb : Bnd X.K X.mg fd ps 0 ks arr) (hkw : QK X W pn kws mk) (hnk : kws.length = ks.length)
    (hall : (backToKw pos (keywordEach kws X.env)).all (·.1.isSome) = true) (hks : (backToKw pos (keywordEach kws X.env)).filterMap (·.1) = ks) (hdb : (x == ("__debug__" : Str)) = false)
    (hpl : ((backTo pos (starEach [] X.env)).any (·.1) || (backToKw pos (keywordEach kws X.env)).any (·.1.isNone)) = false) (hlk : ∀ env os e', mk env = .ok os e' → os.length = ks.length) :
    QV X W pn (.Call (.Name x p) [] kws pos) (fnA fD arr nilO mk) := fun Fh P hp => ⟨fun pins s σ H Q I ⟨G, env, S, q⟩ => by
  refine wpAny_Call_Name_kw (ld_glob I hg hm ?_ hdb)
  refine args_run0 (X := X) (first := []) I hk (hkw Fh P hp) (rd_one S q hlk) hall hks hpl fun ws zs s2 H2 I2 rz ⟨l2, os, G', e', _, S', ho, q'⟩ => ?_
  obtain ⟨zz, b1, b2, b3⟩ := hb.to s2 [] ws I2.kIn rfl (by rw [← rz.length]; exact l2)
  obtain ⟨vz, r1, hsp⟩ := finA_ok (E := WE W σ) (us := [] ++ ws) S' ho rz b1 b2 hb.len q' fun _ _ _ => Iff.rfl
  exact run_anyS F hr (passAt tk σ) I2 b3 r1 hsp⟩
/-! ### methods -/
def clsR : RV → Option (Str × List (Str × D))
  | .sh (.obj c fs) => some (c, fs)
  | .oo c fs => some (c, fs)
  | _ => none
theorem View.cls {K : PySem.W.Frag} {mg : Str → Option Value} {G H : Hp} (ex : Ex G H) {v : V} {r : RV} {c : Str} {fs : List (Str × D)} (w : View K mg G H v r) (e : clsR r = some (c, fs)) : ∃ a C dx gs, v = .ref a ∧ mg c = some (.ref C) ∧ H a = some (.ins C dx gs) ∧ DenA K mg G gs fs := by
  unfold clsR at e
  split at e
  · cases e
    cases w with
    | obj h1 h2 h3 h4 => exact ⟨_, _, _, _, rfl, h1, ex _ _ h2, h3, h4⟩
  · cases e
    obtain ⟨a, o, rfl, h1, h2, h3⟩ := w
    cases o <;> first | exact h3.elim | exact ⟨a, _, _, _, rfl, h3.1, h1, h3.2⟩
  · cases e
def methA (c m : Str) (f : FnD) (arr : List Src) (mo : M Opd) (mp mk : M (List Opd)) : M RV := bindM mo fun o e => match (resolve e o).bind clsR with
  | some (c', fs) => if c' = c ∧ fs.lookup m = none then bindM mp (fun os1 => bindM mk fun os2 => finA f arr (o :: (os1 ++ os2))) e else .stk
  | none => .stk
theorem qv_meth {k np : Nat} {f C : Addr} {fd : FuncData} {ps ks : List Str} {c m : Str} {apos : Pos} {ob e : Expr} {es : List Expr} {kws : List Keyword} {fD : FnD} {arr : List Src} {mo : M Opd} {mp mk : M (List Opd)} {pl : Sem Bool} (F : FnOk X.prog X.w X.K X.mg X.base (L2.CX X.prog X.w) k f fd ps (spOf X.K X.mg ps.length fD)) (tk : Takes X W) (hr : Room k X.A)
    (hmc : X.mg c = some (.ref C)) (hc : Cls X.K C) (hM : Meth X.K C m f) (hb : Bnd X.K X.mg fd ps (np + 1) ks arr) (ho : QO X W pn ob mo) (ha : QOs X W pn (e :: es) mp) (hkw : QK X W pn kws mk)
    (hall : (backToKw pos (keywordEach kws X.env)).all (·.1.isSome) = true) (hks : (backToKw pos (keywordEach kws X.env)).filterMap (·.1) = ks)
    (hst : starEach (e :: es) X.env = (false, eval e X.env) :: starEach es X.env) (hpl : ((backTo pos (starEach (e :: es) X.env)).any (·.1) || (backToKw pos (keywordEach kws X.env)).any (·.1.isNone)) = false)
    (hlp : ∀ env os e', mp env = .ok os e' → os.length = np) (hlk : ∀ env os e', mk env = .ok os e' → os.length = ks.length)
    (ht : eval (.Call (.Attribute ob m apos) (e :: es) kws pos) X.env = (do
      let ov ← eval ob X.env
      standAt apos.atName
      let (f, first) ← holding [ov] (getMethod ov m pl)
      callWith pos f first (backTo pos (starEach (e :: es) X.env)) (backToKw pos (keywordEach kws X.env)))) :
    QV X W pn (.Call (.Attribute ob m apos) (e :: es) kws pos) (methA c m fD arr mo mp mk) := fun Fh P hp => ⟨fun pins s σ H Q I ⟨G, env, S, q⟩ => by
  refine PySem.W.methodCall_KW (pl := pl) (thn ((ho Fh P hp).run pins s σ H (fun v H1 => ∃ a dx gs o e1 G1, v = .ref a ∧ H1 a = some (.ins C dx gs) ∧ gs.lookup m = none ∧ SRel X.K X.mg Fh P G1 H1 σ e1 [] ∧ OpdR X.K X.mg G1 σ v o ∧ PV X.K X.mg W Fh P σ G1 Q (bindM mp (fun os1 => bindM mk fun os2 => finA fD arr (o :: (os1 ++ os2))) e1)) I ?_) fun u s1 ⟨x, H1, I1, rx, a, dx, gs, o, e1, G1, ex, ea, l, S1, hO, q1⟩ => ?_) ht
  · refine ⟨G, env, S, PO_V q fun o e1 v G1 H1 ex w S1 hk => ?_⟩
    cases z : (resolve e1 o).bind clsR with
    | none => simp only [z] at hk; exact hk.elim
    | some pr =>
      obtain ⟨c', fs⟩ := pr
      simp only [z] at hk
      by_cases hcc : c' = c ∧ fs.lookup m = none
      · rw [if_pos hcc] at hk
        obtain ⟨rfl, hl⟩ := hcc
        simp only [Option.bind_eq_some_iff] at z
        obtain ⟨r, y1, y2⟩ := z
        obtain ⟨a, C', dx, gs, rfl, g1, g2, g3⟩ := (S1.resolve w y1).cls S1.gh y2
        rw [hmc] at g1; cases g1
        exact ⟨a, dx, gs, o, e1, G1, rfl, g2, g3.none hl, S1, w, hk⟩
      · rw [if_neg hcc] at hk; exact hk.elim
  · subst ex
    obtain rfl : u = Value.ref a := rx
    refine getmeth_ok I1 ea hc hM l ?_
    refine args_run (X := X) (first := [.ref a]) I1 hM.kp (ha Fh P hp) (hkw Fh P hp) (rd_two (k := fun os => finA fD arr (o :: os)) S1 q1 hlp hlk) hall hks hst hpl fun us ws vs zs s2 H2 I2 r rz ⟨l1, l2, os, G', e', exg, S', hos, q'⟩ => ?_
    obtain ⟨zz, b1, b2, b3⟩ := hb.to s2 (.ref a :: us) ws I2.kIn (by rw [List.length_cons, ← r.length, l1]) (by rw [← rz.length]; exact l2)
    obtain ⟨vz, r1, hsp⟩ := finA_ok (E := WE W σ) (us := .ref a :: us ++ ws) S' (OpdRs.cons (hO.mono exg) hos) (.cons rfl (r.append rz)) b1 b2 hb.len q' fun _ _ _ => Iff.rfl
    exact run_anyS F hr (passAt tk σ) I2 b3 r1 hsp⟩
theorem qv_meth0 {k : Nat} {f C : Addr} {fd : FuncData} {ps ks : List Str} {c m : Str} {apos : Pos} {ob : Expr} {kws : List Keyword} {fD : FnD} {arr : List Src} {mo : M Opd} {mk : M (List Opd)} {pl : Sem Bool} (F : FnOk X.prog X.w X.K X.mg X.base (L2.CX X.prog X.w) k f fd ps (spOf X.K X.mg ps.length fD)) (tk : Takes X W) (hr : Room k X.A)
    (hmc : X.mg c = some (.ref C)) (hc : Cls X.K C) (hM : Meth X.K C m f) (hb : Bnd X.K X.mg fd ps 1 ks arr) (ho : QO X W pn ob mo) (hkw : QK X W pn kws mk)
    (hall : (backToKw pos (keywordEach kws X.env)).all (·.1.isSome) = true) (hks : (backToKw pos (keywordEach kws X.env)).filterMap (·.1) = ks)
    (hpl : ((backTo pos (starEach [] X.env)).any (·.1) || (backToKw pos (keywordEach kws X.env)).any (·.1.isNone)) = false) (hlk : ∀ env os e', mk env = .ok os e' → os.length = ks.length)
    (ht : eval (.Call (.Attribute ob m apos) [] kws pos) X.env = (do
      let ov ← eval ob X.env
      standAt apos.atName
      let (f, first) ← holding [ov] (getMethod ov m pl)
      callWith pos f first (backTo pos (starEach [] X.env)) (backToKw pos (keywordEach kws X.env)))) :
    QV X W pn (.Call (.Attribute ob m apos) [] kws pos) (methA c m fD arr mo nilO mk) := fun Fh P hp => ⟨fun pins s σ H Q I ⟨G, env, S, q⟩ => by
  refine PySem.W.methodCall_KW (pl := pl) (thn ((ho Fh P hp).run pins s σ H (fun v H1 => ∃ a dx gs o e1 G1, v = .ref a ∧ H1 a = some (.ins C dx gs) ∧ gs.lookup m = none ∧ SRel X.K X.mg Fh P G1 H1 σ e1 [] ∧ OpdR X.K X.mg G1 σ v o ∧ PV X.K X.mg W Fh P σ G1 Q (bindM nilO (fun os1 => bindM mk fun os2 => finA fD arr (o :: (os1 ++ os2))) e1)) I ?_) fun u s1 ⟨x, H1, I1, rx, a, dx, gs, o, e1, G1, ex, ea, l, S1, hO, q1⟩ => ?_) ht
  · refine ⟨G, env, S, PO_V q fun o e1 v G1 H1 ex w S1 hk => ?_⟩
    cases z : (resolve e1 o).bind clsR with
    | none => simp only [z] at hk; exact hk.elim
    | some pr =>
      obtain ⟨c', fs⟩ := pr
      simp only [z] at hk
      by_cases hcc : c' = c ∧ fs.lookup m = none
      · rw [if_pos hcc] at hk
        obtain ⟨rfl, hl⟩ := hcc
        simp only [Option.bind_eq_some_iff] at z
        obtain ⟨r, y1, y2⟩ := z
        obtain ⟨a, C', dx, gs, rfl, g1, g2, g3⟩ := (S1.resolve w y1).cls S1.gh y2
        rw [hmc] at g1; cases g1
        exact ⟨a, dx, gs, o, e1, G1, rfl, g2, g3.none hl, S1, w, hk⟩
      · rw [if_neg hcc] at hk; exact hk.elim
  · subst ex
    obtain rfl : u = Value.ref a := rx
    refine getmeth_ok I1 ea hc hM l ?_
    refine args_run0 (X := X) (first := [.ref a]) I1 hM.kp (hkw Fh P hp) (rd_one (k := fun os => finA fD arr (o :: os)) S1 q1 hlk) hall hks hpl fun ws zs s2 H2 I2 rz ⟨l2, os, G', e', exg, S', hos, q'⟩ => ?_
    obtain ⟨zz, b1, b2, b3⟩ := hb.to s2 [.ref a] ws I2.kIn rfl (by rw [← rz.length]; exact l2)
    obtain ⟨vz, r1, hsp⟩ := finA_ok (E := WE W σ) (us := .ref a :: ws) S' (OpdRs.cons (hO.mono exg) hos) (show Vals (V.ref a :: zs) (Value.ref a :: ws) from .cons rfl rz) b1 b2 hb.len q' fun _ _ _ => Iff.rfl
    exact run_anyS F hr (passAt tk σ) I2 b3 r1 hsp⟩
/-! ### fields -/
def fldF (cs : List Str) (f : Str) (r : RV) : Option RV := match clsR r with
  | some (c, fs) => if c ∈ cs then (fs.lookup f).map .sh else none
  | none => none
theorem qv_fld {cs : List Str} {f : Str} {ob : Expr} {mo : M Opd} (hcs : ∀ c ∈ cs, ∃ C, X.mg c = some (.ref C) ∧ Cls X.K C ∧ NoAttr X.K C f) (ho : QO X W pn ob mo) (hab : attributeBase ob f X.env (eval ob X.env) = eval ob X.env) : QV X W pn (.Attribute ob f pos) (unM (fldF cs f) mo) := fun Fh P hp =>
  PE.weak (pe_fld (ho Fh P hp) hab) fun σ H Q ⟨G, env, S, q⟩ => by
    refine ⟨G, env, S, PO_V q fun o e1 v G1 H1 ex w S1 hk => ?_⟩
    unfold fin1 at hk
    cases z : resolve e1 o with
    | none => simp only [z] at hk; exact hk.elim
    | some r =>
      simp only [z] at hk
      cases z2 : fldF cs f r with
      | none => simp only [z2] at hk; exact hk.elim
      | some c =>
        simp only [z2] at hk
        unfold fldF at z2
        cases z3 : clsR r with
        | none => rw [z3] at z2; cases z2
        | some pr =>
          obtain ⟨c', fs⟩ := pr
          rw [z3] at z2
          simp only at z2
          by_cases hm : c' ∈ cs
          · rw [if_pos hm] at z2
            simp only [Option.map_eq_some_iff] at z2
            obtain ⟨d, y1, rfl⟩ := z2
            obtain ⟨a, C, dx, gs, rfl, g1, g2, g3⟩ := (S1.resolve w z).cls S1.gh z3
            obtain ⟨C', h1, h2, h3⟩ := hcs c' hm
            rw [g1] at h1; cases h1
            obtain ⟨v, k1, k2⟩ := g3.get y1
            exact ⟨a, C, dx, gs, v, rfl, g2, h2, h3, k1, hk v G1 H1 (Ex.refl _) k2 S1⟩
          · rw [if_neg hm] at z2; cases z2
def putD (f : Str) (d : D) : List (Str × D) → List (Str × D)
  | [] => [(f, d)]
  | (g, x) :: r => if g = f then (g, d) :: r else (g, x) :: putD f d r
theorem DenA.put {K : PySem.W.Frag} {mg : Str → Option Value} {G : Hp} {f : Str} {v : V} {d : D} (hv : Den K mg G v d) : ∀ {fs : List (Str × D)} {gs : List (Str × V)}, DenA K mg G gs fs → DenA K mg G (putF f v gs) (putD f d fs)
  | [], gs, h => by
    have : gs = [] := by have := h.1; simpa using this
    subst this
    refine ⟨rfl, fun i p q a b => ?_⟩
    cases i with
    | zero => simp [putF, putD] at a b; subst a; subst b; exact hv
    | succ i => simp [putF] at a
  | (g, x) :: r, [], h => by have := h.1; simp at this
  | (g, x) :: r, (g', y) :: gs, h => by
    obtain ⟨h1, h2⟩ := h
    simp only [List.map_cons, List.cons.injEq] at h1
    obtain ⟨e1, e2⟩ := h1
    subst e1
    have tl : DenA K mg G gs r := ⟨e2, fun i p q a b => h2 (i + 1) p q (by simpa using a) (by simpa using b)⟩
    have hd : Den K mg G y x := h2 0 (g', y) (g', x) rfl rfl
    unfold putF putD
    by_cases z : g' = f
    · rw [if_pos z, if_pos z]
      refine ⟨by simp [e2], fun i p q a b => ?_⟩
      cases i with
      | zero => simp at a b; subst a; subst b; exact hv
      | succ i => exact tl.2 i p q (by simpa using a) (by simpa using b)
    · rw [if_neg z, if_neg z]
      have ih := DenA.put (f := f) hv tl
      refine ⟨by simp [ih.1], fun i p q a b => ?_⟩
      cases i with
      | zero => simp at a b; subst a; subst b; exact hd
      | succ i => exact ih.2 i p q (by simpa using a) (by simpa using b)
theorem DenA.length {K : PySem.W.Frag} {mg : Str → Option Value} {G : Hp} {α : Type} {gs : List (α × V)} {fs : List (α × D)} (h : DenA K mg G gs fs) : gs.length = fs.length := by
  have := congrArg List.length h.1; simpa using this
/-- self.f = e -/
def fldS (cs : List Str) (i : Nat) (f : Str) (mv : M Opd) : MS := bindS mv fun o e => match dOf o e with
  | .ok d e2 => (match slotOf e2 i with
    | some (.oo c fs) => if c ∈ cs ∧ fs.length < 1000 then .nx (e2.set i (some (.oo c (putD f d fs)))) else .stk
    | _ => .stk)
  | _ => .stk
theorem qs_fld {cs : List Str} {f x : Str} {i : Nat} {px p' : Pos} {e : Expr} {mv : M Opd} (hcs : ∀ c ∈ cs, ∃ C, X.mg c = some (.ref C) ∧ Cls X.K C ∧ NoAttr X.K C f) (hN : X.N[i]? = some x) (hv : Vis X.env.scope x) (hd : (x == ("__debug__" : Str)) = false) (hcd : (x == ("__classdict__" : Str)) = false) (he : QO X W pn e mv)
    (hs : swapsWith e (some (.Attribute (.Name x px) f p')) pos.line X.env = pure false) : QS X W pn (.Assign [.Attribute (.Name x px) f p'] e pos) (fldS cs i f mv) := fun Fh P hp =>
  PS.weak (ps_fld (pe_var hN hv hd hcd) (he Fh P hp) hs) fun D σ H ⟨G, env, S, q⟩ => by
    refine ⟨G, env, S, PO_S (σ := σ) q fun o e1 v G1 H1 ex w S1 hk => ?_⟩
    cases z1 : dOf o e1 with
    | err x e2 => exact (dOf_noerr z1).elim
    | stk => simp only [z1] at hk; exact hk.elim
    | ok d e2 =>
      simp only [z1] at hk
      obtain ⟨G2, x2, d2, S2⟩ := S1.dOf w z1
      cases z2 : slotOf e2 i with
      | none => simp only [z2] at hk; exact hk.elim
      | some r =>
        cases r with
        | oo c fs =>
          simp only [z2] at hk
          by_cases hc : c ∈ cs ∧ fs.length < 1000
          · rw [if_pos hc] at hk
            have es := slotOf_some z2
            obtain ⟨u, hu, wu⟩ := S2.val i _ es
            obtain ⟨a, oo, rfl, g1, g2, g3⟩ := wu
            cases oo <;> first | exact g3.elim | skip
            rename_i C dx gs
            obtain ⟨g4, g5⟩ := g3
            obtain ⟨C', h1, h2, h3⟩ := hcs c hc.1
            rw [g4] at h1; cases h1
            exact ⟨_, hu, a, C, dx, gs, rfl, g1, h2, h3, by rw [g5.length]; exact hc.2, hk σ G2 _ x2 (S2.mut (o' := .ins C dx (putF f v gs)) (r' := .oo c (putD f d fs)) es rfl hu ⟨g4, g5.put d2⟩)⟩
          · rw [if_neg hc] at hk; exact hk.elim
        | sh _ => simp only [z2] at hk; exact hk.elim
        | ol _ => simp only [z2] at hk; exact hk.elim
        | od _ => simp only [z2] at hk; exact hk.elim
end
end Z
namespace Z
open PySem PySem.Spec PyProof.Rows L2
/-! ### a value that is shared at once; one of two ways -/
def shV (m : M RV) : M RV := bindM m fun r e => .ok (.sh r.d) e
def orV (m m' : M RV) : M RV := fun env => match m env with
  | .stk => m' env
  | r => r
section
variable {X : Cx} {W : WX} {pn : List Nat} {pos : Pos}
theorem qv_sh {e : Expr} {m : M RV} (h : QV X W pn e m) : QV X W pn e (shV m) := fun Fh P hp => PE.weak (h Fh P hp) fun σ H Q ⟨G, env, S, q⟩ => by
  refine ⟨G, env, S, ?_⟩
  unfold shV bindM at q
  cases z : m env with
  | err x e => simp only [z] at q; exact q
  | stk => simp only [z] at q; exact q
  | ok r e1 =>
    simp only [z] at q
    intro v G1 H1 ex w S1
    obtain ⟨G2, x2, d2, S2⟩ := S1.share w
    exact q v G2 H1 (ex.trans x2) d2 S2
theorem PE.or {e : Expr} {t t' : TE} (h : PE X e t) (h' : PE X e t') : PE X e (fun σ H Q => t σ H Q ∨ t' σ H Q) := ⟨fun pins s σ H Q I q => q.elim (h.run pins s σ H Q I) (h'.run pins s σ H Q I)⟩
theorem qv_or {e : Expr} {m m' : M RV} (h : QV X W pn e m) (h' : QV X W pn e m') : QV X W pn e (orV m m') := fun Fh P hp => PE.weak (PE.or (h Fh P hp) (h' Fh P hp)) fun σ H Q ⟨G, env, S, q⟩ => by
  unfold orV at q
  cases z : m env with
  | stk => simp only [z] at q; exact .inr ⟨G, env, S, q⟩
  | ok r e1 => simp only [z] at q; exact .inl ⟨G, env, S, by rw [z]; exact q⟩
  | err x e1 => simp only [z] at q; exact .inl ⟨G, env, S, by rw [z]; exact q⟩
/-! ### C(..) -/
def finMk (c : Str) (f : FnD) (arr : List Src) (os : List Opd) (env : DEnv) : Res RV := match arrO os arr with
  | none => .stk
  | some r => match resolves env r with
    | none => .stk
    | some rs => if (lent r rs).Nodup then (match f (.oo c [] :: rs) with
      | .ok v (r0 :: rs') => if rs'.length = rs.length ∧ isNon v = true then .ok r0 (wb r rs rs' env) else .stk
      | .err x (_ :: rs') => if rs'.length = rs.length then .err x (wb r rs rs' env) else .stk
      | _ => .stk) else .stk
/-- the new instance among the arguments -/
theorem mk_views {K : PySem.W.Frag} {mg : Str → Option Value} {G H : Hp} {vs : List V} {rs : List RV} {x dx C : Addr} {c : Str} (ex : Ex G H) (vw : Views K mg G H vs rs) (hc : mg c = some (.ref C)) (hx : H x = none) (hdx : H dx = none) : Views K mg G (upd (upd H dx (.own x)) x (.ins C dx [])) (.ref x :: vs) (.oo c [] :: rs) := by
  refine .cons ⟨x, _, rfl, upd_same, ex.none hx, hc, rfl, fun i p q a => by simp at a⟩ ⟨vw.1, fun i v r h1 h2 => (vw.2 i v r h1 h2).keep (Ex.refl _) fun a o ev hr k1 k2 => ⟨?_, k2⟩⟩
  rw [upd_ne (ne_of_none k1 hx), upd_ne (ne_of_none k1 hdx)]; exact k1
theorem mk_dist {K : PySem.W.Frag} {mg : Str → Option Value} {G H : Hp} {vs : List V} {rs : List RV} {x : Addr} {c : Str} (vw : Views K mg G H vs rs) (ds : Dist vs rs) (hx : H x = none) : Dist (.ref x :: vs) (.oo c [] :: rs) := fun i j r r' a h1 h2 o1 o2 v1 v2 => by
  have no : ∀ {k : Nat} {r : RV}, rs[k]? = some r → r.own = true → vs[k]? = some (.ref x) → False := fun {k r} g1 g2 g3 => by
    obtain ⟨b, o, eb, k1, _⟩ := (vw.2 k _ r g3 g1).own_inv g2
    cases eb; rw [hx] at k1; cases k1
  cases i with
  | zero =>
    cases j with
    | zero => rfl
    | succ j =>
      simp at v1 h2 v2; subst v1
      exact (no h2 o2 v2).elim
  | succ i =>
    cases j with
    | zero =>
      simp at v2 h1 v1; subst v2
      exact (no h1 o1 v1).elim
    | succ j => rw [ds i j r r' a (by simpa using h1) (by simpa using h2) o1 o2 (by simpa using v1) (by simpa using v2)]
theorem mk_back {K : PySem.W.Frag} {mg : Str → Option Value} {G H G' H' : Hp} {vs : List V} {rs rs' : List RV} {r0 : RV} {x dx C : Addr} {c : Str} (vw : Views K mg G H vs rs) (hx : H x = none) (hdx : H dx = none)
    (B : Back K mg G (upd (upd H dx (.own x)) x (.ins C dx [])) (.ref x :: vs) (.oo c [] :: rs) G' H' (r0 :: rs')) : Back K mg G H vs rs G' H' rs' ∧ View K mg G' H' (.ref x) r0 ∧ TmpOk H vs rs rs' (.ref x) r0 := by
  obtain ⟨ex, gh, frm, views, sub⟩ := B
  obtain ⟨v, ws, e1, w0, wt⟩ := views.cons_ex
  cases e1
  refine ⟨⟨ex, gh, fun b o h1 h2 h3 => frm b o ?_ h2 fun ⟨j, r, g1, g2, g3⟩ => ?_, wt, fun j r' h1 h2 => ?_⟩, w0, fun a m => ⟨.inl ?_, fun ⟨j, r, g1, g2, g3⟩ => ?_⟩⟩
  · rw [upd_ne (ne_of_none h1 hx), upd_ne (ne_of_none h1 hdx)]; exact h1
  · cases j with
    | zero => simp at g3; subst g3; rw [hx] at h1; cases h1
    | succ j => exact h3 ⟨j, r, by simpa using g1, g2, by simpa using g3⟩
  · obtain ⟨r, k1, k2⟩ := sub (j + 1) r' (by simpa using h1) h2
    exact ⟨r, by simpa using k1, k2⟩
  · unfold tmps at m
    split at m
    · have : a = x := by simpa using m
      subst this; exact hx
    · cases m
  · have ax : a = x := by
      unfold tmps at m
      split at m
      · simpa using m
      · cases m
    subst ax
    obtain ⟨r1, k1, k2⟩ := sub (j + 1) r (by simpa using g1) g2
    obtain ⟨b, o, eb, q1, _⟩ := (vw.2 j _ r1 g3 (by simpa using k1)).own_inv k2
    cases eb; rw [hx] at q1; cases q1
theorem finMk_ok {K : PySem.W.Frag} {mg : Str → Option Value} {Fh : FHp} {P : List (Nat × V)} {G H : Hp} {σ : L2.St} {env : DEnv} {f : FnD} {arr : List Src} {n : Nat} {E : XK} {Q : VK} {us zs : List Value} {vs : List V} {os : List Opd} {C : Addr} {c : Str} (S : SRel K mg Fh P G H σ env []) (hmc : mg c = some (.ref C)) (ho : OpdRs K mg G σ vs os) (rv : Vals vs us)
    (hz : zs.length = arr.length) (hs : ∀ (j : Nat) (c : Src) (z : Value), arr[j]? = some c → zs[j]? = some z → SrcV K mg us c z) (hn : arr.length + 1 = n) (q : PV K mg W Fh P σ G Q (finMk c f arr os env)) (hE : ∀ cls d H', E cls d H' ↔ W cls d σ H') :
    ∃ vz, Vals vz zs ∧ ∀ x dx, H x = none → H dx = none → dx ≠ x → spOf K mg n f (.ref x :: vz) (upd (upd H dx (.own x)) x (.ins C dx [])) (fun v H2 => v = .non ∧ Q (.ref x) H2) E := by
  unfold finMk at q
  cases e : arrO os arr with
  | none => simp only [e] at q; exact q.elim
  | some r =>
    simp only [e] at q
    obtain ⟨vz, r1, r2⟩ := arranged hz hs rv ho e
    cases e2 : resolves env r with
    | none => simp only [e2] at q; exact q.elim
    | some rs =>
      simp only [e2] at q
      by_cases nd : (lent r rs).Nodup
      · rw [if_pos nd] at q
        refine ⟨vz, r1, fun x dx hx hdx hne => ?_⟩
        have vw := S.resolves r2 e2
        have dd := lent_dist S r2 e2 nd
        refine ⟨G, .oo c [] :: rs, ⟨fun b o h => ?_, (S.fh.tb.upd (p := dx) (o := .own x) nofun).upd (p := x) (o := .ins C dx []) nofun⟩, ?_, mk_views S.gh vw hmc hx hdx, mk_dist vw dd hx, ?_⟩
        · have h' := S.gh b o h
          rw [upd_ne (ne_of_none h' hx), upd_ne (ne_of_none h' hdx)]; exact h'
        · rw [List.length_cons, r1.length, hz]; exact hn
        cases z : f (.oo c [] :: rs) with
        | stk => simp only [z] at q; exact q.elim
        | ok v bs =>
          cases bs with
          | nil => simp only [z] at q; exact q.elim
          | cons r0 rs' =>
            simp only [z] at q
            by_cases hc : rs'.length = rs.length ∧ isNon v = true
            · rw [if_pos hc] at q
              intro u G' H' B w t
              rw [isNon_eq hc.2] at w
              obtain ⟨B', w0, t0⟩ := mk_back vw hx hdx B
              exact ⟨Den.non_inv w, q (.ref x) G' H' B'.ex w0 (S.back r2 e2 hc.1 B' w0 t0)⟩
            · rw [if_neg hc] at q; exact q.elim
        | err y bs =>
          cases bs with
          | nil => simp only [z] at q; exact q.elim
          | cons r0 rs' =>
            simp only [z] at q
            by_cases hc : rs'.length = rs.length
            · rw [if_pos hc] at q
              intro cls d G' H' B hx'
              obtain ⟨B', w0, t0⟩ := mk_back vw hx hdx B
              have t : TmpOk H vz rs rs' .non (.sh .non) := fun a m => by cases m
              exact (hE cls d H').mpr (q cls d G' H' B'.ex hx' (S.back r2 e2 hc B' (v := .non) (r := .sh .non) Den.non t))
            · rw [if_neg hc] at q; exact q.elim
      · rw [if_neg nd] at q; exact q.elim
theorem run_makeS {CX : CXT} {k : Nat} {f C : Addr} {fd : FuncData} {ps : List Str} {sp : Sp} {E : XK} {pins : List (Addr × Obj)} {σ : L2.St} {H : Hp} {s : Shared} {Q : VK} {us : List Value} {kw : List (Str × Value)} {vz : List V} {zs : List Value} (M : Mk X.K C f) (F : FnOk X.prog X.w X.K X.mg X.base CX k f fd ps sp) (hr : Room (k + 1) X.A) (hx : PassesAt CX X σ E)
    (I : Inv X pins σ H s) (rz : Vals vz zs) (hb : ∀ (s : Shared) (a : Value), X.K.In s.heap → BindsTo s fd ⟨a :: us, kw⟩ (ps.zip (a :: zs)))
    (h : ∀ x dx, H x = none → H dx = none → dx ≠ x → sp (.ref x :: vz) (upd (upd H dx (.own x)) x (.ins C dx [])) (fun v H2 => v = .non ∧ Q (.ref x) H2) E) :
    wpAny (model X.prog X.w) X.A (call (.ref C) us kw) (EP X pins σ Q) X.xe s := by
  have hq := h (s.heap.objs.size + 1) s.heap.objs.size (I.hok.fresh (Nat.le_succ _)) (I.hok.fresh (Nat.le_refl _)) (Nat.ne_of_lt (Nat.lt_succ_self _))
  have I2 := Inv.made (C := C) I
  have r2 : Vals (V.ref (s.heap.objs.size + 1) :: vz) (Value.ref (s.heap.objs.size + 1) :: zs) := .cons rfl rz
  refine wpAny_call (make_map (f := f) I.kIn M.makes M.init (beq_iff_eq.mp M.fn) (codeAny_mono (F.run _ X.stack _ _ ⟨Value.ref (s.heap.objs.size + 1) :: us, kw⟩ (Value.ref (s.heap.objs.size + 1) :: zs) _ _ E (hr.make C us kw)
    (I2.env0.make C us kw) (hb _ _ I2.kIn) r2 hq) fun r s' hq' => ?_))
  cases r with
  | error e => exact hx pins _ _ e s' I2 hq'
  | ok fl =>
    cases fl with
    | ret u =>
      obtain ⟨v, H', I3, rv, ev, q3⟩ := I2.after hq'
      subst ev
      exact ⟨rv, ⟨V.ref (s.heap.objs.size + 1), H', I3, rfl, q3⟩⟩
    | next => exact False.elim hq'
    | brk => exact False.elim hq'
    | cont => exact False.elim hq'
/-- how __init__ binds, self first -/
structure BndI (K : PySem.W.Frag) (mg : Str → Option Value) (fd : FuncData) (ps : List Str) (np : Nat) (ks : List Str) (arr : List Src) : Prop where
  len : arr.length + 1 = ps.length
  to : ∀ (us ws : List Value), us.length = np → ws.length = ks.length → ∃ zs : List Value, zs.length = arr.length ∧ (∀ (j : Nat) (c : Src) (z : Value), arr[j]? = some c → zs[j]? = some z → SrcV K mg (us ++ ws) c z) ∧ ∀ (s : Shared) (a : Value), K.In s.heap → BindsTo s fd ⟨a :: us, ks.zip ws⟩ (ps.zip (a :: zs))
def mkA (c : Str) (f : FnD) (arr : List Src) (mp mk : M (List Opd)) : M RV := bindM mp fun os1 => bindM mk fun os2 => finMk c f arr (os1 ++ os2)
theorem qv_make {k np : Nat} {f C : Addr} {fd : FuncData} {ps ks : List Str} {x : Str} {p : Pos} {e : Expr} {es : List Expr} {kws : List Keyword} {fD : FnD} {arr : List Src} {mp mk : M (List Opd)} (F : FnOk X.prog X.w X.K X.mg X.base (L2.CX X.prog X.w) k f fd ps (spOf X.K X.mg ps.length fD)) (tk : Takes X W) (hr : Room (k + 1) X.A) (hg : Gl X x) (hm : X.mg x = some (.ref C)) (hM : Mk X.K C f)
    (hb : BndI X.K X.mg fd ps np ks arr) (ha : QOs X W pn (e :: es) mp) (hkw : QK X W pn kws mk)
    (hall : (backToKw pos (keywordEach kws X.env)).all (·.1.isSome) = true) (hks : (backToKw pos (keywordEach kws X.env)).filterMap (·.1) = ks) (hdb : (x == ("__debug__" : Str)) = false)
    (hst : starEach (e :: es) X.env = (false, eval e X.env) :: starEach es X.env) (hpl : ((backTo pos (starEach (e :: es) X.env)).any (·.1) || (backToKw pos (keywordEach kws X.env)).any (·.1.isNone)) = false)
    (hlp : ∀ env os e', mp env = .ok os e' → os.length = np) (hlk : ∀ env os e', mk env = .ok os e' → os.length = ks.length) :
    QV X W pn (.Call (.Name x p) (e :: es) kws pos) (mkA x fD arr mp mk) := fun Fh P hp => ⟨fun pins s σ H Q I ⟨G, env, S, q⟩ => by
  refine wpAny_Call_Name_kw (ld_glob I hg hm ?_ hdb)
  refine args_run (X := X) (first := []) I hM.kp (ha Fh P hp) (hkw Fh P hp) (rd_two S q hlp hlk) hall hks hst hpl fun us ws vs zs s2 H2 I2 r rz ⟨l1, l2, os, G', e', _, S', ho, q'⟩ => ?_
  obtain ⟨zz, b1, b2, b3⟩ := hb.to us ws (by rw [← r.length]; exact l1) (by rw [← rz.length]; exact l2)
  obtain ⟨vz, r1, hsp⟩ := finMk_ok (E := WE W σ) S' hm ho (r.append rz) b1 b2 hb.len q' fun _ _ _ => Iff.rfl
  exact run_makeS hM F hr (passAt tk σ) I2 r1 b3 hsp⟩
/-! ### a property -/
def noErr : Res RV → Res RV
  | .err _ _ => .stk
  | r => r
theorem finF_okN {K : PySem.W.Frag} {mg : Str → Option Value} {Fh : FHp} {P : List (Nat × V)} {G H : Hp} {σ : L2.St} {env : DEnv} {os : List Opd} {vs : List V} {f : FnD} {n : Nat} {E : XK} {Q : VK} (S : SRel K mg Fh P G H σ env []) (h : OpdRs K mg G σ vs os) (hn : os.length = n) (q : PV K mg W Fh P σ G Q (noErr (finF f os env))) : spOf K mg n f vs H Q E := by
  have q2 : PV K mg (fun cls d _ H' => E cls d H') Fh P σ G Q (finF f os env) := by
    cases z : finF f os env with
    | ok r e => rw [z] at q; exact q
    | err x e => rw [z] at q; exact q.elim
    | stk => rw [z] at q; exact q
  exact finF_ok S h hn q2 fun _ _ _ => Iff.rfl
def propM (c : Str) (f : FnD) (mo : M Opd) : M RV := bindM mo fun o e => match (resolve e o).bind clsR with
  | some (c', _) => if c' = c then noErr (finF f [o] e) else .stk
  | none => .stk
theorem qv_prop {k : Nat} {g p C : Addr} {fd : FuncData} {ps : List Str} {c f : Str} {ob : Expr} {fD : FnD} {mo : M Opd} (F : FnOk X.prog X.w X.K X.mg X.base (L2.CX X.prog X.w) k g fd ps (spOf X.K X.mg ps.length fD)) (hr : Room (k + 1) X.A) (hmc : X.mg c = some (.ref C)) (hc : Cls X.K C) (hP : PropOf X.K C f p g) (hb : Binds X.K fd ps []) (hl : ps.length = 1)
    (ho : QO X W pn ob mo) (hab : attributeBase ob f X.env (eval ob X.env) = eval ob X.env) : QV X W pn (.Attribute ob f pos) (propM c fD mo) := fun Fh P hp =>
  PE.weak (pe_prop (ho Fh P hp) hc hP F hr hb .nil (passL (X := X.nox)) hab) fun σ H Q ⟨G, env, S, q⟩ => by
    refine ⟨G, env, S, PO_V q fun o e1 v G1 H1 ex w S1 hk => ?_⟩
    cases z : (resolve e1 o).bind clsR with
    | none => simp only [z] at hk; exact hk.elim
    | some pr =>
      obtain ⟨c', fs⟩ := pr
      simp only [z] at hk
      by_cases hcc : c' = c
      · rw [if_pos hcc] at hk
        subst hcc
        simp only [Option.bind_eq_some_iff] at z
        obtain ⟨r, y1, y2⟩ := z
        obtain ⟨a, C', dx, gs, rfl, g1, g2, g3⟩ := (S1.resolve w y1).cls S1.gh y2
        rw [hmc] at g1; cases g1
        exact ⟨a, dx, gs, rfl, g2, finF_okN S1 (.cons w .nil) (by rw [hl]; rfl) hk⟩
      · rw [if_neg hcc] at hk; exact hk.elim
end
end Z
/-! Z: tests of comparisons, chains, and/or/not as values, isinstance, class constants, enumerate, zip -/
namespace Z
open PySem PySem.Spec PyProof.Rows L2
section
variable {X : Cx} {W : WX} {pn : List Nat} {e a b c : Expr} {pos : Pos} {K : PySem.W.Frag} {mg : Str → Option Value} {Fh : FHp} {P : List (Nat × V)}
def neverS : MS := fun _ => .stk
def neverV : M RV := fun _ => .stk
theorem qs_never {st : Stmt} : QS X W pn st neverS := fun Fh P hp => PS.weak ps_never fun D σ H ⟨G, env, S, q⟩ => q.elim
theorem qss_never {st : List Stmt} : QSs X W pn st neverS := fun Fh P hp => PSs.weak pss_never fun D σ H ⟨G, env, S, q⟩ => q.elim
theorem qv_never {x : Expr} : QV X W pn x neverV := fun Fh P hp => ⟨fun _ _ _ _ _ _ ⟨_, _, _, q⟩ => q.elim⟩
/-! ### tests -/
def boM (m : M RV) : M Bool := bindM m fun r e => match r with
  | .sh (.bl k) => .ok k e
  | _ => .stk
theorem rd_bo {m : M RV} {σ : L2.St} {H : Hp} {Q : Bool → Hp → Prop} (h : rdB K mg W Fh P (boM m) σ H Q) : rdV K mg W Fh P m σ H fun x H' => ∃ k, x = .bl k ∧ Q k H' := by
  obtain ⟨G, env, S, q⟩ := h
  refine ⟨G, env, S, ?_⟩
  unfold boM bindM at q
  cases z : m env with
  | err x e => simp only [z] at q; exact q
  | stk => simp only [z] at q; exact q
  | ok r e =>
    simp only [z] at q
    intro v G1 H1 ex w S1
    split at q
    · rename_i k
      exact ⟨k, Den.bl_inv w, q G1 H1 ex S1⟩
    · exact q.elim
theorem qt_cmp {op : CmpOp} {r : R2} {f : RV → RV → Option RV} {ma mb : M Opd} (ho : OpR X (compareOp op) r) (hs : OpS X.K X.mg r f) (ha : QO X W pn a ma) (hb : QO X W pn b mb) (hm : behindInMarks op b = false) : QT X W pn (.Compare a [op] [b] pos) (boM (opM f ma mb)) := fun Fh P hp =>
  PT.weak (pt_cmpR ho (ha Fh P hp) (hb Fh P hp) hm) fun σ H Q h => rd_op hs (rd_bo h)
def chain2 (f' : RV → RV → Option RV) (o2 : Opd) (mc : M Opd) (r : RV) : M RV := fun e => match r with
  | .sh (.bl true) => bindM mc (fun o3 => fin2 f' o2 o3) e
  | .sh (.bl false) => .ok (.sh (.bl false)) e
  | _ => .stk
def chainM (f f' : RV → RV → Option RV) (ma mb mc : M Opd) : M RV := bindM ma fun o1 => bindM mb fun o2 => bindM (fin2 f o1 o2) fun r => chain2 f' o2 mc r
theorem rd_chain {r r' : R2} {f f' : RV → RV → Option RV} {ma mb mc : M Opd} (hs : OpS X.K X.mg r f) (hs' : OpS X.K X.mg r' f') {σ : L2.St} {H : Hp} {Q : VK} (h : rdV X.K X.mg W Fh P (chainM f f' ma mb mc) σ H Q) :
    tChain r r' (rdO X.K X.mg W Fh P ma) (rdO X.K X.mg W Fh P mb) (rdO X.K X.mg W Fh P mc) σ H Q := by
  obtain ⟨G, env, S, q⟩ := h
  refine ⟨G, env, S, PO_V q fun o1 e1 x G1 H1 ex1 w1 S1 hk => ?_⟩
  refine ⟨G1, e1, S1, PO_V hk fun o2 e2 y G2 H2 ex2 w2 S2 hk2 => ?_⟩
  refine fin2_ok (W := W) hs S2 (w1.mono ex2) w2 (Q := fun z H3 => _) ?_
  unfold bindM at hk2
  cases z : fin2 f o1 o2 e2 with
  | err x e => simp only [z] at hk2; exact hk2
  | stk => simp only [z] at hk2; exact hk2
  | ok c e3 =>
    simp only [z] at hk2
    intro v G3 H3 ex3 w3 S3
    unfold chain2 at hk2
    split at hk2
    · refine ⟨true, Den.bl_inv w3, ?_⟩
      rw [if_pos rfl]
      refine ⟨G3, e3, S3, PO_V (PV.mono ex3 hk2) fun o3 e4 y3 G4 H4 ex4 w4 S4 hk4 => ?_⟩
      exact fin2_ok hs' S4 ((w2.mono ex3).mono ex4) w4 hk4
    · refine ⟨false, Den.bl_inv w3, ?_⟩
      rw [if_neg (by decide)]
      exact hk2 _ G3 H3 ex3 (.bl false) S3
    · exact hk2.elim
theorem qv_chain {op op' : CmpOp} {r r' : R2} {f f' : RV → RV → Option RV} {ma mb mc : M Opd} (ho : OpR X (compareOp op) r) (hs : OpS X.K X.mg r f) (ho' : OpR X (compareOp op') r') (hs' : OpS X.K X.mg r' f') (ha : QO X W pn a ma) (hb : QO X W pn b mb) (hc : QO X W pn c mc) (hm : lastMarks [op, op'] [b, c] = false) :
    QV X W pn (.Compare a [op, op'] [b, c] pos) (chainM f f' ma mb mc) := fun Fh P hp =>
  PE.weak (pe_chain ho ho' (ha Fh P hp) (hb Fh P hp) (hc Fh P hp) hm) fun σ H Q h => rd_chain hs hs' h
theorem qt_chain {op op' : CmpOp} {r r' : R2} {f f' : RV → RV → Option RV} {ma mb mc : M Opd} (ho : OpR X (compareOp op) r) (hs : OpS X.K X.mg r f) (ho' : OpR X (compareOp op') r') (hs' : OpS X.K X.mg r' f') (ha : QO X W pn a ma) (hb : QO X W pn b mb) (hc : QO X W pn c mc) (hm : lastMarks [op, op'] [b, c] = false) :
    QT X W pn (.Compare a [op, op'] [b, c] pos) (boM (chainM f f' ma mb mc)) := fun Fh P hp =>
  PT.weak (pt_chain ho ho' (ha Fh P hp) (hb Fh P hp) (hc Fh P hp) hm) fun σ H Q h => rd_chain hs hs' (rd_bo h)
/-! ### and, or, not as values -/
def andV2 (mb : M RV) (r : RV) : M RV := fun e => match r with
  | .sh (.bl true) => mb e
  | .sh (.bl false) => .ok (.sh (.bl false)) e
  | _ => .stk
def orV2 (mb : M RV) (r : RV) : M RV := fun e => match r with
  | .sh (.bl false) => mb e
  | .sh (.bl true) => .ok (.sh (.bl true)) e
  | _ => .stk
def notV2 (r : RV) : M RV := fun e => match r with
  | .sh (.bl k) => .ok (.sh (.bl (!k))) e
  | _ => .stk
def andV (ma mb : M RV) : M RV := bindM ma (andV2 mb)
def orrV (ma mb : M RV) : M RV := bindM ma (orV2 mb)
def notV (ma : M RV) : M RV := bindM ma notV2
theorem PV_V {G : Hp} {env : DEnv} {σ : L2.St} {Q R : VK} {m : M RV} {k : RV → M RV} (h : PV K mg W Fh P σ G Q (bindM m k env))
    (hk : ∀ r e v G' H', Ex G G' → View K mg G' H' v r → SRel K mg Fh P G' H' σ e (tmps v r) → PV K mg W Fh P σ G' Q (k r e) → R v H') : PV K mg W Fh P σ G R (m env) := by
  unfold bindM at h
  cases q : m env with
  | ok o e => rw [q] at h; exact fun v G1 H1 ex ho S => hk o e v G1 H1 ex ho S (PV.mono ex h)
  | err x e => rw [q] at h; exact h
  | stk => rw [q] at h; exact h
theorem qv_one {op : BoolOp} {m : M RV} (h : QV X W pn a m) : QV X W pn (.BoolOp op [a] pos) m := fun Fh P hp => pe_one (h Fh P hp)
theorem qv_and {rest : List Expr} {ma mb : M RV} (ha : QV X W pn a ma) (hb : QV X W pn (.BoolOp .And (b :: rest) pos) mb) : QV X W pn (.BoolOp .And (a :: b :: rest) pos) (andV ma mb) := fun Fh P hp =>
  PE.weak (pe_and (ha Fh P hp) (hb Fh P hp)) fun σ H Q ⟨G, env, S, q⟩ => by
    refine ⟨G, env, S, PV_V q fun r e v G1 H1 ex w S1 hk => ?_⟩
    unfold andV2 at hk
    split at hk
    · exact ⟨true, Den.bl_inv w, by rw [if_pos rfl]; exact ⟨G1, e, S1, hk⟩⟩
    · exact ⟨false, Den.bl_inv w, by rw [if_neg (by decide)]; exact hk _ G1 H1 (Ex.refl _) (.bl false) S1⟩
    · exact hk.elim
theorem qv_orr {rest : List Expr} {ma mb : M RV} (ha : QV X W pn a ma) (hb : QV X W pn (.BoolOp .Or (b :: rest) pos) mb) : QV X W pn (.BoolOp .Or (a :: b :: rest) pos) (orrV ma mb) := fun Fh P hp =>
  PE.weak (pe_or (ha Fh P hp) (hb Fh P hp)) fun σ H Q ⟨G, env, S, q⟩ => by
    refine ⟨G, env, S, PV_V q fun r e v G1 H1 ex w S1 hk => ?_⟩
    unfold orV2 at hk
    split at hk
    · exact ⟨false, Den.bl_inv w, by rw [if_neg (by decide)]; exact ⟨G1, e, S1, hk⟩⟩
    · exact ⟨true, Den.bl_inv w, by rw [if_pos rfl]; exact hk _ G1 H1 (Ex.refl _) (.bl true) S1⟩
    · exact hk.elim
theorem qv_not {ma : M RV} (ha : QV X W pn a ma) : QV X W pn (.UnaryOp .Not a pos) (notV ma) := fun Fh P hp =>
  PE.weak (pe_not (ha Fh P hp)) fun σ H Q ⟨G, env, S, q⟩ => by
    refine ⟨G, env, S, PV_V q fun r e v G1 H1 ex w S1 hk => ?_⟩
    unfold notV2 at hk
    split at hk
    · rename_i k; exact ⟨k, Den.bl_inv w, hk _ G1 H1 (Ex.refl _) (.bl _) S1⟩
    · exact hk.elim
/-! ### isinstance of data -/
inductive Ty0 where
  | non | bl | int | str | tup | lst | dct
  deriving DecidableEq
def Ty0.nm : Ty0 → String
  | .non => "NoneType" | .bl => "bool" | .int => "int" | .str => "str" | .tup => "tuple" | .lst => "list" | .dct => "dict"
def isiB : Ty0 → Ty0 → Bool
  | .bl, .int => true
  | a, b => decide (a = b)
def tyD : RV → Option Ty0
  | .sh .non => some .non
  | .sh (.bl _) => some .bl
  | .sh (.int _) => some .int
  | .sh (.str _) => some .str
  | .sh (.tup _) => some .tup
  | .sh (.lst _) => some .lst
  | .ol _ => some .lst
  | _ => none
theorem kitB_ok : ∀ (a b : Ty0), b ≠ .non → kitB a.nm b.nm = some (isiB a b) := by
  intro a b h
  cases a <;> cases b <;> first | exact absurd rfl h | decide +kernel
theorem tyX_tup {H : Hp} {a : Addr} {xs : List V} (h : SqT K H a xs) : TyX K H (.ref a) (.type "tuple") := by
  rcases h with (h | ⟨o, h⟩) | ⟨o, its, n, h, hc, _⟩
  · exact .base (.tup h)
  · exact .fTuple h
  · exact .kTuple h hc
theorem View.tyX {G H : Hp} (ex : Ex G H) {v : V} {r : RV} {t : Ty0} (w : View K mg G H v r) (e : tyD r = some t) : TyX K H v (.type t.nm) := by
  unfold tyD at e
  split at e <;> first | (cases e; done) | skip
  all_goals cases e
  · rw [Den.non_inv w]; exact .base .non
  · rw [Den.bl_inv w]; exact .base (.bl _)
  · rw [Den.int_inv w]; exact .base (.int _)
  · rw [Den.str_inv w]; exact .base (.str _)
  · obtain ⟨a, xs, rfl, h1, _⟩ := Den.tup_inv w; exact tyX_tup (ex.sqT h1)
  · obtain ⟨a, xs, rfl, h1, _⟩ := Den.lst_inv w; exact .base (.lst (ex _ _ h1))
  · obtain ⟨a, o, rfl, h1, h2, h3⟩ := w
    cases o <;> first | exact h3.elim | exact .base (.lst h1)
def isiF (T : Ty0) (r : RV) : Option RV := match tyD r with
  | some t => some (.sh (.bl (isiB t T)))
  | none => none
def isiTF (Ts : List Ty0) (r : RV) : Option RV := match tyD r with
  | some t => some (.sh (.bl (Ts.any (isiB t))))
  | none => none
theorem qv_isi {T : Ty0} {p p2 : Pos} {x : Str} {ma : M Opd} (hT : T ≠ .non) (hg : Gl X "isinstance") (hm : X.mg "isinstance" = none) (hx : bootBuiltins x = some (.type T.nm)) (hgx : Gl X x) (hmx : X.mg x = none) (hxn : x ≠ "__name__") (hxd : (x == ("__debug__" : Str)) = false)
    (ha : QO X W pn a ma) (hs : starEach [a, .Name x p2] X.env = (false, eval a X.env) :: starEach [.Name x p2] X.env) (hs2 : starEach [.Name x p2] X.env = (false, eval (.Name x p2) X.env) :: starEach [] X.env) (hpl : (backTo pos (starEach [.Name x p2] X.env)).any (·.1) = false) :
    QV X W pn (.Call (.Name "isinstance" p) [a, .Name x p2] [] pos) (unM (isiF T) ma) := fun Fh P hp =>
  PE.weak (pe_callB call_isi hg hm boot_isinstance (pa_cons (ha Fh P hp) (pa_cons (pe_bltn (v := .ty T.nm) hgx hmx hx rfl hxn hxd) pa_nil hs2) hs) (by decide) (by decide) hs hpl) fun σ H Q ⟨G, env, S, q⟩ => by
    refine ⟨G, env, S, PO_V q fun o1 e1 x1 G1 H1 ex1 w1 S1 hk => ?_⟩
    unfold fin1 at hk
    split at hk
    · rename_i r q1
      unfold isiF at hk
      split at hk
      · rename_i c q3
        split at q3
        · rename_i t q4
          cases q3
          exact ⟨x1, .ty T.nm, .type t.nm, .type T.nm, isiB t T, rfl, .ty _, (S1.resolve w1 q1).tyX S1.gh q4, kit_ty (kitB_ok t T hT), hk _ G1 H1 (Ex.refl _) (.bl _) S1⟩
        · cases q3
      · exact hk.elim
    · exact hk.elim
theorem kitAny_ok {t : Ty0} : ∀ {Ts : List Ty0}, (∀ T ∈ Ts, T ≠ .non) → PySem.W.kitAny K (.type t.nm) (Ts.map fun T => .type T.nm) = some (Ts.any (isiB t))
  | [], _ => rfl
  | T :: Ts, h => by
    refine kitAny_cons (kit_ty (kitB_ok t T (h T List.mem_cons_self))) (fun hb => ?_) (fun hb => by simp [hb])
    rw [kitAny_ok fun T' m => h T' (List.mem_cons_of_mem _ m)]
    simp [hb]
theorem qv_isi2 {T T' : Ty0} {p p2 p3 p4 : Pos} {k : Nat} {x x' : Str} {ma : M Opd} (hT : T ≠ .non) (hT' : T' ≠ .non) (hg : Gl X "isinstance") (hm : X.mg "isinstance" = none) (hx : bootBuiltins x = some (.type T.nm)) (hgx : Gl X x) (hmx : X.mg x = none) (hxn : x ≠ "__name__") (hxd : (x == ("__debug__" : Str)) = false)
    (hx' : bootBuiltins x' = some (.type T'.nm)) (hgx' : Gl X x') (hmx' : X.mg x' = none) (hxn' : x' ≠ "__name__") (hxd' : (x' == ("__debug__" : Str)) = false)
    (ha : QO X W pn a ma) (hs : starEach [a, .Tuple [.Name x p2, .Name x' p3] k p4] X.env = (false, eval a X.env) :: starEach [.Tuple [.Name x p2, .Name x' p3] k p4] X.env) (hs2 : starEach [.Tuple [.Name x p2, .Name x' p3] k p4] X.env = (false, eval (.Tuple [.Name x p2, .Name x' p3] k p4) X.env) :: starEach [] X.env)
    (hs3 : starEach [.Name x p2, .Name x' p3] X.env = (false, eval (.Name x p2) X.env) :: starEach [.Name x' p3] X.env) (hs4 : starEach [.Name x' p3] X.env = (false, eval (.Name x' p3) X.env) :: starEach [] X.env) (hpl : (backTo pos (starEach [.Tuple [.Name x p2, .Name x' p3] k p4] X.env)).any (·.1) = false) :
    QV X W pn (.Call (.Name "isinstance" p) [a, .Tuple [.Name x p2, .Name x' p3] k p4] [] pos) (unM (isiTF [T, T']) ma) := fun Fh P hp =>
  PE.weak (pe_callB call_isiT hg hm boot_isinstance (pa_cons (ha Fh P hp) (pa_cons (pe_tup (pa_cons (pe_bltn (v := .ty T.nm) hgx hmx hx rfl hxn hxd) (pa_cons (pe_bltn (v := .ty T'.nm) hgx' hmx' hx' rfl hxn' hxd') pa_nil hs4) hs3)) pa_nil hs2) hs) (by decide) (by decide) hs hpl) fun σ H Q ⟨G, env, S, q⟩ => by
    refine ⟨G, env, S, PO_V q fun o1 e1 x1 G1 H1 ex1 w1 S1 hk => ?_⟩
    unfold fin1 at hk
    split at hk
    · rename_i r q1
      unfold isiTF at hk
      split at hk
      · rename_i c q3
        split at q3
        · rename_i t q4
          cases q3
          refine ⟨(by decide : 2 ≤ sizeLine), fun tp htp => ?_⟩
          have st : Step G1 H1 (upd G1 tp (.tup [.ty T.nm, .ty T'.nm])) (upd H1 tp (.tup [.ty T.nm, .ty T'.nm])) [] := .shr htp
          have S2 := S1.step st
          exact ⟨x1, tp, _, .type t.nm, [.type T.nm, .type T'.nm], _, rfl, upd_same, .cons (.ty _) (.cons (.ty _) .nil), (S2.resolve (w1.mono (st.ex S1.gh)) q1).tyX S2.gh q4, kitAny_ok (Ts := [T, T']) (by intro z hz; simp at hz; rcases hz with rfl | rfl <;> assumption), hk _ _ _ (st.ex S1.gh) (.bl _) S2⟩
        · cases q3
      · exact hk.elim
    · exact hk.elim
/-! ### globals, class constants -/
theorem qv_glob {x : Str} {v : V} {u : Value} {d : D} (hg : Gl X x) (hm : X.mg x = some u) (r : RelV v u) (hd : ∀ G, Den X.K X.mg G v d) (hdb : (x == ("__debug__" : Str)) = false) : QV X W pn (.Name x pos) (cM d) := qv_c (pe_glob hg hm r hdb) hd
theorem qv_cval {x f : Str} {C : Addr} {mc u : Value} {v : V} {d : D} {p : Pos} (hg : Gl X x) (hm : X.mg x = some (.ref C)) (hr : ClX.CRead X.K C mc) (hv : ClX.CVal X.K C mc f v u) (hd : ∀ G, Den X.K X.mg G v d) (hdb : (x == ("__debug__" : Str)) = false) (hab : attributeBase (.Name x p) f X.env (eval (.Name x p) X.env) = eval (.Name x p) X.env) :
    QV X W pn (.Attribute (.Name x p) f pos) (cM d) := fun Fh P hp =>
  PE.weak (ClX.pe_cval (pe_glob (v := .ref C) hg hm rfl hdb) hab) fun σ H Q ⟨G, env, S, q⟩ => ⟨C, mc, v, u, rfl, hr, hv, q v G H (Ex.refl _) (hd G) S⟩
end
end Z
/-! Z: parallel assignments, enumerate, zip -/
namespace Z
open PySem PySem.Spec PyProof.Rows L2
section
variable {K : PySem.W.Frag} {mg : Str → Option Value} {Fh : FHp} {P : List (Nat × V)} {G G' H H' : Hp} {σ : L2.St} {env : DEnv} {T : List Addr}
theorem SRel.hold {v : V} {r : RV} (S : SRel K mg Fh P G H σ env (tmps v r)) (w : View K mg G H v r) : ∃ Fh', SRel K mg Fh' P G H σ env [] ∧
    ∀ G' H' σ' env', Ex G G' → SRel K mg Fh' P G' H' σ' env' [] → SRel K mg Fh P G' H' σ' env' (tmps v r) ∧ View K mg G' H' v r := by
  cases hr : r.own with
  | false =>
    cases r with
    | sh d => exact ⟨Fh, S, fun G' H' σ' env' ex S' => ⟨S', Den.mono ex w⟩⟩
    | _ => cases hr
  | true =>
    obtain ⟨a, o, rfl, h1, h2, h3⟩ := w.own_inv hr
    rw [tmps_own hr] at S ⊢
    obtain ⟨hF, _, _⟩ := S.tmp a (List.mem_singleton.mpr rfl)
    have ne : ∀ {i : Nat} {r : RV} {b : Addr}, env[i]? = some (some r) → r.own = true → σ[i]? = some (some (.ref b)) → b ≠ a := fun {i r b} e ho hb z => (S.nof i r b e ho hb).2 (by rw [z]; exact List.mem_singleton.mpr rfl)
    refine ⟨updF Fh a o, ⟨S.gh, ⟨fun b u e => ?_, fun b u e => ?_, S.fh.tb⟩, fun b u e => ?_, S.pin, S.len, S.val, S.dis, fun i r' b e ho hb => ⟨?_, List.not_mem_nil⟩, fun b m => absurd m List.not_mem_nil⟩, fun G' H' σ' env' ex S' => ⟨S'.unguard hF, ?_⟩⟩
    · by_cases z : b = a
      · subst z; rw [updF_same] at e; cases e; exact h1
      · rw [updF_ne z] at e; exact S.fh.on b u e
    · by_cases z : b = a
      · subst z; rw [updF_same] at e; cases e; exact h3.nt
      · rw [updF_ne z] at e; exact S.fh.nto b u e
    · by_cases z : b = a
      · subst z; exact h2
      · rw [updF_ne z] at e; exact S.dj b u e
    · rw [updF_ne (ne e ho hb)]; exact (S.nof i r' b e ho hb).1
    · exact View.of_own (S'.fh.at updF_same) (S'.dj a _ updF_same) (h3.mono ex)
end
section
variable {X : Cx} {W : WX} {pn : List Nat} {pos : Pos}
def okL (pn : List Nat) (n : Nat) : List Nat → Bool
  | [] => true
  | i :: is => decide (i < n) && !pn.contains i && okL pn n is
def par2 (pn : List Nat) (i j : Nat) (ma mb : M RV) : MS := bindS ma fun r1 e1 => match mb e1 with
  | .ok r2 e2 => if okL pn e2.length [i, j] = true then .nx ((e2.set i (some r1)).set j (some r2)) else .stk
  | _ => .stk
def par3 (pn : List Nat) (i j l : Nat) (ma mb mc : M RV) : MS := bindS ma fun r1 e1 => match mb e1 with
  | .ok r2 e2 => (match mc e2 with
    | .ok r3 e3 => if okL pn e3.length [i, j, l] = true then .nx (((e3.set i (some r1)).set j (some r2)).set l (some r3)) else .stk
    | _ => .stk)
  | _ => .stk
theorem okL2 {n i j : Nat} (h : okL pn n [i, j] = true) : (i < n ∧ i ∉ pn) ∧ (j < n ∧ j ∉ pn) := by
  simpa [okL, and_assoc] using h
theorem okL3 {n i j l : Nat} (h : okL pn n [i, j, l] = true) : (i < n ∧ i ∉ pn) ∧ (j < n ∧ j ∉ pn) ∧ (l < n ∧ l ∉ pn) := by
  simpa [okL, and_assoc] using h
theorem qs_par {i j : Nat} {x y : Str} {a b : Expr} {px py pt : Pos} {kt k2 : Nat} {pt2 : Pos} {ma mb : M RV} (hc : X.calm = true) (hN : X.N.Nodup) (hi : X.N[i]? = some x) (hj : X.N[j]? = some y) (hij : i ≠ j)
    (hx : X.env.scope.names.lookup x = some .local) (hy : X.env.scope.names.lookup y = some .local) (ha : QV X W pn a ma) (hb : QV X W pn b mb)
    (hw : swappedStores [.Tuple [.Name x px, .Name y py] kt pt] (.Tuple [a, b] k2 pt2) X.env = pure (some [x, y]))
    (hs : swapsWithSole [.Tuple [.Name x px, .Name y py] kt pt] (.Tuple [a, b] k2 pt2) pos.line X.env = pure false)
    (hs1 : starEach [a, b] X.env = (false, eval a X.env) :: starEach [b] X.env) (hs2 : starEach [b] X.env = (false, eval b X.env) :: starEach [] X.env) :
    QS X W pn (.Assign [.Tuple [.Name x px, .Name y py] kt pt] (.Tuple [a, b] k2 pt2) pos) (par2 pn i j ma mb) := fun Fh P hp =>
  PS.weak (ps_par hc hN hi hj hij hx hy (pa_cons (ha Fh P hp) (pa_cons (PE.ex fun Fh' => hb Fh' P hp) pa_nil hs2) hs1) hw hs) fun D σ H ⟨G, env, S, q⟩ => by
    refine ⟨G, env, S, PV_S (σ := σ) q fun r1 e1 v G1 H1 ex w S1 hk => ?_⟩
    obtain ⟨Fh', S1', back⟩ := S1.hold w
    refine ⟨Fh', G1, e1, S1', ?_⟩
    cases z : mb e1 with
    | err x e => simp only [z] at hk; exact hk.elim
    | stk => simp only [z] at hk; exact hk.elim
    | ok r2 e2 =>
      simp only [z] at hk
      intro v2 G2 H2 ex2 w2 S2
      by_cases hl : okL pn e2.length [i, j] = true
      · rw [if_pos hl] at hk
        obtain ⟨⟨i1, i2⟩, j1, j2⟩ := okL2 hl
        have S3 := S2.set w2 j1 (by rw [hp]; exact j2)
        obtain ⟨S4, w4⟩ := back _ _ _ _ ex2 S3
        have S5 := S4.set w4 (i := i) (by simpa using i1) (by rw [hp]; exact i2)
        rw [List.set_comm _ _ hij.symm, List.set_comm _ _ hij.symm] at S5
        exact ⟨v, v2, rfl, hk _ G2 H2 ex2 S5⟩
      · rw [if_neg hl] at hk; exact hk.elim
theorem qs_par3 {i j l : Nat} {x y z : Str} {a b c : Expr} {px py pz pt : Pos} {kt k2 : Nat} {pt2 : Pos} {ma mb mc : M RV} (hc : X.calm = true) (hN : X.N.Nodup) (hi : X.N[i]? = some x) (hj : X.N[j]? = some y) (hl : X.N[l]? = some z) (hij : i ≠ j) (hil : i ≠ l) (hjl : j ≠ l)
    (hx : X.env.scope.names.lookup x = some .local) (hy : X.env.scope.names.lookup y = some .local) (hz : X.env.scope.names.lookup z = some .local) (ha : QV X W pn a ma) (hb : QV X W pn b mb) (hcc : QV X W pn c mc)
    (hw : swappedStores [.Tuple [.Name x px, .Name y py, .Name z pz] kt pt] (.Tuple [a, b, c] k2 pt2) X.env = pure (some [x, y, z]))
    (hs : swapsWithSole [.Tuple [.Name x px, .Name y py, .Name z pz] kt pt] (.Tuple [a, b, c] k2 pt2) pos.line X.env = pure false)
    (hs1 : starEach [a, b, c] X.env = (false, eval a X.env) :: starEach [b, c] X.env) (hs2 : starEach [b, c] X.env = (false, eval b X.env) :: starEach [c] X.env) (hs3 : starEach [c] X.env = (false, eval c X.env) :: starEach [] X.env) :
    QS X W pn (.Assign [.Tuple [.Name x px, .Name y py, .Name z pz] kt pt] (.Tuple [a, b, c] k2 pt2) pos) (par3 pn i j l ma mb mc) := fun Fh P hp =>
  PS.weak (ps_par3 hc hN hi hj hl hij hil hjl hx hy hz (pa_cons (ha Fh P hp) (pa_cons (PE.ex fun Fh' => hb Fh' P hp) (pa_cons (PE.ex fun Fh' => hcc Fh' P hp) pa_nil hs3) hs2) hs1) hw hs) fun D σ H ⟨G, env, S, q⟩ => by
    refine ⟨G, env, S, PV_S (σ := σ) q fun r1 e1 v G1 H1 ex w S1 hk => ?_⟩
    obtain ⟨Fh', S1', back⟩ := S1.hold w
    refine ⟨Fh', G1, e1, S1', ?_⟩
    cases z : mb e1 with
    | err x e => simp only [z] at hk; exact hk.elim
    | stk => simp only [z] at hk; exact hk.elim
    | ok r2 e2 =>
      simp only [z] at hk
      intro v2 G2 H2 ex2 w2 S2
      obtain ⟨Fh2, S2', back2⟩ := S2.hold w2
      refine ⟨Fh2, G2, e2, S2', ?_⟩
      cases zc : mc e2 with
      | err x e => simp only [zc] at hk; exact hk.elim
      | stk => simp only [zc] at hk; exact hk.elim
      | ok r3 e3 =>
        simp only [zc] at hk
        intro v3 G3 H3 ex3 w3 S3
        by_cases hl : okL pn e3.length [i, j, l] = true
        · rw [if_pos hl] at hk
          obtain ⟨⟨i1, i2⟩, ⟨j1, j2⟩, l1, l2⟩ := okL3 hl
          have S4 := S3.set w3 l1 (by rw [hp]; exact l2)
          obtain ⟨S5, w5⟩ := back2 _ _ _ _ ex3 S4
          have S6 := S5.set w5 (i := j) (by simpa using j1) (by rw [hp]; exact j2)
          obtain ⟨S7, w7⟩ := back _ _ _ _ (ex2.trans ex3) S6
          have S8 := S7.set w7 (i := i) (by simpa using i1) (by rw [hp]; exact i2)
          rw [List.set_comm _ _ hjl.symm, List.set_comm _ _ hil.symm, List.set_comm _ _ hij.symm, List.set_comm (l := e3) _ _ hjl.symm, List.set_comm (l := e3.set j _) _ _ hil.symm, List.set_comm (l := e3) _ _ hij.symm] at S8
          exact ⟨v, v2, v3, rfl, hk _ G3 H3 (ex2.trans ex3) S8⟩
        · rw [if_neg hl] at hk; exact hk.elim
/-! ### enumerate, zip -/
def enumFrom (i : Nat) : List D → List D
  | [] => []
  | d :: ds => .tup [.int i, d] :: enumFrom (i + 1) ds
theorem enumFrom_get : ∀ {ds : List D} {n i : Nat}, (enumFrom n ds)[i]? = (ds[i]?).map fun d => .tup [.int ((n + i : Nat) : Int), d]
  | [], n, i => by simp [enumFrom]
  | d :: ds, n, 0 => by simp [enumFrom]
  | d :: ds, n, i + 1 => by
    rw [enumFrom, List.getElem?_cons_succ, List.getElem?_cons_succ, enumFrom_get]
    congr 1; funext d; congr 4; omega
theorem enumFrom_len : ∀ {ds : List D} {n : Nat}, (enumFrom n ds).length = ds.length
  | [], n => rfl
  | d :: ds, n => by simp [enumFrom, enumFrom_len]
theorem itD_enum {K : PySem.W.Frag} {mg : Str → Option Value} {G : Hp} {a : Addr} {xs : List V} {ds : List D} (ha : G a = some (.lst xs)) (h : DenL K mg G xs ds) : ItD K mg (Ite K a) G (enumFrom 0 ds) := fun i G1 H1 e1 e2 => by
  have hs : SqL K H1 a xs := SqL.of ((e1.trans e2) _ _ ha)
  refine ⟨fun d hd => ?_, fun hl => ⟨xs, hs, by rw [h.1]; rw [enumFrom_len] at hl; exact hl⟩⟩
  rw [enumFrom_get] at hd
  simp only [Option.map_eq_some_iff] at hd
  obtain ⟨d', hd', rfl⟩ := hd
  obtain ⟨v, hv, hden⟩ := h.get hd'
  refine ⟨⟨xs, v, hs, hv⟩, fun x H' ⟨T, x', ex, hT, hH, hx⟩ => ?_⟩
  subst ex hH
  have := hx xs hs
  rw [hv] at this; cases this
  have st : Step G1 H1 (upd G1 T (.tup [.int (i : Nat), v])) (upd H1 T (.tup [.int (i : Nat), v])) [] := .shr hT
  refine ⟨_, st, Den.tupL (SqT.of upd_same) (.cons ?_ (.cons ((hden.mono e1).mono (st.ex e2)) .nil))⟩
  rw [Nat.zero_add]; exact .int _
def enumI (m : M Opd) : M (List D) := bindM m fun o env => match dOf o env with
  | .ok (.lst ds) e => .ok (enumFrom 0 ds) e
  | _ => .stk
theorem qi_enum {a : Expr} {elts : List Expr} {kk : Nat} {tpos p : Pos} {m : M Opd} (hg : Gl X "enumerate") (hm : X.mg "enumerate" = none) (ha : QO X W pn a m) (hs : starEach [a] X.env = [(false, eval a X.env)]) : QI X W pn (.Tuple elts kk tpos) (.Call (.Name "enumerate" p) [a] [] pos) (enumI m) := fun Fh P hp =>
  PI.weak (pi_enum hg hm (pa_cons (ha Fh P hp) pa_nil hs) hs) fun σ H R ⟨G, env, S, q⟩ => by
    refine ⟨G, env, S, ?_⟩
    unfold enumI bindM at q
    cases z : m env with
    | err x e1 => simp only [z] at q; exact q
    | stk => simp only [z] at q; exact q
    | ok o e1 =>
      simp only [z] at q
      intro v G1 H1 ex w S1
      split at q
      · rename_i ds e2 z2
        obtain ⟨G2, x2, d2, S2⟩ := S1.dOf w z2
        obtain ⟨b, xs, rfl, h1, h2⟩ := Den.lst_inv d2
        exact ⟨b, xs, rfl, SqL.of (S2.gh _ _ h1), q _ G2 H1 (ex.trans x2) (itD_enum h1 h2) S2⟩
      · exact q.elim
def zipD : List D → List D → List D
  | d :: ds, e :: es => .tup [d, e] :: zipD ds es
  | _, _ => []
theorem zipD_get : ∀ {ds es : List D} {i : Nat} {d : D}, (zipD ds es)[i]? = some d → ∃ x y, ds[i]? = some x ∧ es[i]? = some y ∧ d = .tup [x, y]
  | [], es, i, d, h => by simp [zipD] at h
  | d :: ds, [], i, _, h => by simp [zipD] at h
  | d :: ds, e :: es, 0, _, h => by simp [zipD] at h; exact ⟨d, e, rfl, rfl, h.symm⟩
  | d :: ds, e :: es, i + 1, _, h => by
    rw [zipD, List.getElem?_cons_succ] at h
    obtain ⟨x, y, h1, h2, h3⟩ := zipD_get (ds := ds) (es := es) (i := i) h
    exact ⟨x, y, h1, h2, h3⟩
theorem zipD_len : ∀ {ds es : List D} {i : Nat}, (zipD ds es).length ≤ i → ds.length ≤ i ∨ es.length ≤ i
  | [], es, i, h => .inl (Nat.zero_le _)
  | d :: ds, [], i, h => .inr (Nat.zero_le _)
  | d :: ds, e :: es, 0, h => by simp [zipD] at h
  | d :: ds, e :: es, i + 1, h => by
    simp [zipD] at h
    rcases zipD_len h with h | h
    · exact .inl (by simp; omega)
    · exact .inr (by simp; omega)
theorem itD_zipL {K : PySem.W.Frag} {mg : Str → Option Value} {G : Hp} {a b : Addr} {xs ys : List V} {ds es : List D} (ha : G a = some (.lst xs)) (h : DenL K mg G xs ds) (hb : G b = some (.lst ys)) (h' : DenL K mg G ys es) : ItD K mg (Itz K a b) G (zipD ds es) := fun i G1 H1 e1 e2 => by
  have hs : SqL K H1 a xs := SqL.of ((e1.trans e2) _ _ ha)
  have hs' : SqL K H1 b ys := SqL.of ((e1.trans e2) _ _ hb)
  refine ⟨fun d hd => ?_, fun hl => ⟨xs, ys, hs, hs', by rw [h.1, h'.1]; exact zipD_len hl⟩⟩
  obtain ⟨x, y, hx, hy, rfl⟩ := zipD_get hd
  obtain ⟨v, hv, hden⟩ := h.get hx
  obtain ⟨v', hv', hden'⟩ := h'.get hy
  refine ⟨⟨xs, ys, v, v', hs, hs', hv, hv'⟩, fun x H' ⟨T, x1, y1, ex, hT, hH, hx1, hy1⟩ => ?_⟩
  subst ex hH
  have q1 := hx1 xs hs
  have q2 := hy1 ys hs'
  rw [hv] at q1; cases q1
  rw [hv'] at q2; cases q2
  have st : Step G1 H1 (upd G1 T (.tup [v, v'])) (upd H1 T (.tup [v, v'])) [] := .shr hT
  exact ⟨_, st, Den.tupL (SqT.of upd_same) (.cons ((hden.mono e1).mono (st.ex e2)) (.cons ((hden'.mono e1).mono (st.ex e2)) .nil))⟩
theorem itD_zipT {K : PySem.W.Frag} {mg : Str → Option Value} {G : Hp} {a b : Addr} {xs ys : List V} {ds es : List D} (ha : SqT K G a xs) (h : DenL K mg G xs ds) (hb : SqT K G b ys) (h' : DenL K mg G ys es) : ItD K mg (RZ.ItzT K a b) G (zipD ds es) := fun i G1 H1 e1 e2 => by
  have hs : SqT K H1 a xs := (e1.trans e2).sqT ha
  have hs' : SqT K H1 b ys := (e1.trans e2).sqT hb
  refine ⟨fun d hd => ?_, fun hl => ⟨xs, ys, hs, hs', by rw [h.1, h'.1]; exact zipD_len hl⟩⟩
  obtain ⟨x, y, hx, hy, rfl⟩ := zipD_get hd
  obtain ⟨v, hv, hden⟩ := h.get hx
  obtain ⟨v', hv', hden'⟩ := h'.get hy
  refine ⟨⟨xs, ys, v, v', hs, hs', hv, hv'⟩, fun x H' ⟨T, x1, y1, ex, hT, hH, hx1, hy1⟩ => ?_⟩
  subst ex hH
  have q1 := hx1 xs hs
  have q2 := hy1 ys hs'
  rw [hv] at q1; cases q1
  rw [hv'] at q2; cases q2
  have st : Step G1 H1 (upd G1 T (.tup [v, v'])) (upd H1 T (.tup [v, v'])) [] := .shr hT
  exact ⟨_, st, Den.tupL (SqT.of upd_same) (.cons ((hden.mono e1).mono (st.ex e2)) (.cons ((hden'.mono e1).mono (st.ex e2)) .nil))⟩
def zipI (m : M (List Opd)) : M (List D) := bindM m fun os env => match dsOf os env with
  | .ok [.lst ds, .lst es] e => .ok (zipD ds es) e
  | .ok [.tup ds, .tup es] e => .ok (zipD ds es) e
  | _ => .stk
theorem qi_zip {a b : Expr} {elts : List Expr} {kk : Nat} {tpos p : Pos} {m : M (List Opd)} (hg : Gl X "zip") (hm : X.mg "zip" = none) (ha : QOs X W pn [a, b] m) (hs : starEach [a, b] X.env = (false, eval a X.env) :: starEach [b] X.env) (hpl : (backTo pos (starEach [b] X.env)).any (·.1) = false) :
    QI X W pn (.Tuple elts kk tpos) (.Call (.Name "zip" p) [a, b] [] pos) (zipI m) := fun Fh P hp =>
  PI.weak (RZ.pi_zipA hg hm (ha Fh P hp) hs hpl) fun σ H R ⟨G, env, S, q⟩ => by
    refine ⟨G, env, S, ?_⟩
    unfold zipI bindM at q
    cases z : m env with
    | err x e1 => simp only [z] at q; exact q
    | stk => simp only [z] at q; exact q
    | ok os e1 =>
      simp only [z] at q
      intro vs G1 H1 ex w S1
      split at q
      · rename_i ds es e2 z2
        obtain ⟨G2, x2, d2, S2⟩ := S1.dsOf w z2
        obtain ⟨v1, vs, rfl, k1, d2⟩ := d2.cons_ex
        obtain ⟨v2, vs, rfl, k2, d2⟩ := d2.cons_ex
        rw [d2.nil_inv]
        obtain ⟨b1, xs, rfl, h1, h2⟩ := Den.lst_inv k1
        obtain ⟨b2, ys, rfl, h3, h4⟩ := Den.lst_inv k2
        exact ⟨b1, b2, xs, ys, rfl, .inl ⟨SqL.of (S2.gh _ _ h1), SqL.of (S2.gh _ _ h3), q _ G2 H1 (ex.trans x2) (itD_zipL h1 h2 h3 h4) S2⟩⟩
      · rename_i ds es e2 z2
        obtain ⟨G2, x2, d2, S2⟩ := S1.dsOf w z2
        obtain ⟨v1, vs, rfl, k1, d2⟩ := d2.cons_ex
        obtain ⟨v2, vs, rfl, k2, d2⟩ := d2.cons_ex
        rw [d2.nil_inv]
        obtain ⟨b1, xs, rfl, h1, h2⟩ := Den.tup_inv k1
        obtain ⟨b2, ys, rfl, h3, h4⟩ := Den.tup_inv k2
        exact ⟨b1, b2, xs, ys, rfl, .inr ⟨S2.gh.sqT h1, S2.gh.sqT h3, q _ G2 H1 (ex.trans x2) (itD_zipT h1 h2 h3 h4) S2⟩⟩
      · exact q.elim
end
end Z
/-! Z: zip of any two of a list and a tuple -/
namespace Z
open PySem PySem.Spec PyProof.Rows L2
/-- the kind of a walked sequence: a list (true), a tuple (false) -/
def KIt (k : Bool) (h : Heap) (it l : Addr) (i : Nat) : Prop := match k with
  | true => h.IsListIter it l i
  | false => h.IsTupleIter it l i
def KSq (k : Bool) (h : Heap) (l : Addr) (xs : Array Value) : Prop := match k with
  | true => h.IsList l xs
  | false => h.IsTuple l xs
theorem KIt.but {k : Bool} {h h' : Heap} {a b l : Addr} {i : Nat} (x : KIt k h a l i) (e : Heap.ExtBut b h h') (n : a ≠ b) : KIt k h' a l i := by
  cases k
  · exact Heap.IsTupleIter.extBut x e n
  · exact Heap.IsListIter.extBut x e n
theorem KSq.but {k : Bool} {h h' : Heap} {a b : Addr} {xs : Array Value} (x : KSq k h a xs) (e : Heap.ExtBut b h h') (n : a ≠ b) : KSq k h' a xs := by
  cases k
  · exact Heap.IsTuple.extBut x e n
  · exact Heap.IsList.extBut x e n
theorem KIt.here {k : Bool} {h h' : Heap} {a l : Addr} {i : Nat} (x : KIt k h a l i) (e : ∀ o, h.get? a = some o → h'.get? a = some o) : KIt k h' a l i := by
  cases k
  · exact Heap.IsTupleIter.at x e
  · exact Heap.IsListIter.at x e
theorem KIt.obj {k : Bool} {h : Heap} {a l : Addr} {i : Nat} (x : KIt k h a l i) : ∃ o, h.get? a = some o ∧ ∀ v, o.data ≠ .cell v := by
  cases k
  · obtain ⟨o, e, _, d⟩ := (x : h.IsTupleIter a l i); exact ⟨o, e, fun v q => by rw [d] at q; cases q⟩
  · obtain ⟨o, e, _, d⟩ := (x : h.IsListIter a l i); exact ⟨o, e, fun v q => by rw [d] at q; cases q⟩
section
variable {prog : Program} {w : World} {A : Around} {E : Value → Shared → Prop} {s : Shared}
theorem nx_item {k : Bool} {it l : Addr} {i : Nat} {xs : Array Value} {x : Value} {Q : Value → Shared → Prop} (h1 : KIt k s.heap it l i) (h2 : KSq k s.heap l xs) (hx : xs[i]? = some x)
    (q : ∀ h', KIt k h' it l (i + 1) → Heap.SameBut it s.heap h' → Q x { s with heap := h' }) : wpAny (model prog w) A (Builtin.SmallTypes.nextOf (.ref it)) Q E s := by
  cases k
  · exact RZ.nextOf_tuple_item h1 h2 hx q
  · exact wpAny_nextOf_list_item h1 h2 hx q
theorem nx_end {k : Bool} {it l : Addr} {i : Nat} {xs : Array Value} {Q : Value → Shared → Prop} (hh : A.handled = none) (h1 : KIt k s.heap it l i) (h2 : KSq k s.heap l xs) (hx : xs[i]? = none)
    (q : ∀ h' e, Heap.ExtBut it s.heap h' → (∃ o, h'.get? e = some o ∧ o.cls = .type "StopIteration") → E (.ref e) { s with heap := h' }) : wpAny (model prog w) A (Builtin.SmallTypes.nextOf (.ref it)) Q E s := by
  cases k
  · exact RZ.nextOf_tuple_end hh h1 h2 hx q
  · exact wpAny_nextOf_list_end hh h1 h2 hx q
theorem zk_item {k k' : Bool} {z TI TO i1 i2 l1 l2 : Addr} {n m : Nat} {xs ys : Array Value} {x y a b : Value} {Q : Value → Shared → Prop} (D : ZipApart z TI TO i1 i2 l1 l2) (hz : IsZip s.heap z TI TO .none) (hI : IsPair s.heap TI (.ref i1) (.ref i2)) (hO : IsPair s.heap TO a b)
    (g1 : KIt k s.heap i1 l1 n) (g2 : KIt k' s.heap i2 l2 m) (e1 : KSq k s.heap l1 xs) (e2 : KSq k' s.heap l2 ys) (hx : xs[n]? = some x) (hy : ys[m]? = some y)
    (q : ∀ h', IsZip h' z TI TO (rawInt s.heap.objs.size) → IsPair h' TO x y → KIt k h' i1 l1 (n + 1) → KIt k' h' i2 l2 (m + 1) → IsPair h' s.heap.objs.size x y →
      (∀ c o, c ≠ z → c ≠ TO → c ≠ i1 → c ≠ i2 → s.heap.get? c = some o → h'.get? c = some o) → Q (.ref s.heap.objs.size) { s with heap := h' }) :
    wpAny (model prog w) A (Builtin.«zip.__next__» ⟨[.ref z], []⟩) (fun r s' => ∃ v, r = .done (.ret v) ∧ Q v s') E s := by
  show wpAny _ _ (field (.ref z) 2 >>= fun _ => _) _ _ _
  refine wpAny_bind (wpAny_field (x := .bool false) hz rfl rfl ?_)
  show wpAny _ _ (field (.ref z) 3 >>= fun _ => _) _ _ _
  refine wpAny_bind (wpAny_field (x := .ref TI) hz rfl rfl ?_)
  refine wpAny_bind (wpAny_seqItems hI rfl ?_)
  show wpAny _ _ (Builtin.SmallTypes.ownedTupleIsFree (.ref z) >>= fun _ => _) _ _ _
  refine wpAny_bind ?_
  unfold Builtin.SmallTypes.ownedTupleIsFree
  refine wpAny_bind (wpAny_field (x := .none) hz rfl rfl (wpAny_pure ?_))
  simp only [if_true]
  refine wpAny_bind (wpAny_rule ?_)
  refine wpAny_bind (wpAny_field (x := .ref TO) hz rfl rfl ?_)
  refine wpAny_bind (wpAny_setField_rec hz (by simp) fun p1 z1 s1 => ?_)
  replace z1 : IsZip p1 z TI TO .ellipsis := z1
  refine wpAny_bind ?_
  simp only [List.zipIdx_nil, List.zipIdx_cons, List.forIn_nil, List.forIn_cons]
  refine wpAny_bind (wpAny_bind (wpAny_onRaise ?_))
  show wpAny _ _ (Builtin.SmallTypes.nextOf (.ref i1) >>= fun _ => _) _ _ _
  refine wpAny_bind (nx_item (g1.but s1.extBut D.i1z) (e1.but s1.extBut D.l1z) hx fun p2 g12 s2 => wpAny_pure ?_)
  have O2 : IsPair p2 TO a b := s2.extBut _ _ D.TOi1 (s1.extBut _ _ D.TOz hO)
  refine wpAny_bind (wpAny_seqItems O2 rfl ?_)
  refine wpAny_bind (wpAny_updateSeq_pair O2 fun p3 O3 s3 => ?_)
  replace O3 : IsPair p3 TO x b := O3
  refine wpAny_bind (wpAny_letGo (wpAny_pure ?_))
  refine wpAny_bind (wpAny_bind (wpAny_onRaise ?_))
  show wpAny _ _ (Builtin.SmallTypes.nextOf (.ref i2) >>= fun _ => _) _ _ _
  refine wpAny_bind (nx_item (((g2.but s1.extBut D.i2z).but s2.extBut D.i12.symm).but s3.extBut D.TOi2.symm) (((e2.but s1.extBut D.l2z).but s2.extBut D.l2i1).but s3.extBut D.l2TO) hy fun p4 g24 s4 => wpAny_pure ?_)
  have O4 : IsPair p4 TO x b := s4.extBut _ _ D.TOi2 O3
  refine wpAny_bind (wpAny_seqItems O4 rfl ?_)
  refine wpAny_bind (wpAny_updateSeq_pair O4 fun p5 O5 s5 => ?_)
  replace O5 : IsPair p5 TO x y := O5
  refine wpAny_bind (wpAny_letGo (wpAny_pure (wpAny_pure ?_)))
  refine wpAny_bind (wpAny_seqItems O5 rfl ?_)
  refine wpAny_bind (wpAny_newTuple ?_)
  have sz : p5.objs.size = s.heap.objs.size := by rw [s5.1, s4.1, s3.1, s2.1, s1.1]
  have z5 : IsZip p5 z TI TO .ellipsis := s5.extBut _ _ D.TOz.symm (s4.extBut _ _ D.i2z.symm (s3.extBut _ _ D.TOz.symm (s2.extBut _ _ D.i1z.symm z1)))
  have kk : ∀ c o, c ≠ z → c ≠ TO → c ≠ i1 → c ≠ i2 → s.heap.get? c = some o → p5.get? c = some o := fun c o c1 c2 c3 c4 e => s5.extBut _ _ c2 (s4.extBut _ _ c4 (s3.extBut _ _ c2 (s2.extBut _ _ c3 (s1.extBut _ _ c1 e))))
  have g15 : KIt k p5 i1 l1 (n + 1) := ((g12.but s3.extBut D.TOi1.symm).but s4.extBut D.i12).but s5.extBut D.TOi1.symm
  have g25 : KIt k' p5 i2 l2 (m + 1) := g24.but s5.extBut D.TOi2.symm
  have zl : z < p5.objs.size := Heap.lt_size z5
  show wpAny _ _ (Builtin.SmallTypes.ownedTupleHandOut (.ref z) (.ref p5.objs.size) >>= fun _ => _) _ _ _
  refine wpAny_bind ?_
  unfold Builtin.SmallTypes.ownedTupleHandOut
  have z6 : IsZip (p5.push { cls := .type "tuple", data := .seq #[x, y] }) z TI TO .ellipsis := Heap.get?_push_of_some _ z5
  refine wpAny_bind (wpAny_setField_rec z6 (by simp) fun p7 z7 s7 => ?_)
  replace z7 : IsZip p7 z TI TO (rawInt p5.objs.size) := z7
  refine wpAny_setField_rec z7 (by simp) fun p8 z8 s8 => ?_
  replace z8 : IsZip p8 z TI TO (rawInt p5.objs.size) := z8
  have up : ∀ c o, c ≠ z → p5.get? c = some o → p8.get? c = some o := fun c o c1 e => s8.extBut _ _ c1 (s7.extBut _ _ c1 (Heap.get?_push_of_some _ e))
  have T8 : IsPair p8 p5.objs.size x y := s8.extBut _ _ (Nat.ne_of_gt zl) (s7.extBut _ _ (Nat.ne_of_gt zl) (Heap.get?_push_size _ rfl))
  rw [sz] at z8 T8
  refine wpAny_pure ⟨_, rfl, ?_⟩
  show Q (.ref p5.objs.size) _
  rw [sz]
  exact q p8 z8 (up _ _ D.TOz O5) (g15.here fun o e => up _ o D.i1z e) (g25.here fun o e => up _ o D.i2z e) T8 fun c o c1 c2 c3 c4 e => up c o c1 (kk c o c1 c2 c3 c4 e)
theorem zk_end {k k' : Bool} {z TI TO i1 i2 l1 l2 : Addr} {n m : Nat} {xs ys : Array Value} {a b : Value} {Q : Fin → Shared → Prop} (hh : A.handled = none) (D : ZipApart z TI TO i1 i2 l1 l2) (hz : IsZip s.heap z TI TO .none) (hI : IsPair s.heap TI (.ref i1) (.ref i2)) (hO : IsPair s.heap TO a b)
    (g1 : KIt k s.heap i1 l1 n) (g2 : KIt k' s.heap i2 l2 m) (e1 : KSq k s.heap l1 xs) (e2 : KSq k' s.heap l2 ys) (hn : xs[n]? = none ∨ ys[m]? = none)
    (q : ∀ h' e, (∀ c o, c ≠ z → c ≠ TO → c ≠ i1 → c ≠ i2 → s.heap.get? c = some o → h'.get? c = some o) → (∃ o, h'.get? e = some o ∧ o.cls = .type "StopIteration") → E (.ref e) { s with heap := h' }) :
    wpAny (model prog w) A (Builtin.«zip.__next__» ⟨[.ref z], []⟩) Q E s := by
  show wpAny _ _ (field (.ref z) 2 >>= fun _ => _) _ _ _
  refine wpAny_bind (wpAny_field (x := .bool false) hz rfl rfl ?_)
  show wpAny _ _ (field (.ref z) 3 >>= fun _ => _) _ _ _
  refine wpAny_bind (wpAny_field (x := .ref TI) hz rfl rfl ?_)
  refine wpAny_bind (wpAny_seqItems hI rfl ?_)
  show wpAny _ _ (Builtin.SmallTypes.ownedTupleIsFree (.ref z) >>= fun _ => _) _ _ _
  refine wpAny_bind ?_
  unfold Builtin.SmallTypes.ownedTupleIsFree
  refine wpAny_bind (wpAny_field (x := .none) hz rfl rfl (wpAny_pure ?_))
  simp only [if_true]
  refine wpAny_bind (wpAny_rule ?_)
  refine wpAny_bind (wpAny_field (x := .ref TO) hz rfl rfl ?_)
  refine wpAny_bind (wpAny_setField_rec hz (by simp) fun p1 z1 s1 => ?_)
  replace z1 : IsZip p1 z TI TO .ellipsis := z1
  refine wpAny_bind ?_
  simp only [List.zipIdx_nil, List.zipIdx_cons, List.forIn_nil, List.forIn_cons]
  refine wpAny_bind (wpAny_bind (wpAny_onRaise ?_))
  show wpAny _ _ (Builtin.SmallTypes.nextOf (.ref i1) >>= fun _ => _) _ _ _
  cases hx : xs[n]? with
  | none =>
    refine wpAny_bind (nx_end hh (g1.but s1.extBut D.i1z) (e1.but s1.extBut D.l1z) hx fun p2 e s2 he => ?_)
    obtain ⟨oe, ho, hc⟩ := he
    have z2 : IsZip p2 z TI TO .ellipsis := s2 _ _ D.i1z.symm z1
    have ne : e ≠ z := fun x => by subst x; rw [z2] at ho; cases ho; simp at hc
    exact wpAny_setField_rec z2 (by simp) fun p3 _ s3 => q p3 e (fun c o c1 _ c3 _ x => s3.extBut _ _ c1 (s2 _ _ c3 (s1.extBut _ _ c1 x))) ⟨oe, s3.extBut _ _ ne ho, hc⟩
  | some x =>
    have hy : ys[m]? = none := hn.resolve_left fun h => by rw [hx] at h; cases h
    refine wpAny_bind (nx_item (g1.but s1.extBut D.i1z) (e1.but s1.extBut D.l1z) hx fun p2 g12 s2 => wpAny_pure ?_)
    have O2 : IsPair p2 TO a b := s2.extBut _ _ D.TOi1 (s1.extBut _ _ D.TOz hO)
    refine wpAny_bind (wpAny_seqItems O2 rfl ?_)
    refine wpAny_bind (wpAny_updateSeq_pair O2 fun p3 O3 s3 => ?_)
    refine wpAny_bind (wpAny_letGo (wpAny_pure ?_))
    refine wpAny_bind (wpAny_bind (wpAny_onRaise ?_))
    show wpAny _ _ (Builtin.SmallTypes.nextOf (.ref i2) >>= fun _ => _) _ _ _
    refine wpAny_bind (nx_end hh (((g2.but s1.extBut D.i2z).but s2.extBut D.i12.symm).but s3.extBut D.TOi2.symm) (((e2.but s1.extBut D.l2z).but s2.extBut D.l2i1).but s3.extBut D.l2TO) hy fun p4 e s4 he => ?_)
    obtain ⟨oe, ho, hc⟩ := he
    have z4 : IsZip p4 z TI TO .ellipsis := s4 _ _ D.i2z.symm (s3.extBut _ _ D.TOz.symm (s2.extBut _ _ D.i1z.symm z1))
    have ne : e ≠ z := fun x => by subst x; rw [z4] at ho; cases ho; simp at hc
    exact wpAny_setField_rec z4 (by simp) fun p5 _ s5 => q p5 e (fun c o c1 c2 c3 c4 x => s5.extBut _ _ c1 (s4 _ _ c4 (s3.extBut _ _ c2 (s2.extBut _ _ c3 (s1.extBut _ _ c1 x))))) ⟨oe, s5.extBut _ _ ne ho, hc⟩
theorem pn_item {k k' : Bool} {z TI TO i1 i2 l1 l2 : Addr} {n m : Nat} {xs ys : Array Value} {x y a b : Value} {Q : Option Value → Shared → Prop} (D : ZipApart z TI TO i1 i2 l1 l2) (hz : IsZip s.heap z TI TO .none) (hI : IsPair s.heap TI (.ref i1) (.ref i2)) (hO : IsPair s.heap TO a b)
    (g1 : KIt k s.heap i1 l1 n) (g2 : KIt k' s.heap i2 l2 m) (e1 : KSq k s.heap l1 xs) (e2 : KSq k' s.heap l2 ys) (hx : xs[n]? = some x) (hy : ys[m]? = some y)
    (q : ∀ h', IsZip h' z TI TO (rawInt s.heap.objs.size) → IsPair h' TO x y → KIt k h' i1 l1 (n + 1) → KIt k' h' i2 l2 (m + 1) → IsPair h' s.heap.objs.size x y →
      (∀ c o, c ≠ z → c ≠ TO → c ≠ i1 → c ≠ i2 → s.heap.get? c = some o → h'.get? c = some o) → Q (some (.ref s.heap.objs.size)) { s with heap := h' }) : wpAny (model prog w) A (pyNext (.ref z)) Q E s := by
  have T : s.TypeIs (.ref z) "zip" := ⟨_, hz, rfl⟩
  unfold pyNext
  exact wpAny_bind (wpAny_attempt (wpAny_callSpecial?_slot (name := Str.ofString "__next__") T PySem.F.slot_zip_next
    (wpAny_call_entry PySem.F.slot_zip_next T PySem.F.entry_zip_next (zk_item D hz hI hO g1 g2 e1 e2 hx hy fun h' a1 a2 a3 a4 a5 a6 => wpAny_pure (q h' a1 a2 a3 a4 a5 a6)) (PySem.F.args_zip_next_1 _))))
theorem pn_end {k k' : Bool} {z TI TO i1 i2 l1 l2 : Addr} {n m : Nat} {xs ys : Array Value} {a b : Value} {Q : Option Value → Shared → Prop} (hh : A.handled = none) (D : ZipApart z TI TO i1 i2 l1 l2) (hz : IsZip s.heap z TI TO .none) (hI : IsPair s.heap TI (.ref i1) (.ref i2)) (hO : IsPair s.heap TO a b)
    (g1 : KIt k s.heap i1 l1 n) (g2 : KIt k' s.heap i2 l2 m) (e1 : KSq k s.heap l1 xs) (e2 : KSq k' s.heap l2 ys) (hn : xs[n]? = none ∨ ys[m]? = none)
    (q : ∀ h', (∀ c o, c ≠ z → c ≠ TO → c ≠ i1 → c ≠ i2 → s.heap.get? c = some o → h'.get? c = some o) → Q none { s with heap := h' }) : wpAny (model prog w) A (pyNext (.ref z)) Q E s := by
  have T : s.TypeIs (.ref z) "zip" := ⟨_, hz, rfl⟩
  unfold pyNext
  refine wpAny_bind (wpAny_attempt (wpAny_callSpecial?_slot (name := Str.ofString "__next__") T PySem.F.slot_zip_next
    (wpAny_call_entry PySem.F.slot_zip_next T PySem.F.entry_zip_next (zk_end hh D hz hI hO g1 g2 e1 e2 hn fun h' e hk he => ?_) (PySem.F.args_zip_next_1 _))))
  obtain ⟨o, ho, hc⟩ := he
  refine wpAny_bind (wpAny_isInstance (b := true) (T := "StopIteration") ⟨o, ho, hc⟩ isSubtype_stop ?_)
  exact wpAny_pure (q _ hk)
end
/-- what zip makes: the two iterators, their pair, the pair of what they gave, itself -/
abbrev itOf (k : Bool) (l : Addr) : Obj := { cls := .type (if k = true then "list_iterator" else "tuple_iterator"), data := .fields #[.ref l, .int 0 0] }
abbrev zk1 (k : Bool) (h : Heap) (l : Addr) : Heap := h.push (itOf k l)
abbrev zk2 (k k' : Bool) (h : Heap) (l l' : Addr) : Heap := (zk1 k h l).push (itOf k' l')
abbrev zk3 (k k' : Bool) (h : Heap) (l l' : Addr) : Heap := (zk2 k k' h l l').push { cls := .type "tuple", data := .seq #[.ref h.objs.size, .ref (zk1 k h l).objs.size] }
abbrev zk4 (k k' : Bool) (h : Heap) (l l' : Addr) : Heap := (zk3 k k' h l l').push { cls := .type "tuple", data := .seq #[.none, .none] }
abbrev zk5 (k k' : Bool) (h : Heap) (l l' : Addr) : Heap := (zk4 k k' h l l').push { cls := .type "zip", data := .fields #[.none, .bool false, .bool false, .ref (zk2 k k' h l l').objs.size, .ref (zk3 k k' h l l').objs.size] }
theorem zk_new (k k' : Bool) (l l' : Addr) (xs ys : Array Value) : Meets (Builtin.«zip.__new__» ⟨[.type "zip", .ref l, .ref l'], []⟩) (fun _ R s => KSq k s.heap l xs ∧ KSq k' s.heap l' ys ∧
      R (.ok (.ret (.ref (zk4 k k' s.heap l l').objs.size))) { s with heap := zk5 k k' s.heap l l' }) :=
  .of_wp fun prog w A R s h => by
    obtain ⟨hp, g, d, tk, os⟩ := s
    obtain ⟨h1, h2, h⟩ := h
    have hsub := sub_zip
    cases k <;> cases k'
    · have a1 : Heap.IsTuple (Shared.heap ⟨hp, g, d, tk, os⟩) l xs := h1
      have a2 : Heap.IsTuple (Shared.heap ⟨hp.push { cls := .type "tuple_iterator", data := .fields #[.ref l, .int 0 0] }, g, d, tk, os⟩) l' ys := Heap.IsTuple.push h2 _
      wp_walk using wpAny_pyIter_tuple a1, wpAny_pyIter_tuple a2
      exact ⟨_, rfl, h⟩
    · have a1 : Heap.IsTuple (Shared.heap ⟨hp, g, d, tk, os⟩) l xs := h1
      have a2 : Heap.IsList (Shared.heap ⟨hp.push { cls := .type "tuple_iterator", data := .fields #[.ref l, .int 0 0] }, g, d, tk, os⟩) l' ys := Heap.IsList.push h2 _
      wp_walk using wpAny_pyIter_tuple a1, wpAny_pyIter_list a2
      exact ⟨_, rfl, h⟩
    · have a1 : Heap.IsList (Shared.heap ⟨hp, g, d, tk, os⟩) l xs := h1
      have a2 : Heap.IsTuple (Shared.heap ⟨hp.push { cls := .type "list_iterator", data := .fields #[.ref l, .int 0 0] }, g, d, tk, os⟩) l' ys := Heap.IsTuple.push h2 _
      wp_walk using wpAny_pyIter_list a1, wpAny_pyIter_tuple a2
      exact ⟨_, rfl, h⟩
    · have a1 : Heap.IsList (Shared.heap ⟨hp, g, d, tk, os⟩) l xs := h1
      have a2 : Heap.IsList (Shared.heap ⟨hp.push { cls := .type "list_iterator", data := .fields #[.ref l, .int 0 0] }, g, d, tk, os⟩) l' ys := Heap.IsList.push h2 _
      wp_walk using wpAny_pyIter_list a1, wpAny_pyIter_list a2
      exact ⟨_, rfl, h⟩
section
variable {prog : Program} {w : World} {A : Around} {E : Value → Shared → Prop} {s : Shared}
theorem zk_call {k k' : Bool} {l l' : Addr} {xs ys : Array Value} {Q : Value → Shared → Prop} (h1 : KSq k s.heap l xs) (h2 : KSq k' s.heap l' ys)
    (q : ∀ h', IsZip h' (s.heap.objs.size + 4) (s.heap.objs.size + 2) (s.heap.objs.size + 3) .none → IsPair h' (s.heap.objs.size + 2) (.ref s.heap.objs.size) (.ref (s.heap.objs.size + 1)) → IsPair h' (s.heap.objs.size + 3) .none .none →
      KIt k h' s.heap.objs.size l 0 → KIt k' h' (s.heap.objs.size + 1) l' 0 → (∀ c o, s.heap.get? c = some o → h'.get? c = some o) → Q (.ref (s.heap.objs.size + 4)) { s with heap := h' }) :
    wpAny (model prog w) A (call (.type "zip") [.ref l, .ref l']) Q E s := by
  refine callType_new PySem.F.called_zip (by decide) (PySem.F.typeCall_zip_2 _ _) (PySem.F.newCall_zip_2 _ _) (fun obj => PySem.F.args_object_init_3 obj _ _) PySem.F.entry_zip_new (zk_new k k' l l' xs ys) ⟨h1, h2, ?_⟩
  have s1 : (zk1 k s.heap l).objs.size = s.heap.objs.size + 1 := Heap.size_push ..
  have s2 : (zk2 k k' s.heap l l').objs.size = s.heap.objs.size + 2 := by rw [Heap.size_push, s1]
  have s3 : (zk3 k k' s.heap l l').objs.size = s.heap.objs.size + 3 := by rw [Heap.size_push, s2]
  have s4 : (zk4 k k' s.heap l l').objs.size = s.heap.objs.size + 4 := by rw [Heap.size_push, s3]
  have up := fun (h : Heap) (o : Obj) {c : Addr} {u : Obj} (e : h.get? c = some u) => Heap.get?_push_of_some o e
  have q5 : (zk5 k k' s.heap l l').get? (zk4 k k' s.heap l l').objs.size = some _ := Heap.get?_push_size _ rfl
  have q4 : (zk5 k k' s.heap l l').get? (zk3 k k' s.heap l l').objs.size = some _ := up _ _ (Heap.get?_push_size _ rfl)
  have q3 : (zk5 k k' s.heap l l').get? (zk2 k k' s.heap l l').objs.size = some _ := up _ _ (up _ _ (Heap.get?_push_size _ rfl))
  have q2 : (zk5 k k' s.heap l l').get? (zk1 k s.heap l).objs.size = some _ := up _ _ (up _ _ (up _ _ (Heap.get?_push_size _ rfl)))
  have q1 : (zk5 k k' s.heap l l').get? s.heap.objs.size = some _ := up _ _ (up _ _ (up _ _ (up _ _ (Heap.get?_push_size _ rfl))))
  show _ ∧ _
  rw [s2, s3, s4] at q5
  rw [s1, s2] at q3
  rw [s3] at q4
  rw [s1] at q2
  rw [s4]
  refine ⟨⟨_, q5, rfl⟩, q _ q5 q3 q4 ?_ ?_ fun c o x => up _ _ (up _ _ (up _ _ (up _ _ (up _ _ x))))⟩
  · cases k
    · exact (⟨_, q1, rfl, rfl⟩ : Heap.IsTupleIter _ _ _ _)
    · exact (⟨_, q1, rfl, rfl⟩ : Heap.IsListIter _ _ _ _)
  · cases k'
    · exact (⟨_, q2, rfl, rfl⟩ : Heap.IsTupleIter _ _ _ _)
    · exact (⟨_, q2, rfl, rfl⟩ : Heap.IsListIter _ _ _ _)
end
/-! ### over the layer -/
def SqK (K : PySem.W.Frag) (k : Bool) (H : Hp) (a : Addr) (xs : List V) : Prop := match k with
  | true => SqL K H a xs
  | false => SqT K H a xs
theorem Inv.sqK {X : Cx} {pins : List (Addr × Obj)} {σ : L2.St} {H : Hp} {s : Shared} {k : Bool} {a : Addr} {xs : List V} (I : Inv X pins σ H s) (h : SqK X.K k H a xs) : ∃ its : List Value, Vals xs its ∧ KSq k s.heap a its.toArray ∧ a < s.heap.objs.size := by
  cases k
  · obtain ⟨its, rv, p, _⟩ := I.tuple h
    obtain ⟨o, ho, _⟩ := id p
    exact ⟨its, rv, p, Heap.lt_size ho⟩
  · obtain ⟨its, rv, p, _⟩ := I.list h
    exact ⟨its, rv, p.isList, p.lt⟩
theorem Inv.sqK_inj {X : Cx} {pins : List (Addr × Obj)} {σ : L2.St} {H : Hp} {s : Shared} {k : Bool} {a : Addr} {xs ys : List V} (I : Inv X pins σ H s) (h : SqK X.K k H a xs) (h' : SqK X.K k H a ys) : xs = ys := by
  cases k
  · exact I.tuple_inj h h'
  · exact I.list_inj h h'
def ItzK (K : PySem.W.Frag) (k k' : Bool) (a b : Addr) : It :=
  ⟨fun i H => ∃ (xs ys : List V) (x y : V), SqK K k H a xs ∧ SqK K k' H b ys ∧ xs[i]? = some x ∧ ys[i]? = some y,
    fun i H v H' => ∃ T x y, v = .ref T ∧ H T = none ∧ H' = upd H T (.tup [x, y]) ∧ (∀ xs, SqK K k H a xs → xs[i]? = some x) ∧ ∀ ys, SqK K k' H b ys → ys[i]? = some y,
    fun i H => ∃ xs ys : List V, SqK K k H a xs ∧ SqK K k' H b ys ∧ (xs.length ≤ i ∨ ys.length ≤ i)⟩
theorem turn_zk {Pr : Program} {w : World} {K : PySem.W.Frag} {k k' : Bool} {elts : List Expr} {kk : Nat} {tpos : Pos} {a b z TI TO i1 i2 : Addr} (D : ZipApart z TI TO i1 i2 a b) :
    Turn Pr w K (.Tuple elts kk tpos) (ItzK K k k' a b) [z, TI, TO, i1, i2] z (fun i h => IsZip h z TI TO .none ∧ IsPair h TI (.ref i1) (.ref i2) ∧ (∃ x y, IsPair h TO x y) ∧ KIt k h i1 a i ∧ KIt k' h i2 b i) where
  mem := List.mem_cons_self
  obj := fun i h st c hc => by
    obtain ⟨hz, hI, ⟨x, y, hO⟩, g1, g2⟩ := st
    obtain ⟨o1, e1, d1⟩ := g1.obj
    obtain ⟨o2, e2, d2⟩ := g2.obj
    simp only [List.mem_cons, List.not_mem_nil, or_false] at hc
    rcases hc with rfl | rfl | rfl | rfl | rfl
    · exact ⟨_, hz, fun v q => nomatch q⟩
    · exact ⟨_, hI, fun v q => nomatch q⟩
    · exact ⟨_, hO, fun v q => nomatch q⟩
    · exact ⟨o1, e1, d1⟩
    · exact ⟨o2, e2, d2⟩
  keep := fun i h h' st kp => by
    obtain ⟨hz, hI, ⟨x, y, hO⟩, g1, g2⟩ := st
    exact ⟨kp z (by simp) _ hz, kp TI (by simp) _ hI, ⟨x, y, kp TO (by simp) _ hO⟩, g1.here fun o q => kp i1 (by simp) o q, g2.here fun o q => kp i2 (by simp) o q⟩
  item := by
    intro X hP hw hK hc i pins s σ H E I hf st hg
    subst hP hw hK
    obtain ⟨hz, hI, ⟨x0, y0, hO⟩, g1, g2⟩ := st
    obtain ⟨xs, ys, x, y, hqx, hqy, hx, hy⟩ := hg
    obtain ⟨us, rv, p, _⟩ := Inv.sqK I hqx
    obtain ⟨us2, rv2, p2, _⟩ := Inv.sqK I hqy
    obtain ⟨u, hu, ru⟩ := rv.get hx
    obtain ⟨u2, hu2, ru2⟩ := rv2.get hy
    have zl : z < s.heap.objs.size := Heap.lt_size hz
    refine pn_item D hz hI hO g1 g2 p p2 (x := u) (y := u2) (by simpa using hu) (by simpa using hu2) fun h' z' O' g1' g2' hT hk => ?_
    refine ⟨_, rfl, wpAny_letOwnedTupleGo_zip (s := { s with heap := h' }) z' fun h'' z'' sb => ?_⟩
    have hT2 : h''.get? s.heap.objs.size = some { cls := .type "tuple", data := .seq #[u, u2] } := (sb.2 _ (Nat.ne_of_gt zl)).trans hT
    have new : ObjOk X.prog X.w (upd H s.heap.objs.size (.tup [x, y])) h'' s.heap.objs.size (.tup [x, y]) := ⟨(by decide : 2 ≤ sizeLine), [u, u2], .cons ru (.cons ru2 .nil), ⟨_, hT2, rfl, _, rfl⟩⟩
    have J : Inv X pins σ (upd H s.heap.objs.size (.tup [x, y])) { s with heap := h'' } :=
      I.turnedNew (ch := [z, TI, TO, i1, i2]) (t' := s.toks) (fun c o hb q => (sb.2 c (fun e => hb (by simp [e]))).trans (hk c o (fun e => hb (by simp [e])) (fun e => hb (by simp [e])) (fun e => hb (by simp [e])) (fun e => hb (by simp [e])) q)) hf (Nat.le_refl _) new
    refine ⟨.ref s.heap.objs.size, _, J, rfl, ⟨_, x, y, rfl, I.hok.fresh (Nat.le_refl _), rfl, fun l hl => by rw [Inv.sqK_inj I hl hqx]; exact hx, fun l hl => by rw [Inv.sqK_inj I hl hqy]; exact hy⟩, ⟨z'', ?_, ⟨u, u2, ?_⟩, ?_, ?_⟩, fun c hcm => ?_⟩
    · exact (sb.2 _ D.TIz).trans (hk _ _ D.TIz D.TITO D.TIi1 D.TIi2 hI)
    · exact (sb.2 _ D.TOz).trans O'
    · exact g1'.here fun o q => (sb.2 _ D.i1z).trans q
    · exact g2'.here fun o q => (sb.2 _ D.i2z).trans q
    · have hlt : c < s.heap.objs.size := by
        simp only [List.mem_cons, List.not_mem_nil, or_false] at hcm
        rcases hcm with rfl | rfl | rfl | rfl | rfl
        · exact zl
        · exact Heap.lt_size hI
        · exact Heap.lt_size hO
        · obtain ⟨_, e1, _⟩ := g1.obj; exact Heap.lt_size e1
        · obtain ⟨_, e2, _⟩ := g2.obj; exact Heap.lt_size e2
      rw [upd_ne (Nat.ne_of_lt hlt)]
      exact (hf c hcm).1
  done := by
    intro X hP hw hK hc i pins s σ H E I hf st hg
    subst hP hw hK
    obtain ⟨hz, hI, ⟨x0, y0, hO⟩, g1, g2⟩ := st
    obtain ⟨xs, ys, hqx, hqy, hn⟩ := hg
    obtain ⟨us, rv, p, _⟩ := Inv.sqK I hqx
    obtain ⟨us2, rv2, p2, _⟩ := Inv.sqK I hqy
    have l1 := rv.length
    have l2 := rv2.length
    have he : us.toArray[i]? = none ∨ us2.toArray[i]? = none := hn.imp (fun q => by simp; omega) (fun q => by simp; omega)
    exact pn_end (I.ok.hd hc) D hz hI hO g1 g2 p p2 he fun h' hk => ⟨rfl, I.turnedL (ch := [z, TI, TO, i1, i2]) (t' := s.toks) (fun c o hb q =>
      hk c o (fun e => hb (by simp [e])) (fun e => hb (by simp [e])) (fun e => hb (by simp [e])) (fun e => hb (by simp [e])) q) hf⟩
  self := fun A i s Q E st h => wpAny_pyIter_zip st.1 h
def iZk (K : PySem.W.Frag) (ta : TA) : TI := fun σ H R => ta σ H fun vs H1 => ∃ a b xs ys k k', vs = [.ref a, .ref b] ∧ SqK K k H1 a xs ∧ SqK K k' H1 b ys ∧ R (ItzK K k k' a b) H1
theorem pi_zk {X : Cx} {e e2 : Expr} {ta : TA} {p pos tpos : Pos} {elts : List Expr} {kk : Nat} (hg : Gl X "zip") (hm : X.mg "zip" = none) (ha : PA X [e, e2] ta) (hs : starEach [e, e2] X.env = (false, eval e X.env) :: starEach [e2] X.env) (hpl : (backTo pos (starEach [e2] X.env)).any (·.1) = false) :
    PI X (.Tuple elts kk tpos) (.Call (.Name "zip" p) [e, e2] [] pos) (iZk X.K ta) := by
  refine ⟨fun pins s σ H R I h => ?_⟩
  refine Call_ (ld_blt I hg hm PyProof.Rows.boot_zip (PyProof.Rows.callWith_type1 (thn (ha.run pos pins s σ H _ I h) fun us s1 ⟨vs, H1, I1, r1, q1⟩ => ?_) hs hpl))
  obtain ⟨a, b, xs, ys, k, k', ex, hqx, hqy, q⟩ := q1
  subst ex
  obtain ⟨u, u', rfl, r, r'⟩ := vals2 r1
  obtain rfl : u = Value.ref a := r
  obtain rfl : u' = Value.ref b := r'
  obtain ⟨w1, rv, p1, lt1⟩ := Inv.sqK I1 hqx
  obtain ⟨w2, rv2, p2, lt2⟩ := Inv.sqK I1 hqy
  refine zk_call p1 p2 fun h' hz hI hO g1 g2 hk => wpAny_pyIter_zip hz ?_
  have I2 : Inv X pins σ H1 { s1 with heap := h' } := I1.kept (t' := s1.toks) hk
  refine ⟨s1.heap.objs.size + 4, [s1.heap.objs.size + 4, s1.heap.objs.size + 2, s1.heap.objs.size + 3, s1.heap.objs.size, s1.heap.objs.size + 1], _, _, H1, rfl, I2, turn_zk (PySem.W.ktu_apart s1.heap.objs.size a b lt1 lt2), ⟨hz, hI, ⟨_, _, hO⟩, g1, g2⟩, fun c hcm => ?_, q⟩
  have hle : s1.heap.objs.size ≤ c := by
    simp only [List.mem_cons, List.not_mem_nil, or_false] at hcm
    rcases hcm with e | e | e | e | e <;> rw [e] <;> first | exact Nat.le_add_right _ _ | exact Nat.le_refl _
  exact I1.fpOk hle (I1.hok.fresh hle)
theorem itD_zk {K : PySem.W.Frag} {mg : Str → Option Value} {G : Hp} {k k' : Bool} {a b : Addr} {xs ys : List V} {ds es : List D} (ha : ∀ H, Ex G H → SqK K k H a xs) (h : DenL K mg G xs ds) (hb : ∀ H, Ex G H → SqK K k' H b ys) (h' : DenL K mg G ys es) : ItD K mg (ItzK K k k' a b) G (zipD ds es) := fun i G1 H1 e1 e2 => by
  have hs := ha H1 (e1.trans e2)
  have hs' := hb H1 (e1.trans e2)
  refine ⟨fun d hd => ?_, fun hl => ⟨xs, ys, hs, hs', by rw [h.1, h'.1]; exact zipD_len hl⟩⟩
  obtain ⟨x, y, hx, hy, rfl⟩ := zipD_get hd
  obtain ⟨v, hv, hden⟩ := h.get hx
  obtain ⟨v', hv', hden'⟩ := h'.get hy
  refine ⟨⟨xs, ys, v, v', hs, hs', hv, hv'⟩, fun x H' ⟨T, x1, y1, ex, hT, hH, hx1, hy1⟩ => ?_⟩
  subst ex hH
  have q1 := hx1 xs hs
  have q2 := hy1 ys hs'
  rw [hv] at q1; cases q1
  rw [hv'] at q2; cases q2
  have st : Step G1 H1 (upd G1 T (.tup [v, v'])) (upd H1 T (.tup [v, v'])) [] := .shr hT
  exact ⟨_, st, Den.tupL (SqT.of upd_same) (.cons ((hden.mono e1).mono (st.ex e2)) (.cons ((hden'.mono e1).mono (st.ex e2)) .nil))⟩
def seqD : D → Option (List D)
  | .lst ds => some ds
  | .tup ds => some ds
  | _ => none
def zipI2 (m : M (List Opd)) : M (List D) := bindM m fun os env => match dsOf os env with
  | .ok [d, e] en => (match seqD d, seqD e with
    | some ds, some es => .ok (zipD ds es) en
    | _, _ => .stk)
  | _ => .stk
theorem Den.sqK {K : PySem.W.Frag} {mg : Str → Option Value} {G : Hp} {v : V} {d : D} {ds : List D} (h : Den K mg G v d) (e : seqD d = some ds) : ∃ k a xs, v = .ref a ∧ (∀ H, Ex G H → SqK K k H a xs) ∧ DenL K mg G xs ds := by
  cases d with
  | lst l => cases e; obtain ⟨a, xs, rfl, h1, h2⟩ := h.lst_inv; exact ⟨true, a, xs, rfl, fun H ex => SqL.of (ex _ _ h1), h2⟩
  | tup l => cases e; obtain ⟨a, xs, rfl, h1, h2⟩ := h.tup_inv; exact ⟨false, a, xs, rfl, fun H ex => ex.sqT h1, h2⟩
  | _ => cases e
theorem qi_zip2 {X : Cx} {W : WX} {pn : List Nat} {pos : Pos} {a b : Expr} {elts : List Expr} {kk : Nat} {tpos p : Pos} {m : M (List Opd)} (hg : Gl X "zip") (hm : X.mg "zip" = none) (ha : QOs X W pn [a, b] m) (hs : starEach [a, b] X.env = (false, eval a X.env) :: starEach [b] X.env) (hpl : (backTo pos (starEach [b] X.env)).any (·.1) = false) :
    QI X W pn (.Tuple elts kk tpos) (.Call (.Name "zip" p) [a, b] [] pos) (zipI2 m) := fun Fh P hp =>
  PI.weak (pi_zk hg hm (ha Fh P hp) hs hpl) fun σ H R ⟨G, env, S, q⟩ => by
    refine ⟨G, env, S, ?_⟩
    unfold zipI2 bindM at q
    cases z : m env with
    | err x e1 => simp only [z] at q; exact q
    | stk => simp only [z] at q; exact q
    | ok os e1 =>
      simp only [z] at q
      intro vs G1 H1 ex w S1
      split at q
      · rename_i d e e2 z2
        obtain ⟨G2, x2, d2, S2⟩ := S1.dsOf w z2
        obtain ⟨v1, vs, rfl, k1, d2⟩ := d2.cons_ex
        obtain ⟨v2, vs, rfl, k2, d2⟩ := d2.cons_ex
        rw [d2.nil_inv]
        split at q
        · rename_i ds es z3 z4
          obtain ⟨kA, b1, xs, rfl, h1, h2⟩ := k1.sqK z3
          obtain ⟨kB, b2, ys, rfl, h3, h4⟩ := k2.sqK z4
          exact ⟨b1, b2, xs, ys, kA, kB, rfl, h1 _ S2.gh, h3 _ S2.gh, q _ G2 H1 (ex.trans x2) (itD_zk h1 h2 h3 h4) S2⟩
        · exact q.elim
      · exact q.elim
end Z
/-! Z: what the program's top has left, read by a Hook; how calls bind; the end of a law. -/
namespace Z
open PySem PySem.Spec PyProof.Rows L2
/-! ### facts -/
def propG (K : PySem.W.Frag) (C f : Str) : Addr := match PySem.W.recIn K (He.ma K (He.ga K C) f) "property" with
  | some (.ref g :: _) => g
  | _ => 0
inductive Zf where
  | fa (f : He.Fa)
  | prop (C f : Str)
  | cval (C f : Str) (v : He.Dv)
  | tup (x : Str) (vs : List He.Dv)
  | gen (f : PySem.W.Frag → Bool)
def Zf.ok (K : PySem.W.Frag) : Zf → Bool
  | .fa f => f.ok K
  | .prop C f => He.eqO (PySem.W.findIn K (.ref (He.ga K C)) f) (some (some (.ref (He.ma K (He.ga K C) f)))) && (He.eqO (PySem.W.specialIn K (.ref (He.ma K (He.ga K C) f)) "__get__") (some (some (.builtin "property.__get__"))) &&
      (decide (PySem.W.takesIn K (.ref (He.ma K (He.ga K C) f)) = some true) && (match PySem.W.recIn K (He.ma K (He.ga K C) f) "property" with
        | some (.ref _ :: _) => true
        | _ => false)))
  | .cval C f v => PySem.W.readsIn K (He.ga K C) (.type "type") && (He.eqO (PySem.W.specialIn K (.ref (He.ga K C)) "__getattribute__") (some (some (.builtin "type.__getattribute__"))) &&
      (match PySem.W.findCls K (.ref (He.ga K C)) (.type "type") f with
        | some (.val u) => He.relB (v.v K) u
        | _ => false))
  | .tup x vs => He.tupB K x vs
  | .gen f => f K
section
variable {K : PySem.W.Frag} {mg : Str → Option Value}
theorem prop_ok {C f : Str} (h : (Zf.prop C f).ok K = true) : PropOf K (He.ga K C) f (He.ma K (He.ga K C) f) (propG K C f) := by
  obtain ⟨h1, h⟩ := He.ba h
  obtain ⟨h2, h⟩ := He.ba h
  obtain ⟨h3, h4⟩ := He.ba h
  refine ⟨He.eqO_ok h1, He.eqO_ok h2, of_decide_eq_true h3, ?_⟩
  unfold propG
  split at h4
  · rename_i g r e; rw [e]; exact ⟨r, rfl⟩
  · cases h4
theorem cval_ok {C f : Str} {v : He.Dv} (h : (Zf.cval C f v).ok K = true) : ClX.CRead K (He.ga K C) (.type "type") ∧ ∃ u, ClX.CVal K (He.ga K C) (.type "type") f (v.v K) u := by
  obtain ⟨h1, h⟩ := He.ba h
  obtain ⟨h2, h3⟩ := He.ba h
  refine ⟨⟨h1, He.eqO_ok h2⟩, ?_⟩
  split at h3
  · rename_i u e; exact ⟨u, e, He.relB_ok h3⟩
  · cases h3
def dvD : He.Dv → Option D
  | .non => some .non
  | .bl b => some (.bl b)
  | .int i => some (.int i)
  | .str x => some (.str x)
  | _ => none
theorem dvD_den {v : He.Dv} {d : D} (h : dvD v = some d) (G : Hp) : Den K mg G (v.v K) d := by
  cases v <;> first | (cases h; done) | skip
  all_goals cases h
  · exact .non
  · exact .bl _
  · exact .int _
  · exact .str _
def dvDs : List He.Dv → Option (List D)
  | [] => some []
  | v :: vs => match dvD v, dvDs vs with
    | some d, some ds => some (d :: ds)
    | _, _ => none
theorem dvDs_den {G : Hp} : ∀ {vs : List He.Dv} {ds : List D}, dvDs vs = some ds → DenL K mg G (vs.map (He.Dv.v K)) ds
  | [], ds, h => by cases h; exact .nil
  | v :: vs, ds, h => by
    unfold dvDs at h
    split at h
    · rename_i d es h1 h2; cases h; exact .cons (dvD_den h1 G) (dvDs_den h2)
    · cases h
theorem tup_den {x : Str} {vs : List He.Dv} {ds : List D} (h : (Zf.tup x vs).ok K = true) (e : dvDs vs = some ds) (G : Hp) : Den K mg G (.ref (He.ga K x)) (.tup ds) := .tupL (He.tupB_ok h G) (dvDs_den e)
end
/-! ### defs -/
structure Zd where
  at_ : PySem.W.Frag → Addr
  name : Str
  qual : Str
  st : Stmt
  kwd : List (Str × He.Dv) := []
  clo : List Str := []
def zAt (K : PySem.W.Frag) (a : Addr) : He.FnW := match K.lookup a with
  | some ⟨_, _, .func fd, _⟩ => some (fd.name, fd.qualname, fd.params, fd.body, fd.scope, fd.globals, fd.closure.map (fun p => (p.1, 0)), fd.builtins)
  | _ => none
def Zd.val (d : Zd) : He.FnW := some (d.name, d.qual, defArgs d.st, .stmts (defBody d.st), defScope d.st, mainGlobals, d.clo.map (fun x => (x, 0)), builtinsNs)
def Zd.kws (K : PySem.W.Frag) (d : Zd) : List (Str × V) := d.kwd.map fun q => (q.1, q.2.v K)
def Zd.ok (K : PySem.W.Frag) (d : Zd) : Bool := PySem.W.keepIn K (.ref (d.at_ K)) && (match K.lookup (d.at_ K) with
  | some ⟨_, _, .func fd, _⟩ => PySem.W.codeIn K fd.code d.qual && (He.dflB K fd.defaults [] && He.kwdB K fd.kwdefaults (d.kws K))
  | _ => false)
abbrev ZFun (K : PySem.W.Frag) (d : Zd) (fd : FuncData) : Prop := FunD K d.name d.qual (defArgs d.st) (defBody d.st) (defScope d.st) [] (d.kws K) (d.at_ K) fd
theorem Zd.funD {K : PySem.W.Frag} {d : Zd} (hc0 : d.clo = []) (e : zAt K (d.at_ K) = d.val) (c : d.ok K = true) : ∃ fd, ZFun K d fd := by
  obtain ⟨kp, c2⟩ := He.ba c
  unfold zAt at e
  cases q : K.lookup (d.at_ K) with
  | none => rw [q] at c2; cases c2
  | some o =>
    obtain ⟨oc, od, dt, osl⟩ := o
    rw [q] at c2 e
    cases dt with
    | func fd =>
      obtain ⟨n1, n2, n3, n4, n5, n6, n7, n8, n9, n10, n11, n12, n13, n14, n15⟩ := fd
      have e2 : (some (n1, n2, n3, n4, n5, n6, n7.map (fun p => (p.1, 0)), n15) : He.FnW) = d.val := e
      unfold Zd.val at e2
      simp only [hc0, List.map_nil, List.map_eq_nil_iff, Option.some.injEq, Prod.mk.injEq] at e2
      obtain ⟨h1, h2, h3, h4, h5, h6, h7, h8⟩ := e2
      subst h1 h2 h3 h4 h5 h6 h7 h8
      obtain ⟨k1, k2⟩ := He.ba c2
      obtain ⟨k3, k4⟩ := He.ba k2
      exact ⟨_, ⟨oc, od, n8, n9, n10, n11, n12, n13, n14, osl, rfl, q, k1, He.dflB_ok k3, He.kwdB_ok k4⟩, kp⟩
    | _ => cases c2
/-! ### the Hook -/
abbrev ZAl : Type := Bool × List He.FnW
def zObs (fa : List Zf) (fn : List Zd) (K : PySem.W.Frag) : ZAl := ((fa.all fun f => f.ok K) && fn.all fun d => d.ok K, fn.map fun d => zAt K (d.at_ K))
def zVal (fn : List Zd) : ZAl := (true, fn.map Zd.val)
def ZSays (fa : List Zf) (fn : List Zd) (K : PySem.W.Frag) : Prop := zObs fa fn K = zVal fn
def asZ (g : Addr → Option Obj) : Nat → List Addr
  | 0 => [mainGlobals, cStatics]
  | n + 1 => He.growD g (asZ g n)
def zObsG (n : Nat) (fa : List Zf) (fn : List Zd) (g : Addr → Option Obj) : ZAl := zObs fa fn (He.frG g (asZ g n))
def zHook (n : Nat) (fa : List Zf) (fn : List Zd) : PySem.W.Hook where
  α := ZAl
  obs := fun s => zObsG n fa fn s.heap.get?
  val := fun _ => zVal fn
  says := fun _ h => ∃ K : PySem.W.Frag, K.In h ∧ ZSays fa fn K
  of := fun _ _ e => ⟨_, He.frG_in, e⟩
  keeps := fun _ _ _ y k => y.elim fun K z => ⟨K, PySem.W.Frag.In.keeps z.1 k, z.2⟩
theorem zObsG_eq {n : Nat} {fa : List Zf} {fn : List Zd} {g : Addr → Option Obj} {s : Shared} (h : ∀ a, g a = s.heap.get? a) : zObsG n fa fn g = (zHook n fa fn).obs s := by
  obtain rfl : g = s.heap.get? := funext h
  rfl
theorem ZSays.fact {fa : List Zf} {fn : List Zd} {K : PySem.W.Frag} (c : ZSays fa fn K) (i : Nat) {f : Zf} (h : fa[i]? = some f) : f.ok K = true := by
  have c1 := (He.ba (congrArg (fun z : ZAl => z.1) c)).1
  exact List.all_eq_true.mp c1 f (List.mem_of_getElem? h)
theorem ZSays.def_ {fa : List Zf} {fn : List Zd} {K : PySem.W.Frag} (c : ZSays fa fn K) (i : Nat) {d : Zd} (h : fn[i]? = some d) (hc0 : d.clo = [] := by rfl) : ∃ fd, ZFun K d fd := by
  have c2 := (He.ba (congrArg (fun z : ZAl => z.1) c)).2
  have e : fn.map (fun d => zAt K (d.at_ K)) = fn.map Zd.val := congrArg (fun z : ZAl => z.2) c
  have e2 : (fn.map fun d => zAt K (d.at_ K))[i]? = (fn.map Zd.val)[i]? := by rw [e]
  rw [List.getElem?_map, List.getElem?_map, h] at e2
  exact Zd.funD hc0 (Option.some.inj e2) (List.all_eq_true.mp c2 d (List.mem_of_getElem? h))
/-- a def that says super() -/
theorem ZSays.sup_ {fa : List Zf} {fn : List Zd} {K : PySem.W.Frag} (c : ZSays fa fn K) (i : Nat) {d : Zd} (h : fn[i]? = some d) (hc0 : d.clo = [("__class__" : Str)]) : zAt K (d.at_ K) = d.val ∧ d.ok K = true := by
  have c2 := (He.ba (congrArg (fun z : ZAl => z.1) c)).2
  have e : fn.map (fun d => zAt K (d.at_ K)) = fn.map Zd.val := congrArg (fun z : ZAl => z.2) c
  have e2 : (fn.map fun d => zAt K (d.at_ K))[i]? = (fn.map Zd.val)[i]? := by rw [e]
  rw [List.getElem?_map, List.getElem?_map, h] at e2
  exact ⟨Option.some.inj e2, List.all_eq_true.mp c2 d (List.mem_of_getElem? h)⟩
/-! ### how calls bind: every parameter given -/
def srcAt (us : List Value) : Src → Value
  | .inl i => us.getD i .none
  | .inr _ => .none
def allIn (n : Nat) : List Src → Bool
  | [] => true
  | .inl i :: r => decide (i < n) && allIn n r
  | .inr _ :: _ => false
theorem allIn_get {n : Nat} : ∀ {arr : List Src} {j : Nat} {c : Src}, allIn n arr = true → arr[j]? = some c → ∃ i, c = .inl i ∧ i < n
  | [], j, c, h, e => by simp at e
  | .inl i :: r, 0, c, h, e => by
    simp at e; subst e
    simp [allIn] at h
    exact ⟨i, rfl, h.1⟩
  | .inl i :: r, j + 1, c, h, e => by
    simp [allIn] at h
    exact allIn_get (j := j) h.2 (by simpa using e)
  | .inr d :: r, j, c, h, e => by simp [allIn] at h
theorem srcs_ok {K : PySem.W.Frag} {mg : Str → Option Value} {us : List Value} {n : Nat} {arr : List Src} (ha : allIn n arr = true) (hu : us.length = n) (j : Nat) (c : Src) (z : Value) (h1 : arr[j]? = some c) (h2 : (arr.map (srcAt us))[j]? = some z) : SrcV K mg us c z := by
  obtain ⟨i, rfl, hi⟩ := allIn_get ha h1
  rw [List.getElem?_map, h1] at h2
  cases h2
  show us[i]? = some (us.getD i .none)
  rw [List.getD_eq_getElem?_getD, List.getElem?_eq_getElem (by omega)]
  rfl
section
variable {K : PySem.W.Frag} {mg : Str → Option Value} {x qual : Str} {params : Arguments} {body : List Stmt} {scope : Scope} {kws : List (Str × V)} {f : Addr} {fd : FuncData} {ps ks : List Str} {np : Nat} {arr : List Src}
theorem bnd_of (F : FunD K x qual params body scope [] kws f fd) (hl : arr.length = ps.length) (ha : allIn (np + ks.length) arr = true)
    (h : ∀ (kV doc pm : Value) (an : Option Addr) (cdv ct : Value) (us ws : List Value), us.length = np → ws.length = ks.length → bindArgs (PySem.W.fnOf x qual params body scope .none kV doc pm an cdv ct) ⟨us, ks.zip ws⟩ = pure (ps.zip (arr.map (srcAt (us ++ ws))))) : Bnd K mg fd ps np ks arr := by
  obtain ⟨oc, od, dV, kV, doc, pm, an, cdv, ct, osl, rfl, lk, hcd, hD, hK⟩ := F.ex
  rcases hD with ⟨_, rfl⟩ | ⟨e, _⟩
  · exact ⟨hl, fun s us ws X h1 h2 => ⟨arr.map (srcAt (us ++ ws)), by simp, srcs_ok ha (by simp [h1, h2]), .of_eq (h kV doc pm an cdv ct us ws h1 h2)⟩⟩
  · exact absurd rfl e
theorem bndI_of (F : FunD K x qual params body scope [] kws f fd) (hl : arr.length + 1 = ps.length) (ha : allIn (np + ks.length) arr = true)
    (h : ∀ (kV doc pm : Value) (an : Option Addr) (cdv ct a : Value) (us ws : List Value), us.length = np → ws.length = ks.length → bindArgs (PySem.W.fnOf x qual params body scope .none kV doc pm an cdv ct) ⟨a :: us, ks.zip ws⟩ = pure (ps.zip (a :: arr.map (srcAt (us ++ ws))))) : BndI K mg fd ps np ks arr := by
  obtain ⟨oc, od, dV, kV, doc, pm, an, cdv, ct, osl, rfl, lk, hcd, hD, hK⟩ := F.ex
  rcases hD with ⟨_, rfl⟩ | ⟨e, _⟩
  · exact ⟨hl, fun us ws h1 h2 => ⟨arr.map (srcAt (us ++ ws)), by simp, srcs_ok ha (by simp [h1, h2]), fun s a X => .of_eq (h kV doc pm an cdv ct a us ws h1 h2)⟩⟩
  · exact absurd rfl e
end
/-! ### the lengths of argument lists -/
theorem len_nil : ∀ env os e', nilO env = .ok os e' → os.length = 0 := fun env os e' h => by cases h; rfl
theorem len_cons {m : M Opd} {ms : M (List Opd)} {n : Nat} (h : ∀ env os e', ms env = .ok os e' → os.length = n) : ∀ env os e', consO m ms env = .ok os e' → os.length = n + 1 := fun env os e' q => by
  unfold consO bindM at q
  split at q
  · rename_i o e1 z
    simp only at q
    split at q
    · rename_i os2 e2 z2
      cases q
      rw [List.length_cons, h _ _ _ z2]
    · cases q
    · cases q
  · cases q
  · cases q
/-! ### the end -/
theorem walk_ofZ {l : PySem.W.OpenLaw} {n k : Nat} {q : Program} {loose : List Str} {XP : (Str → Option Value) → Heap → Prop} {YP : World → Heap → Prop} {d : DefRec} {x : Str} {f : FnD}
    (hn : l.most = some n) (hn2 : n ≤ sizeLine) (hdf : d.params.defaults = []) (hr : Room k callerA)
    (hD : ∀ ns : List Int, ns.length ≤ n → ∃ rs, f [.sh (.fls (ns.map D.int))] = .ok (.sh (.bl true)) rs)
    (F : ∀ (w : World) (mg : Str → Option Value) (fa : Addr) (h : Heap), YP w h → h.Ns mainGlobals mg → mg d.name = some (.ref fa) →
      ∃ (K : PySem.W.Frag) (fd : FuncData), K.In h ∧ (∀ (s : Shared) (u : Value), BindsTo s fd ⟨[u], []⟩ [(x, u)]) ∧ ∀ base : Heap, K.In base → base.Ns mainGlobals mg → FnOk l.prog w K mg base (L2.CX l.prog w) k fa fd [x] (spOf K mg 1 f)) :
    PySem.W.WalkO q loose XP YP l.row.toRowW d [] (fun f vs => PySem.call f vs) := by
  refine Att.attach_call hn hdf fun w s₀ s₁ mg mb fa o pm cd doc a vs ns G Y ho hd hcd hmg hobj hints hlen hg => ?_
  obtain ⟨K, fd, KX, hb, hF⟩ := F w mg fa _ Y G.T.g hmg
  refine law_call KX G.T.g G.T.b G.T.builtins G.T.nolimit hg hobj hints (Nat.le_trans hlen hn2) hr hF hb (fun H hO hS => ?_) fun H e s' z => ?_
  · obtain ⟨rs, e⟩ := hD ns hlen
    refine ⟨H, [.sh (.fls (ns.map D.int))], ⟨Ex.refl _, ⟨fun a u z => by
        rcases hO a with y | ⟨o, xs, y⟩ <;> rw [y] at z <;> cases z
        exact nofun, fun P ps z => by
        rcases hO P with y | ⟨o, xs, y⟩ <;> rw [y] at z <;> cases z⟩⟩, rfl, .cons (Den.fls (xs := ns.map V.int) hS (by simp) ?_) .nil, ?_, ?_⟩
    · intro i v d' h1 h2
      rw [List.getElem?_map] at h1 h2
      cases z : ns[i]? with
      | none => rw [z] at h1; cases h1
      | some j => rw [z] at h1 h2; cases h1; cases h2; exact .int j
    · intro i j r r' a' h1 h2 o1
      cases i with
      | zero => simp at h1; subst h1; cases o1
      | succ i => simp at h1
    · rw [e]
      exact fun v G' H' _ w _ => Den.bl_inv w
  · obtain ⟨_, _, _, _, _, _, _, _, _, _, _, _, z⟩ := z
    exact z
end Z
/-! Z: small words for printed derivations -/
namespace Z
open PySem PySem.Spec PyProof.Rows L2
theorem u64 {k : Nat} {A : Around} (r : Room k A) : A.units + 64 < cLine := by have := r.un; omega
def inC (s : Stmt) (j : Nat) : Stmt := match s with
  | .ClassDef _ _ _ b _ _ _ _ _ _ _ => b.getD j (.Pass ⟨0, 0, 0, 0⟩)
  | _ => .Pass ⟨0, 0, 0, 0⟩
end Z
namespace Z
open PySem PySem.Spec PyProof.Rows L2
section
variable {X : Cx} {K : PySem.W.Frag} {mg : Str → Option Value}
abbrev rAddX (K : PySem.W.Frag) : R2 := fun x y H Q => rI0 (fun i j => .int (i + j)) x y H Q ∨ (∃ i j, x = .str i ∧ y = .str j ∧ i.length + j.length ≤ sizeLine ∧ Q (.str (i ++ j)) H) ∨ rCatA K x y H Q ∨ rCat x y H Q
theorem o_add : OpR X (binaryOp .Add) (rAddX X.K) := Z.OpR.or op_add (Z.OpR.or op_add_str (Z.OpR.or op_catA op_cat))
theorem s_addX : OpS K mg (rAddX K) addD := OpS.or s_addI (OpS.or s_addS (OpS.or s_addT s_addL))
abbrev rMulX (K : PySem.W.Frag) : R2 := fun x y H Q => rI CMul (fun i j => .int (i * j)) x y H Q ∨ rRep x y H Q ∨ rRepT K x y H Q
def mulD : RV → RV → Option RV := orF mulI (orF repL repT)
theorem o_mul : OpR X (binaryOp .Mult) (rMulX X.K) := Z.OpR.or op_mul (Z.OpR.or op_rep op_repT)
theorem s_mulX : OpS K mg (rMulX K) mulD := OpS.or s_mulI (OpS.or s_repL s_repT)
abbrev rInX (K : PySem.W.Frag) : R2 := fun x y H Q => rIn K false x y H Q ∨ ∃ i j, x = .str i ∧ y = .str j ∧ Q (.bl (!(Builtin.Str.occurrences j i 0 j.length 1).isEmpty)) H
abbrev rNinX (K : PySem.W.Frag) : R2 := fun x y H Q => rIn K true x y H Q ∨ ∃ i j, x = .str i ∧ y = .str j ∧ Q (.bl (!(!(Builtin.Str.occurrences j i 0 j.length 1).isEmpty))) H
def inX : RV → RV → Option RV := orF (inS false) (inT false)
def ninX : RV → RV → Option RV := orF (inS true) (inT true)
theorem o_in : OpR X (compareOp .In) (rInX X.K) := Z.OpR.or op_in_seq op_in_str
theorem o_nin : OpR X (compareOp .NotIn) (rNinX X.K) := Z.OpR.or op_notIn_seq op_notIn_str
theorem s_inX : OpS K mg (rInX K) inX := OpS.or s_inS s_inT
theorem s_ninX : OpS K mg (rNinX K) ninX := OpS.or s_inS s_ninT
end
end Z
namespace Z
open PySem PySem.Spec PyProof.Rows L2
theorem conv {X : Cx} {W : WX} {pn : List Nat} {b : List Stmt} {s t : MS} (h : QSs X W pn b s) (e : s = t) : QSs X W pn b t := e ▸ h
end Z
/-! Z: the head of a law with lambdas and own exceptions -/
namespace Z
open PySem PySem.Spec PyProof.Rows L2
/-! ### a def that makes lambdas: its code object c, its table T -/
def spOfT (K : PySem.W.Frag) (mg : Str → Option Value) (T : Addr) (n : Nat) (f : Nat → FnD) : Sp := fun vs H Q E => (∃ ps, H T = some (.tbl ps)) ∧ ∃ G rs, GH G H ∧ vs.length = n ∧ Views K mg G H vs rs ∧ Dist vs rs ∧ ∀ L, PF K mg G H vs rs Q E (f L rs)
theorem fn_okT {Pr : Program} {w : World} {K : PySem.W.Frag} {mg : Str → Option Value} {base : Heap} {x qual : Str} {params : Arguments} {body : List Stmt} {scope : Scope} {dvs : List V} {kws : List (Str × V)} {f : Addr} {fd : FuncData} {N ps : List Str} {k : Nat} {c T : Addr} {s : Nat → List Nat → MS}
    (F : FunD K x qual params body scope dvs kws f fd) (S : FnScope N ps scope) (hc : fd.code = .ref c)
    (hbody : ∀ (L : Nat) (pn : List Nat) (A : Around) (outer : List Env) (sh : Shared) (H : Hp) (E : XK), L = sh.heap.objs.size → (∃ ps, H T = some (.tbl ps)) → Room k (A.deeper (envOfC qual scope sh.heap.objs.size f (.ref c))) →
      QSs (cxOf (L2.CX Pr w) Pr w K mg base N qual scope f (.ref c) A outer sh H E) (fun cls d _ H => E cls d H) pn body (s L pn)) :
    FnOk Pr w K mg base (L2.CX Pr w) (k + 1) f fd ps (spOfT K mg T ps.length fun L => runD N.length (s L)) := by
  have hpl : ps.length ≤ N.length := by have := congrArg List.length S.pre; rw [List.length_take] at this; omega
  obtain ⟨oc, od, dV, kV, doc, pm, an, cdv, ct, osl, rfl, lk, hcd, _, _⟩ := F.ex
  have hcc : cdv = .ref c := hc
  subst hcc
  refine fn_of lk hcd S (fun vs H Q E h => ?_) (fun A outer sh H vs Q E hr h => ?_)
  · obtain ⟨_, G, rs, _, hl, _⟩ := h; exact hl
  · obtain ⟨hT, G, rs, ex, hl, vw, ds, q⟩ := h
    refine ⟨rdS K mg (fun cls d _ H => E cls d H) (foreign G H vs rs) (pinsOf 0 vs rs) (s sh.heap.objs.size (ownIx 0 rs)), hbody _ (ownIx 0 rs) A outer sh H E rfl hT hr (foreign G H vs rs) (pinsOf 0 vs rs) (pins_ix vw.1), G, _, start_rel ex vw ds (by rw [hl]; exact hpl), ?_⟩
    have q := q sh.heap.objs.size
    unfold runD at q
    cases z : s sh.heap.objs.size (ownIx 0 rs) (rs.map some ++ List.replicate (N.length - rs.length) none) with
    | nx e =>
      simp only [z] at q
      cases z2 : backD rs e with
      | none => simp only [z2] at q; exact q.elim
      | some rs' =>
        simp only [z2] at q
        exact fun σ' G' H' ex' S' => q .non G' H' (end_back ex.1 vw ex' S' z2) Den.non (fun a m => by cases m)
    | rt r e =>
      simp only [z] at q
      cases z2 : backD rs e with
      | none => simp only [z2] at q; exact q.elim
      | some rs' =>
        simp only [z2] at q
        exact fun v σ' G' H' ex' wv S' => q v G' H' (end_back ex.1 vw ex' S' z2) wv (end_tmp vw ex' S' z2)
    | err x e =>
      simp only [z] at q
      cases z2 : backD rs e with
      | none => simp only [z2] at q; exact q.elim
      | some rs' =>
        simp only [z2] at q
        exact fun cls d σ' G' H' ex' hx S' => q cls d G' H' (end_back ex.1 vw ex' S' z2) hx
    | bk e => simp only [z] at q; exact q.elim
    | ct e => simp only [z] at q; exact q.elim
    | stk => simp only [z] at q; exact q.elim
/-! ### the law's call: all but the script and its table are let go -/
def IsLst : Option HO → Prop
  | some (.lst _) => True
  | some (.frz _ (.lst _)) => True
  | _ => False
def kpP (H : Hp) (a T b : Addr) : Prop := b = T ∨ (b = a ∧ IsLst (H a))
def spL (K : PySem.W.Frag) (T : Addr) (n : Nat) : Sp := fun vs H Q E => ∃ (a : Addr) (ns : List Int), ns.length ≤ n ∧ vs = [.ref a] ∧ H T = some (.tbl #[]) ∧ SqL K H a (ns.map V.int) ∧ ∀ v H', v = .bl true → Q v H'
theorem objOk_there {P : Program} {w : World} {H : Hp} {h : Heap} {c : Addr} {o : HO} (ht : ObjOk P w H h c o) : ∃ ob, h.get? c = some ob := by
  cases o with
  | lst xs => obtain ⟨_, _, _, _, e⟩ := ht; exact ⟨_, e⟩
  | tup xs => obtain ⟨_, _, _, ob, e, _⟩ := ht; exact ⟨_, e⟩
  | dK kvs => obtain ⟨_, _, _, _, o, _, _, e, _⟩ := ht; exact ⟨_, e⟩
  | dT kvs => obtain ⟨_, _, _, _, o, _, _, e, _⟩ := ht; exact ⟨_, e⟩
  | set S n => obtain ⟨o, _, _, _, e, _⟩ := ht; exact ⟨_, e⟩
  | ins C dx fs => obtain ⟨_, _, _, e, _⟩ := ht; exact ⟨_, e⟩
  | own y => exact ht
  | xd fs => obtain ⟨_, ⟨_, _, _, e, _⟩, _⟩ := ht; exact ⟨_, e⟩
  | rng lo hi => obtain ⟨_, _, _, e⟩ := ht; exact ⟨_, e⟩
  | frz ob u => exact ⟨ob, ht.1⟩
  | tbl ps => exact ⟨_, (show h.get? c = some { cls := .none, data := .fields ps } from ht)⟩
  | met f y => exact ⟨_, (show h.get? c = some (PySem.W.methodObj (.ref f) (.ref y)) from ht)⟩
  | ext φ => exact ht.2.1
open Classical in
theorem law_okT {P : Program} {w : World} {K : PySem.W.Frag} {mg : Str → Option Value} {base : Heap} {k n : Nat} {f T : Addr} {fd : FuncData} {x : Str} {fD : Nat → FnD} (F : FnOk P w K mg base (L2.CX P w) k f fd [x] (spOfT K mg T 1 fD))
    (hD : ∀ L (ns : List Int), ns.length ≤ n → ∃ rs, fD L [.sh (.fls (ns.map D.int))] = .ok (.sh (.bl true)) rs) : FnOk P w K mg base (L2.CX P w) k f fd [x] (spL K T n) := by
  refine ⟨fun vs H Q E ⟨a, ns, _, e, _⟩ => by rw [e]; rfl, fun A outer s H args us vs Q E hr e0 hb r ⟨a, ns, hn, ev, hT, hS, hQ⟩ => ?_⟩
  subst ev
  obtain ⟨H0, hH0⟩ : ∃ H0 : Hp, ∀ b, H0 b = if kpP H a T b then H b else none := ⟨_, fun _ => rfl⟩
  have in0 : ∀ {b : Addr}, kpP H a T b → H0 b = H b := fun {b} h => by rw [hH0, if_pos h]
  have out0 : ∀ {b : Addr}, ¬ kpP H a T b → H0 b = none := fun {b} h => by rw [hH0, if_neg h]
  have some0 : ∀ {b : Addr} {o : HO}, H0 b = some o → kpP H a T b ∧ H b = some o := fun {b o} h => by
    by_cases z : kpP H a T b
    · rw [in0 z] at h; exact ⟨z, h⟩
    · rw [out0 z] at h; cases h
  have none0 : ∀ {b : Addr}, H b = none → H0 b = none := fun {b} h => by
    by_cases z : kpP H a T b
    · rw [in0 z]; exact h
    · exact out0 z
  have kin : ∀ {b : Addr} {o : HO}, kpP H a T b → H b = some o → (∃ ps, o = .tbl ps) ∨ (∃ xs, o = .lst xs) ∨ ∃ ob xs, o = .frz ob (.lst xs) := fun {b o} h e => by
    rcases h with rfl | ⟨rfl, hl⟩
    · rw [hT] at e; cases e; exact .inl ⟨_, rfl⟩
    · rw [e] at hl
      cases o with
      | lst xs => exact .inr (.inl ⟨xs, rfl⟩)
      | frz ob u => cases u <;> first | exact .inr (.inr ⟨_, _, rfl⟩) | exact hl.elim
      | _ => exact hl.elim
  have hS0 : SqL K H0 a (ns.map V.int) := by
    rcases hS with h | h
    · refine .inl ?_
      rcases h with h | ⟨o, h⟩
      · exact .inl (by rw [in0 (.inr ⟨rfl, by rw [h]; exact True.intro⟩)]; exact h)
      · exact .inr ⟨o, by rw [in0 (.inr ⟨rfl, by rw [h]; exact True.intro⟩)]; exact h⟩
    · exact .inr h
  have hT0 : H0 T = some (.tbl #[]) := by rw [in0 (.inl rfl)]; exact hT
  have hok0 : HOk P w H0 s.heap := fun b o e => by
    obtain ⟨hk, he⟩ := some0 e
    have ok := e0.hok b o he
    rcases kin hk he with ⟨ps, rfl⟩ | ⟨xs, rfl⟩ | ⟨ob, xs, rfl⟩ <;> exact ok
  have e1 : Env0 P w K mg base A outer s H0 := ⟨e0.frames, e0.mod, fun b o h => ⟨(e0.bs b o h).1, none0 (e0.bs b o h).2⟩, e0.bsz, e0.funs, fun b h => none0 (e0.frf b h), hok0, e0.bare⟩
  -- the shared part: the script alone
  obtain ⟨G, hG⟩ : ∃ G : Hp, ∀ b, G b = if b = T then none else H0 b := ⟨_, fun _ => rfl⟩
  have Gs : ∀ {b : Addr} {o : HO}, G b = some o → b ≠ T ∧ H0 b = some o := fun {b o} h => by
    rw [hG] at h
    split at h
    · cases h
    · rename_i z; exact ⟨z, h⟩
  have Gn : ∀ {b : Addr} {o : HO}, b ≠ T → H0 b = some o → G b = some o := fun {b o} h e => by rw [hG, if_neg h]; exact e
  have hSG : SqL K G a (ns.map V.int) := by
    rcases hS0 with h | h
    · refine .inl ?_
      rcases h with h | ⟨o, h⟩
      · exact .inl (Gn (fun z => by rw [z, hT0] at h; cases h) h)
      · exact .inr ⟨o, Gn (fun z => by rw [z, hT0] at h; cases h) h⟩
    · exact .inr h
  have gh : GH G H0 := ⟨fun b o h => (Gs h).2, ⟨fun b o h ps z => by
      subst z
      obtain ⟨h1, h2⟩ := Gs h
      obtain ⟨h3, h4⟩ := some0 h2
      rcases h3 with h3 | ⟨h3, hl⟩
      · exact h1 h3
      · rw [← h3, h4] at hl; exact hl, fun P' ps h => by
      obtain ⟨h3, h4⟩ := some0 h
      have e : P' = T := by
        rcases h3 with h3 | ⟨h3, hl⟩
        · exact h3
        · rw [← h3, h4] at hl; exact hl.elim
      subst e
      rw [hT] at h4; cases h4
      exact ⟨True.intro, fun pos cv z => by simp [codeAmong] at z⟩⟩⟩
  have hsp : spOfT K mg T 1 fD [.ref a] H0 (fun v _ => v = .bl true) (fun _ _ _ => False) := by
    refine ⟨⟨_, hT0⟩, G, [.sh (.fls (ns.map D.int))], gh, rfl, .cons (Den.fls (xs := ns.map V.int) hSG (by simp) ?_) .nil, ?_, fun L => ?_⟩
    · intro i v d' h1 h2
      rw [List.getElem?_map] at h1 h2
      cases z : ns[i]? with
      | none => rw [z] at h1; cases h1
      | some j => rw [z] at h1 h2; cases h1; cases h2; exact .int j
    · intro i j r r' a' h1 h2 o1
      cases i with
      | zero => simp at h1; subst h1; cases o1
      | succ i => simp at h1
    · obtain ⟨rs, e⟩ := hD L ns hn
      rw [e]
      exact fun v G' H' _ w _ => Den.bl_inv w
  refine codeAny_mono (F.run A outer s H0 args us [.ref a] _ (fun _ _ _ => False) hr e1 hb r hsp) fun rr s' hq => ?_
  cases rr with
  | error e =>
    obtain ⟨_, _, _, _, _, _, _, _, _, _, _, _, z⟩ := hq
    exact z.elim
  | ok fl =>
    cases fl with
    | next => exact False.elim hq
    | brk => exact False.elim hq
    | cont => exact False.elim hq
    | ret u =>
      obtain ⟨v, H4, os4, bare4, un4, hok4, rv, hv⟩ := hq
      obtain ⟨H5, hH5⟩ : ∃ H5 : Hp, ∀ b, H5 b = if H b ≠ none ∧ ¬ kpP H a T b then H b else H4 b := ⟨_, fun _ => rfl⟩
      have in5 : ∀ {b : Addr} {o : HO}, H b = some o → ¬ kpP H a T b → H5 b = some o := fun {b o} h z => by rw [hH5, if_pos ⟨by rw [h]; simp, z⟩]; exact h
      have out5 : ∀ {b : Addr}, (H b = none ∨ kpP H a T b) → H5 b = H4 b := fun {b} h => by
        rw [hH5, if_neg (fun z => h.elim z.1 z.2)]
      refine ⟨v, H5, os4, bare4, ⟨fun b o e n hb0 hx => un4.keep b o e (none0 n) hb0 hx, fun b o e n hb0 hx => un4.slot b o e (none0 n) hb0 hx, fun b o e n hx => by rw [out5 (.inl n)]; exact un4.free b o e (none0 n) hx, un4.there, fun b xs q => ?_, fun b o u' q => ?_, fun b qs q => ?_⟩, fun b o e => ?_, rv, hQ v H5 hv⟩
      · by_cases z : kpP H a T b
        · rw [out5 (.inr z)]; exact un4.tups b xs (by rw [in0 z]; exact q)
        · exact in5 q z
      · by_cases z : kpP H a T b
        · rw [out5 (.inr z)]; exact un4.frzs b o u' (by rw [in0 z]; exact q)
        · exact in5 q z
      · by_cases z : kpP H a T b
        · rw [out5 (.inr z)]; exact un4.tbls b qs (by rw [in0 z]; exact q)
        · exact ⟨#[], by rw [in5 q z]; simp⟩
      · -- what is held behind
        have keepO : ∀ {c : Addr} {o : HO} {u : Obj}, H c = some o → ¬ kpP H a T c → s.heap.get? c = some u → s'.heap.get? c = some u := fun {c o u} h z hu => un4.keep c u hu (out0 z) (fun hm => by rw [e0.frf c hm] at h; cases h) (by simp)
        by_cases z : H b ≠ none ∧ ¬ kpP H a T b
        · rw [hH5, if_pos z] at e
          have nk1 : ∀ c y, H c = some (.own y) → ¬ kpP H a T c := fun c y h hk => by
            rcases kin hk h with ⟨_, q⟩ | ⟨_, q⟩ | ⟨_, _, q⟩ <;> cases q
          have nk2 : ∀ c xs, H c = some (.tup xs) → ¬ kpP H a T c := fun c xs h hk => by
            rcases kin hk h with ⟨_, q⟩ | ⟨_, q⟩ | ⟨_, _, q⟩ <;> cases q
          have k1 : ∀ (c : Addr) (u : Obj), (c = b ∨ H c = some (.own b)) → s.heap.get? c = some u → s'.heap.get? c = some u := fun c u hc hu => by
            rcases hc with hc | hc
            · rw [hc] at hu ⊢; exact keepO e z.2 hu
            · exact keepO hc (nk1 c b hc) hu
          exact (e0.hok b o e).stay k1 (fun c hc => in5 hc (nk1 c b hc)) (fun c xs hc => in5 hc (nk2 c xs hc))
        · rw [hH5, if_neg z] at e
          have same : ∀ {c : Addr} {u : HO}, H4 c = some u → H5 c = some u := fun {c u} h => by
            rw [hH5]
            split
            · rename_i y
              exfalso
              obtain ⟨o', ho'⟩ := Option.ne_none_iff_exists'.mp y.1
              obtain ⟨ob, hob⟩ := objOk_there (e0.hok c o' ho')
              rw [un4.free c ob hob (out0 y.2) (by simp)] at h; cases h
            · exact h
          exact (hok4 b o e).stay (fun _ _ _ q => q) (fun c hc => same hc) (fun c xs hc => same hc)
end Z
namespace Y
open PySem PySem.Spec PyProof.Rows L2 Z
def top (i : Nat) : Stmt := PySem.Challenge.pw_lowturns_k43_whole_settings_that_stay.main.body.getD i (.Pass ⟨0, 0, 0, 0⟩)
def z__law_bag : Zd := ⟨fun K => He.ga K "_law_bag", "_law_bag", "_law_bag", top 39, [], []⟩
def z__law_pull : Zd := ⟨fun K => He.ga K "_law_pull", "_law_pull", "_law_pull", top 40, [], []⟩
def z__law_of : Zd := ⟨fun K => He.ga K "_law_of", "_law_of", "_law_of", top 41, [], []⟩
def z__law_prime : Zd := ⟨fun K => He.ga K "_law_prime", "_law_prime", "_law_prime", top 43, [], []⟩
def z__law_calm : Zd := ⟨fun K => He.ga K "_law_calm", "_law_calm", "_law_calm", top 51, [], []⟩
def z__law_figures : Zd := ⟨fun K => He.ga K "_law_figures", "_law_figures", "_law_figures", top 44, [], []⟩
def z__law_plain : Zd := ⟨fun K => He.ga K "_law_plain", "_law_plain", "_law_plain", top 45, [], []⟩
def z_is_number : Zd := ⟨fun K => He.ga K "is_number", "is_number", "is_number", top 18, [], []⟩
def z_is_prime : Zd := ⟨fun K => He.ga K "is_prime", "is_prime", "is_prime", top 21, [], []⟩
def z_need_prime : Zd := ⟨fun K => He.ga K "need_prime", "need_prime", "need_prime", top 22, [], []⟩
def z_is_within : Zd := ⟨fun K => He.ga K "is_within", "is_within", "is_within", top 19, [], []⟩
def z_is_figure : Zd := ⟨fun K => He.ga K "is_figure", "is_figure", "is_figure", top 20, [], []⟩
def z_is_state : Zd := ⟨fun K => He.ga K "is_state", "is_state", "is_state", top 32, [], []⟩
def z_Turner___init__ : Zd := ⟨fun K => He.ma K (He.ga K "Turner") "__init__", "__init__", "Turner.__init__", inC (top 36) 1, [("start", .int (0))], []⟩
def z__law_made : Zd := ⟨fun K => He.ga K "_law_made", "_law_made", "_law_made", top 46, [], []⟩
def z__law_few : Zd := ⟨fun K => He.ga K "_law_few", "_law_few", "_law_few", top 50, [], []⟩
def z__law_all_rows : Zd := ⟨fun K => He.ga K "_law_all_rows", "_law_all_rows", "_law_all_rows", top 49, [], []⟩
def z__law_way : Zd := ⟨fun K => He.ga K "_law_way", "_law_way", "_law_way", top 47, [], []⟩
def z__law_behind : Zd := ⟨fun K => He.ga K "_law_behind", "_law_behind", "_law_behind", top 48, [], []⟩
def z__law_same : Zd := ⟨fun K => He.ga K "_law_same", "_law_same", "_law_same", top 42, [], []⟩
def z_need_dials : Zd := ⟨fun K => He.ga K "need_dials", "need_dials", "need_dials", top 23, [], []⟩
def z_Turner___len__ : Zd := ⟨fun K => He.ma K (He.ga K "Turner") "__len__", "__len__", "Turner.__len__", inC (top 36) 18, [], []⟩
def z_Turner_states : Zd := ⟨fun K => He.ma K (He.ga K "Turner") "states", "states", "Turner.states", inC (top 36) 7, [], []⟩
def z_next_alive : Zd := ⟨fun K => He.ga K "next_alive", "next_alive", "next_alive", top 29, [], []⟩
def z_Turner_start : Zd := ⟨fun K => propG K "Turner" "start", "start", "Turner.start", inC (top 36) 5, [], []⟩
def z_first_still : Zd := ⟨fun K => He.ga K "first_still", "first_still", "first_still", top 30, [], []⟩
def z_still_count : Zd := ⟨fun K => He.ga K "still_count", "still_count", "still_count", top 28, [], []⟩
def z_law : Zd := ⟨fun K => He.ga K "law", "law", "law", top 52, [], []⟩
def fa : List Zf := [.fa (.free "int"), .fa (.free "list"), .fa (.free "range"), .fa (.free "len"), .fa (.free "abs"), .fa (.free "tuple"), .fa (.free "isinstance"), .fa (.free "bool"), .fa (.free "enumerate"), .fa (.free "all"), .fa (.free "sorted"), .fa (.free "zip"), .fa (.free "str"), .fa (.free "any"), .fa (.free "sum"), .fa (.glo "law"), .fa (.glo "_law_bag"), .fa (.glo "_law_pull"), .fa (.glo "_law_of"), .fa (.glo "_law_prime"), .fa (.glo "_law_calm"), .fa (.glo "_law_figures"), .fa (.glo "_law_plain"), .fa (.glo "is_number"), .fa (.glo "PRIMES"), .tup "PRIMES" [.int (2), .int (3), .int (5), .int (7)], .fa (.glo "is_prime"), .fa (.glo "need_prime"), .fa (.glo "Turner"), .cval "Turner" "MOST" (.int (240)), .fa (.glo "is_within"), .fa (.glo "is_figure"), .fa (.glo "is_state"), .fa (.cls "Turner"), .fa (.noat "Turner" "own_prime"), .fa (.noat "Turner" "own_states"), .fa (.noat "Turner" "own_start"), .fa (.mkr "Turner"), .fa (.glo "_law_made"), .fa (.glo "_law_few"), .fa (.glo "_law_all_rows"), .fa (.glo "_law_way"), .fa (.glo "_law_behind"), .fa (.glo "_law_same"), .fa (.int "MOST_DIALS" (200)), .fa (.glo "need_dials"), .fa (.meth "Turner" "__len__"), .fa (.meth "Turner" "states"), .fa (.glo "next_alive"), .prop "Turner" "start", .fa (.glo "first_still"), .fa (.glo "still_count")]
def fn : List Zd := [z__law_bag, z__law_pull, z__law_of, z__law_prime, z__law_calm, z__law_figures, z__law_plain, z_is_number, z_is_prime, z_need_prime, z_is_within, z_is_figure, z_is_state, z_Turner___init__, z__law_made, z__law_few, z__law_all_rows, z__law_way, z__law_behind, z__law_same, z_need_dials, z_Turner___len__, z_Turner_states, z_next_alive, z_Turner_start, z_first_still, z_still_count, z_law]
def names0 : List PySem.Str := ["_wall", "TurnError", "Missing", "InvalidPrime", "InvalidFigure", "InvalidSetting", "InvalidCount", "InvalidState", "InvalidStart", "InvalidText", "PrimesDiffer", "TooMany", "UnknownState", "is_number", "is_within", "is_figure", "is_prime", "need_prime", "need_dials", "is_setting", "need_setting", "numeral", "still_count", "next_alive"]
def names1 : List PySem.Str := ["first_still", "is_state", "state_in", "parts_in", "state_text", "Turner", "product", "_law_bag", "_law_pull", "_law_of", "_law_same", "_law_prime", "_law_figures", "_law_plain", "_law_made", "_law_way", "_law_behind", "_law_all_rows", "_law_few", "_law_calm", "PRIMES", "MOST_DIALS", "DIGITS"]
def names : List PySem.Str := names0 ++ names1
abbrev R : PySem.W.OpenRow := PySem.W.OpenLaw.row PySem.Challenge.rw_lowturns_k43_whole_settings_that_stay
abbrev hk : PySem.W.Hook := zHook 6 fa fn
def ob (s : PySem.W.SharedT) : ZAl := zObsG 6 fa fn (HandSHeadRun.getT s)
theorem ob_eq (s : PySem.W.SharedT) : ob s = hk.obs s.abs := zObsG_eq (HandSHeadRun.getT_eq s)
theorem run (w : World) : HandSHeadRun.RunEq R (PySem.W.view R.prog [52]) hk ob 20000 names w := by
  intro os
  kernel_rfl
end Y
/-! Z: a def that only looks: what is lent to it comes back as it was -/
namespace Z
open PySem PySem.Spec PyProof.Rows L2
/-- data that holds nothing that may be changed -/
def noMut : D → Bool
  | .non => true
  | .bl _ => true
  | .int _ => true
  | .str _ => true
  | .tup xs => noMuts xs
  | _ => false
where noMuts : List D → Bool
  | [] => true
  | x :: xs => noMut x && noMuts xs
def noMutR : RV → Bool
  | .sh d => noMut d
  | .ol ds => noMut.noMuts ds
  | _ => false
def anyOwn : List RV → Bool
  | [] => false
  | r :: rs => r.own || anyOwn rs
/-- with something lent: it comes back as it was -/
def lentF (f : FnD) (rs : List RV) : FRes := match f (rs.map fun r => .sh r.d) with
  | .ok r _ => if noMutR r = true then .ok r rs else .stk
  | _ => .stk
def pureF (f : FnD) : FnD := fun rs => if anyOwn rs = true then lentF f rs else f rs
theorem pureF_sh {f : FnD} {rs : List RV} (h : anyOwn rs = false) : pureF f rs = f rs := by unfold pureF; rw [h]; rfl
section
variable {K : PySem.W.Frag} {mg : Str → Option Value} {G G' H H' : Hp} {vs : List V} {rs : List RV}
theorem ObjR.den2 {a : Addr} {o : HO} {r : RV} (h : ObjR K mg G a o r) (e : G a = some o) : Den K mg G (.ref a) r.d := by
  cases o <;> cases r <;> first | exact h.elim | skip
  · exact .lst e h.1 h.2
  · exact .dct e h.1 h.2
  · exact .obj h.1 e h.2.1 h.2.2
  · obtain ⟨es, h1, h2⟩ := h
    subst h1
    exact .dcn e h2.1 h2.2.1 h2.2.2
theorem Den.flat_any {v : V} {d : D} (f : flatD d = true) (h : Den K mg G v d) : Den K mg G' v d := by
  cases h <;> first | (cases f; done) | skip
  · exact .non
  · exact .bl _
  · exact .int _
  · exact .str _
open Classical in
noncomputable def allSh (G H : Hp) (vs : List V) (rs : List RV) : Hp := fun a => if OwnAt vs rs a then H a else G a
theorem own_none (vw : Views K mg G H vs rs) {a : Addr} (h : OwnAt vs rs a) : G a = none := by
  obtain ⟨j, r, h1, h2, h3⟩ := h
  obtain ⟨b, o, e, _, h5, _⟩ := (vw.2 j _ r h3 h1).own_inv h2
  cases e; exact h5
theorem allSh_ex (vw : Views K mg G H vs rs) : Ex G (allSh G H vs rs) := fun a o e => by
  unfold allSh
  rw [if_neg (fun z => by rw [own_none vw z] at e; cases e)]
  exact e
theorem allSh_gh (ex : Ex G H) : Ex (allSh G H vs rs) H := fun a o e => by
  unfold allSh at e
  split at e
  · exact e
  · exact ex a o e
theorem allSh_views (ex : Ex G H) (vw : Views K mg G H vs rs) : Views K mg (allSh G H vs rs) H vs (rs.map fun r => .sh r.d) := by
  refine ⟨by simp [vw.1], fun i v r h1 h2 => ?_⟩
  rw [List.getElem?_map] at h2
  cases z : rs[i]? with
  | none => rw [z] at h2; cases h2
  | some r0 =>
    rw [z] at h2; cases h2
    have w := vw.2 i v r0 h1 z
    cases ho : r0.own with
    | false =>
      cases r0 with
      | sh d => exact Den.mono (allSh_ex vw) w
      | _ => cases ho
    | true =>
      obtain ⟨a, o, rfl, g1, g2, g3⟩ := w.own_inv ho
      refine (g3.mono (allSh_ex vw)).den2 ?_
      unfold allSh
      rw [if_pos ⟨i, r0, z, ho, h1⟩]; exact g1
open Classical in
/-- what is shared behind, but for what was lent -/
noncomputable def butLent (G' : Hp) (vs : List V) (rs : List RV) : Hp := fun a => if OwnAt vs rs a then none else G' a
theorem butLent_at {a : Addr} {o : HO} (h : G' a = some o) (n : ¬ OwnAt vs rs a) : butLent G' vs rs a = some o := by unfold butLent; rw [if_neg n]; exact h
theorem own_obj (vw : Views K mg G H vs rs) {a : Addr} (h : OwnAt vs rs a) : ∃ o r, H a = some o ∧ ObjR K mg G a o r := by
  obtain ⟨j, r, h1, h2, h3⟩ := h
  obtain ⟨b, o, e, h4, h5, h6⟩ := (vw.2 j _ r h3 h1).own_inv h2
  cases e; exact ⟨o, r, h4, h6⟩
theorem own_notup (vw : Views K mg G H vs rs) (ex : Ex (allSh G H vs rs) G') {a : Addr} (h : OwnAt vs rs a) {xs : List V} : ¬ Rd G' a (.tup xs) := by
  obtain ⟨o, r, h1, h2⟩ := own_obj vw h
  have e : G' a = some o := ex a o (by unfold allSh; rw [if_pos h]; exact h1)
  intro z
  rcases z with z | ⟨o', z⟩ <;> rw [e] at z <;> cases z <;> cases r <;> exact h2.elim
theorem sqT_but (vw : Views K mg G H vs rs) (ex : Ex (allSh G H vs rs) G') {a : Addr} {xs : List V} (h : SqT K G' a xs) : SqT K (butLent G' vs rs) a xs := by
  rcases h with h | h
  · have n : ¬ OwnAt vs rs a := fun z => own_notup vw ex z h
    refine .inl ?_
    rcases h with h | ⟨o, h⟩
    · exact .inl (butLent_at h n)
    · exact .inr ⟨o, butLent_at h n⟩
  · exact .inr h
theorem noMuts_get : ∀ {xs : List D} {i : Nat} {d : D}, noMut.noMuts xs = true → xs[i]? = some d → noMut d = true
  | [], i, d, h, e => by simp at e
  | x :: xs, 0, d, h, e => by simp at e; subst e; exact (Bool.and_eq_true_iff.mp h).1
  | x :: xs, i + 1, d, h, e => noMuts_get (i := i) (Bool.and_eq_true_iff.mp h).2 (by simpa using e)
theorem den_but (vw : Views K mg G H vs rs) (ex : Ex (allSh G H vs rs) G') {v : V} {d : D} (h : Den K mg G' v d) : noMut d = true → Den K mg (butLent G' vs rs) v d := by
  induction h with
  | non => exact fun _ => .non
  | bl b => exact fun _ => .bl b
  | int i => exact fun _ => .int i
  | str x => exact fun _ => .str x
  | tup h l _ ih => exact fun m => .tup (sqT_but vw ex h) l fun i v d a b => ih i v d a b (noMuts_get m b)
  | _ => exact fun m => by cases m
theorem denL_but (vw : Views K mg G H vs rs) (ex : Ex (allSh G H vs rs) G') {xs : List V} {ds : List D} (h : DenL K mg G' xs ds) (m : noMut.noMuts ds = true) : DenL K mg (butLent G' vs rs) xs ds := ⟨h.1, fun i v d a b => den_but vw ex (h.2 i v d a b) (noMuts_get m b)⟩
theorem map_own {rs : List RV} {j : Nat} {r : RV} (h : (rs.map fun r => RV.sh r.d)[j]? = some r) (o : r.own = true) : False := by
  rw [List.getElem?_map] at h
  cases z : rs[j]? with
  | none => rw [z] at h; cases h
  | some r0 => rw [z] at h; cases h; cases o
theorem lent_sp {n : Nat} {f : FnD} {Q : VK} {E : XK} (h : spOf K mg n (lentF f) vs H Q E) : spOf K mg n f vs H Q E := by
  obtain ⟨G, rs, ⟨ex, tb⟩, hl, vw, ds, q⟩ := h
  refine ⟨allSh G H vs rs, rs.map fun r => .sh r.d, ⟨allSh_gh ex, tb.mono (allSh_ex vw) (fun a o e => by
      unfold allSh at e
      split at e
      · rename_i z
        obtain ⟨o', r, k1, k2⟩ := own_obj vw z
        rw [e] at k1; cases k1; exact k2.nt
      · exact tb.nt a o e)⟩, hl, allSh_views ex vw, fun i j r r' a h1 h2 o1 => (map_own h1 o1).elim, ?_⟩
  unfold lentF at q
  split at q
  · rename_i r rs' z
    by_cases fl : noMutR r = true
    · rw [if_pos fl] at q
      rw [z]
      intro v G' H' B w t
      have hh : ∀ b o, H b = some o → Grow o (H' b) := fun b o e => by
        cases y : allSh G H vs rs b with
        | some o2 =>
          have e2 := allSh_gh (vs := vs) (rs := rs) ex b o2 y
          rw [e] at e2; cases e2
          rw [B.gh.1 b o (B.ex b o y)]; exact Grow.self o
        | none => exact (B.frm b o e y fun ⟨j, r, h1, h2, h3⟩ => map_own h1 h2).1
      have exb : Ex G (butLent G' vs rs) := fun b o e => butLent_at (B.ex b o (allSh_ex vw b o e)) fun z => by rw [own_none vw z] at e; cases e
      have bk : Back K mg G H vs rs (butLent G' vs rs) H' rs := by
        refine ⟨exb, ⟨fun b o e => ?_, ⟨fun a o e => ?_, fun P ps e => ⟨(B.gh.2.on P ps e).1, fun pos cv z => ?_⟩⟩⟩, fun b o e g nz => ⟨hh b o e, ?_⟩, ⟨vw.1, fun i u r h1 h2 => (vw.2 i u r h1 h2).keep exb fun a o ev hr g1 g2 => ⟨(hh a o g1).nt ?_, ?_⟩⟩, fun j r' h1 h2 => ⟨r', h1, h2⟩⟩
        · unfold butLent at e
          split at e
          · cases e
          · exact B.gh.1 b o e
        · unfold butLent at e
          split at e
          · cases e
          · exact B.gh.2.nt a o e
        · obtain ⟨c, q', z1, z2⟩ := (B.gh.2.on P ps e).2 pos cv z
          refine ⟨c, q', z1, butLent_at z2 fun z => ?_⟩
          obtain ⟨o, r, k1, k2⟩ := own_obj vw z
          have e2 : G' c = some o := B.ex c o (by unfold allSh; rw [if_pos z]; exact k1)
          rw [z2] at e2; cases e2; cases r <;> first | exact k2 | (obtain ⟨es, k3, _⟩ := k2; exact dcN_code k3)
        · unfold butLent
          rw [if_neg nz]
          exact (B.frm b o e (by unfold allSh; rw [if_neg nz]; exact g) fun ⟨j, r, h1, h2, h3⟩ => map_own h1 h2).2
        · subst ev
          obtain ⟨p', o', ep, k1, k2, k3⟩ := (vw.2 i _ r h1 h2).own_inv hr
          cases ep
          rw [g1] at k1; cases k1; exact k3.nt
        · unfold butLent
          subst ev
          rw [if_pos ⟨i, r, h2, hr, h1⟩]
      cases r with
      | sh d => exact q v _ H' bk (den_but vw B.ex w fl) (fun a m => by cases m)
      | ol l =>
        obtain ⟨a, o, rfl, g1, g2, g3⟩ := w
        cases o <;> first | exact g3.elim | skip
        rename_i xs
        have g3 : DenL K mg G' xs l := g3
        have tm := t a (by rw [tmps_own rfl]; exact List.mem_singleton.mpr rfl)
        have hn : H a = none := tm.1.resolve_right fun ⟨j, r, h1, h2, h3⟩ => map_own h1 h2
        have no : ¬ OwnAt vs rs a := fun z => by
          obtain ⟨o, r, k1, k2⟩ := own_obj vw z
          rw [hn] at k1; cases k1
        refine q _ _ H' bk ⟨a, _, rfl, g1, ?_, denL_but vw B.ex g3 fl⟩ fun b m => ?_
        · unfold butLent; rw [if_neg no]; exact g2
        · rw [tmps_own rfl] at m
          obtain rfl := List.mem_singleton.mp m
          exact ⟨.inl hn, no⟩
      | od _ => cases fl
      | oo _ _ => cases fl
    · rw [if_neg fl] at q; exact q.elim
  · exact q.elim
theorem pure_sp {n : Nat} {f : FnD} {Q : VK} {E : XK} (h : spOf K mg n (pureF f) vs H Q E) : spOf K mg n f vs H Q E := by
  obtain ⟨G, rs, ex, hl, vw, ds, q⟩ := h
  by_cases ho : anyOwn rs = true
  · refine lent_sp ⟨G, rs, ex, hl, vw, ds, ?_⟩
    unfold pureF at q
    rw [if_pos ho] at q
    exact q
  · refine ⟨G, rs, ex, hl, vw, ds, ?_⟩
    unfold pureF at q
    rw [if_neg ho] at q
    exact q
end
theorem pure_ok {Pr : Program} {w : World} {K : PySem.W.Frag} {mg : Str → Option Value} {base : Heap} {CX : CXT} {k n : Nat} {f : Addr} {fd : FuncData} {ps : List Str} {fD : FnD} (F : FnOk Pr w K mg base CX k f fd ps (spOf K mg n fD)) : FnOk Pr w K mg base CX k f fd ps (spOf K mg n (pureF fD)) :=
  F.imp fun _ _ _ _ h => pure_sp h
end Z
/-! Z: own __call__ and __len__, static methods, temporary objects changed, x[k] += e, keyword-only defaults -/
namespace Z
open PySem PySem.Spec PyProof.Rows L2
theorem PA.ex {X : Cx} {e : List Expr} {α : Type} {g : α → TA} (h : ∀ a, PA X e (g a)) : PA X e (fun σ H Q => ∃ a, g a σ H Q) := ⟨fun pos pins s σ H Q I ⟨a, q⟩ => (h a).run pos pins s σ H Q I q⟩
theorem Call_K {M : Model} {A : Around} {E : Value → Shared → Prop} {s : Shared} {env : Env} {ob : Expr} {es : List Expr} {kws : List Keyword} {pos : Pos} {Q : Value → Shared → Prop} (h : wpAny M A (eval ob env) (fun f t => wpAny M A (callWith pos f [] (backTo pos (starEach es env)) (backToKw pos (keywordEach kws env))) Q E t) E s)
    (ht : eval (.Call ob es kws pos) env = (do callWith pos (← eval ob env) [] (backTo pos (starEach es env)) (backToKw pos (keywordEach kws env)))) : wpAny M A (eval (.Call ob es kws pos) env) Q E s := by
  rw [ht]; exact wpAny_bind h
/-! ### an object in hand is changed and let go -/
section
variable {K : PySem.W.Frag} {mg : Str → Option Value} {Fh : FHp} {P : List (Nat × V)} {G H : Hp} {σ : L2.St} {env : DEnv}
theorem SRel.gone {a : Addr} {o : HO} (S : SRel K mg Fh P G H σ env [a]) (n : NT o) : SRel K mg Fh P G (upd H a o) σ env [] := by
  obtain ⟨hF, hG, o0, h0⟩ := S.tmp a (List.mem_singleton.mpr rfl)
  have ne : ∀ {i : Nat} {r : RV} {b : Addr}, env[i]? = some (some r) → r.own = true → σ[i]? = some (some (.ref b)) → b ≠ a := fun {i r b} e hr hb z => (S.nof i r b e hr hb).2 (by rw [z]; exact List.mem_singleton.mpr rfl)
  refine ⟨S.gh.upd hG, S.fh.upd hF n, S.dj, S.pin, S.len, fun i r e => ?_, S.dis, fun i r b e hr hb => ⟨(S.nof i r b e hr hb).1, List.not_mem_nil⟩, fun b m => absurd m List.not_mem_nil⟩
  obtain ⟨v, hv, w⟩ := S.val i r e
  refine ⟨v, hv, w.keep (Ex.refl _) fun b u ev hr h1 h2 => ⟨?_, h2⟩⟩
  subst ev
  rw [upd_ne (ne e hr hv)]; exact h1
end
def mutT (T : String) (f : RV → List D → Option (D × RV)) (mv : M RV) (ma : M (List Opd)) : M RV := bindM mv fun r e0 => if tyOk T r = true then bindM ma (fun os e => match dsOf os e with
  | .ok ds e2 => (match f r ds with
    | some (res, _) => .ok (.sh res) e2
    | none => .stk)
  | _ => .stk) e0 else .stk
theorem tyOk_own {T : String} {r : RV} (h : tyOk T r = true) : r.own = true := by cases r <;> first | rfl | cases h
section
variable {X : Cx} {W : WX} {pn : List Nat} {pos : Pos}
theorem qv_mutT {T id : String} {name : Str} {apos cpos : Pos} {ob e : Expr} {es : List Expr} {r : V → List V → Hp → VK → Prop} {f : RV → List D → Option (D × RV)} {mv : M RV} {m : M (List Opd)} (pa : PlainAttrs T) (slot : Slot T name id) (hty : typeOf (.builtin id) = pure (.type "method_descriptor")) (hm : MtR X id r) (hs : MutS X.K X.mg r f)
    (ho : QV X W pn ob mv) (ha : QOs X W pn (e :: es) m) (hbase : attributeBase ob name X.env (eval ob X.env) = eval ob X.env)
    (hfew : ((backTo cpos (starEach (e :: es) X.env)).all (fun x => !x.1) && (backToKw cpos (keywordEach [] X.env)).all (fun x => x.1.isSome)
      && decide ((e :: es).length + ([] : List Keyword).length + (if ([] : List Keyword).isEmpty then 0 else 1) < 30)) = true)
    (hline : (apos.endLine == cpos.line) = true) (hst : starEach (e :: es) X.env = (false, eval e X.env) :: starEach es X.env) (hpl : (backTo cpos (starEach es X.env)).any (·.1) = false) :
    QV X W pn (.Call (.Attribute ob name apos) (e :: es) [] cpos) (mutT T f mv m) := fun Fh P hp =>
  PE.weak (pe_bm pa slot hty hm (ho Fh P hp) (Z.PA.ex fun Fh' => ha Fh' P hp) hbase hfew hline hst hpl) fun σ H Q ⟨G, env, S, q⟩ => by
    refine ⟨G, env, S, PV_V q fun r0 e0 v G1 H1 ex w S1 hk => ?_⟩
    by_cases ht : tyOk T r0 = true
    · rw [if_pos ht] at hk
      obtain ⟨Fh', S1', back⟩ := S1.hold w
      refine ⟨tyOk_ty w ht, Fh', G1, e0, S1', ?_⟩
      unfold bindM at hk
      cases z0 : m e0 with
      | err x e2 => simp only [z0] at hk; intro cls d G2 H2 ex2 hx S2; obtain ⟨S3, w3⟩ := back _ _ _ _ ex2 S2; obtain ⟨G4, ex4, _, S4⟩ := S3.share w3; exact hk cls d G4 H2 (ex2.trans ex4) (by
          obtain ⟨C, dd, gs, k1, k2, k3, k4, k5⟩ := hx
          exact ⟨C, dd, gs, k1, k2, k3, ex4 _ _ k4, k5.mono ex4⟩) S4
      | stk => simp only [z0] at hk; exact hk.elim
      | ok os e1 =>
        simp only [z0] at hk
        intro vs G2 H2 ex2 w2 S2
        cases z1 : dsOf os e1 with
        | err x e2 => exact (dsOf_noerr z1).elim
        | stk => simp only [z1] at hk; exact hk.elim
        | ok ds e2 =>
          simp only [z1] at hk
          obtain ⟨G3, x3, d3, S3⟩ := S2.dsOf w2 z1
          cases z3 : f r0 ds with
          | none => simp only [z3] at hk; exact hk.elim
          | some p =>
            obtain ⟨res, r'⟩ := p
            simp only [z3] at hk
            obtain ⟨S4, w4⟩ := back _ _ _ _ (ex2.trans x3) S3
            have hown := tyOk_own ht
            obtain ⟨a, o, rfl, g1, g2, g3⟩ := w4.own_inv hown
            rw [tmps_own hown] at S4
            exact hs G3 H2 a o r0 r' vs ds res Q S4.gh g1 g3 d3 z3 fun u o' hu ho' => hk u G3 _ (ex2.trans x3) hu (S4.gone ho'.nt)
    · rw [if_neg ht] at hk; exact hk.elim
theorem qv_mutT0 {T id : String} {name : Str} {apos cpos : Pos} {ob : Expr} {r : V → List V → Hp → VK → Prop} {f : RV → List D → Option (D × RV)} {mv : M RV} (pa : PlainAttrs T) (slot : Slot T name id) (hty : typeOf (.builtin id) = pure (.type "method_descriptor")) (hm : MtR X id r) (hs : MutS X.K X.mg r f)
    (ho : QV X W pn ob mv) (hbase : attributeBase ob name X.env (eval ob X.env) = eval ob X.env) (hline : (apos.endLine == cpos.line) = true) :
    QV X W pn (.Call (.Attribute ob name apos) [] [] cpos) (mutT T f mv nilO) := fun Fh P hp =>
  PE.weak (pe_bm0 pa slot hty hm (ho Fh P hp) hbase hline) fun σ H Q ⟨G, env, S, q⟩ => by
    refine ⟨G, env, S, PV_V q fun r0 e0 v G1 H1 ex w S1 hk => ?_⟩
    by_cases ht : tyOk T r0 = true
    · rw [if_pos ht] at hk
      refine ⟨tyOk_ty w ht, ?_⟩
      simp only [bindM, nilO, dsOf] at hk
      cases z3 : f r0 [] with
      | none => simp only [z3] at hk; exact hk.elim
      | some p =>
        obtain ⟨res, r'⟩ := p
        simp only [z3] at hk
        have hown := tyOk_own ht
        obtain ⟨a, o, rfl, g1, g2, g3⟩ := w.own_inv hown
        rw [tmps_own hown] at S1
        exact hs G1 H1 a o r0 r' [] [] res Q S1.gh g1 g3 .nil z3 fun u o' hu ho' => hk u G1 _ (Ex.refl _) hu (S1.gone ho'.nt)
    · rw [if_neg ht] at hk; exact hk.elim
end
/-! ### o(e, ..), an instance called -/
theorem callOw {M : Model} {A : Around} {E : Value → Shared → Prop} {s : Shared} {a : Addr} {pos : Pos} {Q : Value → Shared → Prop} {args : List (Bool × Sem Value)} {kws : List (Option Str × Sem Value)} (hpl : (args.any (·.1) || kws.any (·.1.isNone)) = false)
    (h : wpAny M A (evalArgs (.ref a) true args kws) (fun z t => (∃ C ox od, PySem.W.InstAt t.heap a ox C od ∧ ox.data = .plain) ∧ wpAny M A (call (.ref a) ([] ++ z.pos) z.kw) Q E t) E s) : wpAny M A (callWith pos (.ref a) [] args kws) Q E s := by
  unfold callWith
  refine wpAny_bind (wpAny_holding (wpAny_mono h (fun z t ht => wpAny_bind (wpAny_standAt ?_)) fun _ _ y => y))
  obtain ⟨⟨C, ox, od, J, hd⟩, h1⟩ := ht
  have L := PySem.W.kco_keeper (M := M) J hd
  simp only [hpl]
  refine wpAny_bind (L.here (wpAny_bind (wpAny_mono (wpAny_operateT h1) (fun r t2 hr => wpAny_bind (wpAny_holding (wpAny_point (wpAny_pure hr)))) fun _ _ y => y)))
def insO (c : Str) (o : Opd) (env : DEnv) : Bool := match (resolve env o).bind clsR with
  | some (c', _) => decide (c' = c)
  | none => false
def callOM (c : Str) (f : FnD) (arr : List Src) (mo : M Opd) (mp mk : M (List Opd)) : M RV := bindM mo fun o e1 => if insO c o e1 = true then bindM mp (fun os1 => bindM mk fun os2 e => if insO c o e = true then finA f arr (o :: (os1 ++ os2)) e else .stk) e1 else .stk
section
variable {X : Cx} {W : WX} {pn : List Nat} {pos : Pos} {Fh : FHp} {P : List (Nat × V)} {G H : Hp} {σ : L2.St} {env : DEnv}
theorem SRel.insO {c : Str} {C : Addr} {v : V} {o : Opd} {T : List Addr} (S : SRel X.K X.mg Fh P G H σ env T) (hmc : X.mg c = some (.ref C)) (w : OpdR X.K X.mg G σ v o) (h : Z.insO c o env = true) : ∃ a dx gs, v = .ref a ∧ H a = some (.ins C dx gs) := by
  unfold Z.insO at h
  split at h
  · rename_i c' fs z
    have e := of_decide_eq_true h
    subst e
    simp only [Option.bind_eq_some_iff] at z
    obtain ⟨r, y1, y2⟩ := z
    obtain ⟨a, C', dx, gs, rfl, g1, g2, g3⟩ := (S.resolve w y1).cls S.gh y2
    rw [hmc] at g1; cases g1
    exact ⟨a, dx, gs, rfl, g2⟩
  · cases h
theorem ins_at {pins : List (Addr × Obj)} {s : Shared} {a C dx : Addr} {gs : List (Str × V)} (I : Inv X pins σ H s) (h : H a = some (.ins C dx gs)) : ∃ ox od, PySem.W.InstAt s.heap a ox C od ∧ ox.data = .plain := by
  obtain ⟨mA, O, _⟩ := ins_get I.hok h
  obtain ⟨od, J, _⟩ := O.look
  exact ⟨_, _, J, rfl⟩
/-- the callee of an instance's call runs, its arguments bound -/
theorem run_callOw {CX : CXT} {k : Nat} {f a C : Addr} {fd : FuncData} {ps : List Str} {sp : Sp} {E : XK} {pins : List (Addr × Obj)} {s : Shared} {Q : VK} {us zs : List Value} {kw : List (Str × Value)} {vz : List V} {dx : Addr} {gs : List (Str × V)} (F : FnOk X.prog X.w X.K X.mg X.base CX k f fd ps sp) (hM : Meth X.K C "__call__" f) (hfi : PySem.W.fnIn X.K f = true) (hr : Room k X.A) (hx : PassesAt CX X σ E)
    (I : Inv X pins σ H s) (hi : H a = some (.ins C dx gs)) (hb : BindsTo s fd ⟨.ref a :: us, kw⟩ (ps.zip zs)) (r : Vals vz zs) (h : sp vz H Q E) : wpAny (model X.prog X.w) X.A (call (.ref a) us kw) (EP X pins σ Q) X.xe s := by
  obtain ⟨ox, od, J, hd⟩ := ins_at I hi
  refine wpAny_call (PySem.W.kco_code I.kIn J hd hM.at_ hM.fn hfi (codeAny_mono (F.run X.A X.stack s H ⟨.ref a :: us, kw⟩ zs vz Q E hr I.env0 hb r h) fun r s' hq => ?_))
  cases r with
  | error e => exact hx pins H s e s' I hq
  | ok fl =>
    cases fl with
    | ret u => exact I.after hq
    | next => exact False.elim hq
    | brk => exact False.elim hq
    | cont => exact False.elim hq
theorem qv_callOw {k np : Nat} {f C : Addr} {fd : FuncData} {ps ks : List Str} {c : Str} {ob e : Expr} {es : List Expr} {kws : List Keyword} {fD : FnD} {arr : List Src} {mo : M Opd} {mp mk : M (List Opd)} (F : FnOk X.prog X.w X.K X.mg X.base (L2.CX X.prog X.w) k f fd ps (spOf X.K X.mg ps.length fD)) (tk : Takes X W) (hr : Room k X.A)
    (hmc : X.mg c = some (.ref C)) (hM : Meth X.K C "__call__" f) (hfi : PySem.W.fnIn X.K f = true) (hb : Bnd X.K X.mg fd ps (np + 1) ks arr) (ho : QO X W pn ob mo) (ha : QOs X W pn (e :: es) mp) (hkw : QK X W pn kws mk)
    (hall : (backToKw pos (keywordEach kws X.env)).all (·.1.isSome) = true) (hks : (backToKw pos (keywordEach kws X.env)).filterMap (·.1) = ks)
    (hst : starEach (e :: es) X.env = (false, eval e X.env) :: starEach es X.env) (hpl : ((backTo pos (starEach (e :: es) X.env)).any (·.1) || (backToKw pos (keywordEach kws X.env)).any (·.1.isNone)) = false)
    (hlp : ∀ env os e', mp env = .ok os e' → os.length = np) (hlk : ∀ env os e', mk env = .ok os e' → os.length = ks.length)
    (ht : eval (.Call ob (e :: es) kws pos) X.env = (do callWith pos (← eval ob X.env) [] (backTo pos (starEach (e :: es) X.env)) (backToKw pos (keywordEach kws X.env)))) :
    QV X W pn (.Call ob (e :: es) kws pos) (callOM c fD arr mo mp mk) := fun Fh P hp => ⟨fun pins s σ H Q I ⟨G, env, S, q⟩ => by
  refine Call_K (thn ((ho Fh P hp).run pins s σ H (fun v H1 => ∃ a o e1 G1, v = .ref a ∧ SRel X.K X.mg Fh P G1 H1 σ e1 [] ∧ OpdR X.K X.mg G1 σ v o ∧ PV X.K X.mg W Fh P σ G1 Q (bindM mp (fun os1 => bindM mk fun os2 e => if insO c o e = true then finA fD arr (o :: (os1 ++ os2)) e else .stk) e1)) I ?_) fun u s1 ⟨x, H1, I1, rx, a, o, e1, G1, ex, S1, hO, q1⟩ => ?_) ht
  · refine ⟨G, env, S, PO_V q fun o e1 v G1 H1 ex w S1 hk => ?_⟩
    by_cases hi : insO c o e1 = true
    · rw [if_pos hi] at hk
      obtain ⟨a, dx, gs, rfl, _⟩ := S1.insO hmc w hi
      exact ⟨a, o, e1, G1, rfl, S1, w, hk⟩
    · rw [if_neg hi] at hk; exact hk.elim
  · subst ex
    obtain rfl : u = Value.ref a := rx
    have h0 := rd_two (X := X) (W := W) (np := np) (nk := ks.length) (k := fun os e => if insO c o e = true then finA fD arr (o :: os) e else .stk) (mp := mp) (mk := mk) S1 q1 hlp hlk
    refine callOw hpl (PyProof.Rows.evalArgs_kw2 hall (thn ((ha Fh P hp).run pos pins s1 σ H1 _ I1 h0) fun us s2 ⟨vs, H2, I2, r, q2⟩ => thn ((hkw Fh P hp).run pos pins s2 σ H2 _ I2 q2) fun ws s3 ⟨zs, H3, I3, rz, l1, l2, os, G', e', exg, S', hos, q3⟩ => ?_) hst)
    by_cases hi : insO c o e' = true
    · rw [if_pos hi] at q3
      have hO' := hO.mono exg
      obtain ⟨a', dx, gs, ea, hins⟩ := S'.insO hmc hO' hi
      cases ea
      obtain ⟨ox, od, J, hd⟩ := ins_at I3 hins
      refine ⟨⟨C, ox, od, J, hd⟩, ?_⟩
      obtain ⟨zz, b1, b2, b3⟩ := hb.to s3 (.ref a :: us) ws I3.kIn (by rw [List.length_cons, ← r.length, l1]) (by rw [← rz.length]; exact l2)
      obtain ⟨vz, r1, hsp⟩ := finA_ok (E := WE W σ) (us := .ref a :: us ++ ws) S' (OpdRs.cons hO' hos) (.cons rfl (r.append rz)) b1 b2 hb.len q3 fun _ _ _ => Iff.rfl
      rw [hks]
      exact run_callOw (us := us) F hM hfi hr (passAt tk σ) I3 hins b3 r1 hsp
    · rw [if_neg hi] at q3; exact q3.elim⟩
theorem qv_callOw0 {k : Nat} {f C : Addr} {fd : FuncData} {ps ks : List Str} {c : Str} {ob : Expr} {kws : List Keyword} {fD : FnD} {arr : List Src} {mo : M Opd} {mk : M (List Opd)} (F : FnOk X.prog X.w X.K X.mg X.base (L2.CX X.prog X.w) k f fd ps (spOf X.K X.mg ps.length fD)) (tk : Takes X W) (hr : Room k X.A)
    (hmc : X.mg c = some (.ref C)) (hM : Meth X.K C "__call__" f) (hfi : PySem.W.fnIn X.K f = true) (hb : Bnd X.K X.mg fd ps 1 ks arr) (ho : QO X W pn ob mo) (hkw : QK X W pn kws mk)
    (hall : (backToKw pos (keywordEach kws X.env)).all (·.1.isSome) = true) (hks : (backToKw pos (keywordEach kws X.env)).filterMap (·.1) = ks)
    (hpl : ((backTo pos (starEach [] X.env)).any (·.1) || (backToKw pos (keywordEach kws X.env)).any (·.1.isNone)) = false) (hlk : ∀ env os e', mk env = .ok os e' → os.length = ks.length)
    (ht : eval (.Call ob [] kws pos) X.env = (do callWith pos (← eval ob X.env) [] (backTo pos (starEach [] X.env)) (backToKw pos (keywordEach kws X.env)))) :
    QV X W pn (.Call ob [] kws pos) (callOM c fD arr mo nilO mk) := fun Fh P hp => ⟨fun pins s σ H Q I ⟨G, env, S, q⟩ => by
  refine Call_K (thn ((ho Fh P hp).run pins s σ H (fun v H1 => ∃ a o e1 G1, v = .ref a ∧ SRel X.K X.mg Fh P G1 H1 σ e1 [] ∧ OpdR X.K X.mg G1 σ v o ∧ PV X.K X.mg W Fh P σ G1 Q (bindM nilO (fun os1 => bindM mk fun os2 e => if insO c o e = true then finA fD arr (o :: (os1 ++ os2)) e else .stk) e1)) I ?_) fun u s1 ⟨x, H1, I1, rx, a, o, e1, G1, ex, S1, hO, q1⟩ => ?_) ht
  · refine ⟨G, env, S, PO_V q fun o e1 v G1 H1 ex w S1 hk => ?_⟩
    by_cases hi : insO c o e1 = true
    · rw [if_pos hi] at hk
      obtain ⟨a, dx, gs, rfl, _⟩ := S1.insO hmc w hi
      exact ⟨a, o, e1, G1, rfl, S1, w, hk⟩
    · rw [if_neg hi] at hk; exact hk.elim
  · subst ex
    obtain rfl : u = Value.ref a := rx
    have h0 := rd_one (X := X) (W := W) (k := fun os e => if insO c o e = true then finA fD arr (o :: os) e else .stk) (mk := mk) (nk := ks.length) S1 q1 hlk
    refine callOw hpl (PyProof.Rows.evalArgs_kw2_nil hall (thn ((hkw Fh P hp).run pos pins s1 σ H1 _ I1 h0) fun ws s3 ⟨zs, H3, I3, rz, l2, os, G', e', exg, S', hos, q3⟩ => ?_))
    by_cases hi : insO c o e' = true
    · rw [if_pos hi] at q3
      have hO' := hO.mono exg
      obtain ⟨a', dx, gs, ea, hins⟩ := S'.insO hmc hO' hi
      cases ea
      obtain ⟨ox, od, J, hd⟩ := ins_at I3 hins
      refine ⟨⟨C, ox, od, J, hd⟩, ?_⟩
      obtain ⟨zz, b1, b2, b3⟩ := hb.to s3 [.ref a] ws I3.kIn rfl (by rw [← rz.length]; exact l2)
      obtain ⟨vz, r1, hsp⟩ := finA_ok (E := WE W σ) (us := .ref a :: ws) S' (OpdRs.cons hO' hos) (show Vals (V.ref a :: zs) (Value.ref a :: ws) from .cons rfl rz) b1 b2 hb.len q3 fun _ _ _ => Iff.rfl
      rw [hks]
      exact run_callOw (us := []) F hM hfi hr (passAt tk σ) I3 hins b3 r1 hsp
    · rw [if_neg hi] at q3; exact q3.elim⟩
end
end Z
/-! Z: own __len__, static methods, x[k] += e, keyword-only defaults -/
namespace Z
open PySem PySem.Spec PyProof.Rows L2
/-! ### len(o) by an own __len__ -/
theorem len_own {prog : Program} {w : World} {A : Around} {E : Value → Shared → Prop} {s : Shared} {K : PySem.W.Frag} {x C f : Addr} {ox : Obj} {od : Option Obj} {Q : Value → Shared → Prop} (X : K.In s.heap) (I : PySem.W.InstAt s.heap x ox C od) (hs : PySem.W.findIn K (.ref C) "__len__" = some (some (.ref f))) (hf : PySem.W.isFn K (.ref f) = true)
    (h : wpAny (model prog w) A.in1 (call (.ref f) [.ref x]) (fun r t => ∃ (n : Int) (u : Tok), r = Value.int n u ∧ 0 ≤ n ∧ n < 2 ^ 63 ∧ ∀ k, Q (.int n k) { t with toks := k + 1 }) E s) : wpAny (model prog w) A (call (.builtin "len") [.ref x]) Q E s := by
  refine Calls.call_function_entry kind_len plain_len entry_len (args_len1 _) ?_
  unfold Builtin.«len»
  refine wpAny_bind (m := oneArg "len" _) (wpAny_pure ?_)
  refine wpAny_bind (m := callSpecial? (.ref x) (PySem.Str.ofString "__len__")) (PySem.W.special_fn X I hs (beq_iff_eq.mp hf) (wpAny_mono h (fun r t hr => ?_) fun _ _ y => y))
  obtain ⟨n, u, rfl, h0, h1, q⟩ := hr
  refine wpAny_bind (wpAny_holding (wpAny_pure ?_))
  refine wpAny_bind (wpAny_letGo ?_)
  show wpAny _ _ (if n < 0 then _ else _) _ _ _
  rw [if_neg (by omega)]
  show wpAny _ _ (if n ≥ 2 ^ 63 then _ else _) _ _ _
  rw [if_neg (by omega)]
  exact wpAny_bind (wpAny_mkInt (wpAny_pure ⟨_, rfl, q _⟩))
def rLenOw (C : Addr) (sp : Sp) (E : XK) : List V → Hp → VK → Prop := fun xs H Q => ∃ a dx fs, xs = [V.ref a] ∧ H a = some (.ins C dx fs) ∧ sp [.ref a] H (fun z H' => ∃ i : Int, z = .int i ∧ 0 ≤ i ∧ i < 2 ^ 63 ∧ Q z H') E
section
variable {X : Cx} {W : WX} {pn : List Nat} {pos : Pos}
theorem call_lenOw {n : Nat} {C g : Addr} {fd : FuncData} {ps : List Str} {sp : Sp} {E : XK} (hM : Meth X.K C "__len__" g) (F : FnOk X.prog X.w X.K X.mg X.base (L2.CX X.prog X.w) n g fd ps sp) (hb : Binds X.K fd ps []) (hl : ps.length = 1) (hr : Room (n + 1) X.A) (hx : Passes (L2.CX X.prog X.w) X E) : CallR X (.builtin "len") (rLenOw C sp E) := by
  intro pins s σ H xs us Q I r h
  obtain ⟨a, dx, fs, rfl, hi, q⟩ := h
  obtain ⟨u, rfl, ru⟩ := vals1 r
  obtain rfl : u = Value.ref a := ru
  obtain ⟨ox, od, J, hd⟩ := ins_at I hi
  have b := hb s [.ref a] I.kIn (by simp [hl])
  refine len_own I.kIn J hM.at_ hM.fn (wpAny_mono (wpAny_call (codeAny_mono (F.run X.A.in1 X.stack s H ⟨[.ref a], []⟩ [.ref a] [.ref a] _ E hr.in1 I.env0.in1 b (.cons rfl .nil) q) (R' := fun r s' => match r with | .ok (.ret v) => EP X pins σ (fun z H' => ∃ i : Int, z = .int i ∧ 0 ≤ i ∧ i < 2 ^ 63 ∧ Q z H') v s' | .ok _ => False | .error e => X.xe e s') fun r s' hq => ?_)) (fun v s' z => ?_) fun _ _ y => y)
  · cases r with
    | error e => exact hx pins σ H s e s' I hq
    | ok fl =>
      cases fl with
      | ret u => exact I.after hq
      | next => exact False.elim hq
      | brk => exact False.elim hq
      | cont => exact False.elim hq
  · obtain ⟨z', H', I', rz, i, rfl, h0, h1, qz⟩ := z
    obtain ⟨t, rfl⟩ := (show ∃ t, v = Value.int i t from rz)
    exact ⟨i, t, rfl, h0, h1, fun k => ⟨.int i, H', I'.tok _, ⟨k, rfl⟩, qz⟩⟩
def lenFits (r : Res RV) : Res RV := match r with
  | .ok (.sh (.int i)) e => if (decide (0 ≤ i) && in62 i) = true then .ok (.sh (.int i)) e else .stk
  | _ => .stk
theorem lenFits_nat {n : Nat} {e : DEnv} (h : n ≤ 4611686018427387903) : lenFits (.ok (.sh (.int (n : Int))) e) = .ok (.sh (.int (n : Int))) e := by
  unfold lenFits
  have h1 : in62 (n : Int) = true := Nat.ble_eq_true_of_le (by rw [Int.natAbs_natCast]; exact h)
  simp only [h1, Bool.and_true]
  rw [if_pos (decide_eq_true (Int.natCast_nonneg n))]
def lenOM (c : Str) (f : FnD) (mo : M Opd) : M RV := bindM mo fun o e => if insO c o e = true then lenFits (finF f [o] e) else .stk
theorem qv_lenOw {k : Nat} {g C : Addr} {fd : FuncData} {ps : List Str} {c : Str} {ob : Expr} {p : Pos} {fD : FnD} {mo : M Opd} (F : FnOk X.prog X.w X.K X.mg X.base (L2.CX X.prog X.w) k g fd ps (spOf X.K X.mg ps.length fD)) (hr : Room (k + 1) X.A) (hg : Gl X "len") (hm : X.mg "len" = none) (hmc : X.mg c = some (.ref C)) (hM : Meth X.K C "__len__" g) (hb : Binds X.K fd ps []) (hl : ps.length = 1)
    (ho : QO X W pn ob mo) (hst : starEach [ob] X.env = (false, eval ob X.env) :: starEach [] X.env) (hpl : (backTo pos (starEach [] X.env)).any (·.1) = false) : QV X W pn (.Call (.Name "len" p) [ob] [] pos) (lenOM c fD mo) := fun Fh P hp =>
  PE.weak (pe_callB (call_lenOw hM F hb hl hr passL) hg hm boot_len (pa_cons (ho Fh P hp) pa_nil hst) (by decide) (by decide) hst hpl) fun σ H Q ⟨G, env, S, q⟩ => by
    refine ⟨G, env, S, PO_V q fun o e1 v G1 H1 ex w S1 hk => ?_⟩
    by_cases hi : insO c o e1 = true
    · rw [if_pos hi] at hk
      obtain ⟨a, dx, gs, rfl, hins⟩ := S1.insO hmc w hi
      refine ⟨a, dx, gs, rfl, hins, ?_⟩
      refine finF_okN (W := W) S1 (.cons w .nil) (by rw [hl]; rfl) ?_
      unfold lenFits at hk
      split at hk
      · rename_i i e2 z
        rw [z]
        split at hk
        · rename_i hb2
          intro v2 G2 H2 ex2 w2 S2
          obtain ⟨b1, b2⟩ := Bool.and_eq_true_iff.mp hb2
          exact ⟨i, Den.int_inv w2, of_decide_eq_true b1, Int.lt_trans (in62_ok b2).2 (by decide), hk v2 G2 H2 ex2 w2 S2⟩
        · exact hk.elim
      · exact hk.elim
    · rw [if_neg hi] at hk; exact hk.elim
/-! ### C.m(e, ..), m a static method -/
structure SMet (K : PySem.W.Frag) (C : Addr) (m : Str) (p f : Addr) : Prop where
  rd : PySem.W.readsIn K C (.type "type") = true
  ga : PySem.W.specialIn K (.ref C) "__getattribute__" = some (some (.builtin "type.__getattribute__"))
  at_ : PySem.W.findCls K (.ref C) (.type "type") m = some (.get (.builtin "staticmethod.__get__") (.ref p) .none (.ref C))
  rc : ∃ rest, PySem.W.recIn K p "staticmethod" = some (.ref f :: rest)
theorem getsm_ok {pins : List (Addr × Obj)} {σ : L2.St} {H : Hp} {s : Shared} {A : Around} {E : Value → Shared → Prop} {C p f : Addr} {m : Str} {pl : Sem Bool} {Q : Value × List Value → Shared → Prop} (I : Inv X pins σ H s) (k : SMet X.K C m p f)
    (h : ∀ s', Inv X pins σ H s' → Q (.ref f, []) s') : wpAny (model X.prog X.w) A (getMethod (.ref C) m pl) Q E s := by
  obtain ⟨rest, hp⟩ := k.rc
  exact PySem.W.method_cls I.kIn k.ga (PySem.W.cls_bind I.kIn k.rd k.at_ (wpAny_call (PySem.W.sm_get (s := { s with toks := s.toks + 1 }) I.kIn hp (PySem.W.handed_on rfl (h _ (I.tok _))))))
def statM (f : FnD) (arr : List Src) (mp mk : M (List Opd)) : M RV := fnA f arr mp mk
theorem qv_stat {k np : Nat} {f C p0 : Addr} {fd : FuncData} {ps ks : List Str} {c m : Str} {apos cp : Pos} {e : Expr} {es : List Expr} {kws : List Keyword} {fD : FnD} {arr : List Src} {mp mk : M (List Opd)} {pl : Sem Bool} (F : FnOk X.prog X.w X.K X.mg X.base (L2.CX X.prog X.w) k f fd ps (spOf X.K X.mg ps.length fD)) (tk : Takes X W) (hr : Room k X.A)
    (hg : Gl X c) (hmc : X.mg c = some (.ref C)) (hM : SMet X.K C m p0 f) (hkp : PySem.W.keepIn X.K (.ref f) = true) (hb : Bnd X.K X.mg fd ps np ks arr) (ha : QOs X W pn (e :: es) mp) (hkw : QK X W pn kws mk)
    (hall : (backToKw pos (keywordEach kws X.env)).all (·.1.isSome) = true) (hks : (backToKw pos (keywordEach kws X.env)).filterMap (·.1) = ks) (hdb : (c == ("__debug__" : Str)) = false)
    (hst : starEach (e :: es) X.env = (false, eval e X.env) :: starEach es X.env) (hpl : ((backTo pos (starEach (e :: es) X.env)).any (·.1) || (backToKw pos (keywordEach kws X.env)).any (·.1.isNone)) = false)
    (hlp : ∀ env os e', mp env = .ok os e' → os.length = np) (hlk : ∀ env os e', mk env = .ok os e' → os.length = ks.length)
    (ht : eval (.Call (.Attribute (.Name c cp) m apos) (e :: es) kws pos) X.env = (do
      let ov ← eval (.Name c cp) X.env
      standAt apos.atName
      let (f, first) ← holding [ov] (getMethod ov m pl)
      callWith pos f first (backTo pos (starEach (e :: es) X.env)) (backToKw pos (keywordEach kws X.env)))) :
    QV X W pn (.Call (.Attribute (.Name c cp) m apos) (e :: es) kws pos) (statM fD arr mp mk) := fun Fh P hp => ⟨fun pins s σ H Q I ⟨G, env, S, q⟩ => by
  refine PySem.W.methodCall_KW (pl := pl) (thn ((pe_glob (pos := cp) (v := .ref C) hg hmc rfl hdb).run pins s σ H (fun v H1 => v = .ref C ∧ H1 = H) I ⟨rfl, rfl⟩) fun u s1 ⟨x, H1, I1, rx, ex, eH⟩ => ?_) ht
  subst ex eH
  obtain rfl : u = Value.ref C := rx
  refine getsm_ok I1 hM fun s2 I2 => ?_
  refine args_run (X := X) (first := []) I2 hkp (ha Fh P hp) (hkw Fh P hp) (rd_two (k := fun os => finA fD arr os) S q hlp hlk) hall hks hst hpl fun us ws vs zs s3 H2 I3 r rz ⟨l1, l2, os, G', e', exg, S', ho, q'⟩ => ?_
  obtain ⟨zz, b1, b2, b3⟩ := hb.to s3 us ws I3.kIn (by rw [← r.length]; exact l1) (by rw [← rz.length]; exact l2)
  obtain ⟨vz, r1, hsp⟩ := finA_ok (E := WE W σ) S' ho (r.append rz) b1 b2 hb.len q' fun _ _ _ => Iff.rfl
  exact run_anyS F hr (passAt tk σ) I3 b3 r1 hsp⟩
/-- the record's def, a static or class method's -/
def wrG (K : PySem.W.Frag) (c : Str) (T : String) (m : Str) : Addr := He5.wf K (He.ga K c) T m
def smB (K : PySem.W.Frag) (c m : Str) : Bool := PySem.W.readsIn K (He.ga K c) (.type "type") && (He.eqO (PySem.W.specialIn K (.ref (He.ga K c)) "__getattribute__") (some (some (.builtin "type.__getattribute__"))) && He5.wrapB K (He.ga K c) "staticmethod" "staticmethod.__get__" m)
theorem sm_ok {K : PySem.W.Frag} {c m : Str} (h : smB K c m = true) : SMet K (He.ga K c) m (He.ma K (He.ga K c) m) (wrG K c "staticmethod" m) := by
  obtain ⟨h1, h⟩ := He.ba h
  obtain ⟨h2, h3⟩ := He.ba h
  obtain ⟨k1, k2⟩ := He5.wrapB_ok h3
  exact ⟨h1, He.eqO_ok h2, k1, k2⟩
/-! ### x[k] += e -/
def augLM (i : Nat) (g : Int → Int → Int) (mk mv : M Opd) : MS := fun env => match slotOf env i with
  | some _ => bindS mk (fun o1 e1 => match slotOf e1 i, (resolve e1 o1).bind asInt with
    | some (.ol ds), some k => if 0 ≤ k then (match ds[k.toNat]? with
        | some (.int a) => bindS mv (fun o2 e2 => match slotOf e2 i, (resolve e2 o2).bind asInt with
          | some (.ol es), some b => (match ixN es.length k with
            | some j' => .nx (e2.set i (some (.ol (es.set j' (.int (g a b))))))
            | none => .stk)
          | _, _ => .stk) e1
        | _ => .stk) else .stk
    | _, _ => .stk) env
  | none => .stk
def rGetL : V → V → Hp → VK → Prop := fun o i H Q => ∃ p xs k v, o = .ref p ∧ i = .int k ∧ H p = some (.lst xs) ∧ 0 ≤ k ∧ xs[k.toNat]? = some v ∧ Q v H
theorem get_listL : PGet X rGetL := by
  intro pins s σ H o i ov iv Q I ro ri h
  obtain ⟨p, xs, k, v, rfl, rfl, hp, h0, hx, q⟩ := h
  cases ro
  obtain ⟨t, rfl⟩ := ri
  obtain ⟨its, r, pl, hz⟩ := I.list (SqL.of hp)
  obtain ⟨w, ew, rw'⟩ := r.get hx
  have hl := r.length
  have hn := line63
  have hlt := (List.getElem?_eq_some_iff.mp hx).1
  exact wpAny_getItem_list pl.isList h0 (by omega) (by simpa using ew) ⟨v, H, I, rw', q⟩
theorem qs_augL {i : Nat} {x : Str} {px tpos : Pos} {e k : Expr} {op : Operator} {g : Int → Int → Int} {mk mv : M Opd} (hN : X.N[i]? = some x) (hv : Vis X.env.scope x) (hd : (x == ("__debug__" : Str)) = false) (hcd : (x == ("__classdict__" : Str)) = false) (hk : QO X W pn k mk) (he : QO X W pn e mv) (ho : PIp X op (ipI g))
    (ha : ∀ ov iv new, augStore k ov iv new = (do holding [new, ov, iv] (setItem ov iv new); release [new, ov, iv] []; pure .next)) :
    QS X W pn (.AugAssign (.Subscript (.Name x px) k tpos) op e pos) (augLM i g mk mv) := fun Fh P hp =>
  PS.weak (ps_augS (pe_var hN hv hd hcd) (hk Fh P hp) get_listL (he Fh P hp) ho set_list ha) fun D σ H ⟨G, env, S, q⟩ => by
    unfold augLM at q
    cases z0 : slotOf env i with
    | none => simp only [z0] at q; exact q.elim
    | some r0 =>
      simp only [z0] at q
      obtain ⟨u, hu, _⟩ := S.val i r0 (slotOf_some z0)
      refine ⟨u, hu, G, env, S, PO_S (σ := σ) q fun o1 e1 y G1 H1 ex1 w1 S1 hk1 => ?_⟩
      cases z1 : slotOf e1 i with
      | none => simp only [z1] at hk1; exact hk1.elim
      | some r1 =>
        cases z2 : (resolve e1 o1).bind asInt with
        | none => rw [z1, z2] at hk1; cases r1 <;> exact hk1.elim
        | some kk =>
          rw [z1, z2] at hk1
          cases r1 with
          | ol ds =>
            simp only at hk1
            by_cases z3 : 0 ≤ kk
            · rw [if_pos z3] at hk1
              cases z4 : ds[kk.toNat]? with
              | none => simp only [z4] at hk1; exact hk1.elim
              | some d =>
                simp only [z4] at hk1
                cases d with
                | int a =>
                  simp only at hk1
                  obtain ⟨u', hu', wu⟩ := S1.val i _ (slotOf_some z1)
                  rw [hu] at hu'; cases hu'
                  obtain ⟨p, o, rfl, g1, g2, g3⟩ := wu
                  cases o <;> first | exact g3.elim | skip
                  rename_i xs
                  have g3 : DenL X.K X.mg G1 xs ds := g3
                  obtain ⟨v, hv1, hv2⟩ := g3.get z4
                  have yk : y = .int kk := by
                    simp only [Option.bind_eq_some_iff] at z2
                    obtain ⟨r, y1, y2⟩ := z2
                    exact (S1.resolve w1 y1).asInt y2
                  refine ⟨p, xs, kk, v, rfl, yk, g1, z3, hv1, ?_⟩
                  rw [hv2.int_inv]
                  refine ⟨G1, e1, S1, PO_S (σ := σ) hk1 fun o2 e2 y2 G2 H2 ex2 w2 S2 hk2 => ?_⟩
                  cases z5 : slotOf e2 i with
                  | none => simp only [z5] at hk2; exact hk2.elim
                  | some r2 =>
                    cases z6 : (resolve e2 o2).bind asInt with
                    | none => rw [z5, z6] at hk2; cases r2 <;> exact hk2.elim
                    | some b =>
                      rw [z5, z6] at hk2
                      have yb : y2 = .int b := by
                        simp only [Option.bind_eq_some_iff] at z6
                        obtain ⟨r, y1, y2⟩ := z6
                        exact (S2.resolve w2 y1).asInt y2
                      refine ⟨a, b, rfl, yb, ?_⟩
                      cases r2 with
                      | ol es =>
                        simp only at hk2
                        cases z7 : ixN es.length kk with
                        | none => simp only [z7] at hk2; exact hk2.elim
                        | some j' =>
                          simp only [z7] at hk2
                          have se := slotOf_some z5
                          obtain ⟨u2, hu2, wu2⟩ := S2.val i _ se
                          rw [hu] at hu2; cases hu2
                          obtain ⟨p', o', ep, k1, k2, k3⟩ := wu2
                          cases ep
                          cases o' <;> first | exact k3.elim | skip
                          rename_i ys
                          have k3 : DenL X.K X.mg G2 ys es := k3
                          exact ⟨p, ys, kk, j', rfl, yk, k1, by rw [k3.1]; exact z7, hk2 σ G2 _ (Ex.refl _) (S2.mut se rfl hu (o' := .lst (ys.set j' (.int (g a b)))) (r' := .ol (es.set j' (.int (g a b)))) (k3.set j' (.int _)))⟩
                      | sh _ => exact hk2.elim
                      | od _ => exact hk2.elim
                      | oo _ _ => exact hk2.elim
                | _ => exact hk1.elim
            · rw [if_neg z3] at hk1; exact hk1.elim
          | sh _ => exact hk1.elim
          | od _ => exact hk1.elim
          | oo _ _ => exact hk1.elim
/-! ### -e -/
def negF (r : RV) : Option RV := match r with
  | .sh (.int i) => some (.sh (.int (-i)))
  | _ => none
theorem s_negF {K : PySem.W.Frag} {mg : Str → Option Value} : UnS K mg (rU fun i => .int (-i)) negF := fun G H x a c Q ex va e k => by
  unfold negF at e
  split at e
  · rename_i i; cases e
    exact ⟨i, Den.int_inv va, k _ G H .same (.int _)⟩
  · cases e
end
/-! ### keyword-only defaults -/
def srcAtD (us ks : List Value) : Src → Value
  | .inl i => us.getD i .none
  | .inr _ => .none
section
variable {K : PySem.W.Frag} {mg : Str → Option Value} {x qual : Str} {params : Arguments} {body : List Stmt} {scope : Scope} {f : Addr} {fd : FuncData} {ps : List Str} {np : Nat} {arr : List Src}
/-- C(e, ..) where one keyword-only parameter is left to its default -/
theorem bndI_d1 {kn : Str} {kv : V} {kd : D} (F : FunD K x qual params body scope [] [(kn, kv)] f fd) (hl : arr.length + 2 = ps.length) (ha : allIn np arr = true) (hd : ∀ G, Den K mg G kv kd)
    (h : ∀ (E : Addr) (doc pm : Value) (an : Option Addr) (cdv ct a k : Value) (us : List Value), us.length = np →
      KwChain E [(kn, k)] (bindArgs (PySem.W.fnOf x qual params body scope .none (.ref E) doc pm an cdv ct) ⟨a :: us, []⟩) (ps.zip (a :: (arr.map (srcAt us) ++ [k])))) : BndI K mg fd ps np [] (arr ++ [.inr kd]) := by
  obtain ⟨oc, od, dV, kV, doc, pm, an, cdv, ct, osl, rfl, lk, hcd, hD, hK⟩ := F.ex
  rcases hD with ⟨_, rfl⟩ | ⟨e, _⟩
  · rcases hK with e | ⟨E, rfl, hq⟩
    · cases e
    · obtain ⟨u, hu, ru⟩ := hq _ (List.mem_singleton.mpr rfl)
      refine ⟨by simp; omega, fun us ws h1 h2 => ?_⟩
      have e0 : ws = [] := by cases ws with
        | nil => rfl
        | cons _ _ => simp at h2
      subst e0
      refine ⟨arr.map (srcAt us) ++ [u], by simp, fun j c z h1' h2' => ?_, fun s a X => ?_⟩
      · by_cases hj : j < arr.length
        · rw [List.getElem?_append_left hj] at h1'
          rw [List.getElem?_append_left (by simpa using hj)] at h2'
          rw [List.append_nil]
          exact srcs_ok ha h1 j c z h1' h2'
        · rw [List.getElem?_append_right (by omega)] at h1'
          rw [List.getElem?_append_right (by simp; omega)] at h2'
          simp only [List.length_map] at h2'
          cases hk : j - arr.length with
          | zero =>
            rw [hk] at h1' h2'
            cases h1'; cases h2'
            exact ⟨kv, ru, hd⟩
          | succ n => rw [hk] at h1'; simp at h1'
      · exact BindsTo.of_looks fun M => KwChain.looks X (fun q hq' => by obtain rfl := List.mem_singleton.mp hq'; exact hu) (h E doc pm an cdv ct a u us h1)
  · exact absurd rfl e
end
end Z
/-! Z: == and != by an own __eq__ -/
namespace Z
open PySem PySem.Spec PyProof.Rows L2
section
variable {prog : Program} {w : World} {A : Around} {E : Value → Shared → Prop} {s : Shared} {K : PySem.W.Frag} {x C f : Addr} {ox : Obj} {od : Option Obj}
theorem ifBound_B {M : Model} {name : Str} {B id : String} {args : List Value} {Q : Option Value → Shared → Prop} (X : K.In s.heap) (I : PySem.W.InstAt s.heap x ox C od) (hs : PySem.W.findIn K (.ref C) name = some (some (.builtin id))) (S : Slot B name id)
    (h : wpAny M A (call (.builtin id) (.ref x :: args)) (fun v => Q (some v)) E s) : wpAny M A (callSpecialIfBound? (.ref x) name args) Q E s := by
  simp only [callSpecialIfBound?, bindSpecialIfBound?]
  refine wpAny_holding (wpAny_bind (wpAny_bind (wpAny_bind (I.type.here ((PySem.W.looks_findIn X hs).here ?_)))))
  simp only [S.bind]
  refine wpAny_bind (wpAny_askSetting (wpAny_ite ?_))
  have fin : wpAny M A (call (.builtin id) ([.ref x] ++ args) >>= fun v => pure (some v)) Q E s := wpAny_bind (wpAny_mono h (fun v t z => wpAny_pure z) fun _ _ z => z)
  split
  · exact wpAny_bind (wpAny_pure (wpAny_pure fin))
  · exact wpAny_tryCatch (wpAny_bind (wpAny_pure (wpAny_pure fin)))
theorem objNe {y : Value} {Q : Fin → Shared → Prop} (X : K.In s.heap) (I : PySem.W.InstAt s.heap x ox C od) (he : PySem.W.findIn K (.ref C) "__eq__" = some (some (.ref f))) (hf : PySem.W.isFn K (.ref f) = true) (hu : A.units < cLine)
    (h : wpAny (model prog w) A (call (.ref f) [.ref x, y]) (fun v t => ∃ b, v = .bool b ∧ Q (.done (.ret (.bool (!b)))) t) E s) : wpAny (model prog w) A (Builtin.«object.__ne__» ⟨[.ref x, y], []⟩) Q E s := by
  unfold Builtin.«object.__ne__»
  repeat (first
    | with_reducible refine wpAny_cRoomFor hu ?_
    | (refine wpAny_bind (m := callSpecialIfBound? (.ref x) (Str.ofString "__eq__") [y]) (PySem.W.ifBound_K X I he hf (wpAny_mono h (fun r t hr => by
          obtain ⟨b, rfl, hq⟩ := hr
          repeat (first | exact hq | exact wpAny_pure hq | exact wpAny_truthy_bool hq | (refine wpAny_bind (m := truthy (.bool _)) (wpAny_truthy_bool ?_)) | wp_step)) fun _ _ e => e)))
    | wp_step)
/-- x != y -/
theorem ne_own {y ty : Value} {Q : Value → Shared → Prop} (hu : A.units + 1 < cLine) (X : K.In s.heap) (I : PySem.W.InstAt s.heap x ox C od) (hb : PySem.W.Looks (model prog w) s.heap (typeOf y) ty) (hn : PySem.W.notFirst K C ty = true)
    (he : PySem.W.findIn K (.ref C) "__eq__" = some (some (.ref f))) (hf : PySem.W.isFn K (.ref f) = true) (hne : PySem.W.findIn K (.ref C) "__ne__" = some (some (.builtin "object.__ne__"))) (hob : PySem.W.mroIn K C (.type "object") = some true)
    (h : wpAny (model prog w) A.in1 (call (.ref f) [.ref x, y]) (fun v t => ∃ b, v = .bool b ∧ Q (.bool (!b)) t) E s) : wpAny (model prog w) A (richCompare .NotEq (.ref x) y) Q E s := by
  have sub : PySem.W.Looks (model prog w) s.heap (isInstance (.ref x) (.type "object")) true := I.type.andThen (PySem.W.looks_mroIn X hob)
  have one : wpAny (model prog w) A (tryCompare (.ref x) "__ne__" y) (fun r t => ∃ v, r = some v ∧ Q v t) E s := by
    unfold tryCompare
    refine wpAny_bind (ifBound_B X I hne PySem.F.cmp_object.ne (wpAny_call (codeAny_call_builtin PySem.F.cmp_object.ne.plain PySem.F.cmpEntry_ne (PySem.W.check_slot PySem.F.cmpKind_ne PySem.F.cmpSplit_ne sub (PySem.F.cmpArgs_ne _ _) ?_))))
    refine objNe (A := A.in1) X I he hf (show A.in1.units < cLine from Nat.lt_of_le_of_lt (by first | exact Nat.le_refl _ | exact Nat.le_succ _) hu) (wpAny_mono h (fun v t hv => ?_) fun _ _ e => e)
    obtain ⟨b, rfl, hq⟩ := hv
    exact ⟨b, rfl, wpAny_pure ⟨_, rfl, hq⟩⟩
  unfold richCompare
  simp only [oneThing_ref]
  refine wpAny_holding (wpAny_bind (wpAny_cRoomFor (by omega) ?_))
  rw [cmpInfo_NotEq]
  dsimp only
  refine wpAny_bind (I.type.here (wpAny_bind (hb.here ?_)))
  split
  · rename_i q
    have e : PySem.W.subIn K ty (.ref C) = some false := by
      rcases Bool.or_eq_true_iff.mp hn with e | e
      · rw [beq_iff_eq.mp e] at q; simp at q
      · exact beq_iff_eq.mp e
    refine wpAny_bind ((PySem.W.looks_subIn X e).here ?_)
    simp only [Bool.false_eq_true, if_false]
    refine wpAny_bind (wpAny_mono one (fun r t z => ?_) fun _ _ e => e)
    obtain ⟨v, rfl, hq⟩ := z
    exact wpAny_pure hq
  · refine wpAny_bind (wpAny_pure ?_)
    simp only [Bool.false_eq_true, if_false]
    refine wpAny_bind (wpAny_mono one (fun r t z => ?_) fun _ _ e => e)
    obtain ⟨v, rfl, hq⟩ := z
    exact wpAny_pure hq
end
/-! ### over the layer -/
structure OwnEq (K : PySem.W.Frag) (C : Addr) : Prop where
  ne : PySem.W.findIn K (.ref C) "__ne__" = some (some (.builtin "object.__ne__"))
  ob : PySem.W.mroIn K C (.type "object") = some true
  nf : ∀ t : Ty0, PySem.W.notFirst K C (.type t.nm) = true
def allTy : List Ty0 := [.non, .bl, .int, .str, .tup, .lst, .dct]
def eqB (K : PySem.W.Frag) (c : Str) : Bool := He.eqO (PySem.W.findIn K (.ref (He.ga K c)) "__ne__") (some (some (.builtin "object.__ne__"))) && (decide (PySem.W.mroIn K (He.ga K c) (.type "object") = some true) && allTy.all fun t => PySem.W.notFirst K (He.ga K c) (.type t.nm))
theorem eqB_ok {K : PySem.W.Frag} {c : Str} (h : eqB K c = true) : OwnEq K (He.ga K c) := by
  obtain ⟨h1, h⟩ := He.ba h
  obtain ⟨h2, h3⟩ := He.ba h
  exact ⟨He.eqO_ok h1, of_decide_eq_true h2, fun t => List.all_eq_true.mp h3 t (by cases t <;> decide)⟩
/-- b's type, for a comparison with an instance of c -/
def cmpT (c : Str) (r : RV) : Bool := match clsR r with
  | some (c', _) => decide (c' = c)
  | none => (tyD r).isSome
def eqRes (neg : Bool) (r : Res RV) : Res RV := match r with
  | .ok (.sh (.bl b)) e => .ok (.sh (.bl (if neg then !b else b))) e
  | _ => .stk
def eqOM (neg : Bool) (c : Str) (f : FnD) (ma mb : M Opd) : M RV := bindM ma fun o1 => bindM mb fun o2 e => match resolve e o2 with
  | some r2 => if (insO c o1 e && cmpT c r2) = true then eqRes neg (finF f [o1, o2] e) else .stk
  | none => .stk
section
variable {X : Cx} {W : WX} {pn : List Nat} {pos : Pos}
/-- x == y, x != y: x an instance of C, y one too or a datum -/
def rEqOw (K : PySem.W.Frag) (C : Addr) (neg : Bool) (sp : Sp) (E : XK) : R2 := fun x y H Q => ∃ a dx fs, x = .ref a ∧ H a = some (.ins C dx fs) ∧ ((∃ b dy gs, y = .ref b ∧ H b = some (.ins C dy gs)) ∨ ∃ t : Ty0, TyX K H y (.type t.nm)) ∧ sp [x, y] H (fun z H' => ∃ b, z = .bl b ∧ Q (.bl (if neg then !b else b)) H') E
theorem run_fnE {CX : CXT} {k : Nat} {f : Addr} {fd : FuncData} {ps : List Str} {sp : Sp} {E : XK} {A : Around} {pins : List (Addr × Obj)} {σ : L2.St} {H : Hp} {s : Shared} {Q : VK} {us : List Value} {vs : List V} (F : FnOk X.prog X.w X.K X.mg X.base CX k f fd ps sp) (hb : Binds X.K fd ps []) (hl : us.length = ps.length) (hr : Room k A) (e0 : Env0 X.prog X.w X.K X.mg X.base A X.stack s H) (hx : Passes CX X E)
    (I : Inv X pins σ H s) (r : Vals vs us) (h : sp vs H Q E) : wpAny (model X.prog X.w) A (call (.ref f) us) (EP X pins σ Q) X.xe s := by
  have b := hb s us I.kIn (by simpa using hl)
  rw [List.append_nil] at b
  refine wpAny_call (codeAny_mono (F.run A X.stack s H ⟨us, []⟩ us vs Q E hr e0 b r h) fun r s' hq => ?_)
  cases r with
  | error e => exact hx pins σ H s e s' I hq
  | ok fl =>
    cases fl with
    | ret u => exact I.after hq
    | next => exact False.elim hq
    | brk => exact False.elim hq
    | cont => exact False.elim hq
theorem op_eqOw {n : Nat} {C g : Addr} {fd : FuncData} {ps : List Str} {sp : Sp} {E : XK} (hM : Meth X.K C "__eq__" g) (hE : OwnEq X.K C) (F : FnOk X.prog X.w X.K X.mg X.base (L2.CX X.prog X.w) n g fd ps sp) (hb : Binds X.K fd ps []) (hl : ps.length = 2) (hr : Room (n + 2) X.A) (hx : Passes (L2.CX X.prog X.w) X E) :
    OpR X (compareOp .Eq) (rEqOw X.K C false sp E) ∧ OpR X (compareOp .NotEq) (rEqOw X.K C true sp E) := by
  have ty : ∀ {pins : List (Addr × Obj)} {σ : L2.St} {H : Hp} {s : Shared} {y : V} {u : Value}, Inv X pins σ H s → RelV y u → ((∃ b dy gs, y = .ref b ∧ H b = some (.ins C dy gs)) ∨ ∃ t : Ty0, TyX X.K H y (.type t.nm)) → ∃ tb, PySem.W.Looks (model X.prog X.w) s.heap (typeOf u) tb ∧ PySem.W.notFirst X.K C tb = true := by
    intro pins σ H s y u I ry h
    rcases h with ⟨b, dy, gs, rfl, hb⟩ | ⟨t, ht⟩
    · obtain rfl : u = Value.ref b := ry
      obtain ⟨ox, od, J, _⟩ := ins_at I hb
      exact ⟨_, J.type, by unfold PySem.W.notFirst; simp⟩
    · obtain ⟨Pz, k1, k2, _⟩ := kit_of I ry ht
      exact ⟨_, k1.ty _ _ I.kIn k2, hE.nf t⟩
  constructor
  · intro pins s σ H x y v u Q I rx ry h
    obtain ⟨a, dx, fs, rfl, hi, hy, q⟩ := h
    obtain rfl : v = Value.ref a := rx
    obtain ⟨ox, od, J, _⟩ := ins_at I hi
    obtain ⟨tb, k1, k2⟩ := ty I ry hy
    obtain ⟨m, hF⟩ := I.fr
    show wpAny _ _ (richCompare .Eq (.ref a) u) _ _ _
    refine PySem.W.cmp_K (op := .Eq) (tb := tb) hr.units0 hF I.ok.mod.kin J k1 k2 hM.at_ hM.fn ?_
    refine wpAny_mono (run_fnE (us := [.ref a, u]) (vs := [.ref a, y]) F hb (by simp [hl]) (hr.mono (by omega)) I.env0 hx I (.cons rfl (.cons ry .nil)) q) (fun w s' z => ?_) fun _ _ x => x
    obtain ⟨z', H', I', rz, b, rfl, qz⟩ := z
    obtain rfl : w = Value.bool b := rz
    exact ⟨.bl b, H', I', rfl, qz⟩
  · intro pins s σ H x y v u Q I rx ry h
    obtain ⟨a, dx, fs, rfl, hi, hy, q⟩ := h
    obtain rfl : v = Value.ref a := rx
    obtain ⟨ox, od, J, _⟩ := ins_at I hi
    obtain ⟨tb, k1, k2⟩ := ty I ry hy
    show wpAny _ _ (richCompare .NotEq (.ref a) u) _ _ _
    refine ne_own (ty := tb) (by have := hr.units; omega) I.kIn J k1 k2 hM.at_ hM.fn hE.ne hE.ob ?_
    refine wpAny_mono (run_fnE (us := [.ref a, u]) (vs := [.ref a, y]) F hb (by simp [hl]) (show Room n X.A.in1 from (hr.mono (show n + 1 ≤ n + 2 by omega)).in1) I.env0.in1 hx I (.cons rfl (.cons ry .nil)) q) (fun w s' z => ?_) fun _ _ x => x
    obtain ⟨z', H', I', rz, b, rfl, qz⟩ := z
    obtain rfl : w = Value.bool b := rz
    exact ⟨b, rfl, .bl (!b), H', I', rfl, qz⟩
theorem rd_eqOw {n : Nat} {C : Addr} {c : Str} {ps : List Str} {neg : Bool} {fD : FnD} {ma mb : M Opd} {Fh : FHp} {P : List (Nat × V)} (hmc : X.mg c = some (.ref C)) (hl : ps.length = 2) {σ : L2.St} {H : Hp} {Q : VK} (h : rdV X.K X.mg W Fh P (eqOM neg c fD ma mb) σ H Q) :
    tOp (rEqOw X.K C neg (spOf X.K X.mg ps.length fD) (fun _ _ _ => False)) (rdO X.K X.mg W Fh P ma) (rdO X.K X.mg W Fh P mb) σ H Q := by
  obtain ⟨G, env, S, q⟩ := h
  refine ⟨G, env, S, PO_V q fun o1 e1 x G1 H1 ex1 w1 S1 hk => ?_⟩
  refine ⟨G1, e1, S1, PO_V hk fun o2 e2 y G2 H2 ex2 w2 S2 hk2 => ?_⟩
  have w1' := w1.mono ex2
  cases z : resolve e2 o2 with
  | none => simp only [z] at hk2; exact hk2.elim
  | some r2 =>
    simp only [z] at hk2
    by_cases hi : (insO c o1 e2 && cmpT c r2) = true
    · rw [if_pos hi] at hk2
      obtain ⟨i1, i2⟩ := Bool.and_eq_true_iff.mp hi
      obtain ⟨a, dx, gs, rfl, hins⟩ := S2.insO hmc w1' i1
      have vy := S2.resolve w2 z
      refine ⟨a, dx, gs, rfl, hins, ?_, ?_⟩
      · unfold cmpT at i2
        cases z3 : clsR r2 with
        | some pr =>
          obtain ⟨c', fs⟩ := pr
          simp only [z3] at i2
          have e := of_decide_eq_true i2
          subst e
          obtain ⟨b, C', dy, gs', rfl, g1, g2, g3⟩ := vy.cls S2.gh z3
          rw [hmc] at g1; cases g1
          exact .inl ⟨b, dy, gs', rfl, g2⟩
        | none =>
          simp only [z3] at i2
          obtain ⟨t, ht⟩ := Option.isSome_iff_exists.mp i2
          exact .inr ⟨t, vy.tyX S2.gh ht⟩
      · refine finF_okN (W := W) S2 (.cons w1' (.cons w2 .nil)) (by rw [hl]; rfl) ?_
        unfold eqRes at hk2
        split at hk2
        · rename_i b e3 z4
          rw [z4]
          intro v2 G3 H3 ex3 w3 S3
          exact ⟨b, Den.bl_inv w3, hk2 _ G3 H3 ex3 (.bl _) S3⟩
        · exact hk2.elim
    · rw [if_neg hi] at hk2; exact hk2.elim
theorem qv_eqOw {k : Nat} {g C : Addr} {fd : FuncData} {ps : List Str} {c : Str} {a b : Expr} {fD : FnD} {ma mb : M Opd} (F : FnOk X.prog X.w X.K X.mg X.base (L2.CX X.prog X.w) k g fd ps (spOf X.K X.mg ps.length fD)) (hr : Room (k + 2) X.A) (hmc : X.mg c = some (.ref C)) (hM : Meth X.K C "__eq__" g) (hE : OwnEq X.K C) (hb : Binds X.K fd ps []) (hl : ps.length = 2)
    (ha : QO X W pn a ma) (hbb : QO X W pn b mb) : QV X W pn (.Compare a [.Eq] [b] pos) (eqOM false c fD ma mb) := fun Fh P hp =>
  PE.weak (pe_cmpR (op_eqOw hM hE F hb hl hr passL).1 (ha Fh P hp) (hbb Fh P hp) (nomark _)) fun σ H Q h => rd_eqOw (n := 0) hmc hl h
theorem qv_neOw {k : Nat} {g C : Addr} {fd : FuncData} {ps : List Str} {c : Str} {a b : Expr} {fD : FnD} {ma mb : M Opd} (F : FnOk X.prog X.w X.K X.mg X.base (L2.CX X.prog X.w) k g fd ps (spOf X.K X.mg ps.length fD)) (hr : Room (k + 2) X.A) (hmc : X.mg c = some (.ref C)) (hM : Meth X.K C "__eq__" g) (hE : OwnEq X.K C) (hb : Binds X.K fd ps []) (hl : ps.length = 2)
    (ha : QO X W pn a ma) (hbb : QO X W pn b mb) : QV X W pn (.Compare a [.NotEq] [b] pos) (eqOM true c fD ma mb) := fun Fh P hp =>
  PE.weak (pe_cmpR (op_eqOw hM hE F hb hl hr passL).2 (ha Fh P hp) (hbb Fh P hp) (nomark _)) fun σ H Q h => rd_eqOw (n := 0) hmc hl h
theorem qt_eqOw {k : Nat} {g C : Addr} {fd : FuncData} {ps : List Str} {c : Str} {a b : Expr} {fD : FnD} {ma mb : M Opd} (F : FnOk X.prog X.w X.K X.mg X.base (L2.CX X.prog X.w) k g fd ps (spOf X.K X.mg ps.length fD)) (hr : Room (k + 2) X.A) (hmc : X.mg c = some (.ref C)) (hM : Meth X.K C "__eq__" g) (hE : OwnEq X.K C) (hb : Binds X.K fd ps []) (hl : ps.length = 2)
    (ha : QO X W pn a ma) (hbb : QO X W pn b mb) : QT X W pn (.Compare a [.Eq] [b] pos) (boM (eqOM false c fD ma mb)) := fun Fh P hp =>
  PT.weak (pt_cmpR (op_eqOw hM hE F hb hl hr passL).1 (ha Fh P hp) (hbb Fh P hp) (nomark _)) fun σ H Q h => rd_eqOw (n := 0) hmc hl (rd_bo h)
theorem qt_neOw {k : Nat} {g C : Addr} {fd : FuncData} {ps : List Str} {c : Str} {a b : Expr} {fD : FnD} {ma mb : M Opd} (F : FnOk X.prog X.w X.K X.mg X.base (L2.CX X.prog X.w) k g fd ps (spOf X.K X.mg ps.length fD)) (hr : Room (k + 2) X.A) (hmc : X.mg c = some (.ref C)) (hM : Meth X.K C "__eq__" g) (hE : OwnEq X.K C) (hb : Binds X.K fd ps []) (hl : ps.length = 2)
    (ha : QO X W pn a ma) (hbb : QO X W pn b mb) : QT X W pn (.Compare a [.NotEq] [b] pos) (boM (eqOM true c fD ma mb)) := fun Fh P hp =>
  PT.weak (pt_cmpR (op_eqOw hM hE F hb hl hr passL).2 (ha Fh P hp) (hbb Fh P hp) (nomark _)) fun σ H Q h => rd_eqOw (n := 0) hmc hl (rd_bo h)
-- fast: eqOM
-- simp_arith: eqRes
end
/-! ### isinstance(x, C), C an own class -/
structure InsTy (K : PySem.W.Frag) (C : Addr) : Prop where
  cl : Cls K C
  ha : PySem.W.findIn K (.ref C) "__class__" = some (some (.builtin "object.__class__"))
  hn : PySem.W.specialIn K (.builtin "object.__class__") "__get__" = some (some (.builtin "getset_descriptor.__get__"))
  htk : PySem.W.takesIn K (.builtin "object.__class__") = some true
  hm : PySem.W.mroIn K C (.type "object") = some true
structure IsiC (K : PySem.W.Frag) (mg : Str → Option Value) (C : Addr) (tab : List (Str × Bool)) : Prop where
  ty : ∀ t : Ty0, PySem.W.kitOne K (.type t.nm) (.ref C) = some false
  cs : ∀ p ∈ tab, ∃ C', mg p.1 = some (.ref C') ∧ InsTy K C' ∧ PySem.W.kitOne K (.ref C') (.ref C) = some p.2
def insTyB (K : PySem.W.Frag) (c : Str) : Bool := He.eqO (PySem.W.findIn K (.ref (He.ga K c)) "__class__") (some (some (.builtin "object.__class__"))) && (He.eqO (PySem.W.specialIn K (.builtin "object.__class__") "__get__") (some (some (.builtin "getset_descriptor.__get__"))) &&
  (decide (PySem.W.takesIn K (.builtin "object.__class__") = some true) && decide (PySem.W.mroIn K (He.ga K c) (.type "object") = some true)))
def isiCB (K : PySem.W.Frag) (c : Str) (tab : List (Str × Bool)) : Bool := (allTy.all fun t => decide (PySem.W.kitOne K (.type t.nm) (.ref (He.ga K c)) = some false)) && tab.all fun p => insTyB K p.1 && decide (PySem.W.kitOne K (.ref (He.ga K p.1)) (.ref (He.ga K c)) = some p.2)
theorem isiCB_ok {K : PySem.W.Frag} {mg : Str → Option Value} {c : Str} {tab : List (Str × Bool)} (hg : ∀ p ∈ tab, mg p.1 = some (.ref (He.ga K p.1)) ∧ Cls K (He.ga K p.1)) (h : isiCB K c tab = true) : IsiC K mg (He.ga K c) tab := by
  obtain ⟨h1, h2⟩ := He.ba h
  refine ⟨fun t => of_decide_eq_true (List.all_eq_true.mp h1 t (by cases t <;> decide)), fun p hp => ?_⟩
  obtain ⟨k1, k2⟩ := He.ba (List.all_eq_true.mp h2 p hp)
  obtain ⟨j1, k1⟩ := He.ba k1
  obtain ⟨j2, k1⟩ := He.ba k1
  obtain ⟨j3, j4⟩ := He.ba k1
  exact ⟨_, (hg p hp).1, ⟨(hg p hp).2, He.eqO_ok j1, He.eqO_ok j2, of_decide_eq_true j3, of_decide_eq_true j4⟩, of_decide_eq_true k2⟩
def isiCF (tab : List (Str × Bool)) (r : RV) : Option RV := match clsR r with
  | some (c, _) => (tab.lookup c).map fun b => .sh (.bl b)
  | none => (tyD r).map fun _ => .sh (.bl false)
theorem lookup_mem {α β : Type} [BEq α] [LawfulBEq α] : ∀ {l : List (α × β)} {a : α} {b : β}, l.lookup a = some b → (a, b) ∈ l
  | [], a, b, h => by cases h
  | (x, y) :: l, a, b, h => by
    rw [List.lookup_cons] at h
    cases z : a == x with
    | true => rw [z] at h; cases h; rw [eq_of_beq z]; exact List.mem_cons_self
    | false => rw [z] at h; exact List.mem_cons_of_mem _ (lookup_mem h)
section
variable {X : Cx} {W : WX} {pn : List Nat} {pos : Pos}
theorem qv_isiC {C : Addr} {c : Str} {tab : List (Str × Bool)} {p p2 : Pos} {a : Expr} {ma : M Opd} (hI : IsiC X.K X.mg C tab) (hg : Gl X "isinstance") (hm : X.mg "isinstance" = none) (hgc : Gl X c) (hmc : X.mg c = some (.ref C)) (hdb : (c == ("__debug__" : Str)) = false)
    (ha : QO X W pn a ma) (hs : starEach [a, .Name c p2] X.env = (false, eval a X.env) :: starEach [.Name c p2] X.env) (hs2 : starEach [.Name c p2] X.env = (false, eval (.Name c p2) X.env) :: starEach [] X.env) (hpl : (backTo pos (starEach [.Name c p2] X.env)).any (·.1) = false) :
    QV X W pn (.Call (.Name "isinstance" p) [a, .Name c p2] [] pos) (unM (isiCF tab) ma) := fun Fh P hp =>
  PE.weak (pe_callB call_isi hg hm boot_isinstance (pa_cons (ha Fh P hp) (pa_cons (pe_glob (v := .ref C) hgc hmc rfl hdb) pa_nil hs2) hs) (by decide) (by decide) hs hpl) fun σ H Q ⟨G, env, S, q⟩ => by
    refine ⟨G, env, S, PO_V q fun o1 e1 x1 G1 H1 ex1 w1 S1 hk => ?_⟩
    unfold fin1 at hk
    split at hk
    · rename_i r q1
      have vw := S1.resolve w1 q1
      unfold isiCF at hk
      cases z : clsR r with
      | some pr =>
        obtain ⟨c', fs⟩ := pr
        simp only [z] at hk
        cases z2 : tab.lookup c' with
        | none => simp only [z2, Option.map_none] at hk; exact hk.elim
        | some b =>
          simp only [z2, Option.map_some] at hk
          obtain ⟨C', k1, k2, k3⟩ := hI.cs _ (lookup_mem z2)
          obtain ⟨ad, C2, dx, gs, rfl, g1, g2, g3⟩ := vw.cls S1.gh z
          rw [g1] at k1; cases k1
          exact ⟨_, .ref C, _, .ref C, b, rfl, .own _, .base (.ins g2 k2.cl k2.ha k2.hn k2.htk k2.hm), k3, hk _ G1 H1 (Ex.refl _) (.bl _) S1⟩
      | none =>
        simp only [z] at hk
        cases z2 : tyD r with
        | none => simp only [z2, Option.map_none] at hk; exact hk.elim
        | some t =>
          simp only [z2, Option.map_some] at hk
          exact ⟨x1, .ref C, .type t.nm, .ref C, false, rfl, .own _, vw.tyX S1.gh z2, hI.ty t, hk _ G1 H1 (Ex.refl _) (.bl _) S1⟩
    · exact hk.elim
end
/-! ### a, b = x, y where a name is captured: the pair is laid, then taken apart -/
section
variable {K : PySem.W.Frag} {mg : Str → Option Value} {Fh : FHp} {P : List (Nat × V)} {G H : Hp} {σ : L2.St} {env : DEnv} {T : List Addr}
theorem SRel.noT (S : SRel K mg Fh P G H σ env T) : SRel K mg Fh P G H σ env [] := ⟨S.gh, S.fh, S.dj, S.pin, S.len, S.val, S.dis, fun i r a e o h => ⟨(S.nof i r a e o h).1, List.not_mem_nil⟩, fun a m => absurd m List.not_mem_nil⟩
end
section
variable {X : Cx} {W : WX} {pn : List Nat} {pos : Pos}
theorem qs_parG {i j : Nat} {x y : Str} {a b : Expr} {px py pt : Pos} {kt k2 : Nat} {pt2 : Pos} {ma mb : M RV} (hc : X.calm = true) (hN : X.N.Nodup) (hi : X.N[i]? = some x) (hj : X.N[j]? = some y) (hij : i ≠ j)
    (hx : Loc X.env.scope x) (hy : Loc X.env.scope y) (hfx : X.fn x = true ∨ X.env.scope.names.lookup x = some .local) (hfy : X.fn y = true ∨ X.env.scope.names.lookup y = some .local) (ha : QV X W pn a ma) (hb : QV X W pn b mb)
    (hw : swappedStores [.Tuple [.Name x px, .Name y py] kt pt] (.Tuple [a, b] k2 pt2) X.env = pure none)
    (hs : swapsWithSole [.Tuple [.Name x px, .Name y py] kt pt] (.Tuple [a, b] k2 pt2) pos.line X.env = pure false)
    (h1 : (assignEach [.Tuple [.Name x px, .Name y py] kt pt] X.env).map (·.2) = [assign (.Tuple [.Name x px, .Name y py] kt pt) X.env])
    (hn : (assignEach [.Name x px, .Name y py] X.env).length = 2) (hst : (assignEach [.Name x px, .Name y py] X.env).findIdx? (·.1) = none)
    (he1 : (assignEach [.Name x px, .Name y py] X.env).map (·.2) = assign (.Name x px) X.env :: (assignEach [.Name y py] X.env).map (·.2)) (he2 : (assignEach [.Name y py] X.env).map (·.2) = assign (.Name y py) X.env :: (assignEach [] X.env).map (·.2))
    (hs1 : starEach [a, b] X.env = (false, eval a X.env) :: starEach [b] X.env) (hs2 : starEach [b] X.env = (false, eval b X.env) :: starEach [] X.env) :
    QS X W pn (.Assign [.Tuple [.Name x px, .Name y py] kt pt] (.Tuple [a, b] k2 pt2) pos) (par2 pn i j ma mb) := fun Fh P hp =>
  PS.weak (ps_asg (pe_tup (pa_cons (ha Fh P hp) (pa_cons (PE.ex fun Fh' => hb Fh' P hp) pa_nil hs2) hs1)) (pg_tup hc (pgs_cons (pg_name hN hi hx hfx) (pgs_cons (pg_name hN hj hy hfy) pgs_nil he2) he1) hn hst) hs hw h1) fun D σ H ⟨G, env, S, q⟩ => by
    refine ⟨G, env, S, PV_S (σ := σ) q fun r1 e1 v G1 H1 ex w S1 hk => ?_⟩
    obtain ⟨Fh', S1', back⟩ := S1.hold w
    refine ⟨Fh', G1, e1, S1', ?_⟩
    cases z : mb e1 with
    | err x e => simp only [z] at hk; exact hk.elim
    | stk => simp only [z] at hk; exact hk.elim
    | ok r2 e2 =>
      simp only [z] at hk
      intro v2 G2 H2 ex2 w2 S2
      by_cases hl : okL pn e2.length [i, j] = true
      · rw [if_pos hl] at hk
        obtain ⟨⟨i1, i2⟩, j1, j2⟩ := okL2 hl
        have S3 := S2.set w2 j1 (by rw [hp]; exact j2)
        obtain ⟨S4, w4⟩ := back _ _ _ _ ex2 S3
        have S5 := S4.set w4 (i := i) (by simpa using i1) (by rw [hp]; exact i2)
        rw [List.set_comm _ _ hij.symm, List.set_comm _ _ hij.symm] at S5
        refine ⟨(by decide : 2 ≤ sizeLine), fun p hp' => ⟨p, [v, v2], rfl, SqT.of upd_same, rfl, v, [v2], rfl, v2, [], rfl, rfl, ?_⟩⟩
        exact hk _ G2 _ ex2 (S5.step (.own (o := .tup [v, v2]) hp')).noT
      · rw [if_neg hl] at hk; exact hk.elim
end
end Z
/-! Z: methods of texts, f-strings, a try that runs through, class methods -/
namespace Z
open PySem PySem.Spec PyProof.Rows L2
/-! ### methods of texts with one argument -/
def isStrR : RV → Bool
  | .sh (.str _) => true
  | _ => false
def sm1 (f : RV → RV → Option RV) (mo me : M Opd) : M RV := bindM mo fun o1 e1 => match resolve e1 o1 with
  | some r => if isStrR r = true then bindM me (fun o2 => fin2 f o1 o2) e1 else .stk
  | none => .stk
section
variable {X : Cx} {W : WX} {pn : List Nat} {pos : Pos}
theorem isStrR_inv {K : PySem.W.Frag} {mg : Str → Option Value} {G H : Hp} {v : V} {r : RV} (w : View K mg G H v r) (h : isStrR r = true) : ∃ a, v = .str a := by
  unfold isStrR at h
  split at h
  · exact ⟨_, Den.str_inv w⟩
  · cases h
theorem qv_sm1 {id : String} {name : Str} {apos : Pos} {ob e : Expr} {r : V → List V → Hp → VK → Prop} {f : RV → RV → Option RV} {mo me : M Opd} (slot : Slot "str" name id) (hty : typeOf (.builtin id) = pure (.type "method_descriptor")) (hm : MtR X id r) (hs : OpS X.K X.mg (fun x y H Q => r x [y] H Q) f)
    (ho : QO X W pn ob mo) (he : QO X W pn e me) (hst : starEach [e] X.env = [(false, eval e X.env)]) (hbase : attributeBase ob name X.env (eval ob X.env) = eval ob X.env) (hline : (apos.endLine == pos.line) = true) :
    QV X W pn (.Call (.Attribute ob name apos) [e] [] pos) (sm1 f mo me) := fun Fh P hp =>
  PE.weak (pe_m1 slot hty hm (ho Fh P hp) (he Fh P hp) hst hbase hline) fun σ H Q ⟨G, env, S, q⟩ => by
    refine ⟨G, env, S, PO_V q fun o1 e1 x G1 H1 ex1 w1 S1 hk => ?_⟩
    cases z : resolve e1 o1 with
    | none => simp only [z] at hk; exact hk.elim
    | some r0 =>
      simp only [z] at hk
      by_cases hi : isStrR r0 = true
      · rw [if_pos hi] at hk
        refine ⟨isStrR_inv (S1.resolve w1 z) hi, G1, e1, S1, PO_V hk fun o2 e2 y G2 H2 ex2 w2 S2 hk2 => ?_⟩
        exact fin2_ok hs S2 (w1.mono ex2) w2 hk2
      · rw [if_neg hi] at hk; exact hk.elim
end
section
variable {K : PySem.W.Frag} {mg : Str → Option Value}
def partF (a b : RV) : Option RV := match a, b with
  | .sh (.str x), .sh (.str y) => if (y.length == 0) = false ∧ x.length ≤ sizeLine then some (.sh (.tup [.str (Txt.partition x y).1, .str (Txt.partition x y).2.1, .str (Txt.partition x y).2.2])) else none
  | _, _ => none
theorem s_partF : OpS K mg (fun x y H Q => ∃ a b, x = .str a ∧ [y] = [V.str b] ∧ (b.length == 0) = false ∧ a.length ≤ sizeLine ∧ ∀ p, H p = none → Q (.ref p) (upd H p (.tup [.str (Txt.partition a b).1, .str (Txt.partition a b).2.1, .str (Txt.partition a b).2.2]))) partF := fun G H x y a b c Q ex va vb e k => by
  unfold partF at e
  split at e
  · rename_i i j
    split at e
    · rename_i h; cases e
      refine ⟨i, j, Den.str_inv va, by rw [Den.str_inv vb], h.1, h.2, fun p hp => ?_⟩
      have st : Step G H (upd G p (.tup [.str (Txt.partition i j).1, .str (Txt.partition i j).2.1, .str (Txt.partition i j).2.2])) (upd H p (.tup [.str (Txt.partition i j).1, .str (Txt.partition i j).2.1, .str (Txt.partition i j).2.2])) [] := .shr hp
      exact k _ _ _ st (Den.tupL (SqT.of upd_same) (.cons (.str _) (.cons (.str _) (.cons (.str _) .nil))))
    · cases e
  · cases e
theorem denL_strs {G : Hp} : ∀ l : List Str, DenL K mg G (l.map V.str) (l.map D.str)
  | [] => .nil
  | a :: l => .cons (.str a) (denL_strs l)
def splitF (a b : RV) : Option RV := match a, b with
  | .sh (.str x), .sh (.str y) => if (y.length == 0) = false ∧ x.length + 2 ≤ sizeLine then some (.ol ((Txt.split x y).map D.str)) else none
  | _, _ => none
theorem s_splitF : OpS K mg (fun x y H Q => ∃ a b, x = .str a ∧ [y] = [V.str b] ∧ (b.length == 0) = false ∧ a.length + 2 ≤ sizeLine ∧ rNewStrs (Txt.split a b) H Q) splitF := fun G H x y a b c Q ex va vb e k => by
  unfold splitF at e
  split at e
  · rename_i i j
    split at e
    · rename_i h; cases e
      refine ⟨i, j, Den.str_inv va, by rw [Den.str_inv vb], h.1, h.2, fun p hp => ?_⟩
      exact k (.ref p) G _ (.own hp) (View.of_own upd_same (ex.none hp) (denL_strs _))
    · cases e
  · cases e
def strsOf : List D → Option (List Str)
  | [] => some []
  | .str b :: ds => (strsOf ds).map (b :: ·)
  | _ :: _ => none
theorem DenL.strs {G : Hp} : ∀ {ds : List D} {xs : List V} {bs : List Str}, DenL K mg G xs ds → strsOf ds = some bs → xs = bs.map V.str
  | [], xs, bs, h, e => by cases e; exact h.nil_inv
  | .str b :: ds, xs, bs, h, e => by
    obtain ⟨v, vs, rfl, h1, h2⟩ := h.cons_ex
    simp only [strsOf, Option.map_eq_some_iff] at e
    obtain ⟨t, e1, rfl⟩ := e
    rw [Den.str_inv h1, DenL.strs h2 e1]; rfl
  | .non :: ds, xs, bs, h, e => by cases e
  | .bl _ :: ds, xs, bs, h, e => by cases e
  | .int _ :: ds, xs, bs, h, e => by cases e
  | .tup _ :: ds, xs, bs, h, e => by cases e
  | .lst _ :: ds, xs, bs, h, e => by cases e
  | .fls _ :: ds, xs, bs, h, e => by cases e
  | .dct _ :: ds, xs, bs, h, e => by cases e
  | .obj _ _ :: ds, xs, bs, h, e => by cases e
  | .cls _ :: ds, xs, bs, h, e => by cases e
/-- so long a text -/
def fitJ (a : Str) (ys : List Str) : Bool := Nat.ble ((ys.map (·.length)).sum + ys.length * a.length) 16777216
def joinF (a b : RV) : Option RV := match a, (seqOf b).bind strsOf with
  | .sh (.str x), some ys => if fitJ x ys = true then some (.sh (.str (Txt.join x ys))) else none
  | _, _ => none
theorem s_joinF : OpS K mg (fun x y H Q => ∃ a p, ∃ ys : List Str, x = .str a ∧ [y] = [V.ref p] ∧ (SqL K H p (ys.map V.str) ∨ SqT K H p (ys.map V.str)) ∧ (ys.map (·.length)).sum + ys.length * a.length ≤ 16777216 ∧ Q (.str (Txt.join a ys)) H) joinF := fun G H x y a b c Q ex va vb e k => by
  unfold joinF at e
  split at e
  · rename_i i ys q
    split at e
    · rename_i h; cases e
      simp only [Option.bind_eq_some_iff] at q
      obtain ⟨ds, q1, q2⟩ := q
      obtain ⟨p, xs, rfl, h1, h2⟩ := vb.seq ex q1
      have e2 := DenL.strs h2 q2
      subst e2
      exact ⟨i, p, ys, Den.str_inv va, rfl, h1, Nat.le_of_ble_eq_true h, k _ G H .same (.str _)⟩
    · cases e
  · cases e
end
/-! ### f-strings -/
def fmtF (r : RV) : Option RV := match r with
  | .sh (.str y) => if y.length ≤ sizeLine then some (.sh (.str y)) else none
  | .sh (.int i) => if i.natAbs.log2 < 1920 then some (.sh (.str (toString i))) else none
  | _ => none
def fmtM (m : M Opd) : M RV := unM fmtF m
def fjGo : List (M RV) → Str → M RV
  | [], acc => fun env => .ok (.sh (.str acc)) env
  | m :: ms, acc => bindM m fun r e => match r with
    | .sh (.str y) => if (acc ++ y).length ≤ sizeLine then fjGo ms (acc ++ y) e else .stk
    | _ => .stk
def fjM (ms : List (M RV)) : M RV := fjGo ms Str.empty
section
variable {X : Cx} {W : WX} {pn : List Nat} {pos : Pos}
theorem qv_fmt {e : Expr} {m : M Opd} (h : QO X W pn e m) : QV X W pn (.FormattedValue e (-1) none pos) (fmtM m) := fun Fh P hp =>
  PE.weak (pe_fmt (h Fh P hp)) fun σ H Q ⟨G, env, S, q⟩ => by
    refine ⟨G, env, S, PO_V q fun o1 e1 x G1 H1 ex1 w1 S1 hk => ?_⟩
    unfold fin1 at hk
    split at hk
    · rename_i r q1
      have vw := S1.resolve w1 q1
      unfold fmtF at hk
      split at hk
      · rename_i c q3
        split at q3
        · rename_i y
          split at q3
          · rename_i hl; cases q3
            exact .inl ⟨y, Den.str_inv vw, hl, hk _ G1 H1 (Ex.refl _) (.str _) S1⟩
          · cases q3
        · rename_i i
          split at q3
          · rename_i hl; cases q3
            exact .inr ⟨i, Den.int_inv vw, hl, hk _ G1 H1 (Ex.refl _) (.str _) S1⟩
          · cases q3
        · cases q3
      · exact hk.elim
    · exact hk.elim
/-- the parts of an f-string -/
inductive QJ (X : Cx) (W : WX) (pn : List Nat) : List Expr → List (M RV) → Prop
  | nil : QJ X W pn [] []
  | cons {e : Expr} {es : List Expr} {m : M RV} {ms : List (M RV)} (h : QV X W pn e m) (t : QJ X W pn es ms) : QJ X W pn (e :: es) (m :: ms)
theorem QJ.pj {es : List Expr} {ms : List (M RV)} (h : QJ X W pn es ms) {Fh : FHp} {P : List (Nat × V)} (hp : P.map (·.1) = pn) : PJ X es (ms.map fun m => rdV X.K X.mg W Fh P m) := by
  induction h with
  | nil => exact .nil
  | cons h t ih => exact .cons (h Fh P hp) ih
theorem fj_rd {Fh : FHp} {P : List (Nat × V)} {σ : L2.St} {Q : VK} : ∀ {ms : List (M RV)} {acc : Str} {G H : Hp} {env : DEnv}, SRel X.K X.mg Fh P G H σ env [] → PV X.K X.mg W Fh P σ G Q (fjGo ms acc env) → tJs (ms.map fun m => rdV X.K X.mg W Fh P m) acc σ H fun out H1 => Q (.str out) H1
  | [], acc, G, H, env, S, q => q (.str acc) G H (Ex.refl _) (.str acc) S
  | m :: ms, acc, G, H, env, S, q => by
    refine ⟨G, env, S, PV_V q fun r e v G1 H1 ex w S1 hk => ?_⟩
    split at hk
    · rename_i y
      split at hk
      · rename_i hl
        exact ⟨y, Den.str_inv w, hl, fj_rd S1 hk⟩
      · exact hk.elim
    · exact hk.elim
theorem qv_fj {v1 v2 : Expr} {rest : List Expr} {ms : List (M RV)} (h : QJ X W pn (v1 :: v2 :: rest) ms) : QV X W pn (.JoinedStr (v1 :: v2 :: rest) pos) (fjM ms) := fun Fh P hp =>
  PE.weak (pe_joined (h.pj hp)) fun σ H Q ⟨G, env, S, q⟩ => fj_rd S q
/-! ### a try that runs through -/
def thruS (s : MS) : MS := fun env => match s env with
  | .err _ _ => .stk
  | o => o
theorem qs_thru {body : List Stmt} {h₀ : ExceptHandler} {hs : List ExceptHandler} {s : MS} (hb : QSs X.nox W0 pn body s) : QS X W pn (.Try body (h₀ :: hs) [] [] pos) (thruS s) := fun Fh P hp =>
  PS.weak (ps_try_thru0 (hb Fh P hp)) fun D σ H ⟨G, env, S, q⟩ => by
    refine ⟨G, env, S, ?_⟩
    unfold thruS at q
    cases z : s env with
    | err x e => rw [z] at q; exact q.elim
    | nx e => rw [z] at q; exact q
    | rt r e => rw [z] at q; exact q
    | bk e => rw [z] at q; exact q
    | ct e => rw [z] at q; exact q
    | stk => rw [z] at q; exact q
end
/-! ### C.m(e, ..), m a class method -/
def cmM (c : Str) (f : FnD) (arr : List Src) (mp : M (List Opd)) : M RV := bindM mp fun os => finA f arr (.val (.cls c) :: os)
section
variable {X : Cx} {W : WX} {pn : List Nat} {pos : Pos}
theorem run_cmS {CX : CXT} {k : Nat} {f C q : Addr} {fd : FuncData} {ps : List Str} {sp : Sp} {E : XK} {pins : List (Addr × Obj)} {σ : L2.St} {H : Hp} {s : Shared} {Q : VK} {us zs : List Value} {vz : List V} (F : FnOk X.prog X.w X.K X.mg X.base CX k f fd ps sp) (hr : Room k X.A) (hx : PassesAt CX X σ E)
    (I : Inv X ((q, PySem.W.methodObj (.ref f) (.ref C)) :: pins) σ H s) (hb : BindsTo s fd ⟨.ref C :: us, []⟩ (ps.zip zs)) (r : Vals vz zs) (h : sp vz H Q E) : wpAny (model X.prog X.w) X.A (call (.ref q) us) (EP X pins σ Q) X.xe s := by
  have z : wpAny (model X.prog X.w) X.A (call (.ref q) us) (EP X ((q, PySem.W.methodObj (.ref f) (.ref C)) :: pins) σ Q) X.xe s := by
    refine wpAny_call (PySem.W.method_call (ClX.pin_at I) (codeAny_mono (F.run X.A X.stack s H ⟨.ref C :: us, []⟩ zs vz Q E hr I.env0 hb r h) fun r s' hq => ?_))
    cases r with
    | error e => exact hx _ H s e s' I hq
    | ok fl =>
      cases fl with
      | ret u => exact I.after hq
      | next => exact False.elim hq
      | brk => exact False.elim hq
      | cont => exact False.elim hq
  exact thn z fun _ _ y => ClX.unpinE y
theorem qv_cmeth {k np : Nat} {f C p0 : Addr} {fd : FuncData} {ps : List Str} {c m : Str} {apos cp : Pos} {e : Expr} {es : List Expr} {fD : FnD} {arr : List Src} {mp : M (List Opd)} {pl : Sem Bool} (F : FnOk X.prog X.w X.K X.mg X.base (L2.CX X.prog X.w) k f fd ps (spOf X.K X.mg ps.length fD)) (tk : Takes X W) (hr : Room k X.A)
    (hg : Gl X c) (hmc : X.mg c = some (.ref C)) (hR : ClX.CRead X.K C (.type "type")) (hM : ClX.CMet X.K C (.type "type") m p0 f) (hb : Bnd X.K X.mg fd ps (np + 1) [] arr) (ha : QOs X W pn (e :: es) mp) (hdb : (c == ("__debug__" : Str)) = false)
    (hst : starEach (e :: es) X.env = (false, eval e X.env) :: starEach es X.env) (hpl : (backTo pos (starEach es X.env)).any (·.1) = false)
    (hlp : ∀ env os e', mp env = .ok os e' → os.length = np)
    (ht : eval (.Call (.Attribute (.Name c cp) m apos) (e :: es) [] pos) X.env = (do
      let ov ← eval (.Name c cp) X.env
      standAt apos.atName
      let (f, first) ← holding [ov] (getMethod ov m pl)
      callWith pos f first (backTo pos (starEach (e :: es) X.env)) (backToKw pos (keywordEach [] X.env)))) :
    QV X W pn (.Call (.Attribute (.Name c cp) m apos) (e :: es) [] pos) (cmM c fD arr mp) := fun Fh P hp => ⟨fun pins s σ H Q I ⟨G, env, S, q⟩ => by
  refine PySem.W.methodCall_KW (pl := pl) (thn ((pe_glob (pos := cp) (v := .ref C) hg hmc rfl hdb).run pins s σ H (fun v H1 => v = .ref C ∧ H1 = H) I ⟨rfl, rfl⟩) fun u s1 ⟨x, H1, I1, rx, ex, eH⟩ => ?_) ht
  subst ex eH
  obtain rfl : u = Value.ref C := rx
  have h0 : rdOs X.K X.mg W Fh P mp σ H1 fun vs H2 => vs.length = np ∧ ∃ (os : List Opd) (G' : Hp) (e' : DEnv), SRel X.K X.mg Fh P G' H2 σ e' [] ∧ OpdRs X.K X.mg G' σ vs os ∧ PV X.K X.mg W Fh P σ G' Q (finA fD arr (.val (.cls c) :: os) e') := by
    refine ⟨G, env, S, ?_⟩
    unfold cmM bindM at q
    cases z1 : mp env with
    | err x e1 => simp only [z1] at q; exact q
    | stk => simp only [z1] at q; exact q
    | ok os1 e1 =>
      simp only [z1] at q
      intro vs G1 H1 ex w S1
      exact ⟨by rw [w.1]; exact hlp _ _ _ z1, os1, G1, e1, S1, w, PV.mono ex q⟩
  refine ClX.getmethcm_ok I1 hR hM fun s2 I2 => ?_
  refine ClX.callwith_cm I2 (ClX.base_none I1 (Nat.le_refl _)) hM.fi (thn ((ha Fh P hp).run pos _ s2 σ H1 _ I2 h0) fun us s3 ⟨vs, H2, I3, rv, l1, os, G', e', S', ho, q'⟩ => ⟨⟨ClX.pin_at I3, I3.kIn⟩, ?_⟩) hst hpl
  obtain ⟨zz, b1, b2, b3⟩ := hb.to s3 (.ref C :: us) [] I3.kIn (by rw [List.length_cons, ← rv.length, l1]) rfl
  obtain ⟨vz, r1, hsp⟩ := finA_ok (E := WE W σ) (us := .ref C :: us ++ []) S' (OpdRs.cons (v := .ref C) (d := .val (.cls c)) (Den.cls hmc) ho) (show Vals (V.ref C :: vs) (Value.ref C :: us ++ []) by rw [List.append_nil]; exact .cons rfl rv) b1 b2 hb.len q' fun _ _ _ => Iff.rfl
  exact run_cmS F hr (passAt tk σ) I3 b3 r1 hsp⟩
theorem callWith_MK0 {M : Model} {A : Around} {E : Value → Shared → Prop} {s : Shared} {K : PySem.W.Frag} {env : Env} {pos : Pos} {q g : Addr} {self : Value} {Q : Value → Shared → Prop} {kws : List Keyword} (hf : PySem.W.fnIn K g = true) (hall : (backToKw pos (keywordEach kws env)).all (·.1.isSome) = true)
    (h : wpAny M A (evalAll ((backToKw pos (keywordEach kws env)).map (·.2))) (fun ks s₂ => PySem.W.MethP K q g self s₂.heap ∧ wpAny M A (call (.ref q) ([] ++ []) (((backToKw pos (keywordEach kws env)).filterMap (·.1)).zip ks)) Q E s₂) E s)
    (hplain : ((backTo pos (starEach [] env)).any (·.1) || (backToKw pos (keywordEach kws env)).any (·.1.isNone)) = false) :
    wpAny M A (callWith pos (.ref q) [] (backTo pos (starEach [] env)) (backToKw pos (keywordEach kws env))) Q E s :=
  PySem.W.callWith_of hplain (PySem.W.keeps_M hf) (evalArgs_kw2_nil hall h)
theorem run_cmK {CX : CXT} {k : Nat} {f C q : Addr} {fd : FuncData} {ps : List Str} {sp : Sp} {E : XK} {pins : List (Addr × Obj)} {σ : L2.St} {H : Hp} {s : Shared} {Q : VK} {us zs : List Value} {kw : List (Str × Value)} {vz : List V} (F : FnOk X.prog X.w X.K X.mg X.base CX k f fd ps sp) (hr : Room k X.A) (hx : PassesAt CX X σ E)
    (I : Inv X ((q, PySem.W.methodObj (.ref f) (.ref C)) :: pins) σ H s) (hb : BindsTo s fd ⟨.ref C :: us, kw⟩ (ps.zip zs)) (r : Vals vz zs) (h : sp vz H Q E) : wpAny (model X.prog X.w) X.A (call (.ref q) us kw) (EP X pins σ Q) X.xe s := by
  have z : wpAny (model X.prog X.w) X.A (call (.ref q) us kw) (EP X ((q, PySem.W.methodObj (.ref f) (.ref C)) :: pins) σ Q) X.xe s := by
    refine wpAny_call (PySem.W.method_call (ClX.pin_at I) (codeAny_mono (F.run X.A X.stack s H ⟨.ref C :: us, kw⟩ zs vz Q E hr I.env0 hb r h) fun r s' hq => ?_))
    cases r with
    | error e => exact hx _ H s e s' I hq
    | ok fl =>
      cases fl with
      | ret u => exact I.after hq
      | next => exact False.elim hq
      | brk => exact False.elim hq
      | cont => exact False.elim hq
  exact thn z fun _ _ y => ClX.unpinE y
theorem qv_cmethK {k : Nat} {f C p0 : Addr} {fd : FuncData} {ps ks : List Str} {c m : Str} {apos cp : Pos} {kws : List Keyword} {fD : FnD} {arr : List Src} {mk : M (List Opd)} {pl : Sem Bool} (F : FnOk X.prog X.w X.K X.mg X.base (L2.CX X.prog X.w) k f fd ps (spOf X.K X.mg ps.length fD)) (tk : Takes X W) (hr : Room k X.A)
    (hg : Gl X c) (hmc : X.mg c = some (.ref C)) (hR : ClX.CRead X.K C (.type "type")) (hM : ClX.CMet X.K C (.type "type") m p0 f) (hb : Bnd X.K X.mg fd ps 1 ks arr) (hkw : QK X W pn kws mk) (hdb : (c == ("__debug__" : Str)) = false)
    (hall : (backToKw pos (keywordEach kws X.env)).all (·.1.isSome) = true) (hks : (backToKw pos (keywordEach kws X.env)).filterMap (·.1) = ks)
    (hpl : ((backTo pos (starEach [] X.env)).any (·.1) || (backToKw pos (keywordEach kws X.env)).any (·.1.isNone)) = false)
    (hlk : ∀ env os e', mk env = .ok os e' → os.length = ks.length)
    (ht : eval (.Call (.Attribute (.Name c cp) m apos) [] kws pos) X.env = (do
      let ov ← eval (.Name c cp) X.env
      standAt apos.atName
      let (f, first) ← holding [ov] (getMethod ov m pl)
      callWith pos f first (backTo pos (starEach [] X.env)) (backToKw pos (keywordEach kws X.env)))) :
    QV X W pn (.Call (.Attribute (.Name c cp) m apos) [] kws pos) (cmM c fD arr mk) := fun Fh P hp => ⟨fun pins s σ H Q I ⟨G, env, S, q⟩ => by
  refine PySem.W.methodCall_KW (pl := pl) (thn ((pe_glob (pos := cp) (v := .ref C) hg hmc rfl hdb).run pins s σ H (fun v H1 => v = .ref C ∧ H1 = H) I ⟨rfl, rfl⟩) fun u s1 ⟨x, H1, I1, rx, ex, eH⟩ => ?_) ht
  subst ex eH
  obtain rfl : u = Value.ref C := rx
  have h0 : rdOs X.K X.mg W Fh P mk σ H1 fun vs H2 => vs.length = ks.length ∧ ∃ (os : List Opd) (G' : Hp) (e' : DEnv), SRel X.K X.mg Fh P G' H2 σ e' [] ∧ OpdRs X.K X.mg G' σ vs os ∧ PV X.K X.mg W Fh P σ G' Q (finA fD arr (.val (.cls c) :: os) e') := by
    refine ⟨G, env, S, ?_⟩
    unfold cmM bindM at q
    cases z1 : mk env with
    | err x e1 => simp only [z1] at q; exact q
    | stk => simp only [z1] at q; exact q
    | ok os1 e1 =>
      simp only [z1] at q
      intro vs G1 H1 ex w S1
      exact ⟨by rw [w.1]; exact hlk _ _ _ z1, os1, G1, e1, S1, w, PV.mono ex q⟩
  refine ClX.getmethcm_ok I1 hR hM fun s2 I2 => ?_
  refine callWith_MK0 (K := X.K) (g := f) (self := .ref C) hM.fi hall (thn ((hkw Fh P hp).run pos _ s2 σ H1 _ I2 h0) fun ws s3 ⟨vs, H2, I3, rv, l1, os, G', e', S', ho, q'⟩ => ⟨⟨ClX.pin_at I3, I3.kIn⟩, ?_⟩) hpl
  rw [hks]
  obtain ⟨zz, b1, b2, b3⟩ := hb.to s3 [.ref C] ws I3.kIn rfl (by rw [← rv.length, l1])
  obtain ⟨vz, r1, hsp⟩ := finA_ok (E := WE W σ) (us := [.ref C] ++ ws) S' (OpdRs.cons (v := .ref C) (d := .val (.cls c)) (Den.cls hmc) ho) (show Vals (V.ref C :: vs) (Value.ref C :: ws) from .cons rfl rv) b1 b2 hb.len q' fun _ _ _ => Iff.rfl
  exact run_cmK F hr (passAt tk σ) I3 b3 r1 hsp⟩
def cmB (K : PySem.W.Frag) (c m : Str) : Bool := PySem.W.readsIn K (He.ga K c) (.type "type") && (He.eqO (PySem.W.specialIn K (.ref (He.ga K c)) "__getattribute__") (some (some (.builtin "type.__getattribute__"))) && (He5.wrapB K (He.ga K c) "classmethod" "classmethod.__get__" m && PySem.W.fnIn K (wrG K c "classmethod" m)))
theorem cm_ok {K : PySem.W.Frag} {c m : Str} (h : cmB K c m = true) : ClX.CRead K (He.ga K c) (.type "type") ∧ ClX.CMet K (He.ga K c) (.type "type") m (He.ma K (He.ga K c) m) (wrG K c "classmethod" m) := by
  obtain ⟨h1, h⟩ := He.ba h
  obtain ⟨h2, h⟩ := He.ba h
  obtain ⟨h3, h4⟩ := He.ba h
  obtain ⟨k1, k2⟩ := He5.wrapB_ok h3
  exact ⟨⟨h1, He.eqO_ok h2⟩, ⟨k1, k2, h4⟩⟩
/-- x(e, ..), x a name that holds a class -/
def mkV (i : Nat) (c : Str) (f : FnD) (arr : List Src) (mp mk : M (List Opd)) : M RV := fun env => match slotOf env i with
  | some (.sh (.cls c')) => if c' = c then mkA c f arr mp mk env else .stk
  | _ => .stk
theorem qv_makeV {k np i : Nat} {f C : Addr} {fd : FuncData} {ps ks : List Str} {x c : Str} {p : Pos} {e : Expr} {es : List Expr} {kws : List Keyword} {fD : FnD} {arr : List Src} {mp mk : M (List Opd)} (F : FnOk X.prog X.w X.K X.mg X.base (L2.CX X.prog X.w) k f fd ps (spOf X.K X.mg ps.length fD)) (tk : Takes X W) (hr : Room (k + 1) X.A) (hN : X.N[i]? = some x) (hv : Vis X.env.scope x) (hd : (x == ("__debug__" : Str)) = false) (hcd : (x == ("__classdict__" : Str)) = false) (hm : X.mg c = some (.ref C)) (hM : Mk X.K C f)
    (hb : BndI X.K X.mg fd ps np ks arr) (ha : QOs X W pn (e :: es) mp) (hkw : QK X W pn kws mk)
    (hall : (backToKw pos (keywordEach kws X.env)).all (·.1.isSome) = true) (hks : (backToKw pos (keywordEach kws X.env)).filterMap (·.1) = ks)
    (hst : starEach (e :: es) X.env = (false, eval e X.env) :: starEach es X.env) (hpl : ((backTo pos (starEach (e :: es) X.env)).any (·.1) || (backToKw pos (keywordEach kws X.env)).any (·.1.isNone)) = false)
    (hlp : ∀ env os e', mp env = .ok os e' → os.length = np) (hlk : ∀ env os e', mk env = .ok os e' → os.length = ks.length) :
    QV X W pn (.Call (.Name x p) (e :: es) kws pos) (mkV i c fD arr mp mk) := fun Fh P hp => ⟨fun pins s σ H Q I ⟨G, env, S, q⟩ => by
  unfold mkV at q
  cases z : slotOf env i with
  | none => simp only [z] at q; exact q.elim
  | some r =>
    simp only [z] at q
    split at q
    · rename_i c' ez
      cases ez
      by_cases hc : c' = c
      · subst hc
        rw [if_pos rfl] at q
        obtain ⟨v, hv', w⟩ := S.val i _ (slotOf_some z)
        have w : Den X.K X.mg G v (.cls c') := w
        cases w with
        | cls hm' =>
          rw [hm] at hm'; cases hm'
          refine wpAny_Call_Name_kw (thn ((pe_var (pos := p) (i := i) hN hv hd hcd).run pins s σ H (fun v H1 => v = .ref C ∧ H1 = H) I ⟨_, hv', rfl, rfl⟩) fun u s1 ⟨x, H1, I1, rx, ex, eH⟩ => ?_)
          subst ex eH
          obtain rfl : u = Value.ref C := rx
          refine args_run (X := X) (first := []) I1 hM.kp (ha Fh P hp) (hkw Fh P hp) (rd_two S q hlp hlk) hall hks hst hpl fun us ws vs zs s2 H2 I2 r rz ⟨l1, l2, os, G', e', _, S', ho, q'⟩ => ?_
          obtain ⟨zz, b1, b2, b3⟩ := hb.to us ws (by rw [← r.length]; exact l1) (by rw [← rz.length]; exact l2)
          obtain ⟨vz, r1, hsp⟩ := finMk_ok (E := WE W σ) S' hm ho (r.append rz) b1 b2 hb.len q' fun _ _ _ => Iff.rfl
          exact run_makeS hM F hr (passAt tk σ) I2 r1 b3 hsp
      · rw [if_neg hc] at q; exact q.elim
    · exact q.elim⟩
end
/-! ### x in l, l a list of data of any depth -/
section
variable {X : Cx} {K : PySem.W.Frag} {mg : Str → Option Value}
theorem u65 {k : Nat} {A : Around} (r : Room k A) : A.units + 65 < cLine := by have := r.un; omega
def inDp (neg : Bool) (a b : RV) : Option RV := match toP a.d, toP b.d with
  | some p, some (.list qs) => if SeqAt.shaped p && SeqAt.shaped (.list qs) then some (.sh (.bl (if neg then !qs.any (fun z => PyData.eqv z p) else qs.any fun z => PyData.eqv z p))) else none
  | _, _ => none
theorem s_inDp : OpS K mg (rInD K) (inDp false) := fun G H x y a b c Q ex va vb e k => by
  unfold inDp at e
  split at e
  · rename_i p qs e1 e2
    split at e
    · rename_i hs; cases e
      rw [Bool.and_eq_true] at hs
      exact ⟨p, qs, va.dp ex e1, vb.dp ex e2, hs.1, hs.2, k _ G H .same (.bl _)⟩
    · cases e
  · cases e
theorem s_ninDp : OpS K mg (rNotInD K) (inDp true) := fun G H x y a b c Q ex va vb e k => by
  unfold inDp at e
  split at e
  · rename_i p qs e1 e2
    split at e
    · rename_i hs; cases e
      rw [Bool.and_eq_true] at hs
      exact ⟨p, qs, va.dp ex e1, vb.dp ex e2, hs.1, hs.2, k _ G H .same (.bl _)⟩
    · cases e
  · cases e
end
/-! ### methods of lists that only look -/
def lm1 (f : RV → RV → Option RV) (mo me : M Opd) : M RV := bindM mo fun o1 e1 => match resolve e1 o1 with
  | some r => if tyOk "list" r = true then bindM me (fun o2 => fin2 f o1 o2) e1 else .stk
  | none => .stk
section
variable {X : Cx} {W : WX} {pn : List Nat} {pos : Pos}
theorem qv_lm1 {id : String} {name : Str} {apos : Pos} {ob e : Expr} {r : V → List V → Hp → VK → Prop} {f : RV → RV → Option RV} {mo me : M Opd} (slot : Slot "list" name id) (hty : typeOf (.builtin id) = pure (.type "method_descriptor")) (hm : MtR X id r) (hs : OpS X.K X.mg (fun x y H Q => r x [y] H Q) f)
    (ho : QO X W pn ob mo) (he : QO X W pn e me) (hbase : attributeBase ob name X.env (eval ob X.env) = eval ob X.env)
    (hfew : ((backTo pos (starEach [e] X.env)).all (fun x => !x.1) && (backToKw pos (keywordEach [] X.env)).all (fun x => x.1.isSome)
      && decide (([e] : List Expr).length + ([] : List Keyword).length + (if ([] : List Keyword).isEmpty then 0 else 1) < 30)) = true)
    (hline : (apos.endLine == pos.line) = true) (hst : starEach [e] X.env = (false, eval e X.env) :: starEach [] X.env) (hpl : (backTo pos (starEach [] X.env)).any (·.1) = false) :
    QV X W pn (.Call (.Attribute ob name apos) [e] [] pos) (lm1 f mo me) := fun Fh P hp =>
  PE.weak (pe_bm PySem.F.plainAttrs_list slot hty hm (ho Fh P hp) (pa_cons (he Fh P hp) pa_nil hst) hbase hfew hline hst hpl) fun σ H Q ⟨G, env, S, q⟩ => by
    refine ⟨G, env, S, PO_V q fun o1 e1 x G1 H1 ex1 w1 S1 hk => ?_⟩
    cases z : resolve e1 o1 with
    | none => simp only [z] at hk; exact hk.elim
    | some r0 =>
      simp only [z] at hk
      by_cases hi : tyOk "list" r0 = true
      · rw [if_pos hi] at hk
        refine ⟨tyOk_ty (S1.resolve w1 z) hi, G1, e1, S1, PO_V hk fun o2 e2 y G2 H2 ex2 w2 S2 hk2 => ?_⟩
        exact fin2_ok hs S2 (w1.mono ex2) w2 hk2
      · rw [if_neg hi] at hk; exact hk.elim
end
section
variable {K : PySem.W.Frag} {mg : Str → Option Value}
/-- the first place of an equal one -/
def idxP (p : PyData) : List PyData → Nat → Option Nat
  | [], _ => none
  | z :: zs, n => if PyData.eqv z p = true then some n else idxP p zs (n + 1)
theorem idxP_some {p : PyData} : ∀ {zs : List PyData} {n j : Nat}, idxP p zs n = some j → ∃ i z, j = n + i ∧ zs[i]? = some z ∧ PyData.eqv z p = true ∧ ∀ m z', m < i → zs[m]? = some z' → PyData.eqv z' p = false
  | [], n, j, h => by cases h
  | z :: zs, n, j, h => by
    unfold idxP at h
    split at h
    · rename_i hz; cases h
      exact ⟨0, z, rfl, rfl, hz, fun m z' hm => by omega⟩
    · rename_i hz
      obtain ⟨i, y, e1, e2, e3, e4⟩ := idxP_some h
      refine ⟨i + 1, y, by omega, e2, e3, fun m z' hm hz' => ?_⟩
      cases m with
      | zero => cases hz'; simpa using hz
      | succ m => exact e4 m z' (by omega) hz'
def indexF (a b : RV) : Option RV := match toP a.d, toP b.d with
  | some (.list zs), some p => if (SeqAt.shaped (.list zs) && SeqAt.shaped p) = true then (idxP p zs 0).map fun j => .sh (.int (j : Nat)) else none
  | _, _ => none
theorem s_indexF : OpS K mg (fun x y H Q => rIndexD K x [y] H Q) indexF := fun G H x y a b c Q ex va vb e k => by
  unfold indexF at e
  split at e
  · rename_i zs p e1 e2
    split at e
    · rename_i hs
      rw [Bool.and_eq_true] at hs
      simp only [Option.map_eq_some_iff] at e
      obtain ⟨j, ej, rfl⟩ := e
      obtain ⟨i, z, hj, h1, h2, h3⟩ := idxP_some ej
      have hx := va.dp ex e1
      obtain ⟨ad, rfl⟩ : ∃ ad, x = .ref ad := by cases hx; exact ⟨_, rfl⟩
      have hj' : j = i := by omega
      subst hj'
      exact ⟨ad, y, p, zs, j, z, rfl, rfl, hx, vb.dp ex e2, hs.1, hs.2, h1, h2, h3, k _ G H .same (.int _)⟩
    · cases e
  · cases e
end
-- fast: lm1
-- fast: sm1 fmtM thruS cmM mkV
-- simp_arith: isStrR
end Z
/-! Z: a dict of constants, looked up at once -/
namespace Z
open PySem PySem.Spec PyProof.Rows L2
def keyD : Key → D
  | .inl i => .int i
  | .inr x => .str x
def keyOf : RV → Option Key
  | .sh (.int i) => some (.inl i)
  | .sh (.str x) => some (.inr x)
  | _ => none
def dcF (kvs : List (Key × Key)) (r : RV) : Option RV := (keyOf r).bind fun k => (kvs.find? fun kv => decide (kv.1 = k)).map fun kv => .sh (keyD kv.2)
section
variable {X : Cx} {W : WX} {pn : List Nat} {pos : Pos}
theorem keyD_den {K : PySem.W.Frag} {mg : Str → Option Value} {G : Hp} : ∀ k : Key, Den K mg G (kV k) (keyD k)
  | .inl i => .int i
  | .inr x => .str x
theorem keyOf_inv {K : PySem.W.Frag} {mg : Str → Option Value} {G H : Hp} {v : V} {r : RV} {k : Key} (w : View K mg G H v r) (h : keyOf r = some k) : v = kV k := by
  unfold keyOf at h
  split at h
  · cases h; exact Den.int_inv w
  · cases h; exact Den.str_inv w
  · cases h
theorem pairs_c {σ : L2.St} {H : Hp} : ∀ {kvs : List (Key × Key)} {Q : List (V × V) → Hp → Prop}, Q (kvs.map fun kv => (kV kv.1, kV kv.2)) H → tPairs (kvs.map fun kv => (tC (kV kv.1), tC (kV kv.2))) σ H Q
  | [], Q, h => h
  | kv :: r, Q, h => pairs_c (kvs := r) (Q := fun ps H3 => Q ((kV kv.1, kV kv.2) :: ps) H3) h
theorem qv_dcon {keys : List (Option Expr)} {values : List Expr} {kvs : List (Key × Key)} {i : Expr} {p : Pos} {mi : M Opd} (hu : X.A.units + 1 < cLine) (hp : PPs X p keys values (kvs.map fun kv => (tC (kV kv.1), tC (kV kv.2))))
    (hall : keys.all (·.isSome) = true) (hl : keys.length = values.length) (h0 : keys ≠ []) (h15 : keys.length ≤ 15) (hk : kvs.length ≤ 15) (hm : mergeK [] (kvs.map fun kv => (kv.1, kV kv.2)) = kvs.map fun kv => (kv.1, kV kv.2))
    (hi : QO X W pn i mi) (hs : NoSl i) : QV X W pn (.Subscript (.Dict keys values p) i pos) (unM (dcF kvs) mi) := fun Fh P hpn =>
  PE.weak (pe_dget hu (pe_disp hp hall hl h0 h15) (hi Fh P hpn) hs) fun σ H Q ⟨G, env, S, q⟩ => by
    intro a ha
    refine pairs_c ⟨upd_same, kvs.map fun kv => (kv.1, kV kv.2), by simp, by simpa using hk, ?_⟩
    rw [hm]
    have e : upd (upd H a (.dK [])) a (.dK (kvs.map fun kv => (kv.1, kV kv.2))) = upd H a (.dK (kvs.map fun kv => (kv.1, kV kv.2))) := by
      funext b
      unfold upd
      split <;> rfl
    rw [e]
    have st : Step G H (upd G a (.dK (kvs.map fun kv => (kv.1, kV kv.2)))) (upd H a (.dK (kvs.map fun kv => (kv.1, kV kv.2)))) [] := .shr ha
    refine ⟨_, env, S.step st, ?_⟩
    have q' := PV.mono (st.ex S.gh) q
    refine PO_V q' fun o1 e1 y G2 H2 ex2 w2 S2 hk2 => ?_
    unfold fin1 at hk2
    split at hk2
    · rename_i r q1
      have vw := S2.resolve w2 q1
      split at hk2
      · rename_i c q3
        unfold dcF at q3
        simp only [Option.bind_eq_some_iff, Option.map_eq_some_iff] at q3
        obtain ⟨k, k1, kv, k2, rfl⟩ := q3
        refine ⟨a, kV kv.2, rfl, .inl ⟨kvs.map fun kv => (kv.1, kV kv.2), k, Rd.of ?_, keyOf_inv vw k1, ?_⟩, hk2 _ G2 H2 (Ex.refl _) (keyD_den kv.2) S2⟩
        · exact S2.gh _ _ (ex2 _ _ upd_same)
        · unfold valV
          rw [List.find?_map]
          simp only [Function.comp_def]
          rw [k2]; rfl
      · exact hk2.elim
    · exact hk2.elim
theorem u2 {k : Nat} {A : Around} (r : Room k A) : A.units + 1 < cLine := by have := r.un; omega
end

end Z
/-! Z: own exceptions: super().__init__(..) in an own __init__ -/
namespace Z
open PySem PySem.Spec PyProof.Rows L2
/-- the context of the body of an __init__ that says super() -/
def supCx (CX : CXT) (P : Program) (w : World) (K : PySem.W.Frag) (mg : Str → Option Value) (base : Heap) (N : List Str) (qual : Str) (scope : Scope) (f : Addr) (cd : Value) (cc : Addr) (A : Around) (outer : List Env) (s : Shared) (H : Hp) (E : XK) : Cx where
  prog := P
  w := w
  K := K
  mg := mg
  base := base
  A := A.deeper (PySem.W.ksEnv qual scope s.heap.objs.size f cd cc)
  N := N
  s_0 := s
  H_0 := H
  env := PySem.W.ksEnv qual scope s.heap.objs.size f cd cc
  outer := outer
  stack := PySem.W.ksEnv qual scope s.heap.objs.size f cd cc :: outer
  ex := []
  calm := true
  fn := fun _ => false
  pn := []
  xe := fun e s' => wpAny (model P w) (A.deeper (PySem.W.ksEnv qual scope s.heap.objs.size f cd cc)) (leaving (PySem.W.ksEnv qual scope s.heap.objs.size f cd cc) e) (fun _ s'' => CX outer H s E e s'') (fun e' s'' => CX outer H s E e' s'') s'
structure SupScope (N ps : List Str) (sc : Scope) : Prop where
  kind : sc.kind = .function
  co : sc.isCoroutine = false
  gen : sc.isGenerator = false
  nd : N.Nodup
  pre : N.take ps.length = ps
  par : ∀ x ∈ ps, sc.names.lookup x = some .local
  nocell : ∀ y ∈ sc.names, y.2 ≠ .cell
  free : ∀ y ∈ sc.names, y.2 = .free → y.1 = "__class__"
  sup : sc.names.lookup ("super" : Str) = some .globalImplicit
  cls : sc.names.lookup ("__class__" : Str) = some .free
structure SupC (K : PySem.W.Frag) (C : Addr) : Prop where
  oex : OexC K C
  sup : PySem.W.ks_superIn K C C "__init__" = some (some (.builtin "ValueError.__init__"))
  stat : PySem.W.nsIn K cStatics "thirdparty.any" = some none
  mro : PySem.W.mroIn K C (.ref C) = some true
  sub : PySem.W.subIn K (.ref C) (.type "ValueError") = some true
theorem rev_lookup : ∀ {ps : List Str} {us : List Value} {i : Nat} {x : Str} {u : Value}, ps.Nodup → ps[i]? = some x → us[i]? = some u → (ps.zip us).reverse.lookup x = some u := by
  intro ps
  induction ps with
  | nil => intro us i x u _ h _; simp at h
  | cons p ps ih =>
    intro us i x u nd h1 h2
    cases us with
    | nil => simp at h2
    | cons v us =>
      rw [List.zip_cons_cons, List.reverse_cons, List.lookup_append]
      cases i with
      | zero =>
        simp at h1 h2; subst h1; subst h2
        have hn : (ps.zip us).reverse.lookup p = none := by
          cases q : (ps.zip us).reverse.lookup p with
          | none => rfl
          | some z =>
            have := List.mem_reverse.mp (PySem.mem_of_lookup q)
            exact absurd (List.of_mem_zip this).1 (List.nodup_cons.mp nd).1
        rw [hn]; simp [List.lookup]
      | succ i =>
        rw [ih (List.nodup_cons.mp nd).2 (by simpa using h1) (by simpa using h2)]; rfl
section
variable {P : Program} {w : World} {K : PySem.W.Frag} {mg : Str → Option Value} {base : Heap}
theorem sup_start {CX : CXT} {N ps : List Str} {qual : Str} {scope : Scope} {f cc : Addr} {cd : Value} {A : Around} {outer : List Env} {s : Shared} {H : Hp} {E : XK} {us : List Value} {vs : List V} {h₀ : Heap} {tk : Nat} {oc : Value} {od : Option Addr} {cv : Option Value} {osl : Array (Option Value)}
    (S : SupScope N ps scope) (hd : A.handled = none) (e0 : Env0 P w K mg base A outer s H) (hl : vs.length = ps.length) (r : Vals vs us) (lc : K.lookup cc = some ⟨oc, od, .cell cv, osl⟩)
    (hns : h₀.Ns s.heap.objs.size fun x => (ps.zip us).reverse.lookup x) (kp : ∀ b o, s.heap.get? b = some o → h₀.get? b = some o) :
    Inv (supCx CX P w K mg base N qual scope f cd cc A outer s H E) [] (L2.start N vs) H { s with heap := h₀, toks := tk } := by
  have wpl : ps.length ≤ N.length := by have := congrArg List.length S.pre; rw [List.length_take] at this; omega
  have kin := e0.mod.kin _ _ lc
  obtain ⟨kin1, kin2⟩ := e0.bs _ _ kin
  have noA : ∀ b : Addr, b ∉ (supCx CX P w K mg base N qual scope f cd cc A outer s H E).ex := fun b z => absurd (show b ∈ ([] : List Addr) from z) (by simp)
  have look : ∀ {y : Str} {c : Addr}, ([(("__class__" : Str), cc)] : List (Str × Addr)).lookup y = some c → y = "__class__" ∧ c = cc := fun {y c} h => by
    have := PySem.mem_of_lookup h
    simp at this; exact this
  refine ⟨⟨e0.mod, S.kind, rfl, rfl, Nat.le_refl _, fun y z c h1 w2 => ?_, fun y wy => ?_, fun y c z _ => ?_, fun _ => hd, Around.frames_deeper e0.frames, .inr ⟨rfl, rfl⟩, fun b z => absurd z (noA b), e0.bs, e0.bsz, fun b _ _ => noA b, fun b z => absurd z (noA b), e0.funs, e0.frf⟩,
    rfl, e0.bare, Un.kept kp, ⟨_, hns, fun i y v h1 w2 h3 => ?_⟩, fun y c h => ?_, e0.hok.fresh (Nat.le_refl _), fun y c h => ?_, fun p wp => absurd (show p ∈ ([] : List (Addr × Obj)) from wp) (by simp), e0.hok.kept kp, ?_⟩
  · rw [(look h1).1, (look w2).1]
  · have wy : scope.names.lookup y = some .cell ∨ scope.names.lookup y = some .free := wy
    rcases wy with wy | wy
    · exact absurd rfl (S.nocell _ (PySem.mem_of_lookup wy))
    · have := S.free _ (PySem.mem_of_lookup wy) rfl
      exact ⟨cc, by rw [show y = "__class__" from this]; rfl⟩
  · cases (show false = true from z)
  · have wi : i < vs.length := by
      unfold L2.start at w2
      by_cases wi : i < vs.length
      · exact wi
      · rw [List.getElem?_append_right (by simpa using wi), List.getElem?_replicate] at w2
        split at w2 <;> cases w2
    have wa : vs[i]? = some v := by
      unfold L2.start at w2
      rw [List.getElem?_append_left (by simpa using wi), List.getElem?_map] at w2
      cases e' : vs[i]? with
      | none => rw [e'] at w2; cases w2
      | some a => rw [e'] at w2; cases w2; rfl
    obtain ⟨u, wu, wrv⟩ := r.get wa
    have wp : ps[i]? = some y := by
      rw [← S.pre, List.getElem?_take_of_lt (by omega)]; exact h1
    have wnd : ps.Nodup := by rw [← S.pre]; exact S.nd.sublist (List.take_sublist _ _)
    exact ⟨u, wrv, .inl ⟨S.par y (List.mem_of_getElem? wp), rev_lookup wnd wp wu⟩⟩
  · obtain ⟨_, rfl⟩ := look h
    exact ⟨cv, _, kp _ _ kin1, rfl⟩
  · obtain ⟨_, rfl⟩ := look h
    exact kin2
  · show (L2.start N vs).length = N.length
    unfold L2.start
    rw [List.length_append, List.length_map, List.length_replicate]; omega
/-- super().__init__(text): nothing of it is told -/
theorem sup_fn {CX : CXT} {name qual : Str} {params : Arguments} {rest : List Stmt} {scope : Scope} {dV kV doc pm ct oc : Value} {an od : Option Addr} {osl : Array (Option Value)} {f cc C cda : Addr} {N ps : List Str} {k : Nat} {sp : Sp} {msg : Str} {j : Nat} {p0 p1 p2 p3 p4 p5 : Pos}
    {pl : Env → Sem Bool} {ccl cl : Value} {cdd cld : Option Addr} {ccs csl : Array (Option Value)} {cvs : Array Value} {file : Str} {tf : Tok} {ar : Arg}
    (T : SupC K C) (lk : K.lookup f = some ⟨oc, od, .func (PySem.W.ksFn name qual params (.Expr (.Call (.Attribute (.Call (.Name "super" p0) [] [] p1) "__init__" p2) [.Constant (.str msg) j p3] [] p4) p5 :: rest) scope dV kV doc pm an (.ref cda) ct cc), osl⟩)
    (hcd : PySem.W.codeIn K (.ref cda) qual = true) (hcode : K.lookup cda = some ⟨ccl, cdd, .fields cvs, ccs⟩) (hvs : cvs[2]? = some (.str file tf)) (hfile : ((P.main.file : Str) == file) = true) (htop : (P.main.scope.names.lookup ("super" : Str)).isSome = false) (hms : mg "super" = none)
    (hcell : K.lookup cc = some ⟨cl, cld, .cell (some (.ref C)), csl⟩) (S : SupScope N ps scope) (hp : (params.posonlyargs ++ params.args).head? = some ar) (har : ps[0]? = some ar.arg)
    (hev : ∀ env : Env, eval (.Call (.Attribute (.Call (.Name "super" p0) [] [] p1) "__init__" p2) [.Constant (.str msg) j p3] [] p4) env = (do
      let ov ← attributeBase (.Call (.Name "super" p0) [] [] p1) "__init__" env (eval (.Call (.Name "super" p0) [] [] p1) env)
      standAt p2.atName
      let (f, first) ← holding [ov] (getMethod ov "__init__" (pl env))
      callWith p4 f first (backTo p4 (starEach [.Constant (.str msg) j p3] env)) []))
    (hsw : ∀ env : Env, swapsWith (.Call (.Attribute (.Call (.Name "super" p0) [] [] p1) "__init__" p2) [.Constant (.str msg) j p3] [] p4) none p5.line env = pure false)
    (wlen : ∀ vs H Q E, sp vs H Q E → vs.length = ps.length)
    (hbody : ∀ (A : Around) (outer : List Env) (s : Shared) (H : Hp) (vs : List V) (Q : VK) (E : XK), Room k (A.deeper (PySem.W.ksEnv qual scope s.heap.objs.size f (.ref cda) cc)) → sp vs H Q E →
      ∃ a ws t, vs = .ref a :: ws ∧ H a = some (exo a C none) ∧ PSs (supCx CX P w K mg base N qual scope f (.ref cda) cc A outer s H E) rest t ∧ t { nx := fun _ H' => Q .non H', rt := Q } (L2.start N vs) H) :
    FnOk P w K mg base CX (k + 1) f (PySem.W.ksFn name qual params (.Expr (.Call (.Attribute (.Call (.Name "super" p0) [] [] p1) "__init__" p2) [.Constant (.str msg) j p3] [] p4) p5 :: rest) scope dV kV doc pm an (.ref cda) ct cc) ps sp := by
  refine ⟨wlen, fun A outer s H args us vs Q E hr e0 hb r wsp => ?_⟩
  have KZ : K.In s.heap := e0.mod.kin.keeps fun b o e => (e0.bs b o e).1
  have wli : s.heap.NoLimit := e0.mod.nolimit.keeps fun b o e => (e0.bs b o e).1
  obtain ⟨a, ws, t, ev, ea, ht, hq⟩ := hbody A outer s H vs Q E (hr.deeper _) wsp
  have hl := wlen _ _ _ _ wsp
  have wnd : ps.Nodup := by rw [← S.pre]; exact S.nd.sublist (List.take_sublist _ _)
  have hu0 : us[0]? = some (.ref a) := by
    obtain ⟨u, hu, wrv⟩ := r.get (i := 0) (x := .ref a) (by rw [ev]; rfl)
    rw [hu, show u = .ref a from wrv]
  refine ks_codeAny_call_defAt hr.depth (KZ _ _ lk) rfl wli (PySem.W.codeRec_of KZ hcd) rfl hb S.nocell (fun y hy => S.par _ (List.of_mem_zip hy).1) (fun h₀ hns kp => ?_) S.co S.gen S.kind
  have I : Inv (supCx CX P w K mg base N qual scope f (.ref cda) cc A outer s H E) [] (L2.start N vs) H { s with heap := h₀, toks := s.toks + (ps.zip us).length } := sup_start S hr.hd e0 hl r hcell hns kp
  have K0 : K.In h₀ := KZ.keeps kp
  obtain ⟨nm, q, N0, bs, bm, sn, sub, ab, col, dd, k0, k1, k2, k3, k5, hC, hbm⟩ := T.oex.cls
  obtain ⟨t1, ho⟩ := exo_at I.hok ea
  have hcl : PySem.W.clsIn K C = some { name := nm, bases := bs, mro := .ref C :: bm, ns := N0, qualname := q, hasDict := true, slotNames := sn, subclasses := sub, abstract := ab, collection := col, hasDel := false } := by unfold PySem.W.clsIn; rw [hC] <;> rfl
  have It : PySem.W.InstAt h₀ a ({ cls := .ref C, dict := none, data := .fields #[.ref t1, .none, .none, .none, .bool false, .none] } : Obj) C none := ⟨ho, rfl, rfl, trivial⟩
  obtain ⟨mb, hb1, hb2⟩ := I.mod.blt
  have hglob : h₀.Ns mainGlobals mg := I.mod.glob.keeps I.bk
  show _root_.PySem.wpAt _ (A.deeper (PySem.W.ksEnv qual scope s.heap.objs.size f (.ref cda) cc)) _ (execs _ (PySem.W.ksEnv qual scope s.heap.objs.size f (.ref cda) cc)) _ _ _
  refine ks_wpAt_execs_cons (ks_wpAt_Expr_any (ks_wpAt_MethodCall ?_ (hev _)) (by unfold interactive; rw [S.kind]; rfl) (hsw _))
  refine ks_wpAt_super_base (env := PySem.W.ksEnv qual scope s.heap.objs.size f (.ref cda) cc) S.sup S.cls (by decide) rfl (K0 _ _ lk) rfl hp rfl (K0 _ _ hcode) rfl hvs hfile htop ?_
  refine PySem.W.ks_loadName_global S.kind S.sup (PySem.Calls.loadGlobal_builtin (env := PySem.W.ksEnv qual scope s.heap.objs.size f (.ref cda) cc) hglob hms (hb1.keeps I.bk) ((hb2 "super" (by decide)).trans PyProof.Rows.Boot.«super») ⟨rfl, ?_⟩)
  refine wpAny_loadName_free S.kind S.cls rfl ⟨_, K0 _ _ hcell, rfl⟩ ?_
  refine wpAny_loadName_local S.kind (S.par _ (List.mem_of_getElem? har)) hns (rev_lookup wnd har hu0) ?_
  refine ks_wpAny_isType_cls (K0 _ _ hC) rfl ⟨rfl, ?_⟩
  refine ks_wpAny_call_super (K0 _ _ hC) rfl ho rfl (fun c e => by cases e) (PySem.W.looks_mroIn K0 T.mro) (fun h1 e1 kp1 => ?_)
  have K1 : K.In h1 := K0.keeps kp1
  have hsup := T.sup
  unfold PySem.W.ks_superIn at hsup
  rw [hcl] at hsup
  have It1 : PySem.W.InstAt h1 a ({ cls := .ref C, dict := none, data := .fields #[.ref t1, .none, .none, .none, .bool false, .none] } : Obj) C none := ⟨kp1 _ _ ho, rfl, rfl, trivial⟩
  refine PySem.W.kxs_getMethod PySem.W.kxs_ValueError e1 (PySem.W.looks_opaque K1 T.stat) (l₀ := .ref C :: bm) (fun A Q E s k q => wpAny_bind ((PySem.W.looks_clsIn K1 hcl) A _ E s k (wpAny_pure q))) rfl K1 hsup (It1.type.andThen (PySem.W.looks_subIn K1 T.sub)) (PySem.W.ks_ne K1 It1 hcl) (by decide) ?_
  have kp2 : ∀ b o, h₀.get? b = some o → (h1.push (PySem.W.kxs_mw "ValueError.__init__" a)).get? b = some o := fun b o e => Heap.get?_push_of_some _ (kp1 b o e)
  refine PySem.W.kxs_callWith (i := "ValueError.__init__") (x := a) (by rfl) (Calls.evalArgs_plain ?_)
  show wpAny _ _ (spliced ((false, eval (.Constant (.str msg) j p3) (PySem.W.ksEnv qual scope s.heap.objs.size f (.ref cda) cc)) :: [])) _ _ _
  refine Calls.spliced_cons (Calls.Constant_str (Calls.spliced_nil ⟨Heap.get?_push_size _ rfl, ?_⟩))
  have hC2 := KZ.keeps (fun b o e => kp2 b o (kp b o e)) _ _ hC
  have he2 := kp2 _ _ ho
  show wpAny _ _ (call (.ref h1.objs.size) [.str msg _]) _ _ _
  refine wpAny_call (codeAny_of_tree ?_)
  show wpAny _ _ (callAny (.ref h1.objs.size) ⟨[.str msg _], []⟩) _ _ _
  simp only [callAny]
  refine wpAny_bind (wpAny_load (Heap.get?_push_size _ rfl) ?_)
  simp only [PySem.W.kxs_mw, show (Value.type "method-wrapper" == Value.type "method" || Value.type "method-wrapper" == Value.type "builtin_function_or_method" || Value.type "method-wrapper" == Value.type "method-wrapper") = true by decide, if_true]
  refine PySem.W.KFB.if_so (by decide) ?_
  refine wpAny_bind (PySem.W.check_bound_init PySem.F.excBase_ValueError.toExcCallFacts hC2 he2 rfl ?_)
  refine wpAny_bind (wpAny_pure (wpAny_pure ?_))
  refine ⟨plainId_quiet PySem.F.excBase_ValueError.init.plain _, codeAny_builtin PySem.F.excBase_ValueError.initEntry ?_⟩
  refine PySem.W.exc_init_tree (cls := .ref C) (t0 := t1) (dv := none) (c2 := .none) (c3 := .none) (b4 := .bool false) he2 (by rw [sizeLine_eq]; simp) fun h3 k3 e3 _ => ?_
  have I2 := I.kept (t' := s.toks + (ps.zip us).length + 1 + 1) kp2
  have J := I2.write (t' := s.toks + (ps.zip us).length + 1 + 1) (x := a) (e := a) (o := exo a C none) (by rw [ea]; exact True.intro) (.inl rfl) k3 ⟨_, e3⟩ (exo_ok e3)
  have weu : upd H a (exo a C none) = H := by
    funext b
    by_cases hb : b = a
    · rw [hb, upd_same, ea]
    · rw [upd_ne hb]
  rw [weu] at J
  refine wpAt_of_wpAny (wpAny_mono (ht.run [] _ _ H _ J hq) (fun fl s' hs => ?_) fun e s' hs => hs)
  have fie : ∀ {σ' : L2.St} {H' : Hp} {v : V} {u : Value}, Inv (supCx CX P w K mg base N qual scope f (.ref cda) cc A outer s H E) [] σ' H' s' → L2.RelV v u → Q v H' → CE outer P w H s Q u s' :=
    fun {σ' H' v u} J wrv q => ⟨v, H', J.os, J.bare, J.base, J.hok, wrv, q⟩
  cases fl with
  | ret u =>
    obtain ⟨v, σ', H', J, wrv, q⟩ := hs
    exact fie J wrv q
  | next =>
    obtain ⟨σ', H', J, q⟩ := hs
    exact fie (v := V.non) (u := Value.none) J rfl q
  | brk =>
    obtain ⟨_, _, _, q⟩ := hs
    exact False.elim q
  | cont =>
    obtain ⟨_, _, _, q⟩ := hs
    exact False.elim q
end
end Z
/-! Z: own exceptions: made, raised -/
namespace Z
open PySem PySem.Spec PyProof.Rows L2
/-! ### what their __init__ does: self.f = f, self.code = .., self.details = (f,) -/
def xH1 (H : Hp) (a C dx p : Addr) (f code : Str) (y : V) : Hp := upd (upd (upd (upd (upd H dx (exd dx [(f, y)])) a (exo a C (some dx))) dx (exd dx [("code", .str code), (f, y)])) p (.tup [y])) dx (exd dx [("details", .ref p), ("code", .str code), (f, y)])
def xH0 (H : Hp) (a C dx p : Addr) (code : Str) : Hp := upd (upd (upd (upd H dx (exd dx [("code", .str code)])) a (exo a C (some dx))) p (.tup [])) dx (exd dx [("details", .ref p), ("code", .str code)])
def spX1 (C : Addr) (f code : Str) : Sp := fun vs H Q _ => ∃ a y, vs = [.ref a, y] ∧ H a = some (exo a C none) ∧ ∀ dx p, H dx = none → dx ≠ a → H p = none → p ≠ a → p ≠ dx → Q .non (xH1 H a C dx p f code y)
def spX0 (C : Addr) (code : Str) : Sp := fun vs H Q _ => ∃ a, vs = [.ref a] ∧ H a = some (exo a C none) ∧ ∀ dx p, H dx = none → dx ≠ a → H p = none → p ≠ a → p ≠ dx → Q .non (xH0 H a C dx p code)
section
variable {X : Cx} {C : Addr} {f code : Str}
theorem rest1 {q1 q2 q3 q4 q5 q6 q7 q8 q9 q10 q11 q12 q13 : Pos} {j k1 : Nat} (T : OexC X.K C) (n1 : PySem.W.findIn X.K (.ref C) f = some none) (n2 : PySem.W.findIn X.K (.ref C) "code" = some none) (n3 : PySem.W.findIn X.K (.ref C) "details" = some none)
    (hs : X.N[0]? = some ("self" : Str)) (hf : X.N[1]? = some f) (vs : Vis X.env.scope "self") (vf : Vis X.env.scope f) (hd : (f == ("__debug__" : Str)) = false) (hcd : (f == ("__classdict__" : Str)) = false)
    (w1 : swapsWith (.Name f q2) (some (.Attribute (.Name "self" q1) f q3)) q4.line X.env = pure false) (w2 : swapsWith (.Constant (.str code) j q6) (some (.Attribute (.Name "self" q5) "code" q7)) q8.line X.env = pure false)
    (w3 : swapsWith (.Tuple [.Name f q10] k1 q11) (some (.Attribute (.Name "self" q9) "details" q12)) q13.line X.env = pure false) :
    ∃ t, PSs X [.Assign [.Attribute (.Name "self" q1) f q3] (.Name f q2) q4, .Assign [.Attribute (.Name "self" q5) "code" q7] (.Constant (.str code) j q6) q8, .Assign [.Attribute (.Name "self" q9) "details" q12] (.Tuple [.Name f q10] k1 q11) q13] t ∧
      ∀ (D : Ends) (σ : L2.St) (H : Hp) (a : Addr) (y : V), σ[0]? = some (some (.ref a)) → σ[1]? = some (some y) → H a = some (exo a C none) →
        (∀ dx p, H dx = none → dx ≠ a → H p = none → p ≠ a → p ≠ dx → D.nx σ (xH1 H a C dx p f code y)) → t D σ H := by
  refine ⟨_, pss_cons (ps_ost (pe_var hs vs) (pe_var hf vf hd hcd) w1) (pss_cons (ps_ost (pe_var hs vs) pe_str w2) (pss_cons (ps_ost (pe_var hs vs) (pe_tup (pa_cons (pe_var hf vf hd hcd) pa_nil rfl)) w3) pss_nil)), fun D σ H a y h0 h1 ea h => ?_⟩
  refine ⟨y, h1, .ref a, h0, a, C, rfl, T, n1, .inl ⟨ea, fun dx hd hne => ?_⟩⟩
  refine ⟨.ref a, h0, a, C, rfl, T, n2, .inr ⟨dx, [(f, y)], upd_same, by rw [upd_ne hne, upd_same], Nat.le_of_ble_eq_true rfl, ?_⟩⟩
  refine ⟨y, h1, by rw [sizeLine_eq]; exact Nat.le_of_ble_eq_true rfl, fun p hp => ⟨.ref a, h0, a, C, rfl, T, n3, .inr ⟨dx, [("code", .str code), (f, y)], ?_, ?_, Nat.le_of_ble_eq_true rfl, ?_⟩⟩⟩
  all_goals
    have hpd : p ≠ dx := fun z => by rw [z, upd_same] at hp; cases hp
    rw [upd_ne hpd] at hp
    have hpa : p ≠ a := fun z => by rw [z, upd_same] at hp; cases hp
    rw [upd_ne hpa, upd_ne hpd] at hp
  · rw [upd_ne (Ne.symm hpa), upd_ne (Ne.symm hne), upd_same]
  · rw [upd_ne (Ne.symm hpd), upd_same]
  · exact h dx p hd hne hp hpa hpd
theorem rest0 {q5 q6 q7 q8 q9 q11 q12 q13 : Pos} {j k1 : Nat} (T : OexC X.K C) (n2 : PySem.W.findIn X.K (.ref C) "code" = some none) (n3 : PySem.W.findIn X.K (.ref C) "details" = some none)
    (hs : X.N[0]? = some ("self" : Str)) (vs : Vis X.env.scope "self")
    (w2 : swapsWith (.Constant (.str code) j q6) (some (.Attribute (.Name "self" q5) "code" q7)) q8.line X.env = pure false)
    (w3 : swapsWith (.Tuple [] k1 q11) (some (.Attribute (.Name "self" q9) "details" q12)) q13.line X.env = pure false) :
    ∃ t, PSs X [.Assign [.Attribute (.Name "self" q5) "code" q7] (.Constant (.str code) j q6) q8, .Assign [.Attribute (.Name "self" q9) "details" q12] (.Tuple [] k1 q11) q13] t ∧
      ∀ (D : Ends) (σ : L2.St) (H : Hp) (a : Addr), σ[0]? = some (some (.ref a)) → H a = some (exo a C none) →
        (∀ dx p, H dx = none → dx ≠ a → H p = none → p ≠ a → p ≠ dx → D.nx σ (xH0 H a C dx p code)) → t D σ H := by
  refine ⟨_, pss_cons (ps_ost (pe_var hs vs) pe_str w2) (pss_cons (ps_ost (pe_var hs vs) (pe_tup pa_nil) w3) pss_nil), fun D σ H a h0 ea h => ?_⟩
  refine ⟨.ref a, h0, a, C, rfl, T, n2, .inl ⟨ea, fun dx hd hne => ?_⟩⟩
  refine ⟨by rw [sizeLine_eq]; exact Nat.le_of_ble_eq_true rfl, fun p hp => ⟨.ref a, h0, a, C, rfl, T, n3, .inr ⟨dx, [("code", .str code)], ?_, ?_, Nat.le_of_ble_eq_true rfl, ?_⟩⟩⟩
  all_goals
    have hpa : p ≠ a := fun z => by rw [z, upd_same] at hp; cases hp
    rw [upd_ne hpa] at hp
    have hpd : p ≠ dx := fun z => by rw [z, upd_same] at hp; cases hp
    rw [upd_ne hpd] at hp
  · rw [upd_ne (Ne.symm hpa), upd_same]
  · rw [upd_ne (Ne.symm hpd), upd_ne hne, upd_same]
  · exact h dx p hd hne hp hpa hpd
end
/-! ### C(), its own __init__ walked -/
theorem pmk_oex0 {X : Cx} {CX : CXT} {x : Str} {C fI : Addr} {k : Nat} {fd : FuncData} {ps : List Str} {sp : Sp} {p pos : Pos} (T : OexC X.K C) (iC : PySem.W.findIn X.K (.ref C) "__init__" = some (some (.ref fI))) (tI : PySem.W.typeIn X.K (.ref fI) = some (.type "function"))
    (F1 : FnOk X.prog X.w X.K X.mg X.base CX k fI fd ps sp) (hr : Room (k + 1) X.A) (hb : Binds X.K fd ps []) (hx : Passes CX X (fun _ _ _ => False)) (hg : Gl X x) (hm : X.mg x = some (.ref C)) (hdb : (x == ("__debug__" : Str)) = false) :
    PMk X (.Call (.Name x p) [] [] pos) (tMkO C sp [] tNil) := by
  intro pins s σ H Q I h
  obtain ⟨m1, q, N, m4, m5, m6, m7, m8, m9, m10, k0, k1, k2, k3, k5, hC, wbm⟩ := T.cls
  refine wpAny_Call_Name_kw (ld_glob I hg hm ?_ hdb)
  refine PySem.W.callWith_K0 I.kIn T.kC ?_
  have I1 := I
  obtain ⟨hz, q1⟩ := h
  show wpAny _ _ (call (.ref C) []) _ _ _
  obtain ⟨hp, g, dr, tk, os⟩ := s
  have wsz : hp.objs.size ≤ hp.objs.size + 1 := Nat.le_succ _
  have hn : H (hp.objs.size + 1) = none := I1.hok.fresh wsz
  have wq := q1 (hp.objs.size + 1) hn
  have kk : ∀ b o, hp.get? b = some o → ((hp.push (PySem.W.kdv_tup [])).push (PySem.HandSPX.excO C hp.objs.size)).get? b = some o := fun b o e => Heap.get?_push_of_some _ (Heap.get?_push_of_some _ e)
  have hget : ((hp.push (PySem.W.kdv_tup [])).push (PySem.HandSPX.excO C hp.objs.size)).get? (hp.objs.size + 1) = some (PySem.HandSPX.excO C hp.objs.size) := by heap_get
  have I2 : Inv X pins σ (upd H (hp.objs.size + 1) (exo (hp.objs.size + 1) C none)) ⟨(hp.push (PySem.W.kdv_tup [])).push (PySem.HandSPX.excO C hp.objs.size), g, dr, tk, os⟩ :=
    I1.laid (t' := tk) (a := hp.objs.size + 1) (o := exo (hp.objs.size + 1) C none) (h' := (hp.push (PySem.W.kdv_tup [])).push (PySem.HandSPX.excO C hp.objs.size)) kk wsz (exo_ok hget)
  have r2 : Vals [V.ref (hp.objs.size + 1)] [Value.ref (hp.objs.size + 1)] := .cons rfl .nil
  have wq : sp [V.ref (hp.objs.size + 1)] _ _ _ := wq
  have hl : ([Value.ref (hp.objs.size + 1)] ++ []).length = ps.length := by
    have e := r2.length
    rw [F1.len _ _ _ _ wq] at e
    exact e.symm
  have b2 := hb _ [Value.ref (hp.objs.size + 1)] I2.kIn hl
  rw [List.append_nil] at b2
  refine wpAny_call (PySem.HandSPX.call_own F.excBase_ValueError (fun Y => PySem.HandSPX.refsVE_contains Y m5 wbm) (I1.kIn _ _ hC) (PySem.W.looks_findIn I1.kIn iC) (fun self => PySem.W.bind_fn I1.kIn self tI) (by rw [sizeLine_eq]; simp)
    (codeAny_mono (F1.run _ X.stack _ _ ⟨[Value.ref (hp.objs.size + 1)], []⟩ [Value.ref (hp.objs.size + 1)] _ _ (fun _ _ _ => False) (hr.make C [] []) (I2.env0.make C [] []) b2 r2 wq) fun r s' wq' => ?_))
  cases r with
  | error erx => exact hx pins σ _ _ erx s' I2 wq'
  | ok fl =>
    cases fl with
    | ret u =>
      obtain ⟨v, H2, os2, ba2, u2n, ok2, rv, ez, d, fs, ex1, ex2, ex3, wq2⟩ := wq'
      subst ez
      obtain ⟨h2, g2, d2, t2, osz⟩ := s'
      exact ⟨rv, mk_end (raises_own T.exC T.tyC) I1 wsz kk u2n ok2 os2 ba2 ex1 ex2 ex3 wq2⟩
    | next => exact False.elim wq'
    | brk => exact False.elim wq'
    | cont => exact False.elim wq'
/-! ### raise C(..) -/
structure ExcAt (P : Program) (w : World) (K : PySem.W.Frag) (mg : Str → Option Value) (base : Heap) (k : Nat) (c : Str) (C : Addr) (ps : List Str) (sp : Sp) : Prop where
  glo : mg c = some (.ref C)
  oex : OexC K C
  init : ∃ (fI : Addr) (fd : FuncData), PySem.W.findIn K (.ref C) "__init__" = some (some (.ref fI)) ∧ PySem.W.typeIn K (.ref fI) = some (.type "function") ∧ Binds K fd ps [] ∧ FnOk P w K mg base (L2.CX P w) k fI fd ps sp
def Exc1 (P : Program) (w : World) (K : PySem.W.Frag) (mg : Str → Option Value) (base : Heap) (k : Nat) (c f : Str) : Prop := ∃ C, ExcAt P w K mg base k c C ["self", f] (spX1 C f c)
def Exc0 (P : Program) (w : World) (K : PySem.W.Frag) (mg : Str → Option Value) (base : Heap) (k : Nat) (c : Str) : Prop := ∃ C, ExcAt P w K mg base k c C ["self"] (spX0 C c)
def exn1 (c f : Str) (d : D) : Exn := ⟨c, [("details", .tup [d]), ("code", .str c), (f, d)]⟩
def exn0 (c : Str) : Exn := ⟨c, [("details", .tup []), ("code", .str c)]⟩
def raise1 (c f : Str) (m : M (List Opd)) : MS := bindS m fun os env => match dsOf os env with
  | .ok [d] e => .err (exn1 c f d) e
  | _ => .stk
def raise0 (c : Str) : MS := fun env => .err (exn0 c) env
section
variable {X : Cx} {W : WX} {pn : List Nat}
theorem xH1_end {H1 : Hp} {a C dx p : Addr} {f code : Str} {y : V} {o : HO} (ha : H1 a = none) (hdx : dx ≠ a) (hpa : p ≠ a) (hpd : p ≠ dx) {fs : List (Str × V)} : upd (del (xH1 (upd H1 a o) a C dx p f code y) a) dx (.xd fs) = upd (upd H1 p (.tup [y])) dx (.xd fs) := by
  funext b
  by_cases h1 : b = dx
  · rw [h1, upd_same, upd_same]
  · rw [upd_ne h1, upd_ne h1]
    by_cases h2 : b = a
    · rw [h2, del_same, upd_ne (Ne.symm hpa), ha]
    · rw [del_ne h2]
      unfold xH1
      rw [upd_ne h1]
      by_cases h3 : b = p
      · rw [h3, upd_same, upd_same]
      · rw [upd_ne h3, upd_ne h1, upd_ne h2, upd_ne h1, upd_ne h2, upd_ne h3]
theorem xH0_end {H1 : Hp} {a C dx p : Addr} {code : Str} {o : HO} (ha : H1 a = none) (hdx : dx ≠ a) (hpa : p ≠ a) (hpd : p ≠ dx) {fs : List (Str × V)} : upd (del (xH0 (upd H1 a o) a C dx p code) a) dx (.xd fs) = upd (upd H1 p (.tup [])) dx (.xd fs) := by
  funext b
  by_cases h1 : b = dx
  · rw [h1, upd_same, upd_same]
  · rw [upd_ne h1, upd_ne h1]
    by_cases h2 : b = a
    · rw [h2, del_same, upd_ne (Ne.symm hpa), ha]
    · rw [del_ne h2]
      unfold xH0
      rw [upd_ne h1]
      by_cases h3 : b = p
      · rw [h3, upd_same, upd_same]
      · rw [upd_ne h3, upd_ne h2, upd_ne h1, upd_ne h2, upd_ne h3]
theorem DenA.nil {K : PySem.W.Frag} {mg : Str → Option Value} {G : Hp} {α : Type} : DenA K mg G ([] : List (α × V)) [] := ⟨rfl, fun i p q a => by simp at a⟩
theorem DenA.cons {K : PySem.W.Frag} {mg : Str → Option Value} {G : Hp} {α : Type} {x : α} {v : V} {d : D} {gs : List (α × V)} {fs : List (α × D)} (h : Den K mg G v d) (t : DenA K mg G gs fs) : DenA K mg G ((x, v) :: gs) ((x, d) :: fs) := by
  refine ⟨by rw [List.map_cons, List.map_cons, t.1], fun i p q a b => ?_⟩
  cases i with
  | zero => simp at a b; subst a; subst b; exact h
  | succ i => simp at a b; exact t.2 i p q a b
theorem qs_raise1 {k : Nat} {c f : Str} {e : Expr} {p pos pos' : Pos} {m : M (List Opd)} (E : Exc1 X.prog X.w X.K X.mg X.base k c f) (hc : X.calm = true) (tk : Takes X W) (hr : Room (k + 1) X.A) (hg : Gl X c) (he : QOs X W pn [e] m)
    (hdb : (c == ("__debug__" : Str)) = false) (hst : starEach [e] X.env = (false, eval e X.env) :: starEach [] X.env) (hpl : (backTo pos (starEach [] X.env)).any (·.1) = false) :
    QS X W pn (.Raise (some (.Call (.Name c p) [e] [] pos)) none pos') (raise1 c f m) := fun Fh P hp => by
  obtain ⟨C, E⟩ := E
  obtain ⟨fI, fd, iC, tI, hb, F1⟩ := E.init
  refine PS.weak (ps_raise hc tk (pmk_oex E.oex iC tI F1 hr hb .nil (passes_call tk fun _ _ _ _ z => z.elim) hg E.glo (he Fh P hp) hdb hst hpl)) fun D σ H ⟨G, env, S, q⟩ => ?_
  refine ⟨G, env, S, POs_S (σ := σ) q fun os e1 vs G1 H1 ex1 w1 S1 hk => ?_⟩
  cases z : dsOf os e1 with
  | err x e2 => exact (dsOf_noerr z).elim
  | stk => simp only [z] at hk; exact hk.elim
  | ok ds e2 =>
    simp only [z] at hk
    cases ds with
    | nil => exact hk.elim
    | cons d ds =>
      cases ds with
      | cons _ _ => exact hk.elim
      | nil =>
        obtain ⟨G2, ex2, d2, S2⟩ := S1.dsOf w1 z
        obtain ⟨y, ys, rfl, dy, dn⟩ := d2.cons_ex
        rw [dn.nil_inv]
        refine ⟨by simp, fun a ha => ⟨a, y, rfl, upd_same, fun dx p hdx hne hp hpa hpd => ⟨rfl, dx, [("details", .ref p), ("code", .str c), (f, y)], ?_, upd_same, ?_, ?_⟩⟩⟩
        · unfold xH1
          rw [upd_ne (Ne.symm hne), upd_ne (Ne.symm hpa), upd_ne (Ne.symm hne), upd_same]
        · rw [upd_ne hne] at hdx; exact hdx
        · rw [upd_ne hne] at hdx
          rw [upd_ne hpa] at hp
          rw [xH1_end ha hne hpa hpd]
          have st1 : Step G2 H1 (upd G2 p (.tup [y])) (upd H1 p (.tup [y])) [] := .shr hp
          have S3 := S2.step st1
          have x3 := st1.ex S2.gh
          have st2 : Step (upd G2 p (.tup [y])) (upd H1 p (.tup [y])) (upd (upd G2 p (.tup [y])) dx (.xd [("details", .ref p), ("code", .str c), (f, y)])) (upd (upd H1 p (.tup [y])) dx (.xd [("details", .ref p), ("code", .str c), (f, y)])) [] := .shr (by rw [upd_ne (Ne.symm hpd)]; exact hdx)
          have S4 := S3.step st2
          have x4 := st2.ex S3.gh
          refine hk (.ref C) (some dx) σ _ _ ((ex2.trans x3).trans x4) ⟨C, dx, _, rfl, E.glo, rfl, upd_same, ?_⟩ S4
          have dy' := dy.mono (x3.trans x4)
          refine .cons (.tupL (SqT.of (xs := [y]) (by rw [upd_ne hpd, upd_same])) (.one dy')) (.cons (.str c) (.cons dy' .nil))
theorem qs_raise0 {k : Nat} {c : Str} {p pos pos' : Pos} (E : Exc0 X.prog X.w X.K X.mg X.base k c) (hc : X.calm = true) (tk : Takes X W) (hr : Room (k + 1) X.A) (hg : Gl X c) (hdb : (c == ("__debug__" : Str)) = false) :
    QS X W pn (.Raise (some (.Call (.Name c p) [] [] pos)) none pos') (raise0 c) := fun Fh P hp => by
  obtain ⟨C, E⟩ := E
  obtain ⟨fI, fd, iC, tI, hb, F1⟩ := E.init
  refine PS.weak (ps_raise hc tk (pmk_oex0 E.oex iC tI F1 hr hb (passes_call tk fun _ _ _ _ z => z.elim) hg E.glo hdb)) fun D σ H ⟨G, env, S, hk⟩ => ?_
  refine ⟨by simp, fun a ha => ⟨a, rfl, upd_same, fun dx p hdx hne hp hpa hpd => ⟨rfl, dx, [("details", .ref p), ("code", .str c)], ?_, upd_same, ?_, ?_⟩⟩⟩
  · unfold xH0
    rw [upd_ne (Ne.symm hne), upd_ne (Ne.symm hpa), upd_same]
  · rw [upd_ne hne] at hdx; exact hdx
  · rw [upd_ne hne] at hdx
    rw [upd_ne hpa] at hp
    rw [xH0_end ha hne hpa hpd]
    have st1 : Step G H (upd G p (.tup [])) (upd H p (.tup [])) [] := .shr hp
    have S3 := S.step st1
    have x3 := st1.ex S.gh
    have st2 : Step (upd G p (.tup [])) (upd H p (.tup [])) (upd (upd G p (.tup [])) dx (.xd [("details", .ref p), ("code", .str c)])) (upd (upd H p (.tup [])) dx (.xd [("details", .ref p), ("code", .str c)])) [] := .shr (by rw [upd_ne (Ne.symm hpd)]; exact hdx)
    have S4 := S3.step st2
    have x4 := st2.ex S3.gh
    refine hk (.ref C) (some dx) σ _ _ (x3.trans x4) ⟨C, dx, _, rfl, E.glo, rfl, upd_same, ?_⟩ S4
    exact .cons (.tupL (SqT.of (xs := []) (by rw [upd_ne hpd, upd_same])) .nil) (.cons (.str c) .nil)
end
-- fast: raise1 raise0
end Z
/-! Z: try .. except (A, B, C) as e: its code and its details told -/
namespace Z
open PySem PySem.Spec PyProof.Rows L2
def wTup3 (K : PySem.W.Frag) (c1 c2 c3 : Value) (i : Nat) (ts : Addr → Value → Option Addr → TS) (D : Ends) : WX := fun cls d σ H =>
  PySem.W.exmAny K cls [c1, c2, c3] = some true ∧ ∀ a, H a = none → ts a cls d { nx := fun σ' H' => D.nx (σ'.set i none) H', rt := D.rt, bk := fun σ' H' => D.bk (σ'.set i none) H', ct := fun σ' H' => D.ct (σ'.set i none) H' } (σ.set i (some (.ref a))) H
section
variable {X : Cx} {x1 x2 x3 n : Str} {c1 c2 c3 : Value} {i : Nat} {body suite : List Stmt} {b₀ : Stmt} {q1 q2 q3 q4 pos pos' : Pos} {kk : Nat} {tb : WX → TS} {ts : Addr → Value → Option Addr → TS}
theorem FlyingZ.push {base h : Heap} {l : List Env} {e : Addr} {Z : Obj → Prop} {o : Obj} (x : HandSPX.FlyingZ base l e Z h) : HandSPX.FlyingZ base l e Z (h.push o) := by
  obtain ⟨k1, k2, k3, oe, vs, T, oT, ts, g1, g2, g3, g4, g5, g6, g7, g8, g9⟩ := x
  exact ⟨fun b u e => Heap.get?_push_of_some _ (k1 b u e), k2, Heap.FunFrames.of_keeps (fun b u e _ => ⟨u, Heap.get?_push_of_some _ e, rfl⟩) k3, oe, vs, T, oT, ts, Heap.get?_push_of_some _ g1, g2, g3, g4, g5, g6, Heap.get?_push_of_some _ g7, g8, g9⟩
theorem ps_try_tup3 (hs : X.stack = X.env :: X.outer) (hf : X.env.frame = some X.env.locals) (hN : X.N.Nodup) (hi : X.N[i]? = some n) (hln : X.env.kindOf n = some .local)
    (g1 : Gl X x1) (g2 : Gl X x2) (g3 : Gl X x3) (m1 : X.mg x1 = some c1) (m2 : X.mg x2 = some c2) (m3 : X.mg x3 = some c3) (d1 : (x1 == ("__debug__" : Str)) = false) (d2 : (x2 == ("__debug__" : Str)) = false) (d3 : (x3 == ("__debug__" : Str)) = false)
    (hb : ∀ (W : WX) (pz : List (Addr × Obj)) (xe : Value → Shared → Prop), Takes (X.tr pz xe) W → PassesOwn (model X.prog X.w) X.A X.env xe → PSs (X.tr pz xe) body (tb W))
    (hsu : ∀ (a : Addr) (oe : Obj) (cls : Value) (d : Option Addr) (pz : List (Addr × Obj)), Zc cls d oe → (∃ vs, oe.data = .fields vs) → PSs (X.suite a ((a, oe) :: pz)) (b₀ :: suite) (ts a cls d)) :
    PS X (.Try body [.ExceptHandler (some (.Tuple [.Name x1 q1, .Name x2 q2, .Name x3 q3] kk q4)) (some n) (b₀ :: suite) pos'] [] [] pos) (fun D σ H => tb (wTup3 X.K c1 c2 c3 i ts D) D σ H) := by
  refine ⟨fun pins s σ H D I h => ?_⟩
  have okX := I.ok
  have gfr : X.A.frames = some (X.env :: X.outer) := by rw [okX.frames, hs]
  have glc : Loc X.env.scope n := .inl hln
  refine wpAny_Try_except ?_
  refine wpAny_mono ((hb (wTup3 X.K c1 c2 c3 i ts D) (X.pn ++ pins) (fun e s₁ => wpAny (model X.prog X.w) X.A (noteFrame e X.env) (fun _ s₂ => wpAny (model X.prog X.w) X.A (setFlight e none) (fun _ s₃ =>
    wpAny (model X.prog X.w) X.A (handleBy e X.env [.ExceptHandler (some (.Tuple [.Name x1 q1, .Name x2 q2, .Name x3 q3] kk q4)) (some n) (b₀ :: suite) pos']) (SP X pins D) X.xe s₃) X.xe s₂) X.xe s₁) (fun u s' xx => ?_) PassesOwn.looking).run [] s σ H D (I.toTry _) h) (fun f s1 hqp => ?_) (fun e s1 he => he)
  · -- the catch
    obtain ⟨a, B, sI, pins', σ', H', cls, d, rfl, K', nb, up, sky, na, os, ag, hb1, hyes⟩ := xx
    have J0 : Inv X pins σ' H' sI := K'.ofTry okX
    have skz : Sky B (X.env :: X.outer) a (Zc cls d) X.env.locals s'.heap := by rw [← hs]; exact sky
    show wpAny (model X.prog X.w) X.A (noteFrame (.ref a) X.env) _ _ _
    refine Sky.land Zc.steady gfr hf skz fun hp3 fy3 ua3 => ?_
    have M3 : Inv X pins σ' H' { s' with heap := hp3 } := J0.landed nb fy3.1 (up.trans ua3) os ag
    obtain ⟨ob3, ov3, ge3, gz3, gd3⟩ := fy3.there
    have outF : ∀ {h : Heap} {o : Obj} {vs : Array Value}, h.FunFrames B (X.env :: X.outer) → h.get? a = some o → o.data = .fields vs → a ∉ frs (X.env :: X.outer) := fun {h o vs} ff e dd hm => by
      obtain ⟨_, o', e', hnf⟩ := ff.mem hm
      rw [e] at e'; cases e'
      exact hnf _ dd
    have nf0 := outF fy3.2.2.1 ge3 gd3
    have n0L : a ≠ X.env.locals := fun z => nf0 (List.mem_filterMap.mpr ⟨X.env, List.mem_cons_self, by rw [hf, z]⟩)
    have n0F : a ∉ X.fs := fun hm => by
      obtain ⟨e, he, q⟩ := List.mem_filterMap.mp hm
      exact nf0 (List.mem_filterMap.mpr ⟨e, List.mem_cons_of_mem _ he, q⟩)
    have T3 := M3.suite ge3 gd3 na n0L n0F
    refine wpAny_handleBy_cons (codeAny_handlers_test ?_) (by intro q; cases q)
    refine wpAny_Tuple_spliced ?_
    show wpAny _ (X.A.mark (some (.ref a))) (spliced ((false, eval (.Name x1 q1) X.env) :: (false, eval (.Name x2 q2) X.env) :: (false, eval (.Name x3 q3) X.env) :: [])) _ _ _
    refine Calls.spliced_cons (ld_glob (X := X.suite a ((a, ob3) :: (X.pn ++ pins))) T3 g1 m1 (Calls.spliced_cons (ld_glob (X := X.suite a ((a, ob3) :: (X.pn ++ pins))) T3 g2 m2 (Calls.spliced_cons (ld_glob (X := X.suite a ((a, ob3) :: (X.pn ++ pins))) T3 g3 m3 (Calls.spliced_nil ⟨by rw [sizeLine_eq]; exact Nat.le_of_ble_eq_true rfl, ?_⟩) d3)) d2)) d1)
    have fy5 := FlyingZ.push (o := ({ cls := .type "tuple", data := .seq [c1, c2, c3].toArray } : Obj)) fy3
    have ua5 : hp3.UpToSlots (hp3.push ({ cls := .type "tuple", data := .seq [c1, c2, c3].toArray } : Obj)) := Heap.UpToSlots.of_keeps fun b o e => Heap.get?_push_of_some _ e
    have M5 : Inv X pins σ' H' { s' with heap := hp3.push ({ cls := .type "tuple", data := .seq [c1, c2, c3].toArray } : Obj) } := J0.landed nb fy5.1 ((up.trans ua3).trans ua5) os ag
    have LT : PySem.W.Looks (model X.prog X.w) (hp3.push ({ cls := .type "tuple", data := .seq [c1, c2, c3].toArray } : Obj)) (typeOf (.ref a)) cls := fun A Q E s k q => wpAny_typeOf_ref (k _ _ (Heap.get?_push_of_some _ ge3)) (by rw [gz3.1]; exact q)
    refine (PySem.W.exm_tup3 (M := model X.prog X.w) M5.kIn LT (Heap.get?_push_size hp3 rfl) hb1).here ?_
    refine codeAny_handlers_suite_as ?_
    refine HandSPX.lands_againZ fy5 fun hp4 fy4 ua4 => ?_
    have M4 : Inv X pins σ' H' { s' with heap := hp4 } := J0.landed nb fy4.1 (((up.trans ua3).trans ua5).trans ua4) os ag
    obtain ⟨ob4, ov4, ge4, gz4, gd4⟩ := fy4.there
    have T4 := M4.suite ge4 gd4 na n0L n0F
    refine store_ok (X := X.suite a ((a, ob4) :: (X.pn ++ pins))) (v := .ref a) T4 hN hi glc rfl (fun s5 T5 => ?_) (.inr hln)
    refine wpAny_mono ((hsu a ob4 cls d (X.pn ++ pins) gz4 ⟨_, gd4⟩).run [] s5 _ H' _ T5 (hyes a na)) (fun f sz hqp => ?_) (fun _ _ z => False.elim z)
    have fin_ : ∀ {σz : L2.St} {Hz : Hp} {Q : Shared → Prop}, Inv (X.suite a ((a, ob4) :: (X.pn ++ pins))) [] σz Hz sz → (∀ sy, Inv X pins (σz.set i none) Hz sy → Q sy) →
        wpAny (model X.prog X.w) X.A (do bindName X.env n .none; unbindBehindTheSuite X.env n pos') (fun _ sy => Q sy) X.xe sz := fun {σz Hz Q} Tz hq => gone_ok (Tz.unsuite okX) hN hi hln hq
    cases f with
    | next =>
      obtain ⟨σz, Hz, Tz, qz⟩ := hqp
      exact fin_ Tz fun sy My => ⟨_, _, My, qz⟩
    | brk =>
      obtain ⟨σz, Hz, Tz, qz⟩ := hqp
      exact fin_ Tz fun sy My => ⟨_, _, My, qz⟩
    | cont =>
      obtain ⟨σz, Hz, Tz, qz⟩ := hqp
      exact fin_ Tz fun sy My => ⟨_, _, My, qz⟩
    | ret u =>
      obtain ⟨vz, σz, Hz, Tz, rz, qz⟩ := hqp
      exact fin_ Tz fun sy My => ⟨_, _, _, My, rz, qz⟩
  · cases f with
    | next =>
      obtain ⟨σ', H', K', q⟩ := hqp
      exact wpAny_execs_nil ⟨σ', H', K'.ofTry okX, q⟩
    | brk =>
      obtain ⟨σ', H', K', q⟩ := hqp
      exact ⟨σ', H', K'.ofTry okX, q⟩
    | cont =>
      obtain ⟨σ', H', K', q⟩ := hqp
      exact ⟨σ', H', K'.ofTry okX, q⟩
    | ret u =>
      obtain ⟨v, σ', H', K', r, q⟩ := hqp
      exact ⟨v, σ', H', K'.ofTry okX, r, q⟩
/-- e.f in the suite, whatever the class -/
def tXfA (K : PySem.W.Frag) (a : Addr) (cls : Value) (d : Option Addr) (f : Str) (te : TE) : TE := fun σ H Q => te σ H fun x H1 => x = .ref a ∧ ∃ (C dd : Addr) (fs : List (Str × V)) (v : V), cls = .ref C ∧ XfC K C ∧ PySem.W.findIn K (.ref C) f = some none ∧ d = some dd ∧ H1 dd = some (.xd fs) ∧ fs.lookup f = some v ∧ Q v H1
theorem pe_xfA {a : Addr} {oe : Obj} {cls : Value} {d : Option Addr} {pn : List (Addr × Obj)} {e : Expr} {te : TE} {n : Str} (hz : Zc cls d oe) (hf : ∃ vs, oe.data = .fields vs) (hpe : PE (X.suite a ((a, oe) :: pn)) e te) (hb : attributeBase e n X.env (eval e X.env) = eval e X.env) :
    PE (X.suite a ((a, oe) :: pn)) (.Attribute e n pos) (tXfA X.K a cls d n te) := by
  refine ⟨fun pins s σ H Q I h => ?_⟩
  refine attr_of hb (thn (hpe.run pins s σ H _ I h) fun u sb zz => ?_)
  obtain ⟨x, H1, Ib, yx, ex, C, dd, fs, v, ec, T, hno, ed, ea, l, q⟩ := zz
  subst ex
  obtain rfl : u = Value.ref a := yx
  subst ec
  subst ed
  obtain ⟨wa, _⟩ := Ib.pin (a, oe) (List.mem_append_left _ List.mem_cons_self)
  obtain ⟨vs, wd⟩ := hf
  have wx : ObjOk X.prog X.w H1 sb.heap dd (.xd fs) := Ib.hok dd _ ea
  obtain ⟨mB, wns, wr⟩ := wx
  obtain ⟨ow, wo, wl⟩ := lookIn_ns wns
  obtain ⟨u, wu, yu⟩ := RelO.some_of (v := v) (o := mB n) (by rw [← l]; exact wr n)
  have Jz : PySem.W.InstAt sb.heap a oe C (some ow) := ⟨wa, hz.1, by unfold PySem.W.notCls; rw [wd] <;> rfl, by rw [hz.2]; exact wo⟩
  exact HandSPX.exc_get Ib.kIn Jz T.ga T.gg T.exC (PySem.W.findObj_own T.hdC hno rfl (by rw [wl, wu])) (handed_of yu) ⟨v, H1, Ib.tok _, yu, q⟩
end
/-- try: s, except (A, B, C) as e: x = (e.f, e.g); es: the classes that are caught; i: e's slot, j: x's -/
def tellS (es : List Str) (pn : List Nat) (i j : Nat) (f g : Str) (s : MS) : MS := fun env => if i ∈ pn ∨ j ∈ pn ∨ i = j then .stk else match s env with
  | .err x e => if x.c ∈ es then (match x.fs.lookup f, x.fs.lookup g with
    | some d1, some d2 => if j < e.length ∧ i < e.length then .nx (((e.set i none).set j (some (.sh (.tup [d1, d2])))).set i none) else .stk
    | _, _ => .stk) else .stk
  | o => o
/-- what is known of a class that is caught -/
structure CatchC (K : PySem.W.Frag) (c1 c2 c3 : Value) (f g : Str) (C : Addr) : Prop where
  exm : PySem.W.exmAny K (.ref C) [c1, c2, c3] = some true
  xf : XfC K C
  nf : PySem.W.findIn K (.ref C) f = some none
  ng : PySem.W.findIn K (.ref C) g = some none
section
variable {K : PySem.W.Frag} {mg : Str → Option Value} {Fh : FHp} {P : List (Nat × V)} {G H : Hp} {σ : L2.St} {env : DEnv}
/-- a slot's value is forgotten, whatever comes to it -/
theorem SRel.lose {i : Nat} {v : Option V} (S : SRel K mg Fh P G H σ env []) (hp : i ∉ P.map (·.1)) : SRel K mg Fh P G H (σ.set i v) (env.set i none) [] := by
  have old : ∀ {j : Nat} {r : RV}, (env.set i none)[j]? = some (some r) → j ≠ i ∧ env[j]? = some (some r) := fun {j r} h => by
    rcases set_get h with ⟨_, z, _⟩ | z
    · cases z
    · exact z
  have sg : ∀ {j : Nat}, j ≠ i → (σ.set i v)[j]? = σ[j]? := fun {j} h => List.getElem?_set_ne (Ne.symm h)
  refine ⟨S.gh, S.fh, S.dj, fun p h => ?_, by simp [S.len], fun j r h => ?_, fun j k r1 r2 b g1 g2 o1 o2 s1 s2 => ?_, fun j r b h o1 hb => ?_, S.tmp⟩
  · rw [sg (fun z => hp (by rw [← z]; exact List.mem_map_of_mem h))]; exact S.pin p h
  · obtain ⟨ne, h⟩ := old h
    rw [sg ne]; exact S.val j r h
  · obtain ⟨n1, g1⟩ := old g1
    obtain ⟨n2, g2⟩ := old g2
    rw [sg n1] at s1
    rw [sg n2] at s2
    exact S.dis j k r1 r2 b g1 g2 o1 o2 s1 s2
  · obtain ⟨n1, g1⟩ := old h
    rw [sg n1] at hb
    exact S.nof j r b g1 o1 hb
end
theorem qs_tell {X : Cx} {W : WX} {pn : List Nat} {es : List Str} {x1 x2 x3 n x f g : Str} {c1 c2 c3 : Value} {i j : Nat} {body : List Stmt} {q1 q2 q3 q4 q5 q6 q7 q8 q9 q10 q11 pos pos' : Pos} {kk k2 : Nat} {s : MS}
    (hs : X.stack = X.env :: X.outer) (hf : X.env.frame = some X.env.locals) (hN : X.N.Nodup) (hi : X.N[i]? = some n) (hj : X.N[j]? = some x) (hln : X.env.kindOf n = some .local) (hlx : X.env.kindOf x = some .local)
    (g1 : Gl X x1) (g2 : Gl X x2) (g3 : Gl X x3) (m1 : X.mg x1 = some c1) (m2 : X.mg x2 = some c2) (m3 : X.mg x3 = some c3) (d1 : (x1 == ("__debug__" : Str)) = false) (d2 : (x2 == ("__debug__" : Str)) = false) (d3 : (x3 == ("__debug__" : Str)) = false)
    (hC : ∀ c ∈ es, ∀ C, X.mg c = some (.ref C) → CatchC X.K c1 c2 c3 f g C)
    (hb : ∀ (W : WX) (p : List (Addr × Obj)) (xe : Value → Shared → Prop), Takes (X.tr p xe) W → PassesOwn (model X.prog X.w) X.A X.env xe → QSs (X.tr p xe) W pn body s)
    (hdn : (n == ("__debug__" : Str)) = false) (hcn : (n == ("__classdict__" : Str)) = false) (ab1 : attributeBase (.Name n q5) f X.env (eval (.Name n q5) X.env) = eval (.Name n q5) X.env) (ab2 : attributeBase (.Name n q7) g X.env (eval (.Name n q7) X.env) = eval (.Name n q7) X.env)
    (hst1 : starEach [.Attribute (.Name n q5) f q6, .Attribute (.Name n q7) g q8] X.env = (false, eval (.Attribute (.Name n q5) f q6) X.env) :: starEach [.Attribute (.Name n q7) g q8] X.env) (hst2 : starEach [.Attribute (.Name n q7) g q8] X.env = (false, eval (.Attribute (.Name n q7) g q8) X.env) :: starEach [] X.env)
    (hsw : swapsWith (.Tuple [.Attribute (.Name n q5) f q6, .Attribute (.Name n q7) g q8] k2 q9) (some (.Name x q10)) q11.line X.env = pure false) :
    QS X W pn (.Try body [.ExceptHandler (some (.Tuple [.Name x1 q1, .Name x2 q2, .Name x3 q3] kk q4)) (some n) [.Assign [.Name x q10] (.Tuple [.Attribute (.Name n q5) f q6, .Attribute (.Name n q7) g q8] k2 q9) q11] pos'] [] [] pos) (tellS es pn i j f g s) := fun Fh P hp => by
  refine PS.weak (ps_try_tup3 (c1 := c1) (c2 := c2) (c3 := c3) (tb := fun W => rdS X.K X.mg W Fh P s) hs hf hN hi hln g1 g2 g3 m1 m2 m3 d1 d2 d3 (fun W p xe tk po => hb W p xe tk po Fh P hp)
    (fun a oe cls d p hz hfv => pss_cons (ps_set (X := X.suite a ((a, oe) :: p)) (i := j) hN hj (.inl hlx) (pe_tup (pa_cons (pe_xfA (X := X) (pos := q6) hz hfv (pe_var (pos := q5) hi (.inl hln) hdn hcn) ab1) (pa_cons (pe_xfA (X := X) (pos := q8) hz hfv (pe_var (pos := q7) hi (.inl hln) hdn hcn) ab2) pa_nil hst2) hst1)) hsw (.inr hlx)) pss_nil)) fun D σ H ⟨G, env, S, q⟩ => ?_
  refine ⟨G, env, S, ?_⟩
  unfold tellS at q
  by_cases hc : i ∈ pn ∨ j ∈ pn ∨ i = j
  · rw [if_pos hc] at q; exact q.elim
  rw [if_neg hc] at q
  have hip : i ∉ P.map (·.1) := by rw [hp]; exact fun z => hc (.inl z)
  have hjp : j ∉ P.map (·.1) := by rw [hp]; exact fun z => hc (.inr (.inl z))
  have hij : i ≠ j := fun z => hc (.inr (.inr z))
  cases z : s env with
  | nx e => rw [z] at q; exact q
  | rt r e => rw [z] at q; exact q
  | bk e => rw [z] at q; exact q
  | ct e => rw [z] at q; exact q
  | stk => rw [z] at q; exact q
  | err x e =>
    simp only [z] at q
    intro cls d σ' G' H' ex hx S'
    by_cases hm : x.c ∈ es
    · rw [if_pos hm] at q
      obtain ⟨C, dd, gs, rfl, hmg, rfl, hdd, hA⟩ := hx
      obtain ⟨k1, k2, k3, k4⟩ := hC _ hm C hmg
      cases y1 : x.fs.lookup f with
      | none => simp only [y1] at q; exact q.elim
      | some e1 =>
      cases y2 : x.fs.lookup g with
      | none => simp only [y1, y2] at q; exact q.elim
      | some e2 =>
        simp only [y1, y2] at q
        by_cases hjl : j < e.length ∧ i < e.length
        · rw [if_pos hjl] at q
          obtain ⟨v1, l1, dv1⟩ := hA.get y1
          obtain ⟨v2, l2, dv2⟩ := hA.get y2
          refine ⟨k1, fun a ha => ?_⟩
          have hH := S'.gh _ _ hdd
          have hia : i < σ'.length := by
            rw [S'.len]; exact hjl.2
          have s0 : (σ'.set i (some (.ref a)))[i]? = some (some (.ref a)) := by rw [List.getElem?_set_self hia]
          refine ⟨.ref a, s0, rfl, C, dd, gs, v1, rfl, k2, k3, rfl, hH, l1, .ref a, s0, rfl, C, dd, gs, v2, rfl, k2, k4, rfl, hH, l2, by rw [sizeLine_eq]; exact Nat.le_of_ble_eq_true rfl, fun p hpn => ?_⟩
          have st : Step G' H' (upd G' p (.tup [v1, v2])) (upd H' p (.tup [v1, v2])) [] := .shr hpn
          have x3 := st.ex S'.gh
          have S2 := (S'.lose (i := i) (v := some (.ref a)) hip).step st
          have S3 := S2.set (v := .ref p) (r := .sh (.tup [e1, e2])) (i := j) (Den.tupL (SqT.of (xs := [v1, v2]) upd_same) (.cons (dv1.mono x3) (.cons (dv2.mono x3) .nil))) (by simpa using hjl.1) hjp
          exact q _ _ _ (ex.trans x3) (S3.lose (v := none) hip)
        · rw [if_neg hjl] at q; exact q.elim
    · rw [if_neg hm] at q; exact q.elim
-- fast: tellS
end Z
/-! Z: lambdas: made -/
namespace Z
open PySem PySem.Spec PyProof.Rows L2 PySem.W
/-! ### the function object, with a default -/
section
variable {M : Model} {A : Around} {E : Value → Shared → Prop} {s : Shared} {name qual : Str} {params : Arguments} {body : Expr} {scope : Scope} {env : Env} {c P : Addr} {ps : Array Value} {pos : Pos} {fl0 : Nat} {mg : Str → Option Value} {dV : Value}
  {cls0 : List (Str × Addr)} {Q : Value → Shared → Prop}
abbrev zlaFn (name qual : Str) (params : Arguments) (body : Expr) (scope : Scope) (cl : List (Str × Addr)) (pm cdv ct dV : Value) : FuncData :=
  { name, qualname := qual, params, body := .expr body, scope, globals := mainGlobals, closure := cl, defaults := dV, kwdefaults := .none, doc := .none, pyModule := pm, annotations := none, code := cdv, closureTuple := ct, builtins := builtinsNs }
theorem zla_makeTail (zcl : closureFor scope env = pure cls0) (zge : env.globals = mainGlobals) (zg : s.heap.Ns mainGlobals mg) (zco : env.code = .ref c) (C : CodeHd s.heap c P) (zP : s.heap.get? P = some (tabObj ps)) (zt : TriplesOk ps.toList)
    (znf : codeAmong pos ps.toList = none) (zgP : mainGlobals ≠ P) (zb : s.heap.BuiltinsAt mg P)
    (zh : ∀ c' ctv h' tk, Heap.ExtBut P s.heap h' → s.heap.objs.size ≤ c' → c' < h'.objs.size → h'.CodeRec (.ref c') qual → h'.get? P = some (tabObj (ps ++ #[rawInt pos.line, rawInt pos.col, .ref c'])) →
      Q (.ref h'.objs.size) { s with heap := h'.push { cls := .type "function", data := .func (zlaFn name qual params body scope cls0 ((mg "__name__").getD .none) (.ref c') ctv dV) }, toks := tk }) :
    wpAny M A (makeTail name qual params (.expr body) scope env dV .none none pos fl0) Q E s := by
  obtain ⟨bm, ob, wbm, wn0, _, wnP, wbo, wcl, wdi, wda⟩ := zb
  unfold makeTail
  rw [zcl, zge]
  refine wpAny_bind (wpAny_pure ?_)
  cases cls0 with
  | nil =>
    simp only [List.isEmpty_nil, if_true]
    refine wpAny_bind (wpAny_pure ?_)
    refine wpAny_bind (wpAny_functionCodeX zco (C.code zP zt) (C.tab zP) znf fun c' h' tk yx yge ylt _ yre ytb _ => ?_)
    have zg' := zg.extBut yx zgP
    refine wpAny_bind (wpAny_builtinsFor zg' wbm wn0 (yx _ _ wnP wbo) wcl wdi wda ?_)
    refine wpAny_bind (wpAny_nsGet zg' ?_)
    exact wpAny_bind (wpAny_pure (wpAny_newObj_type (zh c' .none h' tk yx yge ylt yre ytb.2) (by size_fits)))
  | cons q r =>
    simp only [List.isEmpty_cons, Bool.false_eq_true, if_false]
    refine wpAny_bind (wpAny_newTextTuple ?_)
    refine wpAny_bind (wpAny_functionCodeX zco ((C.keeps fun b o e => Heap.get?_push_of_some _ e).code (Heap.get?_push_of_some _ zP) zt) ((C.keeps fun b o e => Heap.get?_push_of_some _ e).tab (Heap.get?_push_of_some _ zP)) znf fun c' h' tk yx yge ylt _ yre ytb _ => ?_)
    have zg' := (zg.push _).extBut yx zgP
    have yx' : Heap.ExtBut P s.heap h' := fun b o zb' e => yx b o zb' (Heap.get?_push_of_some _ e)
    have yge' : s.heap.objs.size ≤ c' := Nat.le_trans (by rw [Heap.size_push]; omega) yge
    refine wpAny_bind (wpAny_builtinsFor zg' wbm wn0 (yx' _ _ wnP wbo) wcl wdi wda ?_)
    refine wpAny_bind (wpAny_nsGet zg' ?_)
    exact wpAny_bind (wpAny_pure (wpAny_newObj_type (zh c' _ h' tk yx' yge' ylt yre ytb.2) (by size_fits)))
theorem zla_makeTailHit {cv : Value} (zcl : closureFor scope env = pure cls0) (zge : env.globals = mainGlobals) (zg : s.heap.Ns mainGlobals mg) (zco : env.code = .ref c) (C : CodeHd s.heap c P) (zP : s.heap.get? P = some (tabObj ps)) (zt : TriplesOk ps.toList)
    (zfo : codeAmong pos ps.toList = some cv) (zb : s.heap.BuiltinsAt mg P)
    (zh : ∀ (ctv : Value) (h' : Heap) (tk : Tok), (∀ b o, s.heap.get? b = some o → h'.get? b = some o) → s.heap.objs.size ≤ h'.objs.size →
      Q (.ref h'.objs.size) { s with heap := h'.push { cls := .type "function", data := .func (zlaFn name qual params body scope cls0 ((mg "__name__").getD .none) cv ctv dV) }, toks := tk }) :
    wpAny M A (makeTail name qual params (.expr body) scope env dV .none none pos fl0) Q E s := by
  obtain ⟨bm, ob, wbm, wn0, _, wnP, wbo, wcl, wdi, wda⟩ := zb
  unfold makeTail
  rw [zcl, zge]
  refine wpAny_bind (wpAny_pure ?_)
  cases cls0 with
  | nil =>
    simp only [List.isEmpty_nil, if_true]
    refine wpAny_bind (wpAny_pure ?_)
    refine wpAny_bind (wpAny_functionCode_hit zco (C.code zP zt) zfo ?_)
    refine wpAny_bind (wpAny_builtinsFor zg wbm wn0 wbo wcl wdi wda ?_)
    refine wpAny_bind (wpAny_nsGet zg ?_)
    exact wpAny_bind (wpAny_pure (wpAny_newObj_type (zh .none s.heap s.toks (fun _ _ e => e) (Nat.le_refl _)) (by size_fits)))
  | cons q r =>
    simp only [List.isEmpty_cons, Bool.false_eq_true, if_false]
    refine wpAny_bind (wpAny_newTextTuple ?_)
    refine wpAny_bind (wpAny_functionCode_hit zco ((C.keeps fun b o e => Heap.get?_push_of_some _ e).code (Heap.get?_push_of_some _ zP) zt) zfo ?_)
    refine wpAny_bind (wpAny_builtinsFor (zg.push _) wbm wn0 (Heap.get?_push_of_some _ wbo) wcl wdi wda ?_)
    refine wpAny_bind (wpAny_nsGet (zg.push _) ?_)
    have ysz : ∀ oT : Obj, s.heap.objs.size ≤ (s.heap.push oT).objs.size := fun oT => by rw [Heap.size_push]; omega
    exact wpAny_bind (wpAny_pure (wpAny_newObj_type (zh _ _ s.toks (fun b o e => Heap.get?_push_of_some _ e) (ysz _)) (by size_fits)))
end
theorem lamO_ok {P : Program} {w : World} {H : Hp} {h : Heap} {f : Addr} {I : LamI} {L : Addr} {pm ct dV : Value} {c' : Addr} (e : h.get? f = some { cls := .type "function", data := .func (lamFn I L pm (.ref c') ct dV) }) : ObjOk P w H h f (lamO f I L pm ct dV c') :=
  ⟨e, ⟨_, e⟩, fun h1 h2 z k => k _ z⟩
theorem lamO_nt {f : Addr} {I : LamI} {L : Addr} {pm ct dV : Value} {c' : Addr} : NT (lamO f I L pm ct dV c') := fun ps z => by
  unfold lamO at z; cases z
/-! ### the tables' growth, in a frame -/
section
variable {K : PySem.W.Frag} {mg : Str → Option Value} {Fh : FHp} {P : List (Nat × V)} {G G' H H' : Hp} {σ : L2.St} {env : DEnv}
theorem codeAmong_app {pos p' : Pos} {c cv : Value} (l : List Value) (h : TriplesOk l) (hc : codeAmong p' (l ++ [rawInt pos.line, rawInt pos.col, c]) = some cv) : codeAmong p' l = some cv ∨ cv = c := LamX.among_app l h hc
/-- a table gets an entry whose code object is shared -/
theorem SRel.table {T : Addr} {ps : Array Value} {pos : Pos} {c : Addr} {q : Str} (S : SRel K mg Fh P G H σ env []) (hP : H T = some (.tbl ps)) (hc : G c = some (LamX.CodeO c q)) :
    SRel K mg Fh P G (upd H T (.tbl (ps ++ #[rawInt pos.line, rawInt pos.col, .ref c]))) σ env [] := by
  have hG : G T = none := by
    cases z : G T with
    | none => rfl
    | some o => have := S.gh _ _ z; rw [hP] at this; cases this; exact absurd rfl (S.fh.tb.nt _ _ z _)
  refine ⟨S.gh.upd hG, ⟨fun a x e => ?_, S.fh.nto, ⟨S.fh.tb.nt, fun P' qs e => ?_⟩⟩, S.dj, S.pin, S.len, fun i r e => ?_, S.dis, fun i r a e hr ha => ⟨(S.nof i r a e hr ha).1, List.not_mem_nil⟩, fun a m => absurd m List.not_mem_nil⟩
  · have z := S.fh.on a x e
    by_cases y : a = T
    · subst y
      rw [upd_same]
      cases x with
      | obj o =>
        have z : H a = some o := z
        rw [hP] at z; cases z
        exact absurd rfl (S.fh.nto a _ e _)
      | tab p0 =>
        obtain ⟨m, z⟩ := z
        rw [hP] at z; cases z
        exact ⟨m ++ #[rawInt pos.line, rawInt pos.col, .ref c], by rw [Array.append_assoc]⟩
    · rw [upd_ne y]; exact z
  · by_cases y : P' = T
    · subst y
      rw [upd_same] at e; cases e
      obtain ⟨t1, t2⟩ := S.fh.tb.on _ _ hP
      have eL : (ps ++ #[rawInt pos.line, rawInt pos.col, .ref c]).toList = ps.toList ++ [rawInt pos.line, rawInt pos.col, .ref c] := by simp
      refine ⟨by rw [eL]; exact PySem.TriplesOk_snoc _ _ _ _ t1, fun p' cv hcv => ?_⟩
      rw [eL] at hcv
      rcases LamX.among_app _ t1 hcv with z | z
      · exact t2 p' cv z
      · exact ⟨c, q, z, hc⟩
    · rw [upd_ne y] at e
      exact S.fh.tb.on _ _ e
  · obtain ⟨v, hv, w⟩ := S.val i r e
    refine ⟨v, hv, w.keep (Ex.refl _) fun a o ev hr h1 h2 => ?_⟩
    obtain ⟨a', o', ea, k1, k2, k3⟩ := w.own_inv hr
    rw [ev] at ea; cases ea
    rw [h1] at k1; cases k1
    rw [upd_ne (fun z => by rw [z, hP] at h1; cases h1; exact absurd rfl (k3.nt _))]
    exact ⟨h1, h2⟩
end
/-- what the making of lambdas asks of the frame -/
structure LamB (X : Cx) (L c P : Addr) : Prop where
  tab : LamX.TabB X.base X.mg c P
  code : X.env.code = .ref c
  cells : X.env.cells = cellsFrom (L + 1) X.env.scope.names []
  h0 : ∃ ps, X.H_0 P = some (.tbl ps)
/-- a lambda of that frame -/
structure LamW (X : Cx) (I : LamI) : Prop where
  qual : I.qual = X.env.qual ++ "<lambda>"
  names : I.pnames = X.env.scope.names
  free : ∀ y ∈ I.scope.names, y.2 = .free → X.env.scope.names.lookup y.1 = some .cell ∨ X.env.scope.names.lookup y.1 = some .free
def lamM (k : Nat) (I : LamI) (L : Nat) : M RV := fun env => .ok (.sh (.lam k I L [])) env
section
variable {X : Cx} {W : WX} {pn : List Nat} {pos : Pos}
/-- behind the default -/
theorem lam_tail {I : LamI} {L c T : Addr} {pins : List (Addr × Obj)} {σ : L2.St} {H G : Hp} {s : Shared} {Fh : FHp} {P : List (Nat × V)} {env : DEnv} {dV : Value} {Q : VK} {k : Nat} (B : LamB X L c T) (w : LamW X I) (Iv : Inv X pins σ H s) (S : SRel X.K X.mg Fh P G H σ env []) (hd : DflR G I dV)
    (q : ∀ v G' H', Ex G G' → Den X.K X.mg G' v (.lam k I L []) → SRel X.K X.mg Fh P G' H' σ env [] → Q v H') :
    wpAny (model X.prog X.w) X.A (makeTail "<lambda>" (X.env.qual ++ "<lambda>") I.params (.expr I.body) I.scope X.env dV .none none pos pos.line) (EP X pins σ Q) X.xe s := by
  obtain ⟨ps0, hp0⟩ := B.h0
  obtain ⟨more, hT⟩ := Iv.base.tbls T ps0 hp0
  generalize ps0 ++ more = ps at hT
  obtain ⟨ht, hco⟩ := S.fh.tb.on _ _ hT
  have hfree : ∀ y ∈ I.scope.names, y.2 = .free → ∃ c, X.env.cells.lookup y.1 = some c := fun y hy e => Iv.ok.has _ (w.free y hy e)
  have bP : s.heap.BuiltinsAt X.mg T := B.tab.bm.keeps Iv.bk
  have hP' : s.heap.get? T = some { cls := .none, data := .fields ps } := Iv.hok T _ hT
  have hclo : cloFrom X.env.cells I.scope.names [] = cloOf I L := by unfold cloOf; rw [B.cells, w.names]
  cases hc : codeAmong pos ps.toList with
  | none =>
    refine zla_makeTail (mg := X.mg) (c := c) (P := T) (ps := ps) (closure_ok hfree) Iv.ok.glob (Iv.mod.glob.keeps Iv.bk) B.code (B.tab.code.keeps Iv.bk) hP' ht hc B.tab.gP bP fun c' ctv h' tk hx hge hlt hrec htb => ?_
    obtain ⟨c2, oc, vs, t, e2, hoc, hdd, hv⟩ := hrec
    cases e2
    have hsz : s.heap.objs.size ≤ h'.objs.size := Nat.le_trans hge (Nat.le_of_lt hlt)
    have nC : H c' = none := Iv.hok.fresh hge
    have I1 := LamX.inv_table (t' := tk) (more := #[rawInt pos.line, rawInt pos.col, .ref c']) (h' := h') Iv hT hx htb hge ⟨oc, vs, t, hoc, hdd, hv⟩
    have nF : upd (upd H T (.tbl (ps ++ #[rawInt pos.line, rawInt pos.col, .ref c']))) c' (LamX.CodeO c' (X.env.qual ++ "<lambda>")) h'.objs.size = none := I1.hok.fresh (Nat.le_refl _)
    have I2 := I1.laid (t' := tk) (a := h'.objs.size) (o := lamO h'.objs.size I L ((X.mg "__name__").getD .none) ctv dV c') (h' := h'.push { cls := .type "function", data := .func (zlaFn "<lambda>" (X.env.qual ++ "<lambda>") I.params I.body I.scope (cloFrom X.env.cells I.scope.names []) ((X.mg "__name__").getD .none) (.ref c') ctv dV) }) (fun b u e => Heap.get?_push_of_some _ e) (Nat.le_refl _)
      (lamO_ok (by rw [hclo, ← w.qual]; exact Heap.get?_push_size _ rfl))
    have cT : c' ≠ T := fun z => by rw [z, hT] at nC; cases nC
    have S1 := S.step (Step.shr (o := LamX.CodeO c' (X.env.qual ++ "<lambda>")) nC (LamX.codeO_ne))
    have x1 : Ex G (upd G c' (LamX.CodeO c' (X.env.qual ++ "<lambda>"))) := Ex.new (S.gh.none nC)
    have S2 := S1.table (pos := pos) (T := T) (ps := ps) (by rw [upd_ne (Ne.symm cT)]; exact hT) (upd_same (H := G))
    have eH : upd (upd H c' (LamX.CodeO c' (X.env.qual ++ "<lambda>"))) T (.tbl (ps ++ #[rawInt pos.line, rawInt pos.col, .ref c'])) = upd (upd H T (.tbl (ps ++ #[rawInt pos.line, rawInt pos.col, .ref c']))) c' (LamX.CodeO c' (X.env.qual ++ "<lambda>")) := by
      funext b
      by_cases h1 : b = T
      · subst h1; rw [upd_same, upd_ne (Ne.symm cT), upd_same]
      · rw [upd_ne h1]
        by_cases h2 : b = c'
        · rw [h2, upd_same, upd_same]
        · rw [upd_ne h2, upd_ne h2, upd_ne h1]
    rw [eH] at S2
    have S3 := S2.step (Step.shr (o := lamO h'.objs.size I L ((X.mg "__name__").getD .none) ctv dV c') nF lamO_nt)
    have x2 : Ex (upd G c' (LamX.CodeO c' (X.env.qual ++ "<lambda>"))) (upd (upd G c' (LamX.CodeO c' (X.env.qual ++ "<lambda>"))) h'.objs.size (lamO h'.objs.size I L ((X.mg "__name__").getD .none) ctv dV c')) := Ex.new (S2.gh.none nF)
    refine ⟨.ref h'.objs.size, _, I2, rfl, q _ _ _ (x1.trans x2) (.lam (vs := []) ⟨⟨_, _, _, c', _, upd_same, x2 _ _ upd_same, hd.mono (x1.trans x2)⟩, fun j v z => by simp at z⟩ rfl fun i v d z => by simp at z) S3⟩
  | some cv =>
    obtain ⟨c', q', e, hcc⟩ := hco pos cv hc
    subst e
    refine zla_makeTailHit (mg := X.mg) (c := c) (P := T) (ps := ps) (closure_ok hfree) Iv.ok.glob (Iv.mod.glob.keeps Iv.bk) B.code (B.tab.code.keeps Iv.bk) hP' ht hc bP fun ctv h' tk hx hsz => ?_
    have I1 := Iv.kept (t' := tk) hx
    have nF : H h'.objs.size = none := I1.hok.fresh (Nat.le_refl _)
    have I2 := I1.laid (t' := tk) (a := h'.objs.size) (o := lamO h'.objs.size I L ((X.mg "__name__").getD .none) ctv dV c') (h' := h'.push { cls := .type "function", data := .func (zlaFn "<lambda>" (X.env.qual ++ "<lambda>") I.params I.body I.scope (cloFrom X.env.cells I.scope.names []) ((X.mg "__name__").getD .none) (.ref c') ctv dV) }) (fun b u e => Heap.get?_push_of_some _ e) (Nat.le_refl _)
      (lamO_ok (by rw [hclo, ← w.qual]; exact Heap.get?_push_size _ rfl))
    have S3 := S.step (Step.shr (o := lamO h'.objs.size I L ((X.mg "__name__").getD .none) ctv dV c') nF lamO_nt)
    have x2 : Ex G (upd G h'.objs.size (lamO h'.objs.size I L ((X.mg "__name__").getD .none) ctv dV c')) := Ex.new (S.gh.none nF)
    refine ⟨.ref h'.objs.size, _, I2, rfl, q _ _ _ x2 (.lam (vs := []) ⟨⟨_, _, _, c', _, upd_same, x2 _ _ hcc, hd.mono x2⟩, fun j v z => by simp at z⟩ rfl fun i v d z => by simp at z) S3⟩
/-- lambda: e -/
theorem qv_lam {I : LamI} {L c T : Addr} {k : Nat} (B : LamB X L c T) (w : LamW X I) (hdf : I.dfl = none) (hdef : defaultsOf I.params X.env = ([], [])) (hkw : I.params.kwonlyargs = []) : QV X W pn (.Lambda I.params I.body I.scope pos) (lamM k I L) := fun Fh P hp => ⟨fun pins s σ H Q Iv ⟨G, env, S, q⟩ => by
  rw [arm_eval_Lambda, hdef]
  show wpAny _ _ (do let dv ← evalAll []; let kdv ← holding dv (evalAllOpt []); makeFunction "<lambda>" (X.env.qual ++ "<lambda>") I.params (.expr I.body) I.scope X.env dv kdv [] pos pos.line) _ _ s
  refine wpAny_bind (wpAny_pure (wpAny_bind (wpAny_holding (wpAny_pure ?_))))
  rw [makeFunction_eq]
  simp only [List.zip_nil_right, List.filterMap_nil, List.isEmpty_nil, if_true, pure_bind]
  exact lam_tail B w Iv S (by unfold DflR; rw [hdf]) q⟩
/-- lambda x=i: e -/
theorem qv_lam1 {I : LamI} {L c T : Addr} {k j : Nat} {i : Int} {p : Pos} (B : LamB X L c T) (w : LamW X I) (hdf : I.dfl = some i) (hdef : defaultsOf I.params X.env = ([eval (.Constant (.int i) j p) X.env], [])) (hkw : I.params.kwonlyargs = []) : QV X W pn (.Lambda I.params I.body I.scope pos) (lamM k I L) := fun Fh P hp => ⟨fun pins s σ H Q Iv ⟨G, env, S, q⟩ => by
  rw [arm_eval_Lambda, hdef]
  show wpAny _ _ (do let dv ← evalAll [eval (.Constant (.int i) j p) X.env]; let kdv ← holding dv (evalAllOpt []); makeFunction "<lambda>" (X.env.qual ++ "<lambda>") I.params (.expr I.body) I.scope X.env dv kdv [] pos pos.line) _ _ s
  refine wpAny_bind (wpAny_evalAll_cons (thn (pe_int.run pins s σ H (fun v H' => v = .int i ∧ H' = H) Iv ⟨rfl, rfl⟩) fun u s1 ⟨v, H1, I1, r1, e1, e2⟩ => wpAny_evalAll_nil ?_))
  subst e1 e2
  obtain ⟨t, rfl⟩ := (show ∃ t, u = Value.int i t from r1)
  refine wpAny_bind (wpAny_holding (wpAny_pure ?_))
  rw [makeFunction_eq]
  simp only [List.zip_nil_right, List.filterMap_nil, List.isEmpty_nil, List.isEmpty_cons, Bool.false_eq_true, if_false, if_true, pure_bind]
  refine wpAny_bind (wpAny_newTextTuple ?_)
  have nT : H1 s1.heap.objs.size = none := I1.hok.fresh (Nat.le_refl _)
  have I2 : Inv X pins σ (upd H1 s1.heap.objs.size (.tup [.int i])) { s1 with heap := s1.heap.push { cls := .type "tuple", data := .seq [Value.int i t].toArray } } := I1.laid (t' := s1.toks) (fun b u e => Heap.get?_push_of_some _ e) (Nat.le_refl _) ⟨by rw [sizeLine_eq]; exact Nat.le_of_ble_eq_true rfl, [Value.int i t], .cons ⟨t, rfl⟩ .nil, ⟨_, Heap.get?_push_size _ rfl, rfl, _, rfl⟩⟩
  have S2 := S.step (Step.shr (o := .tup [.int i]) nT)
  have x2 : Ex G (upd G s1.heap.objs.size (.tup [.int i])) := Ex.new (S.gh.none nT)
  exact lam_tail B w I2 S2 (by unfold DflR; rw [hdf]; exact ⟨_, rfl, upd_same⟩) fun v G' H' x d S' => q v G' H' (x2.trans x) d S'⟩
end
-- fast: lamM
end Z
/-! Z: lambdas called -/
namespace Z
open PySem PySem.Spec PyProof.Rows L2
/-! ### data without lambdas -/
mutual
def noLam : D → Bool
  | .tup xs => noLams xs
  | .lst xs => noLams xs
  | .fls xs => noLams xs
  | .dct kvs => noLamK kvs
  | .obj _ fs => noLamF fs
  | .lam _ _ _ _ => false
  | .non => true
  | .bl _ => true
  | .int _ => true
  | .str _ => true
  | .cls _ => true
def noLams : List D → Bool
  | [] => true
  | x :: xs => noLam x && noLams xs
def noLamK : List (NestedKey × D) → Bool
  | [] => true
  | (_, x) :: xs => noLam x && noLamK xs
def noLamF : List (Str × D) → Bool
  | [] => true
  | (_, x) :: xs => noLam x && noLamF xs
end
theorem noLams_get : ∀ {xs : List D} {i : Nat} {d : D}, noLams xs = true → xs[i]? = some d → noLam d = true
  | [], i, d, h, e => by simp at e
  | x :: xs, 0, d, h, e => by simp at e; subst e; rw [noLams] at h; exact (Bool.and_eq_true_iff.mp h).1
  | x :: xs, i + 1, d, h, e => noLams_get (i := i) (by rw [noLams] at h; exact (Bool.and_eq_true_iff.mp h).2) (by simpa using e)
theorem noLamK_get : ∀ {xs : List (NestedKey × D)} {i : Nat} {d : NestedKey × D}, noLamK xs = true → xs[i]? = some d → noLam d.2 = true
  | [], i, d, h, e => by simp at e
  | (k, x) :: xs, 0, d, h, e => by simp at e; subst e; rw [noLamK] at h; exact (Bool.and_eq_true_iff.mp h).1
  | (k, x) :: xs, i + 1, d, h, e => noLamK_get (i := i) (by rw [noLamK] at h; exact (Bool.and_eq_true_iff.mp h).2) (by simpa using e)
theorem noLamF_get : ∀ {xs : List (Str × D)} {i : Nat} {d : Str × D}, noLamF xs = true → xs[i]? = some d → noLam d.2 = true
  | [], i, d, h, e => by simp at e
  | (k, x) :: xs, 0, d, h, e => by simp at e; subst e; rw [noLamF] at h; exact (Bool.and_eq_true_iff.mp h).1
  | (k, x) :: xs, i + 1, d, h, e => noLamF_get (i := i) (by rw [noLamF] at h; exact (Bool.and_eq_true_iff.mp h).2) (by simpa using e)
def noLamR : RV → Bool
  | .sh d => noLam d
  | .ol ds => noLams ds
  | .od kvs => noLamK kvs
  | .oo _ fs => noLamF fs
/-! ### a heap without some cells, and with them -/
open Classical in
noncomputable def But (C : Addr → Prop) (G : Hp) : Hp := fun b => if C b then none else G b
open Classical in
noncomputable def Plus (C : Addr → Prop) (G0 G : Hp) : Hp := fun b => if C b then G0 b else G b
def Cells (C : Addr → Prop) (G : Hp) : Prop := ∀ c, C c → ∃ o, G c = some (cellO c o) ∧ o.data ≠ .freed
mutual
theorem noLam_key : ∀ k : NestedKey, noLam (nkD k) = true
  | .none => by rw [nkD, noLam]
  | .num _ => by rw [nkD, noLam]
  | .text _ => by rw [nkD, noLam]
  | .tup ks => by rw [nkD, noLam]; exact noLam_keys ks
theorem noLam_keys : ∀ ks : List NestedKey, noLams (nkDs ks) = true
  | [] => by rw [nkDs, noLams]
  | k :: ks => by rw [nkDs, noLams, noLam_key k, noLam_keys ks]; rfl
end
section
variable {C : Addr → Prop} {G G0 G' H H' : Hp} {a b : Addr} {o : HO} {K : PySem.W.Frag} {mg : Str → Option Value}
theorem but_in (h : C b) : But C G b = none := by unfold But; rw [if_pos h]
theorem but_out (h : ¬ C b) : But C G b = G b := by unfold But; rw [if_neg h]
theorem but_some (h : But C G b = some o) : ¬ C b ∧ G b = some o := by
  by_cases z : C b
  · rw [but_in z] at h; cases h
  · rw [but_out z] at h; exact ⟨z, h⟩
theorem plus_in (h : C b) : Plus C G0 G b = G0 b := by unfold Plus; rw [if_pos h]
theorem plus_out (h : ¬ C b) : Plus C G0 G b = G b := by unfold Plus; rw [if_neg h]
def NC (o : HO) : Prop := ∀ b ob, ob.data ≠ .freed → o ≠ .ext fun h => h.get? b = some ob
theorem NC.of {o : HO} (h : ∀ φ, o ≠ .ext φ) : NC o := fun _ _ _ => h _
theorem dcO_nc {a : Addr} {es : List (NestedKey × Addr × V)} : NC (dcO a es) := fun _ _ n => dcO_ne n
theorem Cells.out (h : Cells C G) (e : G b = some o) (n : NC o) : ¬ C b := fun z => by
  obtain ⟨ob, q, nf⟩ := h b z
  rw [e] at q; cases q; exact n _ _ nf rfl
theorem But.ex : Ex (But C G) G := fun b o h => (but_some h).2
theorem but_rd (hC : Cells C G) {u : HO} (n : NC u) (h : Rd G a u) : Rd (But C G) a u := by
  rcases h with h | ⟨o, h⟩
  · exact .inl (by rw [but_out (hC.out h n)]; exact h)
  · exact .inr ⟨o, by rw [but_out (hC.out h (.of nofun))]; exact h⟩
theorem but_sqT (hC : Cells C G) {xs : List V} (h : SqT K G a xs) : SqT K (But C G) a xs := by
  rcases h with h | h
  · exact .inl (but_rd hC (.of nofun) h)
  · exact .inr h
theorem but_sqL (hC : Cells C G) {xs : List V} (h : SqL K G a xs) : SqL K (But C G) a xs := by
  rcases h with h | h
  · exact .inl (but_rd hC (.of nofun) h)
  · exact .inr h
theorem Den.but (hC : Cells C G) {v : V} {d : D} (h : Den K mg G v d) : noLam d = true → Den K mg (But C G) v d := by
  induction h with
  | non => exact fun _ => .non
  | bl b => exact fun _ => .bl b
  | int i => exact fun _ => .int i
  | str x => exact fun _ => .str x
  | tup h l _ ih => exact fun m => .tup (but_sqT hC h) l fun i v d a b => ih i v d a b (noLams_get (by rw [noLam] at m; exact m) b)
  | lst h l _ ih => exact fun m => .lst (by rw [but_out (hC.out h (.of nofun))]; exact h) l fun i v d a b => ih i v d a b (noLams_get (by rw [noLam] at m; exact m) b)
  | fls h l _ ih => exact fun m => .fls (but_sqL hC h) l fun i v d a b => ih i v d a b (noLams_get (by rw [noLam] at m; exact m) b)
  | dct h l _ ih => exact fun m => .dct (by rw [but_out (hC.out h (.of nofun))]; exact h) l fun i p q a b => ih i p q a b (noLamK_get (by rw [noLam] at m; exact m) b)
  | dcn h l _ _ ik ih => exact fun m => .dcn (by rw [but_out (hC.out h dcO_nc)]; exact h) l (fun i p a => ik i p a (noLam_key _)) fun i p q a b => ih i p q a b (noLamK_get (by rw [noLam] at m; exact m) b)
  | obj m0 h l _ ih => exact fun m => .obj m0 (by rw [but_out (hC.out h (.of nofun))]; exact h) l fun i p q a b => ih i p q a b (noLamF_get (by rw [noLam] at m; exact m) b)
  | cls m => exact fun _ => .cls m
  | lam _ _ _ _ => exact fun m => by rw [noLam] at m; cases m
theorem DenL.but (hC : Cells C G) {vs : List V} {ds : List D} (h : DenL K mg G vs ds) (m : noLams ds = true) : DenL K mg (But C G) vs ds := ⟨h.1, fun i v d a b => (h.2 i v d a b).but hC (noLams_get m b)⟩
theorem ObjR.but (hC : Cells C G) {a : Addr} {o : HO} {r : RV} (h : ObjR K mg G a o r) (m : noLamR r = true) : ObjR K mg (But C G) a o r := by
  cases o <;> cases r <;> first | exact h.elim | skip
  · exact DenL.but hC h m
  · exact ⟨h.1, fun i p q a b => (h.2 i p q a b).but hC (noLamK_get m b)⟩
  · exact ⟨h.1, h.2.1, fun i p q a b => (h.2.2 i p q a b).but hC (noLamF_get m b)⟩
  · obtain ⟨es, h1, h2⟩ := h
    exact ⟨es, h1, h2.1, fun i p a => (h2.2.1 i p a).but hC (noLam_key _), fun i p q a b => (h2.2.2 i p q a b).but hC (noLamK_get m b)⟩
theorem View.but (hC : Cells C G) (ex : Ex G H) {v : V} {r : RV} (h : View K mg G H v r) (m : noLamR r = true) : View K mg (But C G) (But C H) v r := by
  cases hr : r.own with
  | false =>
    cases r with
    | sh d => exact Den.but hC h m
    | _ => cases hr
  | true =>
    obtain ⟨a, o, rfl, h1, h2, h3⟩ := h.own_inv hr
    have na : ¬ C a := fun z => by obtain ⟨ob, q, _⟩ := hC a z; rw [h2] at q; cases q
    exact View.of_own (by rw [but_out na]; exact h1) (by rw [but_out na]; exact h2) (h3.but hC m)
/-- a code object is no cell -/
theorem code_nocell {P : Program} {w : World} {h : Heap} (ok : HOk P w H h) (ex : Ex G H) (hC : ∀ c, C c → ∃ ob, G c = some (cellO c ob) ∧ ∃ v, ob.data = .cell v) {q : Str} (e : G a = some (LamX.CodeO a q)) : ¬ C a := fun z => by
  obtain ⟨ob, k1, v, k2⟩ := hC a z
  have x1 : ObjOk P w H h a (cellO a ob) := ok a _ (ex _ _ k1)
  have x2 : ObjOk P w H h a (LamX.CodeO a q) := ok a _ (ex _ _ e)
  have y1 : h.get? a = some ob := x1.1
  obtain ⟨⟨oc, vs, t, y2, y3, _⟩, _⟩ := x2
  rw [y1] at y2; cases y2; rw [k2] at y3; cases y3
theorem TabInv.but {P : Program} {w : World} {h : Heap} (t : TabInv G H) (ok : HOk P w H h) (ex : Ex G H) (hC : ∀ c, C c → ∃ ob, G c = some (cellO c ob) ∧ ∃ v, ob.data = .cell v) : TabInv (But C G) (But C H) := ⟨fun a o e => t.nt a o (but_some e).2, fun P' ps e => by
  obtain ⟨t1, t2⟩ := t.on P' ps (but_some e).2
  refine ⟨t1, fun pos cv z => ?_⟩
  obtain ⟨c, q, e1, e2⟩ := t2 pos cv z
  exact ⟨c, q, e1, by rw [but_out (code_nocell ok ex hC e2)]; exact e2⟩⟩
end
/-! ### the lambda's own context -/
def parN (I : LamI) : List Str := match I.dfl with
  | none => []
  | some _ => (I.params.args.map (·.arg))
def dflR (I : LamI) : List RV := match I.dfl with
  | none => []
  | some i => [.sh (.int i)]
def lamEnvC (qn : Str) (I : LamI) (L f c' N0 : Addr) : Env := PySem.W.envX qn I.scope N0 f (.ref c') (cloOf I L)
def lamC (P : Program) (w : World) (K : PySem.W.Frag) (mg : Str → Option Value) (base : Heap) (qn : Str) (I : LamI) (L f c' : Addr) (A : Around) (outer : List Env) (s : Shared) (H : Hp) (E : XK) : Cx where
  prog := P
  w := w
  K := K
  mg := mg
  base := base
  A := A.deeper (lamEnvC qn I L f c' s.heap.objs.size)
  N := fre I ++ parN I
  s_0 := s
  H_0 := H
  env := lamEnvC qn I L f c' s.heap.objs.size
  outer := outer
  stack := lamEnvC qn I L f c' s.heap.objs.size :: outer
  ex := []
  fn := fun _ => false
  calm := true
  pn := []
  xe := fun e s' => wpAny (model P w) (A.deeper (lamEnvC qn I L f c' s.heap.objs.size)) (leaving (lamEnvC qn I L f c' s.heap.objs.size) e) (fun _ s'' => L2.CX P w outer H s E e s'') (fun e' s'' => L2.CX P w outer H s E e' s'') s'
/-- how a lambda is written -/
structure LamSc (I : LamI) : Prop where
  kind : I.scope.kind = .function
  co : I.scope.isCoroutine = false
  gen : I.scope.isGenerator = false
  nocell : ∀ y ∈ I.scope.names, y.2 ≠ .cell
  cap : ∀ y ∈ I.scope.names, y.2 = .free → I.pnames.lookup y.1 = some .cell
  uniq : ∀ y ∈ I.scope.names, y.2 = .free → I.scope.names.lookup y.1 = some .free
  par : ∀ x ∈ parN I, I.scope.names.lookup x = some .local
  one : (parN I).length = (dflR I).length
  bind0 : I.dfl = none → ∀ (L : Addr) (pm cd ct : Value), bindArgs (lamFn I L pm cd ct .none) ⟨[], []⟩ = pure []
  bind1 : ∀ i, I.dfl = some i → ∀ (L t : Addr) (pm cd ct u : Value), ∃ k, bindArgs (lamFn I L pm cd ct (.ref t)) ⟨[], []⟩ = seqItems? (.ref t) >>= k ∧ k (some #[u]) = pure ((parN I).zip [u])
theorem cellsFrom_apart : ∀ (names : List (Str × NameKind)) (n : Nat) (acc : List (Str × Addr)), (acc.Pairwise fun x y => x.2 ≠ y.2) → (∀ p ∈ acc, p.2 < n) → ((cellsFrom n names acc).Pairwise fun x y => x.2 ≠ y.2)
  | [], n, acc, h, _ => h
  | (m, k) :: r, n, acc, h, hl => by
    unfold cellsFrom
    split
    · refine cellsFrom_apart r (n + 1) _ (List.pairwise_cons.mpr ⟨fun p hp => ?_, h⟩) fun p hp => ?_
      · exact Ne.symm (Nat.ne_of_lt (hl p hp))
      · rcases List.mem_cons.mp hp with e | hp
        · subst e; exact Nat.lt_succ_self _
        · exact Nat.lt_succ_of_lt (hl p hp)
    · exact cellsFrom_apart r n acc h hl
theorem clo_mem {I : LamI} {L : Addr} {x : Str} {c : Addr} (h : (cloOf I L).lookup x = some c) : (x, NameKind.free) ∈ I.scope.names ∧ c = ((cellsFrom (L + 1) I.pnames []).lookup x).getD 0 := by
  rcases cloFrom_mem (PySem.mem_of_lookup h) with z | z
  · cases z
  · exact z
theorem clo_inj {I : LamI} {L : Addr} (S : LamSc I) {x y : Str} {c : Addr} (h1 : (cloOf I L).lookup x = some c) (h2 : (cloOf I L).lookup y = some c) : x = y := by
  obtain ⟨m1, e1⟩ := clo_mem h1
  obtain ⟨m2, e2⟩ := clo_mem h2
  obtain ⟨c1, k1⟩ := cell_has (sc := { I.scope with names := I.pnames }) (n := L + 1) (S.cap _ m1 rfl)
  obtain ⟨c2, k2⟩ := cell_has (sc := { I.scope with names := I.pnames }) (n := L + 1) (S.cap _ m2 rfl)
  have k1 : (cellsFrom (L + 1) I.pnames []).lookup x = some c1 := k1
  have k2 : (cellsFrom (L + 1) I.pnames []).lookup y = some c2 := k2
  rw [k1] at e1; rw [k2] at e2
  have e1 : c = c1 := e1
  have e2 : c = c2 := e2
  subst e1
  subst e2
  exact name_of_addr (cellsFrom_apart I.pnames (L + 1) [] .nil (fun p hp => by cases hp)) (PySem.mem_of_lookup k1) (PySem.mem_of_lookup k2)
theorem clo_has {I : LamI} {L : Addr} {x : Str} (h : (x, NameKind.free) ∈ I.scope.names) : ∃ c, (cloOf I L).lookup x = some c := mem_lookup (cloFrom_has (cells := cellsFrom (L + 1) I.pnames []) (acc := []) h)
theorem fre_mem {I : LamI} {x : Str} : x ∈ fre I ↔ (x, NameKind.free) ∈ I.scope.names := by
  unfold fre
  constructor
  · intro h
    obtain ⟨p, hp, e⟩ := List.mem_map.mp h
    obtain ⟨h1, h2⟩ := List.mem_filter.mp hp
    obtain ⟨n, k⟩ := p
    have h2 : k = .free := by simpa using h2
    subst h2; subst e; exact h1
  · intro h
    exact List.mem_map.mpr ⟨(x, .free), List.mem_filter.mpr ⟨h, rfl⟩, rfl⟩
def CC (I : LamI) (L : Addr) : Addr → Prop := fun b => ∃ x, (cloOf I L).lookup x = some b
/-- every cell of the lambda is told -/
theorem LamR.all {G : Hp} {f : Addr} {I : LamI} {L : Addr} {vs : List V} (h : LamR G f I L vs) (hl : vs.length = (fre I).length) {x : Str} {c : Addr} (e : (cloOf I L).lookup x = some c) : ∃ (j : Nat) (v : V) (o : Obj) (u : Value), (fre I)[j]? = some x ∧ vs[j]? = some v ∧ G c = some (cellO c o) ∧ o.data = .cell (some u) ∧ RelV v u := by
  obtain ⟨m, _⟩ := clo_mem e
  obtain ⟨j, hj, ej⟩ := List.mem_iff_getElem.mp (fre_mem.mpr m)
  have hjv : j < vs.length := by rw [hl]; exact hj
  obtain ⟨x', c', o, u, k1, k2, k3, k4, k5⟩ := h.cells j vs[j] (by simp [hjv])
  have e1 : (fre I)[j]? = some x := by rw [List.getElem?_eq_getElem hj, ej]
  rw [e1] at k1; cases k1
  rw [e] at k2; cases k2
  exact ⟨j, vs[j], o, u, e1, by simp [hjv], k3, k4, k5⟩
section
variable {P : Program} {w : World} {K : PySem.W.Frag} {mg : Str → Option Value} {base : Heap}
theorem env0_but {A : Around} {outer : List Env} {s : Shared} {H : Hp} {C : Addr → Prop} (hC : Cells C H) (e0 : Env0 P w K mg base A outer s H) : Env0 P w K mg base A outer s (But C H) := by
  have bn : ∀ {b : Addr}, H b = none → But C H b = none := fun {b} h => by
    by_cases z : C b
    · exact but_in z
    · rw [but_out z]; exact h
  refine ⟨e0.frames, e0.mod, fun b o e => ⟨(e0.bs b o e).1, bn (e0.bs b o e).2⟩, e0.bsz, e0.funs, fun b hb => bn (e0.frf b hb), fun b o e => ?_, e0.bare⟩
  exact (e0.hok b o (but_some e).2).stay (fun c v _ q => q) (fun c q => by rw [but_out (hC.out q (.of nofun))]; exact q) (fun c xs q => by rw [but_out (hC.out q (.of nofun))]; exact q)
theorem lam_start {qn : Str} {I : LamI} {L f c' : Addr} {A : Around} {outer : List Env} {s : Shared} {H : Hp} {E : XK} {vs ws : List V} {us : List Value} {h₁ : Heap} {tk : Nat} (S : LamSc I) (hd : A.handled = none) (e0 : Env0 P w K mg base A outer s (But (CC I L) H))
    (hl : vs.length = (fre I).length) (hw : ws.length = (parN I).length) (rw_ : Vals ws us) (nd : (parN I).Nodup) (hcell : ∀ x c, (cloOf I L).lookup x = some c → ∃ (j : Nat) (v : V) (o : Obj) (u : Value), (fre I)[j]? = some x ∧ vs[j]? = some v ∧ s.heap.get? c = some o ∧ o.data = .cell (some u) ∧ RelV v u)
    (ndf : (fre I).Nodup) (hns : h₁.Ns s.heap.objs.size fun y => ((parN I).zip us).reverse.lookup y) (kp : ∀ b o, s.heap.get? b = some o → h₁.get? b = some o) :
    Inv (lamC P w K mg base qn I L f c' A outer s (But (CC I L) H) E) [] (L2.start (fre I ++ parN I) (vs ++ ws)) (But (CC I L) H) { s with heap := h₁, toks := tk } := by
  have noA : ∀ b : Addr, b ∉ (lamC P w K mg base qn I L f c' A outer s (But (CC I L) H) E).ex := fun b z => absurd (show b ∈ ([] : List Addr) from z) (by simp)
  refine ⟨⟨e0.mod, S.kind, rfl, rfl, Nat.le_refl _, fun y z c h1 h2 => clo_inj S h1 h2, fun y wy => ?_, fun y c z _ => ?_, fun _ => hd, Around.frames_deeper e0.frames, .inr ⟨rfl, rfl⟩, fun b z => absurd z (noA b), e0.bs, e0.bsz, fun b _ _ => noA b, fun b z => absurd z (noA b), e0.funs, e0.frf⟩,
    rfl, e0.bare, Un.kept kp, ⟨_, hns, fun i y v h1 h2 h3 => ?_⟩, fun y c h => ?_, e0.hok.fresh (Nat.le_refl _), fun y c h => but_in ⟨y, h⟩, fun p hp => absurd (show p ∈ ([] : List (Addr × Obj)) from hp) (by simp), e0.hok.kept kp, ?_⟩
  · have wy : I.scope.names.lookup y = some .cell ∨ I.scope.names.lookup y = some .free := wy
    rcases wy with wy | wy
    · exact absurd rfl (S.nocell _ (PySem.mem_of_lookup wy))
    · exact clo_has (PySem.mem_of_lookup wy)
  · cases (show false = true from z)
  · have wi : i < (vs ++ ws).length := by
      unfold L2.start at h2
      by_cases wi : i < (vs ++ ws).length
      · exact wi
      · rw [List.getElem?_append_right (by simpa using wi), List.getElem?_replicate] at h2
        split at h2 <;> cases h2
    have wa : (vs ++ ws)[i]? = some v := by
      unfold L2.start at h2
      rw [List.getElem?_append_left (by simpa using wi), List.getElem?_map] at h2
      cases e' : (vs ++ ws)[i]? with
      | none => rw [e'] at h2; cases h2
      | some a => rw [e'] at h2; cases h2; rfl
    have h1 : (fre I ++ parN I)[i]? = some y := h1
    by_cases hif : i < (fre I).length
    · rw [List.getElem?_append_left hif] at h1
      rw [List.getElem?_append_left (by rw [hl]; exact hif)] at wa
      have hm := fre_mem.mp (List.mem_of_getElem? h1)
      obtain ⟨c, hc⟩ := clo_has (L := L) hm
      obtain ⟨j, v', o, u, k1, k2, k3, k4, k5⟩ := hcell y c hc
      have := nodup_ix ndf h1 k1
      subst this
      rw [wa] at k2; cases k2
      refine ⟨u, k5, .inr ⟨.inr ?_, c, hc, o, kp _ _ k3, k4⟩⟩
      exact S.uniq _ hm rfl
    · rw [List.getElem?_append_right (by omega)] at h1
      rw [List.getElem?_append_right (by rw [hl]; omega), hl] at wa
      obtain ⟨u, hu, rv⟩ := rw_.get wa
      exact ⟨u, rv, .inl ⟨S.par y (List.mem_of_getElem? h1), rev_lookup nd h1 hu⟩⟩
  · obtain ⟨j, v, o, u, k1, k2, k3, k4, k5⟩ := hcell y c h
    exact ⟨some u, o, kp _ _ k3, k4⟩
  · show (L2.start (fre I ++ parN I) (vs ++ ws)).length = (fre I ++ parN I).length
    unfold L2.start
    rw [List.length_append, List.length_map, List.length_replicate, List.length_append, List.length_append]; omega
end
end Z
/-! Z: x() where x is a lambda -/
namespace Z
open PySem PySem.Spec PyProof.Rows L2
section
variable {prog : Program} {w : World} {A : Around} {R : Result → Shared → Prop} {s : Shared}
theorem zla_callFunE {qn : Str} {a : Addr} {args : Args} {o : Obj} {fd : FuncData} {body : Expr} (wr : A.depth < recursionLimit)
    (wo : s.heap.get? a = some o)
    (wd : o.data = .func fd) (wco : fd.scope.isCoroutine = false) (wge : fd.scope.isGenerator = false) (wbo : fd.body = .expr body) (wcd : s.heap.CodeRec fd.code qn)
    (wh : wpAny (model prog w) A.in1 (bindArgs fd args) (fun bn sa =>
      wpAny (model prog w) A.in1 (newFunctionEnv fd.scope fd.globals fd.closure bn (qn ++ ".<locals>.") (some a) fd.code none fd.builtins)
        (fun ev sb => sb.heap.NoLimit ∧ codeAny (model prog w) A (.expr body ev) R sb) (fun e s' => R (.error e) s') sa) (fun e s' => R (.error e) s') s) :
    codeAny (model prog w) A (.call (.ref a) args) R s := by
  refine codeAny_of_tree ?_
  show wpAny _ A.in1 (callAny (.ref a) args) _ _ s
  simp only [callAny]
  refine wpAny_bind (wpAny_load wo ?_)
  obtain ⟨c, oc, vs, tz, hc, woc, wdc, wq⟩ := wcd
  simp only [wd, callFunction, wco, wge, wbo, hc]
  rw [hc] at wh
  refine wpAny_bind (m := field (.ref c) 1) (wpAny_field woc wdc wq (wpAny_bind (wpAny_pure ?_)))
  exact wpAny_bind (wpAny_mono wh (fun bn sa ha => wpAny_bind (wpAny_mono ha (fun ev sb hb2 => wpAny_bind (wpAny_enterFrame hb2.1 wr
    (wpAny_pure (And.intro rfl hb2.2)))) fun _ _ h' => h')) fun _ _ h' => h')
end
def lamRun (m : M RV) (rs : List RV) : FRes := match m (rs.map some) with
  | .ok r _ => .ok r []
  | .err x _ => .err x []
  | .stk => .stk
abbrev LamT := Nat → LamI → List D → FRes
/-- the lambdas of a law: what each is worth -/
def LamOk (P : Program) (w : World) (K : PySem.W.Frag) (mg : Str → Option Value) (base : Heap) (kk : Nat) (lt : LamT) : Prop := ∀ (k : Nat) (I : LamI) (ds : List D), lt k I ds = .stk ∨ ∃ m, lt k I ds = lamRun m (ds.map .sh ++ dflR I) ∧ ds.length = (fre I).length ∧ noLams ds = true ∧ LamSc I ∧ (fre I).Nodup ∧ (parN I).Nodup ∧
  ∀ (qn : Str) (L f c' : Addr) (A : Around) (outer : List Env) (s : Shared) (H : Hp) (E : XK), Room kk (A.deeper (lamEnvC qn I L f c' s.heap.objs.size)) → QV (lamC P w K mg base qn I L f c' A outer s H E) (fun cls d _ H => E cls d H) [] I.body m
def lcallM (lt : LamT) (i : Nat) : M RV := fun env => match slotOf env i with
  | some (.sh (.lam k I _ ds)) => (match lt k I ds with
    | .ok r _ => .ok r env
    | .err x _ => .err x env
    | .stk => .stk)
  | _ => .stk
theorem pins_sh : ∀ {k : Nat} {vs : List V} {rs : List RV}, (∀ r ∈ rs, r.own = false) → pinsOf k vs rs = []
  | k, [], rs, _ => by unfold pinsOf; rfl
  | k, v :: vs, [], _ => by unfold pinsOf; rfl
  | k, v :: vs, r :: rs, h => by
    unfold pinsOf
    rw [if_neg (by rw [h r List.mem_cons_self]; exact Bool.false_ne_true)]
    exact pins_sh fun r' hr => h r' (List.mem_cons_of_mem _ hr)
theorem ownAt_sh {vs : List V} {rs : List RV} {a : Addr} (h : ∀ r ∈ rs, r.own = false) : ¬ OwnAt vs rs a := fun ⟨j, r, h1, h2, _⟩ => by
  rw [h r (List.mem_of_getElem? h1)] at h2; cases h2
/-- the lambda's end, as its caller sees it -/
theorem lam_back {K : PySem.W.Frag} {mg : Str → Option Value} {C : Addr → Prop} {G H G' H' : Hp} {vs : List V} {rs : List RV} {σ' : L2.St} {e : DEnv} {T : List Addr} (hsh : ∀ r ∈ rs, r.own = false)
    (gh : GH G H) (hC : ∀ c, C c → ∃ ob, G c = some (cellO c ob) ∧ ∃ v, ob.data = .cell v) (hn : ∀ c, C c → H' c = none) (ex' : Ex (But C G) G') (S : SRel K mg (foreign (But C G) (But C H) vs rs) [] G' H' σ' e T) :
    Back K mg G H [] [] (Plus C G G') (Plus C H H') [] := by
  have cel : Cells C G := fun c z => (hC c z).imp fun o q => ⟨q.1, fun y => by obtain ⟨v, hv⟩ := q.2; rw [hv] at y; cases y⟩
  have ne : ∀ {b : Addr} {o : HO}, G' b = some o → ¬ C b := fun {b o} h z => by
    have := S.gh _ _ h; rw [hn b z] at this; cases this
  have nh : ∀ {b : Addr} {o : HO}, H' b = some o → ¬ C b := fun {b o} h z => by rw [hn b z] at h; cases h
  have exG : Ex G (Plus C G G') := fun b o h => by
    by_cases z : C b
    · rw [plus_in z]; exact h
    · rw [plus_out z]; exact ex' _ _ (by rw [but_out z]; exact h)
  have exG' : Ex G' (Plus C G G') := fun b o h => by rw [plus_out (ne h)]; exact h
  refine ⟨exG, ⟨fun b o h => ?_, ⟨fun a o h => ?_, fun P' ps h => ?_⟩⟩, fun b o h1 h2 _ => ?_, .nil, fun j r' h => by simp at h⟩
  · by_cases z : C b
    · rw [plus_in z] at h ⊢; exact gh.1 _ _ h
    · rw [plus_out z] at h ⊢; exact S.gh _ _ h
  · by_cases z : C a
    · rw [plus_in z] at h; exact gh.2.nt a o h
    · rw [plus_out z] at h; exact S.fh.tb.nt a o h
  · have nz : ¬ C P' := fun z => by
      rw [plus_in z] at h
      obtain ⟨ob, k1, _⟩ := hC P' z
      rw [gh.1 _ _ k1] at h; cases h
    rw [plus_out nz] at h
    obtain ⟨t1, t2⟩ := S.fh.tb.on _ _ h
    exact ⟨t1, fun pos cv z => by
      obtain ⟨c, q, z1, z2⟩ := t2 pos cv z
      exact ⟨c, q, z1, exG' _ _ z2⟩⟩
  · have nz : ¬ C b := fun z => by
      obtain ⟨ob, k1, _⟩ := hC b z
      rw [h2] at k1; cases k1
    have hf := foreign_at (rs := rs) (vs := vs) (G := But C G) (H := But C H) (b := b) (o := o) (by rw [but_out nz]; exact h1) (by rw [but_out nz]; exact h2) (ownAt_sh hsh)
    rw [plus_out nz, plus_out nz]
    refine ⟨?_, S.dj b _ hf⟩
    have z := S.fh.on b _ hf
    cases o <;> exact z
theorem lam_un {C : Addr → Prop} {fs : List Addr} {H H' : Hp} {h h' : Heap} (cel : Cells C H) (un : Un fs [] (But C H) H' h h') : Un fs [] H (Plus C H H') h h' := by
  have bn : ∀ {b : Addr}, H b = none → ¬ C b ∧ But C H b = none := fun {b} h => by
    have z : ¬ C b := fun z => by obtain ⟨o, q, _⟩ := cel b z; rw [h] at q; cases q
    exact ⟨z, by rw [but_out z]; exact h⟩
  have bo : ∀ {b : Addr} {o : HO}, H b = some o → NC o → ¬ C b ∧ But C H b = some o := fun {b o} h n => by
    have z := cel.out h n
    exact ⟨z, by rw [but_out z]; exact h⟩
  exact ⟨fun b o e n hb hx => un.keep b o e (bn n).2 hb hx, fun b o e n hb hx => un.slot b o e (bn n).2 hb hx, fun b o e n hx => by rw [plus_out (bn n).1]; exact un.free b o e (bn n).2 hx, un.there,
    fun b xs q => by rw [plus_out (bo q (.of nofun)).1]; exact un.tups b xs (bo q (.of nofun)).2, fun b o u q => by rw [plus_out (bo q (.of nofun)).1]; exact un.frzs b o u (bo q (.of nofun)).2,
    fun b ps q => by rw [plus_out (bo q (.of nofun)).1]; exact un.tbls b ps (bo q (.of nofun)).2⟩
theorem lam_hok {P : Program} {w : World} {C : Addr → Prop} {H H' : Hp} {h' : Heap} (hn : ∀ c, C c → H' c = none) (hk : ∀ c, C c → ∃ ob, H c = some (cellO c ob) ∧ h'.get? c = some ob) (ok : HOk P w H' h') : HOk P w (Plus C H H') h' := fun b o e => by
  by_cases z : C b
  · obtain ⟨ob, k1, k2⟩ := hk b z
    rw [plus_in z, k1] at e; cases e
    exact ⟨k2, ⟨_, k2⟩, fun h1 h2 y k => k _ y⟩
  · rw [plus_out z] at e
    have nz : ∀ {c : Addr} {u : HO}, H' c = some u → ¬ C c := fun {c u} q y => by rw [hn c y] at q; cases q
    exact (ok b o e).stay (fun _ _ _ q => q) (fun c q => by rw [plus_out (nz q)]; exact q) (fun c xs q => by rw [plus_out (nz q)]; exact q)
theorem lam_cx {P : Program} {w : World} {C : Addr → Prop} {outer : List Env} {H : Hp} {s s' : Shared} {E E' : XK} {u : Value} (hk : ∀ c, C c → ∃ ob, H c = some (cellO c ob) ∧ s.heap.get? c = some ob) (nfr : ∀ c, C c → c ∉ frs outer)
    (h : L2.CX P w outer (But C H) s E u s') (hE : ∀ cls d H', (∀ c, C c → H' c = none) → E cls d H' → E' cls d (Plus C H H')) : L2.CX P w outer H s E' u s' := by
  obtain ⟨a, B, H', cls, d, rfl, fl, ok, ub, na, os, ag, he⟩ := h
  have cel : Cells C H := fun c z => (hk c z).imp fun o q => ⟨q.1, get_nf q.2⟩
  have hn : ∀ c, C c → H' c = none := fun c z => by
    obtain ⟨ob, _, k⟩ := hk c z
    exact ub.free c ob k (but_in z)
  have hB : ∀ c, C c → ∃ ob, H c = some (cellO c ob) ∧ B.get? c = some ob := fun c z => by
    obtain ⟨ob, k1, k2⟩ := hk c z
    exact ⟨ob, k1, ub.keep c ob k2 (but_in z) (nfr c z)⟩
  have bn : ∀ {b : Addr}, H b = none → ¬ C b ∧ But C H b = none := fun {b} h => by
    have z : ¬ C b := fun z => by obtain ⟨o, q, _⟩ := cel b z; rw [h] at q; cases q
    exact ⟨z, by rw [but_out z]; exact h⟩
  have bo : ∀ {b : Addr} {o : HO}, H b = some o → NC o → ¬ C b ∧ But C H b = some o := fun {b o} h n => by
    have z := cel.out h n
    exact ⟨z, by rw [but_out z]; exact h⟩
  refine ⟨a, B, Plus C H H', cls, d, rfl, fl, lam_hok hn hB ok, ⟨fun b o e n hb => ub.keep b o e (bn n).2 hb, ub.slot, fun b o e n => by rw [plus_out (bn n).1]; exact ub.free b o e (bn n).2, ub.there,
    fun b xs q => by rw [plus_out (bo q (.of nofun)).1]; exact ub.tups b xs (bo q (.of nofun)).2, fun b o u q => by rw [plus_out (bo q (.of nofun)).1]; exact ub.frzs b o u (bo q (.of nofun)).2,
    fun b ps q => by rw [plus_out (bo q (.of nofun)).1]; exact ub.tbls b ps (bo q (.of nofun)).2⟩, ?_, os, ag, hE cls d H' hn he⟩
  have nz : ¬ C a := fun z => by
    obtain ⟨ob, _, k⟩ := hB a z
    rw [fl.2.1] at k; cases k
  rw [plus_out nz]; exact na
section
variable {X : Cx} {W : WX} {pn : List Nat}
theorem qv_lcall {lt : LamT} {kk i : Nat} {a : Str} {p1 p2 : Pos} (LO : LamOk X.prog X.w X.K X.mg X.base kk lt) (tk : Takes X W) (hr : Room (kk + 1) X.A) (hN : X.N[i]? = some a) (hv : Vis X.env.scope a) (hd : (a == ("__debug__" : Str)) = false) (hcd : (a == ("__classdict__" : Str)) = false) :
    QV X W pn (.Call (.Name a p1) [] [] p2) (lcallM lt i) := fun Fh P hp => ⟨fun pins s σ H Q Iv ⟨G, env, S, q⟩ => by
  unfold lcallM at q
  cases z : slotOf env i with
  | none => simp only [z] at q; exact q.elim
  | some rv =>
  cases rv with
  | ol _ => simp only [z] at q; exact q.elim
  | od _ => simp only [z] at q; exact q.elim
  | oo _ _ => simp only [z] at q; exact q.elim
  | sh d =>
  cases d with
  | lam k I L ds =>
    simp only [z] at q
    obtain ⟨v, hsv, vw⟩ := S.val i _ (slotOf_some z)
    have vw : Den X.K X.mg G v (.lam k I L ds) := vw
    cases vw with
    | @lam f _ _ _ vs _ LR hlen hden =>
    rcases LO k I ds with hz | ⟨m, hm, hdl, hnl, SC, nf, np, hbody⟩
    · rw [hz] at q; exact q.elim
    rw [hm] at q
    refine wpAny_Call_Name_kw (thn ((pe_var (pos := p1) (i := i) hN hv hd hcd).run pins s σ H (fun v H1 => v = .ref f ∧ H1 = H) Iv ⟨.ref f, hsv, rfl, rfl⟩) fun u s1 ⟨v, H1, I1, r1, e1, e2⟩ => ?_)
    subst e1; subst e2
    obtain rfl : u = Value.ref f := r1
    obtain ⟨⟨pm, ct, dV, c', qn, gf, gc, gd⟩, _⟩ := id LR
    have of1 : s1.heap.get? f = some { cls := .type "function", data := .func (lamFn I L pm (.ref c') ct dV) } := (show ObjOk X.prog X.w H1 s1.heap f (lamO f I L pm ct dV c') from I1.hok f _ (S.gh _ _ gf)).1
    obtain ⟨⟨oc, cvs, t, hoc, hdc, hvc⟩, _, _⟩ := (show ObjOk X.prog X.w H1 s1.heap c' (LamX.CodeO c' qn) from I1.hok c' _ (S.gh _ _ gc))
    have hlv : vs.length = (fre I).length := by rw [hlen, hdl]
    have hC : ∀ c, CC I L c → ∃ ob, G c = some (cellO c ob) ∧ ∃ v, ob.data = .cell v := fun c ⟨x, hx⟩ => by
      obtain ⟨j, v, o, u, _, _, k3, k4, _⟩ := LR.all hlv hx
      exact ⟨o, k3, _, k4⟩
    have cel : Cells (CC I L) G := fun c z => (hC c z).imp fun o q => ⟨q.1, fun y => by obtain ⟨v, hv⟩ := q.2; rw [hv] at y; cases y⟩
    have celH : Cells (CC I L) H1 := fun c z => (hC c z).imp fun o q => ⟨S.gh _ _ q.1, fun y => by obtain ⟨v, hv⟩ := q.2; rw [hv] at y; cases y⟩
    have hcells : ∀ x c, (cloOf I L).lookup x = some c → ∃ (j : Nat) (v : V) (o : Obj) (u : Value), (fre I)[j]? = some x ∧ vs[j]? = some v ∧ s1.heap.get? c = some o ∧ o.data = .cell (some u) ∧ RelV v u := fun x c hx => by
      obtain ⟨j, v, o, u, k1, k2, k3, k4, k5⟩ := LR.all hlv hx
      exact ⟨j, v, o, u, k1, k2, (show ObjOk X.prog X.w H1 s1.heap c (cellO c o) from I1.hok c _ (S.gh _ _ k3)).1, k4, k5⟩
    have gh : GH G H1 := ⟨S.gh, S.fh.tb⟩
    have e0 := env0_but celH I1.env0
    -- the values of the names
    have hdv : ∃ ws us, Vals ws us ∧ ws.length = (parN I).length ∧ Views X.K X.mg (But (CC I L) G) (But (CC I L) H1) ws (dflR I) ∧ ∀ (Q : List (Str × Value) → Shared → Prop) (E : Value → Shared → Prop) (A : Around), Q ((parN I).zip us) s1 → wpAny (model X.prog X.w) A (bindArgs (lamFn I L pm (.ref c') ct dV) ⟨[], []⟩) Q E s1 := by
      have one := SC.one
      unfold DflR at gd
      cases hdf : I.dfl with
      | none =>
        rw [hdf] at gd
        subst gd
        have hp0 : parN I = [] := by unfold parN; rw [hdf]
        have hr0 : dflR I = [] := by unfold dflR; rw [hdf]
        refine ⟨[], [], .nil, by rw [hp0]; rfl, by rw [hr0]; exact .nil, fun Q E A hq => ?_⟩
        rw [SC.bind0 hdf L pm (.ref c') ct]
        rw [hp0] at hq
        exact wpAny_pure hq
      | some i =>
        rw [hdf] at gd
        obtain ⟨t, rfl, gt⟩ := gd
        have hr0 : dflR I = [.sh (.int i)] := by unfold dflR; rw [hdf]
        obtain ⟨_, its, rv, ob, ho, hcl, nn, hdt⟩ := (show ObjOk X.prog X.w H1 s1.heap t (.tup [.int i]) from I1.hok t _ (S.gh _ _ gt))
        cases rv with
        | @cons _ u _ us' ru rn =>
        cases rn
        obtain ⟨k, b1, b2⟩ := SC.bind1 i hdf L t pm (.ref c') ct u
        refine ⟨[.int i], [u], .cons ru .nil, by rw [one, hr0]; rfl, by rw [hr0]; exact .cons (Den.int i) .nil, fun Q E A hq => ?_⟩
        rw [b1]
        refine wpAny_bind (wpAny_seqItems ho hdt ?_)
        rw [show k (some [u].toArray) = pure ((parN I).zip [u]) from b2]
        exact wpAny_pure hq
    obtain ⟨ws, us, rws, hwl, vws, hbind⟩ := hdv
    have vwsAll : Views X.K X.mg (But (CC I L) G) (But (CC I L) H1) (vs ++ ws) (ds.map .sh ++ dflR I) := by
      refine ⟨by rw [List.length_append, List.length_append, List.length_map, hlen, vws.1], fun j v r a b => ?_⟩
      by_cases hj : j < vs.length
      · rw [List.getElem?_append_left hj] at a
        rw [List.getElem?_append_left (by rw [List.length_map, ← hlen]; exact hj), List.getElem?_map] at b
        cases y : ds[j]? with
        | none => rw [y] at b; cases b
        | some d => rw [y] at b; cases b; exact Den.but cel (hden j v d a y) (noLams_get hnl y)
      · rw [List.getElem?_append_right (by omega)] at a
        rw [List.getElem?_append_right (by rw [List.length_map, ← hlen]; omega), List.length_map, ← hlen] at b
        exact vws.2 _ v r a b
    have hsh : ∀ r ∈ ds.map RV.sh ++ dflR I, r.own = false := fun r hr => by
      rcases List.mem_append.mp hr with h | h
      · obtain ⟨d, _, rfl⟩ := List.mem_map.mp h; rfl
      · unfold dflR at h
        split at h
        · cases h
        · obtain rfl := List.mem_singleton.mp h; rfl
    have hNl : (vs ++ ws).length = (fre I ++ parN I).length := by rw [List.length_append, List.length_append, hlv, hwl]
    have gh2 : GH (But (CC I L) G) (But (CC I L) H1) := ⟨fun b o h => by
        obtain ⟨h1, h2⟩ := but_some h
        rw [but_out h1]; exact S.gh _ _ h2, S.fh.tb.but I1.hok S.gh hC⟩
    have S0 := start_rel (N := fre I ++ parN I) gh2 vwsAll (fun i j r r' a h1 h2 o1 => by rw [hsh r (List.mem_of_getElem? h1)] at o1; cases o1) (Nat.le_of_eq hNl)
    rw [pins_sh hsh] at S0
    have hrs : (ds.map RV.sh ++ dflR I).length = (fre I ++ parN I).length := by rw [← vwsAll.1, hNl]
    rw [hrs, Nat.sub_self, List.replicate_zero, List.append_nil] at S0
    refine PySem.W.callWith_F0 ⟨_, _, _, _, of1⟩ ?_
    have nfr : ∀ c, CC I L c → c ∉ frs X.stack := fun c hc hm => by
      have := I1.stkFree c hm
      obtain ⟨o, q, _⟩ := celH c hc
      rw [this] at q; cases q
    have rc : codeAny (model X.prog X.w) X.A (.call (.ref f) ⟨[], []⟩) (CR (L2.CX X.prog X.w) X.stack X.prog X.w H1 s1 Q (WE W σ)) s1 := by
      refine zla_callFunE (qn := qn) hr.depth of1 rfl SC.co SC.gen rfl ⟨c', oc, cvs, t, rfl, hoc, hdc, hvc⟩ (hbind _ _ _ ?_)
      refine wpAny_newFunctionEnv SC.nocell (fun y hy => SC.par _ (List.of_mem_zip hy).1) (fun h₁ hns hsb => ⟨I1.nolimit.fresh _ hsb, ?_⟩) SC.kind
      show codeAny _ _ (.expr I.body (lamEnvC qn I L f c' s1.heap.objs.size)) _ _
      have kp : ∀ b o, s1.heap.get? b = some o → h₁.get? b = some o := fun b o e => hsb.extBut b o (Nat.ne_of_lt (Heap.lt_size e)) (Heap.get?_push_of_some _ e)
      have hk1 : ∀ c, CC I L c → ∃ ob, H1 c = some (cellO c ob) ∧ s1.heap.get? c = some ob := fun c ⟨x, hx⟩ => by
        obtain ⟨j, v, o, u, k1, k2, k3, k4, k5⟩ := LR.all hlv hx
        exact ⟨o, S.gh _ _ k3, (show ObjOk X.prog X.w H1 s1.heap c (cellO c o) from I1.hok c _ (S.gh _ _ k3)).1⟩
      -- what is wished of an exception within
      obtain ⟨E2, hE2⟩ : ∃ E2 : XK, ∀ cls d H', E2 cls d H' ↔ ∃ (x : Exn) (e : DEnv), m ((ds.map RV.sh ++ dflR I).map some) = .err x e ∧ ∃ G' σ', Ex (But (CC I L) G) G' ∧ XR X.K X.mg G' cls d x ∧ SRel X.K X.mg (foreign (But (CC I L) G) (But (CC I L) H1) (vs ++ ws) (ds.map RV.sh ++ dflR I)) [] G' H' σ' e [] := ⟨_, fun _ _ _ => Iff.rfl⟩
      have J : Inv (lamC X.prog X.w X.K X.mg X.base qn I L f c' X.A X.stack s1 (But (CC I L) H1) E2) [] (L2.start (fre I ++ parN I) (vs ++ ws)) (But (CC I L) H1) { s1 with heap := h₁, toks := s1.toks + ((parN I).zip us).length } :=
        lam_start SC hr.hd e0 hlv hwl rws np hcells nf hns kp
      have body := hbody qn L f c' X.A X.stack s1 (But (CC I L) H1) E2 (hr.deeper _) (foreign (But (CC I L) G) (But (CC I L) H1) (vs ++ ws) (ds.map RV.sh ++ dflR I)) [] rfl
      refine PySem.W.kla_codeExpr (wpAny_mono (body.run [] _ _ _ (fun v H' => ∃ (r : RV) (e : DEnv), m ((ds.map RV.sh ++ dflR I).map some) = .ok r e ∧ ∃ G', Ex (But (CC I L) G) G' ∧ View X.K X.mg G' H' v r ∧ SRel X.K X.mg (foreign (But (CC I L) G) (But (CC I L) H1) (vs ++ ws) (ds.map RV.sh ++ dflR I)) [] G' H' (L2.start (fre I ++ parN I) (vs ++ ws)) e (tmps v r)) J ⟨But (CC I L) G, (ds.map RV.sh ++ dflR I).map some, S0, ?_⟩) (fun v s' hq => ?_) fun e s' hq => ?_)
      · -- the body's promise
        cases y : m ((ds.map RV.sh ++ dflR I).map some) with
        | stk =>
          unfold lamRun at q
          rw [y] at q; exact q.elim
        | ok r e => exact fun v G' H' ex w S' => ⟨r, e, rfl, G', ex, w, S'⟩
        | err x e => exact fun cls d G' H' ex hx S' => (hE2 cls d H').mpr ⟨x, e, y, G', _, ex, hx, S'⟩
      · -- it ends
        obtain ⟨w', H', J', rv, r, e, y, G', ex, vw', S'⟩ := hq
        have hn : ∀ c, CC I L c → H' c = none := fun c ⟨x, hx⟩ => J'.freeC x c hx
        have B := lam_back hsh gh hC hn ex S'
        refine ⟨w', Plus (CC I L) H1 H', J'.os, J'.bare, lam_un celH J'.base, lam_hok hn (fun c hc => ?_) J'.hok, rv, ?_⟩
        · obtain ⟨o, k1, k2⟩ := hk1 c hc
          exact ⟨o, k1, J'.base.keep c o k2 (but_in hc) (nfr c hc) (by simp [lamC])⟩
        · unfold lamRun at q
          rw [y] at q
          have ne : ∀ {b : Addr} {o : HO}, H' b = some o → ¬ CC I L b := fun {b o} h z => by rw [hn b z] at h; cases h
          have exP : Ex G' (Plus (CC I L) G G') := fun b o h => by rw [plus_out (ne (S'.gh _ _ h))]; exact h
          have vw2 : View X.K X.mg (Plus (CC I L) G G') (Plus (CC I L) H1 H') w' r := vw'.keep exP fun a o ev hr h1 h2 => by
            rw [plus_out (ne h1), plus_out (ne h1)]; exact ⟨h1, h2⟩
          refine q w' _ _ B.ex vw2 ?_
          have tmp : TmpOk H1 [] [] [] w' r := fun a ma => by
            obtain ⟨t1, t2, o, t3⟩ := S'.tmp a ma
            have nz := ne t3
            refine ⟨.inl ?_, fun ⟨j, _, h, _⟩ => by simp at h⟩
            cases y2 : H1 a with
            | none => rfl
            | some o2 =>
              have : OwnAt (vs ++ ws) (ds.map RV.sh ++ dflR I) a := foreign_none t1 (by rw [but_out nz, y2]; simp) (by
                cases y3 : But (CC I L) G a with
                | none => rfl
                | some o3 => rw [ex _ _ y3] at t2; cases t2)
              exact absurd this (ownAt_sh hsh)
          exact S.back (os := []) (vs := []) (rs := []) (rs' := []) .nil rfl rfl B vw2 tmp
      · -- it raises
        have conv : ∀ e s'', L2.CX X.prog X.w X.stack (But (CC I L) H1) s1 E2 e s'' → L2.CX X.prog X.w X.stack H1 s1 (WE W σ) e s'' := fun e s'' h => lam_cx hk1 nfr h fun cls d H' hn he => by
          obtain ⟨x, e3, y, G', σ', ex, hx, S'⟩ := (hE2 cls d H').mp he
          unfold lamRun at q
          rw [y] at q
          have B := lam_back hsh gh hC hn ex S'
          have ne : ∀ {b : Addr} {o : HO}, H' b = some o → ¬ CC I L b := fun {b o} h z => by rw [hn b z] at h; cases h
          have exP : Ex G' (Plus (CC I L) G G') := fun b o h => by rw [plus_out (ne (S'.gh _ _ h))]; exact h
          obtain ⟨C0, dd, gs, k1, k2, k3, k4, k5⟩ := hx
          have tmp : TmpOk H1 [] [] [] .non (.sh .non) := fun a m => by cases m
          exact q cls d _ _ B.ex ⟨C0, dd, gs, k1, k2, k3, exP _ _ k4, k5.mono exP⟩ (S.back (os := []) (vs := []) (rs := []) (rs' := []) .nil rfl rfl B (v := .non) (r := .sh .non) Den.non tmp)
        have hq : wpAny (model X.prog X.w) (X.A.deeper (lamEnvC qn I L f c' s1.heap.objs.size)) (leaving (lamEnvC qn I L f c' s1.heap.objs.size) e) (fun _ s'' => L2.CX X.prog X.w X.stack (But (CC I L) H1) s1 E2 e s'') (fun e' s'' => L2.CX X.prog X.w X.stack (But (CC I L) H1) s1 E2 e' s'') s' := hq
        exact wpAny_mono hq (fun _ s'' h => conv _ _ h) fun e' s'' h => conv _ _ h
    refine wpAny_call (codeAny_mono rc fun r s' hq => ?_)
    cases r with
    | error e => exact passAt tk σ pins _ _ _ _ I1 hq
    | ok fl =>
      cases fl with
      | ret u => exact I1.after hq
      | next => exact False.elim hq
      | brk => exact False.elim hq
      | cont => exact False.elim hq
  | _ => simp only [z] at q; exact q.elim⟩
end
-- fast: lcallM
end Z
/-! Z: f(.. lambdas ..): the frame's cells are lent -/
namespace Z
open PySem PySem.Spec PyProof.Rows L2
def capD (env : DEnv) : List Nat → Option (List D)
  | [] => some []
  | j :: js => match slotOf env j, capD env js with
    | some (.sh d), some ds => some (d :: ds)
    | _, _ => none
abbrev CapT := Nat → LamI → Option (List Nat)
def cv0 (L : Nat) (cap : CapT) (env : DEnv) (k : Nat) (I : LamI) : D := match cap k I with
  | some js => (match capD env js with
    | some ds => .lam k I L ds
    | none => .lam k I L [])
  | none => .lam k I L []
def cv1 (L : Nat) (cap : CapT) (env : DEnv) : D → D
  | .lam k I L' [] => if L' = L then cv0 L cap env k I else .lam k I L' []
  | d => d
def cvD (L : Nat) (cap : CapT) (env : DEnv) : D → D
  | .lst ds => .lst (ds.map (cv1 L cap env))
  | d => cv1 L cap env d
def lendM (L : Nat) (cap : CapT) (f : FnD) (m : M (List Opd)) : M RV := bindM m fun os env => match dsOf os env with
  | .ok ds e => (match f ((ds.map (cvD L cap e)).map .sh) with
    | .ok r _ => if noLamR r = true then .ok r e else .stk
    | _ => .stk)
  | .err x e => .err x e
  | .stk => .stk
theorem capD_get : ∀ {env : DEnv} {js : List Nat} {ds : List D}, capD env js = some ds → ds.length = js.length ∧ ∀ (n j : Nat) (d : D), js[n]? = some j → ds[n]? = some d → env[j]? = some (some (.sh d))
  | env, [], ds, h => by cases h; exact ⟨rfl, fun n j d a => by simp at a⟩
  | env, j :: js, ds, h => by
    unfold capD at h
    split at h
    · rename_i d ds' h1 h2
      cases h
      obtain ⟨k1, k2⟩ := capD_get h2
      refine ⟨by simp [k1], fun n j' d' a b => ?_⟩
      cases n with
      | zero => simp at a b; subst a; subst b; exact slotOf_some h1
      | succ n => exact k2 n j' d' (by simpa using a) (by simpa using b)
    · cases h
/-- how the lambdas' captured names lie in the frame -/
def CapOk (X : Cx) (cap : CapT) : Prop := ∀ k I js, cap k I = some js → I.pnames = X.env.scope.names ∧ js.length = (fre I).length ∧ ∀ (n j : Nat) (x : Str), js[n]? = some j → (fre I)[n]? = some x → X.N[j]? = some x ∧ X.env.scope.names.lookup x = some .cell
theorem clo_lookup {I : LamI} {L : Addr} {x : Str} {c : Addr} (h : (x, NameKind.free) ∈ I.scope.names) (e : (cellsFrom (L + 1) I.pnames []).lookup x = some c) : (cloOf I L).lookup x = some c := by
  obtain ⟨c', h'⟩ := clo_has (L := L) h
  obtain ⟨_, e'⟩ := clo_mem h'
  rw [e] at e'
  rw [h', e']; rfl
theorem list_choose {α : Type} {R : Nat → α → Prop} : ∀ {n : Nat}, (∀ i, i < n → ∃ a, R i a) → ∃ l : List α, l.length = n ∧ ∀ (i : Nat) (a : α), l[i]? = some a → R i a
  | 0, _ => ⟨[], rfl, fun i a h => by simp at h⟩
  | n + 1, h => by
    obtain ⟨l, h1, h2⟩ := list_choose (n := n) fun i hi => h i (Nat.lt_succ_of_lt hi)
    obtain ⟨a, ha⟩ := h n (Nat.lt_succ_self n)
    refine ⟨l ++ [a], by simp [h1], fun i b hb => ?_⟩
    by_cases hi : i < l.length
    · rw [List.getElem?_append_left hi] at hb; exact h2 i b hb
    · rw [List.getElem?_append_right (by omega)] at hb
      by_cases e : i = l.length
      · subst e; simp at hb; subst hb; rw [h1]; exact ha
      · rw [List.getElem?_eq_none (by simp; omega)] at hb; cases hb
section
variable {X : Cx} {W : WX} {pn : List Nat}
theorem cell_nt {c : Addr} {o : Obj} : NT (cellO c o) := fun ps z => by unfold cellO at z; cases z
theorem qv_lend {k n : Nat} {L : Nat} {cap : CapT} {f : Addr} {fd : FuncData} {ps : List Str} {x : Str} {p pos : Pos} {e : Expr} {es : List Expr} {fD : FnD} {m : M (List Opd)} (F : FnOk X.prog X.w X.K X.mg X.base (L2.CX X.prog X.w) k f fd ps (spOf X.K X.mg n fD)) (hr : Room k X.A) (hg : Gl X x) (hm : X.mg x = some (.ref f))
    (hk : PySem.W.keepIn X.K (.ref f) = true) (hb : Binds X.K fd ps []) (ha : QOs X W pn (e :: es) m) (hn : ∀ env os e', m env = .ok os e' → os.length = n) (hcl : X.env.cells = cellsFrom (L + 1) X.env.scope.names []) (hfn : ∀ y, X.fn y = true) (hcap : CapOk X cap) (hdb : (x == ("__debug__" : Str)) = false)
    (he : starEach (e :: es) X.env = (false, eval e X.env) :: starEach es X.env) (hpl : (backTo pos (starEach es X.env)).any (·.1) = false) :
    QV X W pn (.Call (.Name x p) (e :: es) [] pos) (lendM L cap fD m) := fun Fh P hp => ⟨fun pins s σ H Q I ⟨G, env, S, q⟩ => by
  refine wpAny_Call_Name_kw (ld_glob I hg hm ?_ hdb)
  unfold lendM bindM at q
  refine PySem.W.callWith_K (h₀ := X.base) I.ok.mod.kin hk (thn ((ha Fh P hp).run pos pins s σ H (fun vs H1 => ∃ os e1 G1, m env = .ok os e1 ∧ Ex G G1 ∧ OpdRs X.K X.mg G1 σ vs os ∧ SRel X.K X.mg Fh P G1 H1 σ e1 []) I ⟨G, env, S, ?_⟩) fun us s1 ⟨vs, H1, I1, r, os, e1, G1, hme, x1, w1, S1⟩ => ⟨I1.kIn, ?_⟩) he hpl
  · cases z : m env with
    | ok os e1 => exact fun vs G1 H1 ex w S1 => ⟨os, e1, G1, rfl, ex, w, S1⟩
    | err x e1 => simp only [z] at q; exact q
    | stk => simp only [z] at q; exact q
  simp only [hme] at q
  cases z : dsOf os e1 with
  | err y e2 => exact (dsOf_noerr z).elim
  | stk => simp only [z] at q; exact q.elim
  | ok ds e2 =>
  simp only [z] at q
  obtain ⟨G2, x2, d2, S2⟩ := S1.dsOf w1 z
  obtain ⟨C, hCd⟩ : ∃ C : Addr → Prop, ∀ b, C b ↔ ∃ y, X.env.cells.lookup y = some b := ⟨fun b => ∃ y, X.env.cells.lookup y = some b, fun _ => Iff.rfl⟩
  obtain ⟨Z, hZ⟩ : ∃ Z : Hp, ∀ b, Z b = (s1.heap.get? b).map (cellO b) := ⟨_, fun _ => rfl⟩
  have hZC : ∀ c, C c → ∃ ob, Z c = some (cellO c ob) ∧ s1.heap.get? c = some ob ∧ ∃ v, ob.data = .cell v := fun c hc => by
    obtain ⟨y, hy⟩ := (hCd c).mp hc
    obtain ⟨v, o, ho, hd⟩ := I1.cell y c hy
    exact ⟨o, by rw [hZ, ho]; rfl, ho, v, hd⟩
  have hH : ∀ c, C c → H1 c = none := fun c hc => by
    obtain ⟨y, hy⟩ := (hCd c).mp hc
    exact I1.freeC y c hy
  have hG : ∀ c, C c → G2 c = none := fun c hc => S2.gh.none (hH c hc)
  have nG : ∀ {b : Addr} {o : HO}, G2 b = some o → ¬ C b := fun {b o} h z => by rw [hG b z] at h; cases h
  have nH : ∀ {b : Addr} {o : HO}, H1 b = some o → ¬ C b := fun {b o} h z => by rw [hH b z] at h; cases h
  have xG : Ex G2 (Plus C Z G2) := fun b o h => by rw [plus_out (nG h)]; exact h
  have xGH : Ex (Plus C Z G2) (Plus C Z H1) := fun b o h => by
    by_cases y : C b
    · rw [plus_in y] at h ⊢; exact h
    · rw [plus_out y] at h ⊢; exact S2.gh _ _ h
  have hC3 : ∀ c, C c → ∃ ob, Plus C Z G2 c = some (cellO c ob) ∧ ∃ v, ob.data = .cell v := fun c hc => by
    obtain ⟨ob, k1, _, k3⟩ := hZC c hc
    exact ⟨ob, by rw [plus_in hc]; exact k1, k3⟩
  have hok3 : HOk X.prog X.w (Plus C Z H1) s1.heap := lam_hok hH (fun c hc => by obtain ⟨ob, k1, k2, _⟩ := hZC c hc; exact ⟨ob, k1, k2⟩) I1.hok
  have tb3 : TabInv (Plus C Z G2) (Plus C Z H1) := ⟨fun a o h => by
      by_cases y : C a
      · rw [plus_in y] at h
        obtain ⟨ob, k1, _⟩ := hZC a y
        rw [k1] at h; cases h; exact cell_nt
      · rw [plus_out y] at h; exact S2.fh.tb.nt a o h, fun P' qs h => by
      have y : ¬ C P' := fun y => by
        rw [plus_in y] at h
        obtain ⟨ob, k1, _⟩ := hZC P' y
        rw [k1] at h; cases h
      rw [plus_out y] at h
      obtain ⟨t1, t2⟩ := S2.fh.tb.on _ _ h
      exact ⟨t1, fun ps cv hcv => by obtain ⟨c, q', z1, z2⟩ := t2 ps cv hcv; exact ⟨c, q', z1, xG _ _ z2⟩⟩⟩
  have cab : ∀ c, C c → X.s_0.heap.objs.size ≤ c := fun c hc => by
    obtain ⟨y, hy⟩ := (hCd c).mp hc
    exact I1.ok.cab y c (hfn y) hy
  have nfr : ∀ c, C c → c ∉ frs X.stack := fun c hc hmm => by
    obtain ⟨y, hy⟩ := (hCd c).mp hc
    rcases List.mem_cons.mp (I1.stkSub c hmm) with e' | e'
    · exact I1.cne y c hy e'
    · obtain ⟨_, o, ho, _⟩ := I1.ok.funs.mem e'
      exact absurd (Nat.lt_of_lt_of_le (Heap.lt_size ho) (cab c hc)) (Nat.lt_irrefl _)
  have e03 : Env0 X.prog X.w X.K X.mg X.base X.A X.stack s1 (Plus C Z H1) := by
    have e0 := I1.env0
    refine ⟨e0.frames, e0.mod, fun b o hbo => ⟨(e0.bs b o hbo).1, ?_⟩, e0.bsz, e0.funs, fun b hbb => ?_, hok3, e0.bare⟩
    · have y : ¬ C b := fun y => absurd (Nat.lt_of_lt_of_le (Heap.lt_size hbo) (Nat.le_trans I1.ok.bsz (cab b y))) (Nat.lt_irrefl _)
      rw [plus_out y]; exact (e0.bs b o hbo).2
    · rw [plus_out (fun y => nfr b y hbb)]; exact e0.frf b hbb
  -- the lambdas, with what they caught
  have den0 : ∀ {v : V} {k : Nat} {J : LamI}, Den X.K X.mg G2 v (.lam k J L []) → Den X.K X.mg (Plus C Z G2) v (cv0 L cap e2 k J) := fun {v k J} h => by
    unfold cv0
    cases y1 : cap k J with
    | none => exact h.mono xG
    | some js =>
      simp only
      cases y2 : capD e2 js with
      | none => exact h.mono xG
      | some cs =>
        obtain ⟨hpn, hjl, hjs⟩ := hcap k J js y1
        obtain ⟨k1, k2⟩ := capD_get y2
        cases h with
        | @lam f' _ _ _ vs' _ LR hlen hden =>
        -- the values
        have val : ∀ n, n < js.length → ∃ (v : V) (d : D) (y : Str) (c : Addr) (o : Obj) (u : Value), cs[n]? = some d ∧ Den X.K X.mg G2 v d ∧ (fre J)[n]? = some y ∧ (cloOf J L).lookup y = some c ∧ Plus C Z G2 c = some (cellO c o) ∧ o.data = .cell (some u) ∧ RelV v u := fun n hn' => by
          have hjn : js[n]? = some js[n] := by simp [hn']
          have hfn' : n < (fre J).length := by omega
          have hfx : (fre J)[n]? = some (fre J)[n] := by simp [hfn']
          have hcn : n < cs.length := by omega
          have hcx : cs[n]? = some cs[n] := by simp [hcn]
          obtain ⟨g1, g2⟩ := hjs n _ _ hjn hfx
          have hslot := k2 n _ _ hjn hcx
          obtain ⟨v, hv, w⟩ := S2.val _ _ hslot
          obtain ⟨mm, hnn, hl⟩ := I1.loc
          obtain ⟨u, ru, look⟩ := hl _ _ v g1 hv (.inr (.inl g2))
          rcases look with ⟨kk, _⟩ | ⟨_, c, hc, o, ho, hdd⟩
          · have kk : X.env.scope.names.lookup (fre J)[n] = some .local := kk
            rw [g2] at kk; cases kk
          · refine ⟨v, cs[n], (fre J)[n], c, o, u, hcx, w, hfx, clo_lookup (fre_mem.mp (List.mem_of_getElem? hfx)) (by rw [hpn, ← hcl]; exact hc), ?_, hdd, ru⟩
            have hCc : C c := (hCd c).mpr ⟨_, hc⟩
            rw [plus_in hCc, hZ, ho]; rfl
        obtain ⟨ws, hws⟩ : ∃ ws : List V, ws.length = js.length ∧ ∀ n v, ws[n]? = some v → ∃ (d : D) (y : Str) (c : Addr) (o : Obj) (u : Value), cs[n]? = some d ∧ Den X.K X.mg G2 v d ∧ (fre J)[n]? = some y ∧ (cloOf J L).lookup y = some c ∧ Plus C Z G2 c = some (cellO c o) ∧ o.data = .cell (some u) ∧ RelV v u := by
          exact list_choose val
        refine .lam (vs := ws) ⟨?_, fun j v hv => ?_⟩ (by rw [hws.1, k1]) fun i v d a b => ?_
        · obtain ⟨pm, ct, dV, c', q', a1, a2, a3⟩ := LR.fn
          exact ⟨pm, ct, dV, c', q', xG _ _ a1, xG _ _ a2, a3.mono xG⟩
        · obtain ⟨d, y, c, o, u, _, _, b1, b2, b3, b4, b5⟩ := hws.2 j v hv
          exact ⟨y, c, o, u, b1, b2, b3, b4, b5⟩
        · obtain ⟨d', y, c, o, u, b1, b2, _⟩ := hws.2 i v a
          rw [b] at b1; cases b1
          exact b2.mono xG
  have den1 : ∀ {v : V} {d : D}, Den X.K X.mg G2 v d → Den X.K X.mg (Plus C Z G2) v (cv1 L cap e2 d) := fun {v d} h => by
    unfold cv1
    split
    · split
      · rename_i k J L' hL; subst hL; exact den0 h
      · exact h.mono xG
    · exact h.mono xG
  have denD : ∀ {v : V} {d : D}, Den X.K X.mg G2 v d → Den X.K X.mg (Plus C Z G2) v (cvD L cap e2 d) := fun {v d} h => by
    cases d with
    | lst ds' =>
      obtain ⟨a, xs, rfl, h1, h2⟩ := h.lst_inv
      refine .lst (xG _ _ h1) (by rw [List.length_map]; exact h2.1) fun i v d a b => ?_
      rw [List.getElem?_map] at b
      cases y : ds'[i]? with
      | none => rw [y] at b; cases b
      | some d0 => rw [y] at b; cases b; exact den1 (h2.2 i v d0 a y)
    | _ => exact den1 h
  have vw3 : Views X.K X.mg (Plus C Z G2) (Plus C Z H1) vs ((ds.map (cvD L cap e2)).map .sh) := ⟨by rw [List.length_map, List.length_map]; exact d2.1, fun i v r a b => by
    rw [List.getElem?_map, List.getElem?_map] at b
    cases y : ds[i]? with
    | none => rw [y] at b; cases b
    | some d0 => rw [y] at b; cases b; exact denD (d2.2 i v d0 a y)⟩
  have hsh : ∀ r ∈ (ds.map (cvD L cap e2)).map RV.sh, r.own = false := fun r hr => by obtain ⟨d, _, rfl⟩ := List.mem_map.mp hr; rfl
  have hvl : vs.length = n := by rw [w1.1]; exact hn env os e1 hme
  have hsp : spOf X.K X.mg n fD vs (Plus C Z H1) (fun v H4 => ∃ rv rs' G4, fD ((ds.map (cvD L cap e2)).map .sh) = .ok rv rs' ∧ Back X.K X.mg (Plus C Z G2) (Plus C Z H1) vs ((ds.map (cvD L cap e2)).map .sh) G4 H4 rs' ∧ View X.K X.mg G4 H4 v rv ∧ TmpOk (Plus C Z H1) vs ((ds.map (cvD L cap e2)).map .sh) rs' v rv) (fun _ _ _ => False) := by
    refine ⟨Plus C Z G2, (ds.map (cvD L cap e2)).map .sh, ⟨xGH, tb3⟩, hvl, vw3, fun i j r r' a h1 h2 o1 => (by rw [hsh r (List.mem_of_getElem? h1)] at o1; cases o1), ?_⟩
    cases y : fD ((ds.map (cvD L cap e2)).map .sh) with
    | ok rv rs' => exact fun v G4 H4 B w t => ⟨rv, rs', G4, rfl, B, w, t⟩
    | err x rs' => simp only [y] at q; exact q.elim
    | stk => simp only [y] at q; exact q.elim
  have hl : (us ++ []).length = ps.length := by rw [List.append_nil, ← r.length]; exact F.len _ _ _ _ hsp
  have b2 := hb s1 us I1.kIn hl
  rw [List.append_nil] at b2
  refine wpAny_call (codeAny_mono (F.run X.A X.stack s1 (Plus C Z H1) ⟨us, []⟩ us vs _ (fun _ _ _ => False) hr e03 b2 r hsp) fun r' s' hq => ?_)
  cases r' with
  | error er =>
    obtain ⟨_, _, _, _, _, _, _, _, _, _, _, _, zz⟩ := hq
    exact zz.elim
  | ok fl =>
    cases fl with
    | next => exact False.elim hq
    | brk => exact False.elim hq
    | cont => exact False.elim hq
    | ret u =>
      obtain ⟨v, H4, os4, bare4, un4, hok4, rv4, rv, rs', G4, y, B, w4, t4⟩ := hq
      simp only [y] at q
      by_cases hnl : noLamR rv = true
      · rw [if_pos hnl] at q
        have hC4 : ∀ c, C c → ∃ ob, G4 c = some (cellO c ob) ∧ (∃ v, ob.data = .cell v) ∧ s1.heap.get? c = some ob := fun c hc => by
          obtain ⟨ob, k1, k2, k3⟩ := hZC c hc
          exact ⟨ob, B.ex _ _ (by rw [plus_in hc]; exact k1), k3, k2⟩
        have cel4 : Cells C G4 := fun c hc => (hC4 c hc).imp fun o q => ⟨q.1, get_nf q.2.2⟩
        have cel4H : Cells C H4 := fun c hc => by obtain ⟨o, k, _, k3⟩ := hC4 c hc; exact ⟨o, B.gh.1 _ _ k, get_nf k3⟩
        have keepC : ∀ c, C c → ∀ o, s1.heap.get? c = some o → s'.heap.get? c = some o := fun c hc o ho => by
          obtain ⟨ob, k1, _, k3⟩ := hC4 c hc
          rw [ho] at k3; cases k3
          exact (show ObjOk X.prog X.w H4 s'.heap c (cellO c o) from hok4 c _ (B.gh.1 _ _ k1)).1
        have un5 : Un (frs X.stack) [] H1 (But C H4) s1.heap s'.heap := by
          refine ⟨fun b o e0 n0 hb0 hx => ?_, fun b o e0 n0 hb0 hx => ?_, fun b o e0 n0 hx => ?_, un4.there, fun b xs q0 => ?_, fun b o u q0 => ?_, fun b qs q0 => ?_⟩
          · by_cases hc : C b
            · exact keepC b hc o e0
            · exact un4.keep b o e0 (by rw [plus_out hc]; exact n0) hb0 hx
          · exact un4.slot b o e0 (by rw [plus_out (fun hc => nfr b hc hb0)]; exact n0) hb0 hx
          · by_cases hc : C b
            · exact but_in hc
            · rw [but_out hc]; exact un4.free b o e0 (by rw [plus_out hc]; exact n0) hx
          · rw [but_out (nH q0)]; exact un4.tups b xs (by rw [plus_out (nH q0)]; exact q0)
          · rw [but_out (nH q0)]; exact un4.frzs b o u (by rw [plus_out (nH q0)]; exact q0)
          · rw [but_out (nH q0)]; exact un4.tbls b qs (by rw [plus_out (nH q0)]; exact q0)
        have hok5 : HOk X.prog X.w (But C H4) s'.heap := fun b o e0 => (hok4 b o (but_some e0).2).stay (fun _ _ _ q => q) (fun c q => by rw [but_out (cel4H.out q (.of nofun))]; exact q) (fun c xs q => by rw [but_out (cel4H.out q (.of nofun))]; exact q)
        have I5 : Inv X pins σ (But C H4) s' := I1.call' (ch := []) os4 un5 hok5 bare4 (fun b z => absurd z (by simp))
        have x5 : Ex G2 (But C G4) := fun b o h => by rw [but_out (nG h)]; exact B.ex _ _ (xG _ _ h)
        have vw5 := w4.but cel4 B.gh.1 hnl
        have B5 : Back X.K X.mg G2 H1 [] [] (But C G4) (But C H4) [] := by
          refine ⟨x5, ⟨fun b o h => ?_, B.gh.2.but hok4 B.gh.1 fun c hc => ?_⟩, fun b o h1 h2 _ => ?_, .nil, fun j r' h => by simp at h⟩
          · obtain ⟨h1, h2⟩ := but_some h
            rw [but_out h1]; exact B.gh.1 _ _ h2
          · obtain ⟨ob, k1, k2, _⟩ := hC4 c hc
            exact ⟨ob, k1, k2⟩
          · have nb := nH h1
            obtain ⟨f1, f2⟩ := B.frm b o (by rw [plus_out nb]; exact h1) (by rw [plus_out nb]; exact h2) (ownAt_sh hsh)
            rw [but_out nb, but_out nb]; exact ⟨f1, f2⟩
        have tmp5 : TmpOk H1 [] [] [] v rv := fun a ma => by
          obtain ⟨t1, t2⟩ := t4 a ma
          refine ⟨.inl ?_, fun ⟨j, _, h, _⟩ => by simp at h⟩
          have h3 := t1.resolve_right (ownAt_sh hsh)
          by_cases hc : C a
          · exact hH a hc
          · rw [plus_out hc] at h3; exact h3
        exact ⟨v, But C H4, I5, rv4, q v _ _ ((x1.trans x2).trans x5) vw5 (S2.back (os := []) (vs := []) (rs := []) (rs' := []) .nil rfl rfl B5 vw5 tmp5)⟩
      · rw [if_neg hnl] at q; exact q.elim⟩
end
-- fast: lendM
end Z
/-! Z: the Hook of a head with tables -/
namespace Z
open PySem PySem.Spec PyProof.Rows L2
/-! ### the Hook, empty tables left out -/
abbrev ZAlT : Type := ZAl × Bool
def zObsT (n : Nat) (fa : List Zf) (fn : List Zd) (tf : List He.Defn) (g : Addr → Option Obj) : ZAlT := (zObs fa fn (He.frT g (asZ g n)), He.tabsB g tf (He.frT g (asZ g n)))
structure ZSaysT (fa : List Zf) (fn : List Zd) (tf : List He.Defn) (h : Heap) (K : PySem.W.Frag) : Prop where
  z : ZSays fa fn K
  hd : ∀ p ∈ tf, PySem.W.codeHdIn K (He.cT K p).1 (He.cT K p).2 = true
  out : ∀ p ∈ tf, K.lookup (He.cT K p).2 = none
  empty : ∀ p ∈ tf, h.get? (He.cT K p).2 = some { cls := .none, data := .fields #[] }
theorem zSaysT_of {n : Nat} {fa : List Zf} {fn : List Zd} {tf : List He.Defn} {h : Heap} (e : zObsT n fa fn tf h.get? = (zVal fn, true)) : ZSaysT fa fn tf h (He.frT h.get? (asZ h.get? n)) := by
  generalize hK : He.frT h.get? (asZ h.get? n) = K
  have e1 : zObs fa fn (He.frT h.get? (asZ h.get? n)) = zVal fn := congrArg Prod.fst e
  have e2 : He.tabsB h.get? tf (He.frT h.get? (asZ h.get? n)) = true := congrArg Prod.snd e
  rw [hK] at e1 e2
  have tab : ∀ p ∈ tf, PySem.W.codeHdIn K (He.cT K p).1 (He.cT K p).2 = true ∧ ∃ o, h.get? (He.cT K p).2 = some o ∧ He.emptyTab o = true := fun p hp => by
    have z := List.all_eq_true.mp e2 p hp
    obtain ⟨z1, z2⟩ := Bool.and_eq_true_iff.mp z
    refine ⟨z1, ?_⟩
    cases y : h.get? (He.cT K p).2 with
    | none => simp only [y] at z2; cases z2
    | some o => simp only [y] at z2; exact ⟨o, rfl, z2⟩
  refine ⟨e1, fun p hp => (tab p hp).1, fun p hp => ?_, fun p hp => ?_⟩
  · obtain ⟨_, o, y1, y2⟩ := tab p hp
    rw [← hK] at y1 ⊢
    exact He.frT_none y1 y2
  · obtain ⟨_, o, y1, y2⟩ := tab p hp
    rw [y1, He.emptyTab_eq y2]
def zHookT (n : Nat) (fa : List Zf) (fn : List Zd) (tf : List He.Defn) : PySem.W.Hook where
  α := ZAlT
  obs := fun s => zObsT n fa fn tf s.heap.get?
  val := fun _ => (zVal fn, true)
  says := fun _ h => ∃ K : PySem.W.Frag, K.In h ∧ ZSaysT fa fn tf h K
  of := fun _ _ e => ⟨_, He.frT_in, zSaysT_of e⟩
  keeps := fun _ _ _ y k => y.elim fun K z => ⟨K, PySem.W.Frag.In.keeps z.1 k, ⟨z.2.z, z.2.hd, z.2.out, fun p hp => k _ _ (z.2.empty p hp)⟩⟩
theorem zObsT_eq {n : Nat} {fa : List Zf} {fn : List Zd} {tf : List He.Defn} {g : Addr → Option Obj} {s : Shared} (h : ∀ a, g a = s.heap.get? a) : zObsT n fa fn tf g = (zHookT n fa fn tf).obs s := by
  obtain rfl : g = s.heap.get? := funext h
  rfl
theorem walk_ofZT {l : PySem.W.OpenLaw} {n k : Nat} {q : Program} {loose : List Str} {XP : (Str → Option Value) → Heap → Prop} {YP : World → Heap → Prop} {d : DefRec} {x : Str} {f : Nat → FnD}
    (hn : l.most = some n) (hn2 : n ≤ sizeLine) (hdf : d.params.defaults = []) (hr : Room k callerA)
    (hD : ∀ (L : Nat) (ns : List Int), ns.length ≤ n → ∃ rs, f L [.sh (.fls (ns.map D.int))] = .ok (.sh (.bl true)) rs)
    (F : ∀ (w : World) (mg : Str → Option Value) (fa : Addr) (h : Heap), YP w h → h.Ns mainGlobals mg → mg d.name = some (.ref fa) →
      ∃ (K : PySem.W.Frag) (fd : FuncData) (c T : Addr), K.In h ∧ (∀ (s : Shared) (u : Value), BindsTo s fd ⟨[u], []⟩ [(x, u)]) ∧ h.get? T = some { cls := .none, data := .fields #[] } ∧ K.lookup T = none ∧ PySem.W.CodeHd h c T ∧
        ∀ base : Heap, K.In base → base.Ns mainGlobals mg → LamX.TabB base mg c T → FnOk l.prog w K mg base (L2.CX l.prog w) k fa fd [x] (spOfT K mg T 1 f)) :
    PySem.W.WalkO q loose XP YP l.row.toRowW d [] (fun f vs => PySem.call f vs) := by
  refine Att.attach_call hn hdf fun w s₀ s₁ mg mb fa o pm cd doc a vs ns G Y ho hd hcd hmg hobj hints hlen hg => ?_
  obtain ⟨K, fd, c, T, KX, hb, hT, nT, hC, hF⟩ := F w mg fa _ Y G.T.g hmg
  have one : ∀ p ∈ [(c, T)], p = (c, T) := fun p hp => List.mem_singleton.mp hp
  refine LamX.law_callTs (cs := [(c, T)]) (sp := spL K T n) (CX := L2.CX l.prog w) (k := k) (x := x) (fd := fd) KX G.T.g G.T.b G.T.builtins G.T.nolimit hg (fun p hp => by rw [one p hp]; exact hT) (fun p hp => by rw [one p hp]; exact nT) (fun p hp => by rw [one p hp]; exact hC) G.T.bmain hobj hints (Nat.le_trans hlen hn2) hr
    (fun base kin ns tb => law_okT (hF base kin ns (tb (c, T) List.mem_cons_self)) hD) hb (fun H hH hS => ⟨a, ns, hlen, rfl, hH (c, T) List.mem_cons_self, hS, fun v _ h => h⟩) fun H e s' z => ?_
  obtain ⟨_, _, _, _, _, _, _, _, _, _, _, _, y⟩ := z
  exact y
end Z
/-! Z: own exceptions as the top has left them -/
namespace Z
open PySem PySem.Spec PyProof.Rows L2
/-! ### own exceptions, as the top has left them -/
def oexB (K : PySem.W.Frag) (C : Addr) : Bool := (match K.lookup C with
  | some ⟨.type t, _, .cls cd, sl⟩ => (match cd.mro, sl.toList with
    | .ref C' :: bm, [_, _, _, _, some (.builtin m), _] => decide (t = "type") && (decide (C' = C) && (decide (m = "ValueError.__new__") && (!cd.hasDel && (cd.hasDict && PySem.HandSPX.refsVE bm))))
    | _, _ => false)
  | _ => false) && (He.eqO (PySem.W.findIn K (.ref C) "__setattr__") (some (some (.builtin "object.__setattr__"))) && (decide (PySem.W.subIn K (.ref C) (.type "BaseException") = some true) && (decide (PySem.W.typeIn K (.ref C) = some (.type "type")) && PySem.W.keepIn K (.ref C))))
theorem oexB_ok {K : PySem.W.Frag} {C : Addr} (h : oexB K C = true) : OexC K C := by
  obtain ⟨h1, h⟩ := He.ba h
  obtain ⟨h2, h⟩ := He.ba h
  obtain ⟨h3, h⟩ := He.ba h
  obtain ⟨h4, h5⟩ := He.ba h
  refine ⟨?_, He.eqO_ok h2, of_decide_eq_true h3, of_decide_eq_true h4, h5⟩
  cases y : K.lookup C with
  | none => simp only [y] at h1; cases h1
  | some o =>
    obtain ⟨oc, od, dt, sl⟩ := o
    simp only [y] at h1
    cases oc <;> first | (cases h1; done) | skip
    cases dt <;> first | (cases h1; done) | skip
    rename_i t cd
    obtain ⟨nm, bs, mro, ns, qn, hd, sn, sub, ab, col, del⟩ := cd
    simp only at h1
    split at h1
    · rename_i z0 C' bm k0 k1 k2 k3 m k5 e2
      obtain ⟨g1, g⟩ := He.ba h1
      obtain ⟨g2, g⟩ := He.ba g
      obtain ⟨g3, g⟩ := He.ba g
      obtain ⟨g4, g⟩ := He.ba g
      obtain ⟨g5, g6⟩ := He.ba g
      have g1 := of_decide_eq_true g1
      have g2 := of_decide_eq_true g2
      have g3 := of_decide_eq_true g3
      have g4 : del = false := by simpa using g4
      have g5 : hd = true := g5
      subst g1 g2 g3 g4 g5
      have e3 : sl = #[k0, k1, k2, k3, some (.builtin "ValueError.__new__"), k5] := by
        rw [← Array.toList_inj]; exact e2
      subst e3
      exact ⟨nm, qn, ns, bs, bm, sn, sub, ab, col, od, k0, k1, k2, k3, k5, rfl, g6⟩
    · cases h1
def supB (K : PySem.W.Frag) (C : Addr) : Bool := He.eqO (PySem.W.ks_superIn K C C "__init__") (some (some (.builtin "ValueError.__init__"))) && (He.eqO (PySem.W.nsIn K cStatics "thirdparty.any") (some none) && (decide (PySem.W.mroIn K C (.ref C) = some true) && decide (PySem.W.subIn K (.ref C) (.type "ValueError") = some true)))
/-- the __init__ of the class c: its code object's file, its cell -/
def ixB (file : Str) (K : PySem.W.Frag) (C fI : Addr) : Bool := match K.lookup fI with
  | some ⟨_, _, .func fd, _⟩ => (match fd.code, fd.closure with
    | .ref cda, [(_, cc)] => (match K.lookup cda with
      | some ⟨_, _, .fields vs, _⟩ => (match (vs[2]? : Option Value) with
        | some (.str fl _) => decide (fl = file)
        | _ => false)
      | _ => false) && (match K.lookup cc with
      | some ⟨_, _, .cell (some (.ref C')), _⟩ => decide (C' = C)
      | _ => false)
    | _, _ => false)
  | _ => false
def xcB (file c : Str) (fs : List Str) (K : PySem.W.Frag) : Bool := oexB K (He.ga K c) && (supB K (He.ga K c) && (He.eqO (PySem.W.findIn K (.ref (He.ga K c)) "__init__") (some (some (.ref (He.ma K (He.ga K c) "__init__")))) && (decide (PySem.W.typeIn K (.ref (He.ma K (He.ga K c) "__init__")) = some (.type "function")) &&
  ((fs.all fun f => He.eqO (PySem.W.findIn K (.ref (He.ga K c)) f) (some none)) && ixB file K (He.ga K c) (He.ma K (He.ga K c) "__init__")))))
structure PrOk (P : Program) (file : Str) : Prop where
  file : ((P.main.file : Str) == file) = true
  top : (P.main.scope.names.lookup ("super" : Str)).isSome = false
end Z
/-! Z: own exceptions as the top has left them, taken apart -/
namespace Z
open PySem PySem.Spec PyProof.Rows L2
/-- all of it, taken apart -/
theorem xc_parts {file c : Str} {fs : List Str} {K : PySem.W.Frag} {d : Zd} (hx : xcB file c fs K = true) (hat : d.at_ K = He.ma K (He.ga K c) "__init__") (hc0 : d.clo = [("__class__" : Str)]) (hd : zAt K (d.at_ K) = d.val ∧ d.ok K = true) :
    SupC K (He.ga K c) ∧ PySem.W.findIn K (.ref (He.ga K c)) "__init__" = some (some (.ref (d.at_ K))) ∧ PySem.W.typeIn K (.ref (d.at_ K)) = some (.type "function") ∧ (∀ f ∈ fs, PySem.W.findIn K (.ref (He.ga K c)) f = some none) ∧
      ∃ (oc : Value) (od : Option Addr) (dV kV doc pm ct : Value) (an : Option Addr) (osl : Array (Option Value)) (cda cc : Addr) (ccl cl : Value) (cdd cld : Option Addr) (ccs csl : Array (Option Value)) (cvs : Array Value) (tf : Tok),
        K.lookup (d.at_ K) = some ⟨oc, od, .func (PySem.W.ksFn d.name d.qual (defArgs d.st) (defBody d.st) (defScope d.st) dV kV doc pm an (.ref cda) ct cc), osl⟩ ∧ PySem.W.codeIn K (.ref cda) d.qual = true ∧ DflV K dV [] ∧
          K.lookup cda = some ⟨ccl, cdd, .fields cvs, ccs⟩ ∧ cvs[2]? = some (.str file tf) ∧ K.lookup cc = some ⟨cl, cld, .cell (some (.ref (He.ga K c))), csl⟩ := by
  obtain ⟨h1, h⟩ := He.ba hx
  obtain ⟨h2, h⟩ := He.ba h
  obtain ⟨h3, h⟩ := He.ba h
  obtain ⟨h4, h⟩ := He.ba h
  obtain ⟨h5, h6⟩ := He.ba h
  obtain ⟨s1, s⟩ := He.ba h2
  obtain ⟨s2, s⟩ := He.ba s
  obtain ⟨s3, s4⟩ := He.ba s
  rw [← hat] at h3 h4 h6
  refine ⟨⟨oexB_ok h1, He.eqO_ok s1, He.eqO_ok s2, of_decide_eq_true s3, of_decide_eq_true s4⟩, He.eqO_ok h3, of_decide_eq_true h4, fun f hf => He.eqO_ok (List.all_eq_true.mp h5 f hf), ?_⟩
  obtain ⟨e, c0⟩ := hd
  obtain ⟨kp, c2⟩ := He.ba c0
  unfold zAt at e
  unfold ixB at h6
  cases y : K.lookup (d.at_ K) with
  | none => rw [y] at c2; cases c2
  | some o =>
    obtain ⟨oc, od, dt, osl⟩ := o
    rw [y] at c2 e h6
    cases dt with
    | func fd =>
      obtain ⟨n1, n2, n3, n4, n5, n6, n7, n8, n9, n10, n11, n12, n13, n14, n15⟩ := fd
      have e2 : (some (n1, n2, n3, n4, n5, n6, n7.map (fun p => (p.1, 0)), n15) : He.FnW) = d.val := e
      unfold Zd.val at e2
      simp only [Option.some.injEq, Prod.mk.injEq] at e2
      obtain ⟨g1, g2, g3, g4, g5, g6, g7, g8⟩ := e2
      subst g1 g2 g3 g4 g5 g6 g8
      obtain ⟨k1, k2⟩ := He.ba c2
      obtain ⟨k3, k4⟩ := He.ba k2
      simp only at h6 k1
      split at h6
      · rename_i cda x0 cc
        obtain ⟨i1, i2⟩ := He.ba h6
        have ex : x0 = "__class__" := by
          rw [hc0] at g7
          simp at g7
          exact g7
        subst ex
        cases w1 : K.lookup cda with
        | none => simp only [w1] at i1; cases i1
        | some o1 =>
        obtain ⟨ccl, cdd, cdt, ccs⟩ := o1
        simp only [w1] at i1
        cases cdt <;> first | (cases i1; done) | skip
        rename_i cvs
        simp only at i1
        cases w3 : cvs[2]? with
        | none => simp only [w3] at i1; cases i1
        | some fv =>
        simp only [w3] at i1
        cases fv <;> first | (cases i1; done) | skip
        rename_i fl tf
        have i1 := of_decide_eq_true i1
        subst i1
        cases w2 : K.lookup cc with
        | none => simp only [w2] at i2; cases i2
        | some o2 =>
        obtain ⟨cl, cld, cdt, csl⟩ := o2
        simp only [w2] at i2
        cases cdt <;> first | (cases i2; done) | skip
        rename_i cv
        cases cv with
        | none => cases i2
        | some cv =>
        cases cv <;> first | (cases i2; done) | skip
        have i2 := of_decide_eq_true i2
        subst i2
        exact ⟨oc, od, _, _, _, _, _, _, osl, cda, cc, ccl, cl, cdd, cld, ccs, csl, cvs, tf, rfl, k1, He.dflB_ok k3, w1, w3, w2⟩
      · cases h6
    | _ => cases c2
end Z
/-! Z: own exceptions: their __init__ walked; what is caught; lambdas by their place -/
namespace Z
open PySem PySem.Spec PyProof.Rows L2
theorem exc1_of {P : Program} {w : World} {K : PySem.W.Frag} {mg : Str → Option Value} {base : Heap} {file c f msg : Str} {d : Zd} {ar : Arg} {j k1 : Nat} {p0 p1 p2 p3 p4 p5 q1 q2 q3 q4 q5 q6 q7 q8 q9 q10 q11 q12 q13 : Pos} {pl : Env → Sem Bool} {j2 : Nat}
    (PO : PrOk P file) (hg : mg c = some (.ref (He.ga K c))) (hms : mg "super" = none) (hx : xcB file c [f, "code", "details"] K = true) (hat : d.at_ K = He.ma K (He.ga K c) "__init__") (hc0 : d.clo = [("__class__" : Str)]) (hd : zAt K (d.at_ K) = d.val ∧ d.ok K = true)
    (hbody : defBody d.st = [.Expr (.Call (.Attribute (.Call (.Name "super" p0) [] [] p1) "__init__" p2) [.Constant (.str msg) j p3] [] p4) p5, .Assign [.Attribute (.Name "self" q1) f q3] (.Name f q2) q4, .Assign [.Attribute (.Name "self" q5) "code" q7] (.Constant (.str c) j2 q6) q8, .Assign [.Attribute (.Name "self" q9) "details" q12] (.Tuple [.Name f q10] k1 q11) q13])
    (S : SupScope ["self", f] ["self", f] (defScope d.st)) (hp : ((defArgs d.st).posonlyargs ++ (defArgs d.st).args).head? = some ar) (har : ar.arg = "self")
    (hbind : ∀ (kV doc pm : Value) (an : Option Addr) (cdv ct : Value) (cc : Addr) (us : List Value), us.length = 2 → bindArgs (PySem.W.ksFn d.name d.qual (defArgs d.st) (defBody d.st) (defScope d.st) .none kV doc pm an cdv ct cc) ⟨us, []⟩ = pure ([("self" : Str), f].zip us))
    (hev : ∀ env : Env, eval (.Call (.Attribute (.Call (.Name "super" p0) [] [] p1) "__init__" p2) [.Constant (.str msg) j p3] [] p4) env = (do
      let ov ← attributeBase (.Call (.Name "super" p0) [] [] p1) "__init__" env (eval (.Call (.Name "super" p0) [] [] p1) env)
      standAt p2.atName
      let (f, first) ← holding [ov] (getMethod ov "__init__" (pl env))
      callWith p4 f first (backTo p4 (starEach [.Constant (.str msg) j p3] env)) []))
    (hsw : ∀ env : Env, swapsWith (.Call (.Attribute (.Call (.Name "super" p0) [] [] p1) "__init__" p2) [.Constant (.str msg) j p3] [] p4) none p5.line env = pure false)
    (w1 : ∀ env : Env, swapsWith (.Name f q2) (some (.Attribute (.Name "self" q1) f q3)) q4.line env = pure false) (w2 : ∀ env : Env, swapsWith (.Constant (.str c) j2 q6) (some (.Attribute (.Name "self" q5) "code" q7)) q8.line env = pure false)
    (w3 : ∀ env : Env, swapsWith (.Tuple [.Name f q10] k1 q11) (some (.Attribute (.Name "self" q9) "details" q12)) q13.line env = pure false)
    (hd1 : (f == ("__debug__" : Str)) = false) (hd2 : (f == ("__classdict__" : Str)) = false) : Exc1 P w K mg base 1 c f := by
  obtain ⟨T, iC, tI, nof, oc, od, dV, kV, doc, pm, ct, an, osl, cda, cc, ccl, cl, cdd, cld, ccs, csl, cvs, tf, lk, hcd, hD, hcode, hvs, hcell⟩ := xc_parts hx hat hc0 hd
  have hdV : dV = .none := by
    rcases hD with ⟨_, z⟩ | ⟨z, _⟩
    · exact z
    · exact absurd rfl z
  subst hdV
  have hb2 := fun us h => hbind kV doc pm an (.ref cda) ct cc us h
  rw [hbody] at lk hb2
  refine ⟨He.ga K c, hg, T.oex, d.at_ K, _, iC, tI, .all fun us hl => hb2 us (by simpa using hl), sup_fn (k := 0) T lk hcd hcode hvs PO.file PO.top hms hcell S hp (by rw [har]; rfl) hev hsw (fun vs H Q E ⟨a, y, e, _⟩ => by rw [e]; rfl) fun A outer s H vs Q E hr ⟨a, y, e, ea, hq⟩ => ?_⟩
  subst e
  obtain ⟨t, ht, hq2⟩ := rest1 (X := supCx (L2.CX P w) P w K mg base ["self", f] d.qual (defScope d.st) (d.at_ K) (.ref cda) cc A outer s H E) (C := He.ga K c) (f := f) (code := c) (q1 := q1) (q2 := q2) (q3 := q3) (q4 := q4) (q5 := q5) (q6 := q6) (q7 := q7) (q8 := q8) (q9 := q9) (q10 := q10) (q11 := q11) (q12 := q12) (q13 := q13) (j := j2) (k1 := k1) T.oex (nof f (by simp)) (nof "code" (by simp)) (nof "details" (by simp)) rfl rfl
    (.inl (S.par _ (by simp))) (.inl (S.par _ (by simp))) hd1 hd2 (w1 _) (w2 _) (w3 _)
  exact ⟨a, [y], t, rfl, ea, ht, hq2 _ _ _ _ _ rfl rfl ea fun dx p h1 h2 h3 h4 h5 => hq dx p h1 h2 h3 h4 h5⟩
theorem exc0_of {P : Program} {w : World} {K : PySem.W.Frag} {mg : Str → Option Value} {base : Heap} {file c msg : Str} {d : Zd} {ar : Arg} {j k1 : Nat} {p0 p1 p2 p3 p4 p5 q5 q6 q7 q8 q9 q11 q12 q13 : Pos} {pl : Env → Sem Bool} {j2 : Nat}
    (PO : PrOk P file) (hg : mg c = some (.ref (He.ga K c))) (hms : mg "super" = none) (hx : xcB file c ["code", "details"] K = true) (hat : d.at_ K = He.ma K (He.ga K c) "__init__") (hc0 : d.clo = [("__class__" : Str)]) (hd : zAt K (d.at_ K) = d.val ∧ d.ok K = true)
    (hbody : defBody d.st = [.Expr (.Call (.Attribute (.Call (.Name "super" p0) [] [] p1) "__init__" p2) [.Constant (.str msg) j p3] [] p4) p5, .Assign [.Attribute (.Name "self" q5) "code" q7] (.Constant (.str c) j2 q6) q8, .Assign [.Attribute (.Name "self" q9) "details" q12] (.Tuple [] k1 q11) q13])
    (S : SupScope ["self"] ["self"] (defScope d.st)) (hp : ((defArgs d.st).posonlyargs ++ (defArgs d.st).args).head? = some ar) (har : ar.arg = "self")
    (hbind : ∀ (kV doc pm : Value) (an : Option Addr) (cdv ct : Value) (cc : Addr) (us : List Value), us.length = 1 → bindArgs (PySem.W.ksFn d.name d.qual (defArgs d.st) (defBody d.st) (defScope d.st) .none kV doc pm an cdv ct cc) ⟨us, []⟩ = pure ([("self" : Str)].zip us))
    (hev : ∀ env : Env, eval (.Call (.Attribute (.Call (.Name "super" p0) [] [] p1) "__init__" p2) [.Constant (.str msg) j p3] [] p4) env = (do
      let ov ← attributeBase (.Call (.Name "super" p0) [] [] p1) "__init__" env (eval (.Call (.Name "super" p0) [] [] p1) env)
      standAt p2.atName
      let (f, first) ← holding [ov] (getMethod ov "__init__" (pl env))
      callWith p4 f first (backTo p4 (starEach [.Constant (.str msg) j p3] env)) []))
    (hsw : ∀ env : Env, swapsWith (.Call (.Attribute (.Call (.Name "super" p0) [] [] p1) "__init__" p2) [.Constant (.str msg) j p3] [] p4) none p5.line env = pure false)
    (w2 : ∀ env : Env, swapsWith (.Constant (.str c) j2 q6) (some (.Attribute (.Name "self" q5) "code" q7)) q8.line env = pure false)
    (w3 : ∀ env : Env, swapsWith (.Tuple [] k1 q11) (some (.Attribute (.Name "self" q9) "details" q12)) q13.line env = pure false) : Exc0 P w K mg base 1 c := by
  obtain ⟨T, iC, tI, nof, oc, od, dV, kV, doc, pm, ct, an, osl, cda, cc, ccl, cl, cdd, cld, ccs, csl, cvs, tf, lk, hcd, hD, hcode, hvs, hcell⟩ := xc_parts hx hat hc0 hd
  have hdV : dV = .none := by
    rcases hD with ⟨_, z⟩ | ⟨z, _⟩
    · exact z
    · exact absurd rfl z
  subst hdV
  have hb2 := fun us h => hbind kV doc pm an (.ref cda) ct cc us h
  rw [hbody] at lk hb2
  refine ⟨He.ga K c, hg, T.oex, d.at_ K, _, iC, tI, .all fun us hl => hb2 us (by simpa using hl), sup_fn (k := 0) T lk hcd hcode hvs PO.file PO.top hms hcell S hp (by rw [har]; rfl) hev hsw (fun vs H Q E ⟨a, e, _⟩ => by rw [e]; rfl) fun A outer s H vs Q E hr ⟨a, e, ea, hq⟩ => ?_⟩
  subst e
  obtain ⟨t, ht, hq2⟩ := rest0 (X := supCx (L2.CX P w) P w K mg base ["self"] d.qual (defScope d.st) (d.at_ K) (.ref cda) cc A outer s H E) (C := He.ga K c) (code := c) (q5 := q5) (q6 := q6) (q7 := q7) (q8 := q8) (q9 := q9) (q11 := q11) (q12 := q12) (q13 := q13) (j := j2) (k1 := k1) T.oex (nof "code" (by simp)) (nof "details" (by simp)) rfl
    (.inl (S.par _ (by simp))) (w2 _) (w3 _)
  exact ⟨a, [], t, rfl, ea, ht, hq2 _ _ _ _ rfl ea fun dx p h1 h2 h3 h4 h5 => hq dx p h1 h2 h3 h4 h5⟩
/-! ### what is caught -/
def catB (K : PySem.W.Frag) (x1 x2 x3 f g c : Str) : Bool := decide (PySem.W.exmAny K (.ref (He.ga K c)) [.ref (He.ga K x1), .ref (He.ga K x2), .ref (He.ga K x3)] = some true) && (xfB K (He.ga K c) && (He.eqO (PySem.W.findIn K (.ref (He.ga K c)) f) (some none) && He.eqO (PySem.W.findIn K (.ref (He.ga K c)) g) (some none)))
theorem catB_ok {K : PySem.W.Frag} {x1 x2 x3 f g c : Str} (h : catB K x1 x2 x3 f g c = true) : CatchC K (.ref (He.ga K x1)) (.ref (He.ga K x2)) (.ref (He.ga K x3)) f g (He.ga K c) := by
  obtain ⟨h1, h⟩ := He.ba h
  obtain ⟨h2, h⟩ := He.ba h
  obtain ⟨h3, h4⟩ := He.ba h
  exact ⟨of_decide_eq_true h1, xfB_ok h2, He.eqO_ok h3, He.eqO_ok h4⟩
theorem catch_in {K : PySem.W.Frag} {mg : Str → Option Value} {c1 c2 c3 : Value} {f g : Str} {es : List Str} (h : ∀ c ∈ es, mg c = some (.ref (He.ga K c)) ∧ CatchC K c1 c2 c3 f g (He.ga K c)) : ∀ c ∈ es, ∀ C, mg c = some (.ref C) → CatchC K c1 c2 c3 f g C := fun c hc C hC => by
  obtain ⟨h1, h2⟩ := h c hc
  rw [h1] at hC; cases hC; exact h2
/-! ### lambdas, by their place -/
def lamOf (e : Expr) (qual : Str) (pn : List (Str × NameKind)) (dfl : Option Int) : LamI := match e with
  | .Lambda p b s _ => ⟨qual, p, b, s, pn, dfl⟩
  | _ => ⟨qual, ⟨[], [], none, [], [], none, []⟩, .Constant .none 0 ⟨0, 0, 0, 0⟩, { kind := .function, names := [], isGenerator := false, isCoroutine := false }, pn, dfl⟩
def noE : Expr := .Constant .none 0 ⟨0, 0, 0, 0⟩
def noS : Stmt := .Pass ⟨0, 0, 0, 0⟩
/-- a part of a statement: of its body (0), its other branch (1) -/
def sIn (w i : Nat) (s : Stmt) : Stmt := match s with
  | .For _ _ b o _ => (if w = 0 then b else o).getD i noS
  | .While _ b o _ => (if w = 0 then b else o).getD i noS
  | .If _ b o _ => (if w = 0 then b else o).getD i noS
  | _ => noS
def sVal (s : Stmt) : Expr := match s with
  | .Assign _ e _ => e
  | .Expr e _ => e
  | .Return (some e) _ => e
  | .If e _ _ _ => e
  | _ => noE
/-- a part of an expression -/
def eIn (i : Nat) (e : Expr) : Expr := match e with
  | .List es _ => es.getD i noE
  | .Tuple es _ _ => es.getD i noE
  | .Call f as ks _ => if i = 0 then f else if i ≤ as.length then as.getD (i - 1) noE else match ks[i - 1 - as.length]? with
    | some k => k.value
    | none => noE
  | .BinOp a _ b _ => if i = 0 then a else b
  | .Compare a _ cs _ => if i = 0 then a else cs.getD (i - 1) noE
  | .BoolOp _ es _ => es.getD i noE
  | .UnaryOp _ a _ => a
  | .Subscript a b _ => if i = 0 then a else b
  | .IfExp a b c _ => if i = 0 then a else if i = 1 then b else c
  | .Attribute a _ _ => a
  | _ => noE
theorem convV {X : Cx} {W : WX} {pn : List Nat} {e : Expr} {s t : M RV} (h : QV X W pn e s) (q : s = t) : QV X W pn e t := q ▸ h
def capB (N : List Str) (names : List (Str × NameKind)) (js : List Nat) (fs : List Str) : Bool := (js.zip fs).all fun p => decide (N[p.1]? = some p.2) && decide (names.lookup p.2 = some .cell)
theorem capB_ok {N : List Str} {names : List (Str × NameKind)} {js : List Nat} {fs : List Str} (h : capB N names js fs = true) : ∀ (n j : Nat) (x : Str), js[n]? = some j → fs[n]? = some x → N[j]? = some x ∧ names.lookup x = some .cell := fun n j x h1 h2 => by
  have m : (j, x) ∈ js.zip fs := List.mem_of_getElem? (i := n) (by rw [List.getElem?_zip_eq_some]; exact ⟨h1, h2⟩)
  have z := List.all_eq_true.mp h (j, x) m
  obtain ⟨z1, z2⟩ := Bool.and_eq_true_iff.mp z
  exact ⟨of_decide_eq_true z1, of_decide_eq_true z2⟩
theorem law_code {K : PySem.W.Frag} {d : Zd} {fd : FuncData} (F : ZFun K d fd) (hat : d.at_ K = He.ga K "law") : fd.code = .ref (He.cT K ("law", none)).1 := by
  obtain ⟨oc, od, dV, kV, doc, pm, an, cdv, ct, osl, rfl, lk, hcd, _, _⟩ := F.ex
  obtain ⟨c0, hc0⟩ := He.codeIn_ref hcd
  rw [hat] at lk
  have e := He.codeOf_eq (p := ("law", none)) lk (show (PySem.W.fnOf d.name d.qual (defArgs d.st) (defBody d.st) (defScope d.st) dV kV doc pm an cdv ct).code = .ref c0 from hc0)
  show cdv = .ref (He.codeOf K ("law", none))
  rw [e, hc0]
end Z
/-! Z: static methods by keywords only -/
namespace Z
open PySem PySem.Spec PyProof.Rows L2
variable {X : Cx} {W : WX} {pn : List Nat} {pos : Pos}
theorem qv_stat0 {k : Nat} {f C p0 : Addr} {fd : FuncData} {ps ks : List Str} {c m : Str} {apos cp : Pos} {kws : List Keyword} {fD : FnD} {arr : List Src} {mk : M (List Opd)} {pl : Sem Bool} (F : FnOk X.prog X.w X.K X.mg X.base (L2.CX X.prog X.w) k f fd ps (spOf X.K X.mg ps.length fD)) (tk : Takes X W) (hr : Room k X.A)
    (hg : Gl X c) (hmc : X.mg c = some (.ref C)) (hM : SMet X.K C m p0 f) (hkp : PySem.W.keepIn X.K (.ref f) = true) (hb : Bnd X.K X.mg fd ps 0 ks arr) (hkw : QK X W pn kws mk)
    (hall : (backToKw pos (keywordEach kws X.env)).all (·.1.isSome) = true) (hks : (backToKw pos (keywordEach kws X.env)).filterMap (·.1) = ks) (hdb : (c == ("__debug__" : Str)) = false)
    (hpl : ((backTo pos (starEach [] X.env)).any (·.1) || (backToKw pos (keywordEach kws X.env)).any (·.1.isNone)) = false)
    (hlk : ∀ env os e', mk env = .ok os e' → os.length = ks.length)
    (ht : eval (.Call (.Attribute (.Name c cp) m apos) [] kws pos) X.env = (do
      let ov ← eval (.Name c cp) X.env
      standAt apos.atName
      let (f, first) ← holding [ov] (getMethod ov m pl)
      callWith pos f first (backTo pos (starEach [] X.env)) (backToKw pos (keywordEach kws X.env)))) :
    QV X W pn (.Call (.Attribute (.Name c cp) m apos) [] kws pos) (statM fD arr nilO mk) := fun Fh P hp => ⟨fun pins s σ H Q I ⟨G, env, S, q⟩ => by
  refine PySem.W.methodCall_KW (pl := pl) (thn ((pe_glob (pos := cp) (v := .ref C) hg hmc rfl hdb).run pins s σ H (fun v H1 => v = .ref C ∧ H1 = H) I ⟨rfl, rfl⟩) fun u s1 ⟨x, H1, I1, rx, ex, eH⟩ => ?_) ht
  subst ex eH
  obtain rfl : u = Value.ref C := rx
  refine getsm_ok I1 hM fun s2 I2 => ?_
  refine args_run0 (X := X) (first := []) I2 hkp (hkw Fh P hp) (rd_one (k := fun os => finA fD arr os) S q hlk) hall hks hpl fun ws zs s3 H2 I3 rz ⟨l2, os, G', e', _, S', ho, q'⟩ => ?_
  obtain ⟨zz, b1, b2, b3⟩ := hb.to s3 [] ws I3.kIn rfl (by rw [← rz.length]; exact l2)
  obtain ⟨vz, r1, hsp⟩ := finA_ok (E := WE W σ) (us := [] ++ ws) S' ho rz b1 b2 hb.len q' fun _ _ _ => Iff.rfl
  exact run_anyS F hr (passAt tk σ) I3 b3 r1 hsp⟩
end Z
/-! Z: x[::-1] of a list or a tuple; (..) * n with n < 2 -/
namespace Z
open PySem PySem.Spec PyProof.Rows L2
section
variable {prog : Program} {w : World} {A : Around} {E : Value → Shared → Prop} {s : Shared}
theorem back_applied {sl : Addr} {tk : Tok} {n : Nat} {Q : Int × Int × Nat → Shared → Prop} (hs : s.heap.IsSliceOf sl .none .none (.int (-1) tk)) (h : Q ((n : Int) - 1, -1, n) s) :
    wpAny (model prog w) A (Builtin.Slice.sliceApplied (.ref sl) (pure (n : Int))) Q E s := by
  obtain ⟨ob, h1, h2, h3⟩ := id hs
  unfold Builtin.Slice.sliceApplied Builtin.Slice.sliceFields
  refine wpAny_bind (wpAny_bind (wpAny_field h1 h3 (x := .none) rfl (wpAny_bind (wpAny_field h1 h3 (x := .none) rfl (wpAny_bind (wpAny_field h1 h3 (x := .int (-1) tk) rfl (wpAny_pure ?_)))))))
  refine wpAny_bind (slicePart_int ?_)
  show wpAny _ _ (if ((-1 : Int) == 0) = true then _ else _) _ _ s
  rw [if_neg (by decide)]
  refine wpAny_bind (slicePart_none (wpAny_bind (slicePart_none (wpAny_bind (wpAny_pure ?_)))))
  show wpAny _ _ (match Builtin.Slice.sliceAdjust none none (-1) (n : Int) with | (lo, hi) => pure (lo, (-1 : Int), Builtin.Slice.slicePlaces lo hi (-1))) _ _ s
  have e1 : Builtin.Slice.sliceAdjust none none (-1) (n : Int) = ((n : Int) - 1, -1) := by
    unfold Builtin.Slice.sliceAdjust
    simp
  rw [e1]
  show wpAny _ _ (pure ((n : Int) - 1, (-1 : Int), Builtin.Slice.slicePlaces ((n : Int) - 1) (-1) (-1))) _ _ s
  have e2 : Builtin.Slice.slicePlaces ((n : Int) - 1) (-1) (-1) = n := by
    unfold Builtin.Slice.slicePlaces
    by_cases h : (n : Int) - 1 > -1
    · simp only [show ¬ ((-1 : Int) > 0) by decide, if_false, if_pos h]
      rw [show (- -1 : Int) = 1 by decide, Int.ediv_one]; omega
    · simp only [show ¬ ((-1 : Int) > 0) by decide, if_false, if_neg h]; omega
  rw [e2]
  exact wpAny_pure h
theorem fm_congr {α β : Type} {f g : α → Option β} : ∀ {l : List α}, (∀ x ∈ l, f x = g x) → l.filterMap f = l.filterMap g
  | [], _ => rfl
  | a :: l, h => by
    have e := fm_congr (l := l) fun x hx => h x (List.mem_cons_of_mem _ hx)
    rw [List.filterMap_cons, List.filterMap_cons, h a List.mem_cons_self, e]
theorem back_pick (xs : Array Value) : ((List.range xs.size).filterMap fun (m : Nat) => xs[((xs.size : Int) - 1 + (m : Int) * (-1)).toNat]?).toArray = xs.toList.reverse.toArray := by
  have e : (List.range xs.size).filterMap (fun (m : Nat) => xs[((xs.size : Int) - 1 + (m : Int) * (-1)).toNat]?) = ((List.range xs.size).map fun k => xs.size - 1 - k).filterMap (xs[·]?) := by
    rw [List.filterMap_map]
    refine fm_congr fun m hm => ?_
    have := List.mem_range.mp hm
    show _ = xs[xs.size - 1 - m]?
    congr 1
    omega
  rw [e, PySem.W.krv_range, List.filterMap_reverse, PySem.W.krv_all]
theorem get_back {t sl : Addr} {items : Array Value} {tk : Tok} {Q : Value → Shared → Prop} (ht : IsTup s.heap t items) (hs : s.heap.IsSliceOf sl .none .none (.int (-1) tk))
    (h : Q (.ref s.heap.objs.size) { s with heap := s.heap.push { cls := .type "tuple", data := .seq items.toList.reverse.toArray } }) (hsz : items.size ≤ sizeLine) : wpAny (model prog w) A (getItem (.ref t) (.ref sl)) Q E s := by
  have fits : sizeOk (.seq items.toList.reverse.toArray) := by
    show items.toList.reverse.toArray.size ≤ sizeLine
    rw [List.size_toArray, List.length_reverse, Array.length_toList]
    exact hsz
  obtain ⟨ob, h1, h2, h3⟩ := id hs
  have ty : s.TypeIs (.ref sl) "slice" := ⟨ob, h1, h2⟩
  unfold getItem
  try with_reducible refine wpAny_holding ?_
  first | refine wpAny_bind (wpAny_pure ?_) | skip
  refine wpAny_bind (wpAny_sequenceKey ht.typeIs (by decide) ?_)
  refine wpAny_bind (wpAny_callSpecial?_slot (name := Str.ofString "__getitem__") ht.typeIs PyProof.Rows.slot_tuple_getitem
    (wpAny_call_entry PyProof.Rows.slot_tuple_getitem ht.typeIs entry_tuple_getitem ?_ (args_tuple_getitem _ _)))
  show wpAny _ _ (Builtin.Tuple.tupleItemsOf (.ref t) >>= _) _ _ s
  refine wpAny_bind (tupleItemsOf_ ht ?_)
  refine wpAny_bind (wpAny_typeOf ty ?_)
  rw [if_pos (by decide)]
  refine wpAny_bind (back_applied hs ?_)
  have hno : ¬ (((items.size : Int) - 1 == 0 && (-1 : Int) == 1 && items.size == items.size) = true) := by
    rw [show ((-1 : Int) == 1) = false by decide, Bool.and_false, Bool.false_and]; exact Bool.false_ne_true
  show wpAny _ _ (if ((items.size : Int) - 1 == 0 && (-1 : Int) == 1 && items.size == items.size) = true then _ else _) _ _ s
  rw [if_neg hno, back_pick]
  first
    | exact wpAny_bind (m := Builtin.Tuple.tupleExact _) (wpAny_newObj_type (wpAny_pure ⟨_, rfl, wpAny_pure h⟩) fits)
    | exact wpAny_bind (m := Builtin.Tuple.tupleExact _) (wpAny_newObj_type (wpAny_bind (wpAny_pure (wpAny_pure ⟨_, rfl, wpAny_pure h⟩))) fits)
    | exact wpAny_bind (wpAny_bind (m := Builtin.Tuple.tupleExact _) (wpAny_newObj_type (wpAny_pure (wpAny_pure ⟨_, rfl, wpAny_pure h⟩)) fits))
    | exact wpAny_bind (wpAny_bind (m := Builtin.Tuple.tupleExact _) (wpAny_newObj_type (wpAny_pure ⟨_, rfl, wpAny_pure h⟩) fits))
end
section
variable {X : Cx} {W : WX} {pn : List Nat} {pos : Pos} {K : PySem.W.Frag} {mg : Str → Option Value}
/-- the same items, the last one first -/
def rBack (K : PySem.W.Frag) : V → Hp → VK → Prop := fun x H Q => ∃ a xs, x = .ref a ∧ ((SqL K H a xs ∧ ∀ p, H p = none → Q (.ref p) (upd H p (.lst xs.reverse))) ∨ (SqT K H a xs ∧ ∀ p, H p = none → Q (.ref p) (upd H p (.tup xs.reverse))))
theorem pe_back {e : Expr} {te : TE} {k : Nat} {p1 p2 p3 : Pos} (he : PE X e te) : PE X (.Subscript e (.Slice none none (some (.UnaryOp .USub (.Constant (.int 1) k p1) p2)) p3) pos) (fun σ H Q => te σ H fun x H1 => rBack X.K x H1 Q) := by
  refine ⟨fun pins s σ H Q I h => ?_⟩
  refine Subscript_ (thn (he.run pins s σ H _ I h) fun v s1 ⟨x, H1, I1, r1, q1⟩ => ?_)
  obtain ⟨a, xs, ex, hx⟩ := q1
  subst ex
  cases r1
  have wst : L2.PO X (some (.UnaryOp .USub (.Constant (.int 1) k p1) p2)) (tPart (tUn (rU fun i => .int (-i)) (tC (.int 1)))) := po_some (pe_un un_neg pe_int)
  refine wpAny_Slice (thn (po_none.run pins s1 σ H1 (fun o H2 => o = none ∧ H2 = H1) I1 ⟨rfl, rfl⟩) fun vl s2 ⟨l, H2, I2, pl, el, e2⟩ => ?_)
  subst el e2
  refine thn (po_none.run pins s2 σ H2 (fun o H3 => o = none ∧ H3 = H2) I2 ⟨rfl, rfl⟩) fun vu s3 ⟨u, H3, I3, pu, eu, e3⟩ => ?_
  subst eu e3
  refine thn (wst.run pins s3 σ H3 (fun o H4 => o = some (-1) ∧ H4 = H3) I3 ⟨1, rfl, -1, rfl, rfl, rfl⟩) fun vs s4 ⟨o, H4, I4, ps, eo, e4⟩ => ?_
  subst eo e4
  have I5 : Inv X pins σ H4 { s4 with heap := s4.heap.push { cls := .type "slice", data := .fields #[vl, vu, vs] } } := I4.kept (t' := s4.toks) fun b ob q => Heap.get?_push_of_some _ q
  show wpAny (model X.prog X.w) X.A (subscriptTail e (.Slice none none (some (.UnaryOp .USub (.Constant (.int 1) k p1) p2)) p3) (.ref a) (.ref s4.heap.objs.size)) (EP X pins σ Q) X.xe { s4 with heap := s4.heap.push { cls := .type "slice", data := .fields #[vl, vu, vs] } }
  rcases hx with ⟨hx, q⟩ | ⟨hx, q⟩
  · obtain ⟨its, r, ht, hz⟩ := I5.list hx
    have hlen := r.length
    refine tail_any (ops := [.ref a, .ref s4.heap.objs.size]) ht.isList.typeIs (PySem.slot_list_getitem.lookup) ?_ (by with_unfolding_all rfl)
    refine wpAny_getItem_list_slice ht.isList (Heap.IsSliceOf.new _ vl vu vs) pl pu ps (by decide) ?_ (by rw [List.size_toArray]; omega)
    rw [PySem.W.krv_pick]
    refine ⟨.ref _, _, I5.laid (t' := s4.toks) (o := .lst xs.reverse) (fun b ob q => Heap.get?_push_of_some _ q) (Nat.le_refl _) ?_, rfl, q _ (I5.hok.fresh (Nat.le_refl _))⟩
    exact ⟨by rw [List.length_reverse]; exact hz, _, 0, r.reverse, Heap.get?_push_size _ rfl⟩
  · obtain ⟨its, r, ht, hz⟩ := I5.tuple hx
    have hlen := r.length
    cases pl
    cases pu
    cases ps
    refine tail_any (ops := [.ref a, .ref s4.heap.objs.size]) ht.typeIs (PyProof.Rows.slot_tuple_getitem.lookup) ?_ (by with_unfolding_all rfl)
    refine get_back ht (Heap.IsSliceOf.new _ _ _ _) ?_ (by rw [List.size_toArray]; omega)
    refine ⟨.ref _, _, I5.laid (t' := s4.toks) (o := .tup xs.reverse) (fun b ob q => Heap.get?_push_of_some _ q) (Nat.le_refl _) ?_, rfl, q _ (I5.hok.fresh (Nat.le_refl _))⟩
    exact ⟨by rw [List.length_reverse]; exact hz, _, r.reverse, IsTup.new _ _⟩
theorem DenL.back {G : Hp} {xs : List V} {ds : List D} (h : DenL K mg G xs ds) : DenL K mg G xs.reverse ds.reverse := by
  refine ⟨by rw [List.length_reverse, List.length_reverse, h.1], fun i v d a b => ?_⟩
  have hi : i < xs.reverse.length := (List.getElem?_eq_some_iff.mp a).1
  rw [List.length_reverse] at hi
  rw [List.getElem?_reverse hi] at a
  rw [List.getElem?_reverse (by rw [← h.1]; exact hi), ← h.1] at b
  exact h.2 _ v d a b
def backF (r : RV) : Option RV := match listOf r with
  | some ds => some (.ol ds.reverse)
  | none => match r with
    | .sh (.tup ds) => some (.sh (.tup ds.reverse))
    | _ => none
theorem s_backF : UnS K mg (rBack K) backF := fun G H x a c Q ex va e k => by
  unfold backF at e
  split at e
  · rename_i ds q
    cases e
    obtain ⟨p, xs, rfl, h1, h2⟩ := va.list ex q
    exact ⟨p, xs, rfl, .inl ⟨SqL.of h1, fun b hb => k (.ref b) G _ (.own hb) (View.of_own upd_same (ex.none hb) h2.back)⟩⟩
  · split at e
    · rename_i ds _; cases e
      obtain ⟨p, xs, rfl, h1, h2⟩ := Den.tup_inv va
      refine ⟨p, xs, rfl, .inr ⟨ex.sqT h1, fun b hb => ?_⟩⟩
      have st : Step G H (upd G b (.tup xs.reverse)) (upd H b (.tup xs.reverse)) [] := .shr hb
      exact k _ _ _ st (Den.tupL (SqT.of upd_same) (h2.back.mono (st.ex ex)))
    · cases e
theorem qv_back {e : Expr} {k : Nat} {p1 p2 p3 : Pos} {ma : M Opd} (ha : QO X W pn e ma) : QV X W pn (.Subscript e (.Slice none none (some (.UnaryOp .USub (.Constant (.int 1) k p1) p2)) p3) pos) (unM backF ma) := fun Fh P hp =>
  PE.weak (pe_back (ha Fh P hp)) fun σ H Q ⟨G, env, S, q⟩ => ⟨G, env, S, PO_V q fun o1 e1 x G1 H1 ex1 w1 S1 hk => fin1_ok s_backF S1 w1 hk⟩
end
/-! ### (..) * n with n < 2 -/
theorem mulT_one (l : Addr) (items : Array Value) (n : Nat) (dd : Option Addr) (sl : Array (Option Value)) (u : Tok) :
    Meets (Builtin.«tuple.__mul__» ⟨[.ref l, .int 1 u], []⟩) (fun _ R s => s.heap.get? l = some { cls := .type "tuple", dict := dd, data := .seq items n, slots := sl } ∧ R (.ok (.ret (Value.ref l))) s) :=
  .of_wp fun prog w A R s h => by
    obtain ⟨hp, g, d, tk, os⟩ := s
    obtain ⟨hl, h⟩ := h
    have f1 := AutoSeq1.idx_int
    have c1 : (items.isEmpty || (1 : Int) == 1) = true := by rw [show ((1 : Int) == 1) = true by decide, Bool.or_true]
    wp_walk using wpAny_loadPart' hl
    repeat (first
      | (refine wpAny_ite_false (decide_eq_false (by decide)) ?_; wp_walk using wpAny_loadPart' hl)
      | (refine wpAny_ite_true (decide_eq_true c1) ?_; wp_walk using wpAny_loadPart' hl)
      | (refine wpAny_ite_true (decide_eq_true (by decide)) ?_; wp_walk using wpAny_loadPart' hl))
    exact ⟨_, rfl, h⟩
theorem mulT_zero (l : Addr) (items : Array Value) (n : Nat) (dd : Option Addr) (sl : Array (Option Value)) (x : Int) (u : Tok) (c0 : (decide (x < -(2 ^ 63)) || decide (x ≥ 2 ^ 63)) = false) (c1 : (items.isEmpty || x == 1) = false) (c2 : (decide (x ≤ 0) || items.isEmpty) = true) :
    Meets (Builtin.«tuple.__mul__» ⟨[.ref l, .int x u], []⟩) (fun _ R s => s.heap.get? l = some { cls := .type "tuple", dict := dd, data := .seq items n, slots := sl } ∧
      R (.ok (.ret (Value.ref s.heap.objs.size))) { s with heap := s.heap.push { cls := Value.type "tuple", data := Data.seq #[] }, toks := s.toks }) :=
  .of_wp fun prog w A R s h => by
    obtain ⟨hp, g, d, tk, os⟩ := s
    obtain ⟨hl, h⟩ := h
    have f1 := AutoSeq1.idx_int
    wp_walk using wpAny_loadPart' hl
    repeat (first
      | (refine wpAny_ite_false (decide_eq_false (by rw [c0]; exact Bool.false_ne_true)) ?_; wp_walk using wpAny_loadPart' hl)
      | (refine wpAny_ite_false (decide_eq_false (by rw [c1]; exact Bool.false_ne_true)) ?_; wp_walk using wpAny_loadPart' hl)
      | (refine wpAny_ite_true (decide_eq_true c2) ?_; wp_walk using wpAny_loadPart' hl))
    exact ⟨_, rfl, h⟩
def rRepU (K : PySem.W.Frag) : R2 := fun x y H Q => ∃ l k xs, x = .ref l ∧ y = .int k ∧ SqT K H l xs ∧ xs ≠ [] ∧ -1000 ≤ k ∧ ((k = 1 ∧ Q (.ref l) H) ∨ (k ≤ 0 ∧ ∀ p, H p = none → Q (.ref p) (upd H p (.tup []))))
section
variable {X : Cx} {K : PySem.W.Frag} {mg : Str → Option Value}
theorem op_repU : OpR X (binaryOp .Mult) (rRepU X.K) := by
  intro pins s σ H x y v u Q I rx ry h
  obtain ⟨l, k, xs, rfl, rfl, hT, hne, h1, q⟩ := h
  cases rx
  obtain ⟨t, rfl⟩ := ry
  obtain ⟨its, r, ⟨⟨cls, dd, data, sl⟩, ho, hc, n, hd⟩, hs⟩ := I.tuple hT
  simp only at hc hd
  subst hc hd
  have wle : its.length = xs.length := r.length.symm
  have wn : its ≠ [] := fun e => hne (by
    rw [e] at wle
    exact List.eq_nil_of_length_eq_zero wle.symm)
  have wi : its.toArray.isEmpty = false := by
    cases its with
    | nil => exact absurd rfl wn
    | cons a b => rfl
  rcases q with ⟨rfl, q⟩ | ⟨h2, q⟩
  · exact wpAny_binaryOp_repeat_ref (T := "tuple") (U := "int") (by decide) ⟨_, ho, rfl⟩ (fun s' => typeIs_int s' 1 t) noFill_tuple_mul F.fills_int_mul F.slot_int_rmul repeat_tuple F.slot_int_index.lookup
      (call_meets F.slot_int_rmul (typeIs_int s 1 t) F.entry_int_rmul (F.args_int_rmul_2 _ _) (int_rmul_tuple 1 t l its.toArray n dd sl)
        ⟨ho, rfl, ⟨_, ho, rfl⟩, call_meets F.slot_tuple_mul ⟨_, ho, rfl⟩ F.entry_tuple_mul (F.args_tuple_mul_2 _ _) (mulT_one l its.toArray n dd sl t) ⟨ho, ⟨.ref l, H, I, rfl, q⟩⟩⟩)
  · have c0 : (decide (k < -(2 ^ 63)) || decide (k ≥ 2 ^ 63)) = false := by
      rw [decide_eq_false (by omega), decide_eq_false (by omega)] <;> rfl
    have c1 : (its.toArray.isEmpty || k == 1) = false := by
      rw [wi, Bool.false_or]
      exact beq_eq_false_iff_ne.mpr (by omega)
    have c2 : (decide (k ≤ 0) || its.toArray.isEmpty) = true := by rw [decide_eq_true h2]; rfl
    refine wpAny_binaryOp_repeat_ref (T := "tuple") (U := "int") (by decide) ⟨_, ho, rfl⟩ (fun s' => typeIs_int s' k t) noFill_tuple_mul F.fills_int_mul F.slot_int_rmul repeat_tuple F.slot_int_index.lookup
      (call_meets F.slot_int_rmul (typeIs_int s k t) F.entry_int_rmul (F.args_int_rmul_2 _ _) (int_rmul_tuple k t l its.toArray n dd sl)
        ⟨ho, rfl, ⟨_, ho, rfl⟩, call_meets F.slot_tuple_mul ⟨_, ho, rfl⟩ F.entry_tuple_mul (F.args_tuple_mul_2 _ _) (mulT_zero l its.toArray n dd sl k t c0 c1 c2) ⟨ho, ?_⟩⟩)
    refine ⟨.ref s.heap.objs.size, _, I.laid (t' := s.toks) (o := .tup []) (fun b ob q => Heap.get?_push_of_some _ q) (Nat.le_refl _) ?_, rfl, q _ (I.hok.fresh (Nat.le_refl _))⟩
    exact ⟨Nat.zero_le _, _, .nil, IsTup.new _ _⟩
def repU (a b : RV) : Option RV := match tupOf a, b with
  | some x, .sh (.int k) => if x ≠ [] ∧ -1000 ≤ k ∧ k ≤ 1 then (if k = 1 then some (.sh (.tup x)) else some (.sh (.tup []))) else none
  | _, _ => none
theorem s_repU : OpS K mg (rRepU K) repU := fun G H x y a b c Q ex va vb e k => by
  unfold repU at e
  split at e
  · rename_i ds n q1
    split at e
    · rename_i h
      obtain ⟨h0, h2, h3⟩ := h
      obtain ⟨p, xs, rfl, h1, l1⟩ := va.tup ex q1
      refine ⟨p, n, xs, rfl, Den.int_inv vb, h1, fun z => h0 (by subst z; have := l1.1; simpa using this.symm), h2, ?_⟩
      split at e
      · rename_i hn; cases e
        have ea : a = .sh (.tup ds) := by
          unfold tupOf at q1
          split at q1 <;> first | (cases q1; done) | skip
          cases q1; rfl
        subst ea
        exact .inl ⟨hn, k _ G H .same va⟩
      · rename_i hn; cases e
        refine .inr ⟨by omega, fun b hb => ?_⟩
        have st : Step G H (upd G b (.tup [])) (upd H b (.tup [])) [] := .shr hb
        exact k _ _ _ st (Den.tupL (SqT.of upd_same) DenL.nil)
    · cases e
  · cases e
def mulX : RV → RV → Option RV := orF mulD repU
theorem o_mulU : OpR X (binaryOp .Mult) (fun x y H Q => rMulX X.K x y H Q ∨ rRepU X.K x y H Q) := Z.OpR.or o_mul op_repU
theorem s_mulU : OpS K mg (fun x y H Q => rMulX K x y H Q ∨ rRepU K x y H Q) mulX := OpS.or s_mulX s_repU
theorem mulX_of {a b z : RV} (h : mulD a b = some z) : mulX a b = some z := by unfold mulX orF; rw [h]
end
/-! ### a, b, c = x, y, z by a tuple -/
section
variable {X : Cx} {W : WX} {pn : List Nat} {pos : Pos}
theorem qs_parG3 {i j l : Nat} {x y z : Str} {a b c : Expr} {px py pz pt : Pos} {kt k2 : Nat} {pt2 : Pos} {ma mb mc : M RV} (hc : X.calm = true) (hN : X.N.Nodup) (hi : X.N[i]? = some x) (hj : X.N[j]? = some y) (hl : X.N[l]? = some z) (hij : i ≠ j) (hil : i ≠ l) (hjl : j ≠ l)
    (hx : Loc X.env.scope x) (hy : Loc X.env.scope y) (hz : Loc X.env.scope z) (hfx : X.fn x = true ∨ X.env.scope.names.lookup x = some .local) (hfy : X.fn y = true ∨ X.env.scope.names.lookup y = some .local) (hfz : X.fn z = true ∨ X.env.scope.names.lookup z = some .local) (ha : QV X W pn a ma) (hb : QV X W pn b mb) (hcc : QV X W pn c mc)
    (hw : swappedStores [.Tuple [.Name x px, .Name y py, .Name z pz] kt pt] (.Tuple [a, b, c] k2 pt2) X.env = pure none)
    (hs : swapsWithSole [.Tuple [.Name x px, .Name y py, .Name z pz] kt pt] (.Tuple [a, b, c] k2 pt2) pos.line X.env = pure false)
    (h1 : (assignEach [.Tuple [.Name x px, .Name y py, .Name z pz] kt pt] X.env).map (·.2) = [assign (.Tuple [.Name x px, .Name y py, .Name z pz] kt pt) X.env])
    (hn : (assignEach [.Name x px, .Name y py, .Name z pz] X.env).length = 3) (hst : (assignEach [.Name x px, .Name y py, .Name z pz] X.env).findIdx? (·.1) = none)
    (he1 : (assignEach [.Name x px, .Name y py, .Name z pz] X.env).map (·.2) = assign (.Name x px) X.env :: (assignEach [.Name y py, .Name z pz] X.env).map (·.2)) (he2 : (assignEach [.Name y py, .Name z pz] X.env).map (·.2) = assign (.Name y py) X.env :: (assignEach [.Name z pz] X.env).map (·.2))
    (he3 : (assignEach [.Name z pz] X.env).map (·.2) = assign (.Name z pz) X.env :: (assignEach [] X.env).map (·.2))
    (hs1 : starEach [a, b, c] X.env = (false, eval a X.env) :: starEach [b, c] X.env) (hs2 : starEach [b, c] X.env = (false, eval b X.env) :: starEach [c] X.env) (hs3 : starEach [c] X.env = (false, eval c X.env) :: starEach [] X.env) :
    QS X W pn (.Assign [.Tuple [.Name x px, .Name y py, .Name z pz] kt pt] (.Tuple [a, b, c] k2 pt2) pos) (par3 pn i j l ma mb mc) := fun Fh P hp =>
  PS.weak (ps_asg (pe_tup (pa_cons (ha Fh P hp) (pa_cons (PE.ex fun Fh' => hb Fh' P hp) (pa_cons (PE.ex fun Fh' => hcc Fh' P hp) pa_nil hs3) hs2) hs1)) (pg_tup hc (pgs_cons (pg_name hN hi hx hfx) (pgs_cons (pg_name hN hj hy hfy) (pgs_cons (pg_name hN hl hz hfz) pgs_nil he3) he2) he1) hn hst) hs hw h1) fun D σ H ⟨G, env, S, q⟩ => by
    refine ⟨G, env, S, PV_S (σ := σ) q fun r1 e1 v G1 H1 ex w S1 hk => ?_⟩
    obtain ⟨Fh', S1', back⟩ := S1.hold w
    refine ⟨Fh', G1, e1, S1', ?_⟩
    cases z : mb e1 with
    | err x e => simp only [z] at hk; exact hk.elim
    | stk => simp only [z] at hk; exact hk.elim
    | ok r2 e2 =>
      simp only [z] at hk
      intro v2 G2 H2 ex2 w2 S2
      obtain ⟨Fh2, S2', back2⟩ := S2.hold w2
      refine ⟨Fh2, G2, e2, S2', ?_⟩
      cases zc : mc e2 with
      | err x e => simp only [zc] at hk; exact hk.elim
      | stk => simp only [zc] at hk; exact hk.elim
      | ok r3 e3 =>
        simp only [zc] at hk
        intro v3 G3 H3 ex3 w3 S3
        by_cases hl : okL pn e3.length [i, j, l] = true
        · rw [if_pos hl] at hk
          obtain ⟨⟨i1, i2⟩, ⟨j1, j2⟩, l1, l2⟩ := okL3 hl
          have S4 := S3.set w3 l1 (by rw [hp]; exact l2)
          obtain ⟨S5, w5⟩ := back2 _ _ _ _ ex3 S4
          have S6 := S5.set w5 (i := j) (by simpa using j1) (by rw [hp]; exact j2)
          obtain ⟨S7, w7⟩ := back _ _ _ _ (ex2.trans ex3) S6
          have S8 := S7.set w7 (i := i) (by simpa using i1) (by rw [hp]; exact i2)
          rw [List.set_comm _ _ hjl.symm, List.set_comm _ _ hil.symm, List.set_comm _ _ hij.symm, List.set_comm _ _ hjl.symm, List.set_comm _ _ hil.symm, List.set_comm _ _ hij.symm] at S8
          refine ⟨(by decide : 3 ≤ sizeLine), fun p hp' => ⟨p, [v, v2, v3], rfl, SqT.of upd_same, rfl, v, [v2, v3], rfl, v2, [v3], rfl, v3, [], rfl, rfl, ?_⟩⟩
          exact hk _ G3 _ (ex2.trans ex3) (S8.step (.own (o := .tup [v, v2, v3]) hp')).noT
        · rw [if_neg hl] at hk; exact hk.elim
end
end Z
/-! Z: repr(o) by an own __repr__, a * b by an own __mul__ -/
namespace Z
open PySem PySem.Spec PyProof.Rows L2
/-! ### repr(o) -/
theorem repr_own {prog : Program} {w : World} {A : Around} {E : Value → Shared → Prop} {s : Shared} {K : PySem.W.Frag} {x C f : Addr} {ox : Obj} {od : Option Obj} {Q : Value → Shared → Prop} (hu : A.units + 1 < cLine) (X : K.In s.heap) (I : PySem.W.InstAt s.heap x ox C od) (hs : PySem.W.findIn K (.ref C) "__repr__" = some (some (.ref f))) (hf : PySem.W.isFn K (.ref f) = true)
    (h : wpAny (model prog w) A.in1 (call (.ref f) [.ref x]) (fun r t => ∃ (y : Str) (u : Tok), r = Value.str y u ∧ Q r t) E s) : wpAny (model prog w) A (call (.builtin "repr") [.ref x]) Q E s := by
  refine Calls.call_function_entry F.kind_repr F.plain_repr F.entry_repr (F.args_repr1 _) ?_
  unfold Builtin.«repr»
  refine wpAny_bind (m := oneArg "repr" _) (wpAny_pure ?_)
  refine wpAny_bind (m := cRoomFor _ _) (wpAny_cRoomFor (by show A.units + 1 < cLine; exact hu) ?_)
  refine wpAny_bind (wpAny_bind (I.type.here ((PySem.W.looks_findIn X hs).here ?_)))
  refine wpAny_bind (m := callSpecialIfBound? (.ref x) (Str.ofString "__repr__")) (PySem.W.ifBound_K X I hs hf (wpAny_mono h (fun r t hr => ?_) fun _ _ y => y))
  obtain ⟨y, u, rfl, q⟩ := hr
  refine wpAny_bind (wpAny_isInstance (T := "str") (b := true) rfl isSubtype_str_str ?_)
  exact wpAny_pure ⟨_, rfl, q⟩
def rReprOw (C : Addr) (sp : Sp) (E : XK) : List V → Hp → VK → Prop := fun xs H Q => ∃ a dx fs, xs = [V.ref a] ∧ H a = some (.ins C dx fs) ∧ sp [.ref a] H (fun z H' => ∃ y : Str, z = .str y ∧ Q z H') E
section
variable {X : Cx} {W : WX} {pn : List Nat} {pos : Pos}
theorem call_reprOw {n : Nat} {C g : Addr} {fd : FuncData} {ps : List Str} {sp : Sp} {E : XK} (hM : Meth X.K C "__repr__" g) (F : FnOk X.prog X.w X.K X.mg X.base (L2.CX X.prog X.w) n g fd ps sp) (hb : Binds X.K fd ps []) (hl : ps.length = 1) (hr : Room (n + 1) X.A) (hx : Passes (L2.CX X.prog X.w) X E) : CallR X (.builtin "repr") (rReprOw C sp E) := by
  intro pins s σ H xs us Q I r h
  obtain ⟨a, dx, fs, rfl, hi, q⟩ := h
  obtain ⟨u, rfl, ru⟩ := vals1 r
  obtain rfl : u = Value.ref a := ru
  obtain ⟨ox, od, J, hd⟩ := ins_at I hi
  refine repr_own (u2 hr) I.kIn J hM.at_ hM.fn (wpAny_mono (run_fnE (us := [.ref a]) (vs := [.ref a]) F hb (by simp [hl]) hr.in1 I.env0.in1 hx I (.cons rfl .nil) q) (fun v s' z => ?_) fun _ _ y => y)
  obtain ⟨z', H', I', rz, y, rfl, qz⟩ := z
  obtain ⟨t, rfl⟩ := (show ∃ t, v = Value.str y t from rz)
  exact ⟨y, t, rfl, .str y, H', I', ⟨t, rfl⟩, qz⟩
def strRes (r : Res RV) : Res RV := match r with
  | .ok (.sh (.str y)) e => .ok (.sh (.str y)) e
  | _ => .stk
def reprOM (c : Str) (f : FnD) (mo : M Opd) : M RV := bindM mo fun o e => if insO c o e = true then strRes (finF f [o] e) else .stk
theorem qv_reprOw {k : Nat} {g C : Addr} {fd : FuncData} {ps : List Str} {c : Str} {ob : Expr} {p : Pos} {fD : FnD} {mo : M Opd} (F : FnOk X.prog X.w X.K X.mg X.base (L2.CX X.prog X.w) k g fd ps (spOf X.K X.mg ps.length fD)) (hr : Room (k + 1) X.A) (hg : Gl X "repr") (hm : X.mg "repr" = none) (hmc : X.mg c = some (.ref C)) (hM : Meth X.K C "__repr__" g) (hb : Binds X.K fd ps []) (hl : ps.length = 1)
    (hbo : bootBuiltins "repr" = some (.builtin "repr")) (ho : QO X W pn ob mo) (hst : starEach [ob] X.env = (false, eval ob X.env) :: starEach [] X.env) (hpl : (backTo pos (starEach [] X.env)).any (·.1) = false) : QV X W pn (.Call (.Name "repr" p) [ob] [] pos) (reprOM c fD mo) := fun Fh P hp =>
  PE.weak (pe_callB (call_reprOw hM F hb hl hr passL) hg hm hbo (pa_cons (ho Fh P hp) pa_nil hst) (by decide) (by decide) hst hpl) fun σ H Q ⟨G, env, S, q⟩ => by
    refine ⟨G, env, S, PO_V q fun o e1 v G1 H1 ex w S1 hk => ?_⟩
    by_cases hi : insO c o e1 = true
    · rw [if_pos hi] at hk
      obtain ⟨a, dx, gs, rfl, hins⟩ := S1.insO hmc w hi
      refine ⟨a, dx, gs, rfl, hins, ?_⟩
      refine finF_okN (W := W) S1 (.cons w .nil) (by rw [hl]; rfl) ?_
      unfold strRes at hk
      split at hk
      · rename_i y e2 z
        rw [z]
        intro v2 G2 H2 ex2 w2 S2
        exact ⟨y, Den.str_inv w2, hk v2 G2 H2 ex2 w2 S2⟩
      · exact hk.elim
    · rw [if_neg hi] at hk; exact hk.elim
end
/-! ### a * b, both instances of one class -/
structure OwnMul (K : PySem.W.Frag) (C : Addr) : Prop where
  cls : ∃ cd, PySem.W.clsIn K C = some cd ∧ cd.mro.head? = some (.ref C)
def mulB (K : PySem.W.Frag) (c : Str) : Bool := (PySem.W.clsIn K (He.ga K c)).any fun cd => decide (cd.mro.head? = some (.ref (He.ga K c)))
theorem mulB_ok {K : PySem.W.Frag} {c : Str} (h : mulB K c = true) : OwnMul K (He.ga K c) := by
  unfold mulB at h
  cases z : PySem.W.clsIn K (He.ga K c) with
  | none => rw [z] at h; cases h
  | some cd => rw [z] at h; exact ⟨cd, z, of_decide_eq_true h⟩
theorem fills_mul {prog : Program} {w : World} {s : Shared} {K : PySem.W.Frag} {C f : Addr} (X : K.In s.heap) (hs : PySem.W.findIn K (.ref C) "__mul__" = some (some (.ref f))) {rest : List Value} (hm : PySem.W.Looks (model prog w) s.heap (mroOf (.ref C)) (.ref C :: rest)) : PySem.W.Looks (model prog w) s.heap (fillsNumberSlot (.ref C) "mul") true := by
  unfold fillsNumberSlot
  refine hm.andThen ?_
  simp only [List.anyM]
  refine PySem.W.Looks.andThen (a := true) (PySem.W.Looks.andThen (a := true) (PySem.W.Looks.andThen (PySem.W.looks_findIn X hs) ?_) .now) .now
  exact .now
theorem mul_own {prog : Program} {w : World} {A : Around} {E : Value → Shared → Prop} {s : Shared} {K : PySem.W.Frag} {x y C f : Addr} {ox oy : Obj} {od oe : Option Obj} {Q : Value → Shared → Prop} (X : K.In s.heap) (I : PySem.W.InstAt s.heap x ox C od) (J : PySem.W.InstAt s.heap y oy C oe) (hC : OwnMul K C) (hs : PySem.W.findIn K (.ref C) "__mul__" = some (some (.ref f))) (hf : PySem.W.isFn K (.ref f) = true)
    (h : wpAny (model prog w) A (call (.ref f) [.ref x, .ref y]) (fun r t => (∃ b, r = Value.ref b) ∧ Q r t) E s) : wpAny (model prog w) A (binaryOp .Mult (.ref x) (.ref y)) Q E s := by
  obtain ⟨cd, h1, h2⟩ := hC.cls
  have hm : PySem.W.Looks (model prog w) s.heap (mroOf (.ref C)) cd.mro := (PySem.W.looks_clsIn X h1).andThen .now
  obtain ⟨rest, hr⟩ : ∃ rest, cd.mro = .ref C :: rest := by
    cases q : cd.mro with
    | nil => rw [q] at h2; cases h2
    | cons a l => rw [q] at h2; cases h2; exact ⟨l, rfl⟩
  rw [hr] at hm
  have hsl := fills_mul X hs hm
  unfold binaryOp
  refine wpAny_holding ?_
  show wpAny _ _ (binaryOp1 "mul" (.ref x) (.ref y) >>= _) _ _ _
  refine wpAny_bind ?_
  unfold binaryOp1
  refine wpAny_bind (I.type.here (wpAny_bind (J.type.here (wpAny_bind (hsl.here ?_)))))
  simp only [beq_self_eq_true, if_true, Bool.and_false, Bool.false_eq_true, if_false]
  refine wpAny_bind (wpAny_pure ?_)
  show wpAny _ _ (tryMethod (.ref x) "__mul__" (.ref y) >>= _) _ _ _
  refine wpAny_bind ?_
  unfold tryMethod
  refine wpAny_bind (PySem.W.special_fn X I hs (beq_iff_eq.mp hf) (wpAny_mono h (fun r t hr => ?_) fun _ _ y => y))
  obtain ⟨⟨b, rfl⟩, q⟩ := hr
  exact wpAny_pure (wpAny_pure (wpAny_pure q))
section
variable {X : Cx} {W : WX} {pn : List Nat} {pos : Pos}
def objRes (r : Res RV) : Res RV := match r with
  | .ok (.sh (.obj c fs)) e => .ok (.sh (.obj c fs)) e
  | .err x e => .err x e
  | _ => .stk
def mulOM (c : Str) (f : FnD) (ma mb : M Opd) : M RV := bindM ma fun o1 => bindM mb fun o2 e => if (insO c o1 e && insO c o2 e) = true then objRes (finF f [o1, o2] e) else .stk
theorem qv_mulOw {k : Nat} {g C : Addr} {fd : FuncData} {ps : List Str} {c : Str} {a b : Expr} {fD : FnD} {ma mb : M Opd} (F : FnOk X.prog X.w X.K X.mg X.base (L2.CX X.prog X.w) k g fd ps (spOf X.K X.mg ps.length fD)) (tk : Takes X W) (hr : Room k X.A) (hmc : X.mg c = some (.ref C)) (hM : Meth X.K C "__mul__" g) (hE : OwnMul X.K C) (hb : Binds X.K fd ps []) (hl : ps.length = 2)
    (ha : QO X W pn a ma) (hbb : QO X W pn b mb) : QV X W pn (.BinOp a .Mult b pos) (mulOM c fD ma mb) := fun Fh P hp => ⟨fun pins s σ H Q I ⟨G, env, S, q⟩ => by
  refine wpAny_BinOp (binT (ha Fh P hp) (hbb Fh P hp) I (R := fun x y H2 => ∃ p q' dx dy gs hs, x = .ref p ∧ y = .ref q' ∧ H2 p = some (.ins C dx gs) ∧ H2 q' = some (.ins C dy hs) ∧ spOf X.K X.mg ps.length fD [x, y] H2 (fun z H' => (∃ r, z = .ref r) ∧ Q z H') (WE W σ)) ?_ fun v u s2 x y H2 I2 rx ry hq => ?_)
  · refine ⟨G, env, S, PO_V q fun o1 e1 x G1 H1 ex1 w1 S1 hk => ?_⟩
    refine ⟨G1, e1, S1, PO_V hk fun o2 e2 y G2 H2 ex2 w2 S2 hk2 => ?_⟩
    have w1' := w1.mono ex2
    by_cases hi : (insO c o1 e2 && insO c o2 e2) = true
    · rw [if_pos hi] at hk2
      obtain ⟨i1, i2⟩ := Bool.and_eq_true_iff.mp hi
      obtain ⟨p, dx, gs, rfl, h1⟩ := S2.insO hmc w1' i1
      obtain ⟨q', dy, hs, rfl, h2⟩ := S2.insO hmc w2 i2
      refine ⟨p, q', dx, dy, gs, hs, rfl, rfl, h1, h2, ?_⟩
      refine finF_ok (W := W) S2 (.cons w1' (.cons w2 .nil)) (by rw [hl]; rfl) ?_ fun _ _ _ => Iff.rfl
      unfold objRes at hk2
      split at hk2
      · rename_i c' fs e3 z
        rw [z]
        intro v2 G3 H3 ex3 w3 S3
        have w3' : Den X.K X.mg G3 v2 (.obj c' fs) := w3
        refine ⟨?_, hk2 v2 G3 H3 ex3 w3 S3⟩
        cases w3' with
        | obj => exact ⟨_, rfl⟩
      · rename_i z; rw [z]; exact hk2
      · exact hk2.elim
    · rw [if_neg hi] at hk2; exact hk2.elim
  · obtain ⟨p, q', dx, dy, gs, hs, rfl, rfl, h1, h2, hsp⟩ := hq
    obtain rfl : v = Value.ref p := rx
    obtain rfl : u = Value.ref q' := ry
    obtain ⟨ox, od, J1, _⟩ := ins_at I2 h1
    obtain ⟨oy, oe, J2, _⟩ := ins_at I2 h2
    refine mul_own I2.kIn J1 J2 hE hM.at_ hM.fn ?_
    have bb := hb s2 [.ref p, .ref q'] I2.kIn (by simp [hl])
    rw [List.append_nil] at bb
    refine wpAny_mono (run_anyS (us := [.ref p, .ref q']) (kw := []) F hr (passAt tk σ) I2 bb (show Vals [V.ref p, V.ref q'] [Value.ref p, Value.ref q'] from .cons rfl (.cons rfl .nil)) hsp) (fun r t hz => ?_) fun _ _ y => y
    obtain ⟨z', H', I', rz, ⟨b', rfl⟩, qz⟩ := hz
    obtain rfl : r = Value.ref b' := rz
    exact ⟨⟨b', rfl⟩, V.ref b', H', I', rfl, qz⟩⟩
end
-- fast: reprOM mulOM
-- simp_arith: strRes
end Z
/-! Z: x[-2::-1] of a list; min, max of two ints -/
namespace Z
open PySem PySem.Spec PyProof.Rows L2
theorem pick_less {α : Type} (xs : List α) : (List.range (xs.length - 1)).filterMap (xs.toArray[·]?) = xs.dropLast := by
  have h := PySem.W.krv_all xs.dropLast.toArray
  rw [List.size_toArray, List.length_dropLast] at h
  refine Eq.trans ?_ h
  refine fm_congr fun m hm => ?_
  have := List.mem_range.mp hm
  rw [List.getElem?_toArray, List.getElem?_toArray, List.getElem?_dropLast, if_pos (by omega)]
theorem pick2 (xs : List Value) : slicePick xs.toArray (some (-2)) none (some (-1)) = xs.dropLast.reverse.toArray := by
  have hb : sliceBounds (some (-2)) none (some (-1)) (xs.toArray.size) = (((xs.length - 1 : Nat) : Int) - 1, -1, -1) := by
    unfold sliceBounds
    simp
    omega
  unfold slicePick
  rw [hb]
  show ((sliceRange (((xs.length - 1 : Nat) : Int) - 1) (-1) (-1)).filterMap (xs.toArray[·]?)).toArray = _
  rw [PySem.W.krv_sliceRange, PySem.W.krv_range, List.filterMap_reverse, pick_less]
section
variable {X : Cx} {W : WX} {pn : List Nat} {pos : Pos} {K : PySem.W.Frag} {mg : Str → Option Value}
/-- the same items without the last one, the last of them first -/
def rBack2 (K : PySem.W.Frag) : V → Hp → VK → Prop := fun x H Q => ∃ a xs, x = .ref a ∧ SqL K H a xs ∧ ∀ p, H p = none → Q (.ref p) (upd H p (.lst xs.dropLast.reverse))
theorem pe_back2 {e : Expr} {te : TE} {k k' : Nat} {p1 p2 p3 p4 p5 : Pos} (he : PE X e te) : PE X (.Subscript e (.Slice (some (.UnaryOp .USub (.Constant (.int 2) k' p4) p5)) none (some (.UnaryOp .USub (.Constant (.int 1) k p1) p2)) p3) pos) (fun σ H Q => te σ H fun x H1 => rBack2 X.K x H1 Q) := by
  refine ⟨fun pins s σ H Q I h => ?_⟩
  refine Subscript_ (thn (he.run pins s σ H _ I h) fun v s1 ⟨x, H1, I1, r1, q1⟩ => ?_)
  obtain ⟨a, xs, ex, hx, q⟩ := q1
  subst ex
  cases r1
  have wst : L2.PO X (some (.UnaryOp .USub (.Constant (.int 1) k p1) p2)) (tPart (tUn (rU fun i => .int (-i)) (tC (.int 1)))) := po_some (pe_un un_neg pe_int)
  have wlo : L2.PO X (some (.UnaryOp .USub (.Constant (.int 2) k' p4) p5)) (tPart (tUn (rU fun i => .int (-i)) (tC (.int 2)))) := po_some (pe_un un_neg pe_int)
  refine wpAny_Slice (thn (wlo.run pins s1 σ H1 (fun o H2 => o = some (-2) ∧ H2 = H1) I1 ⟨2, rfl, -2, rfl, rfl, rfl⟩) fun vl s2 ⟨l, H2, I2, pl, el, e2⟩ => ?_)
  subst el e2
  refine thn (po_none.run pins s2 σ H2 (fun o H3 => o = none ∧ H3 = H2) I2 ⟨rfl, rfl⟩) fun vu s3 ⟨u, H3, I3, pu, eu, e3⟩ => ?_
  subst eu e3
  refine thn (wst.run pins s3 σ H3 (fun o H4 => o = some (-1) ∧ H4 = H3) I3 ⟨1, rfl, -1, rfl, rfl, rfl⟩) fun vs s4 ⟨o, H4, I4, ps, eo, e4⟩ => ?_
  subst eo e4
  have I5 : Inv X pins σ H4 { s4 with heap := s4.heap.push { cls := .type "slice", data := .fields #[vl, vu, vs] } } := I4.kept (t' := s4.toks) fun b ob q => Heap.get?_push_of_some _ q
  show wpAny (model X.prog X.w) X.A (subscriptTail e (.Slice (some (.UnaryOp .USub (.Constant (.int 2) k' p4) p5)) none (some (.UnaryOp .USub (.Constant (.int 1) k p1) p2)) p3) (.ref a) (.ref s4.heap.objs.size)) (EP X pins σ Q) X.xe { s4 with heap := s4.heap.push { cls := .type "slice", data := .fields #[vl, vu, vs] } }
  obtain ⟨its, r, ht, hz⟩ := I5.list hx
  have hlen := r.length
  refine tail_any (ops := [.ref a, .ref s4.heap.objs.size]) ht.isList.typeIs (PySem.slot_list_getitem.lookup) ?_ (by with_unfolding_all rfl)
  refine wpAny_getItem_list_slice ht.isList (Heap.IsSliceOf.new _ vl vu vs) pl pu ps (by decide) ?_ (by rw [List.size_toArray]; omega)
  rw [pick2]
  have rd : Vals xs.dropLast its.dropLast := by
    rw [List.dropLast_eq_take, List.dropLast_eq_take, hlen]
    exact r.take _
  refine ⟨.ref _, _, I5.laid (t' := s4.toks) (o := .lst xs.dropLast.reverse) (fun b ob q => Heap.get?_push_of_some _ q) (Nat.le_refl _) ?_, rfl, q _ (I5.hok.fresh (Nat.le_refl _))⟩
  exact ⟨by rw [List.length_reverse, List.length_dropLast]; omega, _, 0, rd.reverse, Heap.get?_push_size _ rfl⟩
def back2F (r : RV) : Option RV := (listOf r).map fun ds => .ol ds.dropLast.reverse
theorem s_back2F : UnS K mg (rBack2 K) back2F := fun G H x a c Q ex va e k => by
  unfold back2F at e
  simp only [Option.map_eq_some_iff] at e
  obtain ⟨ds, q, rfl⟩ := e
  obtain ⟨p, xs, rfl, h1, h2⟩ := va.list ex q
  exact ⟨p, xs, rfl, SqL.of h1, fun b hb => k (.ref b) G _ (.own hb) (View.of_own upd_same (ex.none hb) h2.dropLast.back)⟩
theorem qv_back2 {e : Expr} {k k' : Nat} {p1 p2 p3 p4 p5 : Pos} {ma : M Opd} (ha : QO X W pn e ma) : QV X W pn (.Subscript e (.Slice (some (.UnaryOp .USub (.Constant (.int 2) k' p4) p5)) none (some (.UnaryOp .USub (.Constant (.int 1) k p1) p2)) p3) pos) (unM back2F ma) := fun Fh P hp =>
  PE.weak (pe_back2 (ha Fh P hp)) fun σ H Q ⟨G, env, S, q⟩ => ⟨G, env, S, PO_V q fun o1 e1 x G1 H1 ex1 w1 S1 hk => fin1_ok s_back2F S1 w1 hk⟩
def max2F (as : List RV) : Option RV := match as with
  | [.sh (.int i), .sh (.int j)] => some (.sh (.int (if j > i then j else i)))
  | _ => none
def min2F (as : List RV) : Option RV := match as with
  | [.sh (.int i), .sh (.int j)] => some (.sh (.int (if j < i then j else i)))
  | _ => none
theorem s_max2F : CallS K mg (fun xs H Q => ∃ i j : Int, xs = [.int i, .int j] ∧ Q (.int (if j > i then j else i)) H) max2F := fun G H xs as c Q ex va e k => by
  unfold max2F at e
  split at e
  · rename_i i j; cases e
    obtain ⟨v, vs, rfl, h1, t⟩ := va.cons_ex
    obtain ⟨u, us, rfl, h2, t2⟩ := t.cons_ex
    rw [t2.nil_inv]
    exact ⟨i, j, by rw [Den.int_inv h1, Den.int_inv h2], k _ G H .same (.int _)⟩
  · cases e
theorem s_min2F : CallS K mg (fun xs H Q => ∃ i j : Int, xs = [.int i, .int j] ∧ Q (.int (if j < i then j else i)) H) min2F := fun G H xs as c Q ex va e k => by
  unfold min2F at e
  split at e
  · rename_i i j; cases e
    obtain ⟨v, vs, rfl, h1, t⟩ := va.cons_ex
    obtain ⟨u, us, rfl, h2, t2⟩ := t.cons_ex
    rw [t2.nil_inv]
    exact ⟨i, j, by rw [Den.int_inv h1, Den.int_inv h2], k _ G H .same (.int _)⟩
  · cases e
end
end Z
/-! Z: enumerate of a tuple -/
namespace PySem
open Sem (wp)
open AutoSeq1 (wpAny_loadPart')
theorem zmeets_enum_newT (l : Addr) (items : Array Value) (n : Nat) (dct : Option Addr) (sl : Array (Option Value)) :
    Meets (Builtin.«enumerate.__new__» ⟨[.type "enumerate", .ref l], []⟩) (fun _ R s => s.heap.get? l = some { cls := .type "tuple", dict := dct, data := .seq items n, slots := sl } ∧
      R (.ok (.ret (.ref (s.heap.push { cls := .type "tuple_iterator", data := .fields #[.ref l, .int 0 0] }).objs.size)))
        { s with heap := (s.heap.push { cls := .type "tuple_iterator", data := .fields #[.ref l, .int 0 0] }).push { cls := .type "enumerate", data := .fields #[.none, .bool false, .ref s.heap.objs.size, rawInt 0, .none, .none] } }) :=
  .of_wp fun prog w A R s h => by
    obtain ⟨hp, g, d, tk, os⟩ := s; obtain ⟨hl, h⟩ := h
    have hsub := sub_enumerate
    have hL : Heap.IsTuple (Shared.heap ⟨hp, g, d, tk, os⟩) l items := ⟨_, hl, rfl, n, rfl⟩
    wp_walk using wpAny_loadPart' hl
    refine wpAny_stack_any fun st => wpAny_pure ?_
    split
    · rename_i c _ _ _ _ _
      cases (c == Value.type "enumerate")
      · wp_walk using wpAny_loadPart' hl, wpAny_pyIter_tuple hL
        exact ⟨_, rfl, h⟩
      · wp_walk using wpAny_loadPart' hl, wpAny_pyIter_tuple hL
        exact ⟨_, rfl, h⟩
    · wp_walk using wpAny_loadPart' hl, wpAny_pyIter_tuple hL
      exact ⟨_, rfl, h⟩
section
variable {prog : Program} {w : World} {A : Around} {E : Value → Shared → Prop} {s : Shared}
theorem zcall_enum_tuple {l : Addr} {items : Array Value} {Q : Value → Shared → Prop} (hL : s.heap.IsTuple l items)
    (h : ∀ h', IsEnum h' (s.heap.objs.size + 1) s.heap.objs.size 0 .none → h'.IsTupleIter s.heap.objs.size l 0 → h'.objs.size = s.heap.objs.size + 2 →
      (∀ b o, s.heap.get? b = some o → h'.get? b = some o) → Q (.ref (s.heap.objs.size + 1)) { s with heap := h' }) :
    wpAny (model prog w) A (call (.type "enumerate") [.ref l]) Q E s := by
  obtain ⟨⟨c, dct, dt, sl⟩, hl, hc, n, hd⟩ := hL
  replace hc : c = .type "tuple" := hc
  replace hd : dt = .seq items n := hd
  subst hc hd
  refine callType_new F.called_enumerate (by decide) (F.typeCall_enumerate_1 _) (F.newCall_enumerate_1 _) (fun obj => F.args_object_init_2 obj _) F.entry_enumerate_new
    (zmeets_enum_newT l items n dct sl) ⟨hl, ?_⟩
  have hz : (s.heap.push { cls := .type "tuple_iterator", data := .fields #[.ref l, .int 0 0] }).objs.size = s.heap.objs.size + 1 := Heap.size_push ..
  show _ ∧ _
  rw [hz]
  have he : IsEnum ((s.heap.push { cls := .type "tuple_iterator", data := .fields #[.ref l, .int 0 0] }).push
      { cls := .type "enumerate", data := .fields #[.none, .bool false, .ref s.heap.objs.size, rawInt 0, .none, .none] }) (s.heap.objs.size + 1) s.heap.objs.size 0 .none := by
    have := Heap.get?_push_size (s.heap.push { cls := .type "tuple_iterator", data := .fields #[.ref l, .int 0 0] })
      (o := { cls := .type "enumerate", data := .fields #[.none, .bool false, .ref s.heap.objs.size, rawInt 0, .none, .none] }) rfl
    rw [hz] at this; exact this
  refine ⟨⟨_, he, rfl⟩, h _ he ⟨_, Heap.get?_push_of_some _ (Heap.get?_push_size _ rfl), rfl, rfl⟩ (by rw [Heap.size_push, hz]) fun b o x => Heap.get?_push_of_some _ (Heap.get?_push_of_some _ x)⟩
end
end PySem
namespace Z
open PySem PySem.Spec PyProof.Rows L2
/-- the tuple at a, each item in a new pair -/
def IteT (K : PySem.W.Frag) (a : Addr) : It :=
  ⟨fun i H => ∃ (xs : List V) (x : V), SqT K H a xs ∧ xs[i]? = some x, fun i H v H' => ∃ T x, v = .ref T ∧ H T = none ∧ H' = upd H T (.tup [.int (i : Nat), x]) ∧ ∀ xs, SqT K H a xs → xs[i]? = some x, fun i H => ∃ xs : List V, SqT K H a xs ∧ xs.length ≤ i⟩
theorem turn_enumT {P : Program} {w : World} {K : PySem.W.Frag} {elts : List Expr} {kk : Nat} {tpos : Pos} (a e it : Addr) :
    Turn P w K (.Tuple elts kk tpos) (IteT K a) [e, it] e (fun i h => (∃ old, IsEnum h e it ((i : Nat) : Int) old) ∧ h.IsTupleIter it a i ∧ e ≠ it) where
  mem := by simp
  obj := fun i h st b hb => by
    obtain ⟨⟨old, he⟩, ⟨o, ho, hc, hd⟩, _⟩ := st
    have e' : b = e ∨ b = it := by simpa using hb
    rcases e' with z | z
    · rw [z]; exact ⟨_, he, fun v q => nomatch q⟩
    · rw [z]; exact ⟨o, ho, fun v q => by rw [hd] at q; cases q⟩
  keep := fun i h h' st k => let ⟨⟨old, he⟩, hi, hne⟩ := st; ⟨⟨old, k e (by simp) _ he⟩, hi.at fun o q => k it (by simp) o q, hne⟩
  item := by
    intro X hP hw hK hc i pins s σ H E I hf st hg
    subst hP hw hK
    obtain ⟨⟨old, he⟩, hit, hne⟩ := st
    obtain ⟨xs, x, hq, hx⟩ := hg
    obtain ⟨its, rv, p, hz⟩ := I.tuple hq
    obtain ⟨u, hu, ru⟩ := rv.get hx
    have hel : e < s.heap.objs.size := Heap.lt_size he
    have hil : it < s.heap.objs.size := by obtain ⟨_, q, _⟩ := hit; exact Heap.lt_size q
    have tne : a ≠ it := by
      intro z; subst z
      obtain ⟨o, ho, hc2, _⟩ := hit
      obtain ⟨o2, ho2, hc3, _⟩ := p
      rw [ho] at ho2; cases ho2
      rw [hc2] at hc3; exact absurd hc3 (by decide)
    have ene : e ≠ a := by
      intro z; subst z
      obtain ⟨o2, ho2, hc3, _⟩ := p
      rw [he] at ho2; cases ho2
      exact absurd (show Value.type "enumerate" = Value.type "tuple" from hc3) (by decide)
    have hsz : i < its.toArray.size := by
      have := (List.getElem?_eq_some_iff.mp hu).1
      simpa using this
    refine wpAny_pyNext_enum_itemD (Draws.tuple (A := X.A.in1) (I.ok.hd hc) it a tne its.toArray) he ⟨hit, p⟩ hsz hne (by simp [hne, ene]) fun y h' tk hP ho hst hT hsz hk => ?_
    have ey : y = u := by
      have h1 : its.toArray[i]? = some y := hP
      rw [List.getElem?_toArray, hu] at h1
      exact (Option.some.inj h1).symm
    subst ey
    obtain ⟨hit', _⟩ := hst
    refine ⟨_, rfl, wpAny_letOwnedTupleGo_enum (s := { s with heap := h', toks := tk + 1 }) ho fun h'' he' sb => ?_⟩
    have hT2 : h''.get? s.heap.objs.size = some { cls := .type "tuple", data := .seq #[.int i tk, y] } := (sb.2 _ (Nat.ne_of_gt hel)).trans hT
    have new : ObjOk X.prog X.w (upd H s.heap.objs.size (.tup [.int (i : Nat), x])) h'' s.heap.objs.size (.tup [.int (i : Nat), x]) :=
      ⟨by show 2 ≤ sizeLine; decide, [.int i tk, y], .cons ⟨_, rfl⟩ (.cons ru .nil), ⟨_, hT2, rfl, _, rfl⟩⟩
    have I1 : Inv X pins σ (upd H s.heap.objs.size (.tup [.int (i : Nat), x])) { s with heap := h'', toks := tk + 1 } :=
      I.turnedNew (ch := [e, it]) (fun b ob hb q => (sb.2 b (fun z => hb (by simp [z]))).trans (hk b ob (fun z => hb (by simp [z])) (fun z => hb (by simp [z])) q)) hf (Nat.le_refl _) new
    refine ⟨.ref s.heap.objs.size, _, I1, rfl, ⟨_, x, rfl, I.hok.fresh (Nat.le_refl _), rfl, fun ys hy => by rw [I.tuple_inj hy hq]; exact hx⟩, ⟨⟨y, ?_⟩, hit'.at fun o q => (sb.2 it (Ne.symm hne)).trans q, hne⟩, fun b hb => ?_⟩
    · have e1 : ((i + 1 : Nat) : Int) = (i : Int) + 1 := by omega
      rw [e1]; exact he'
    · have hb' : b < s.heap.objs.size := by
        have e' : b = e ∨ b = it := by simpa using hb
        rcases e' with z | z
        · rw [z]; exact hel
        · rw [z]; exact hil
      rw [upd_ne (Nat.ne_of_lt hb')]
      exact (hf b hb).1
  done := by
    intro X hP hw hK hc i pins s σ H E I hf st hg
    subst hP hw hK
    obtain ⟨⟨old, he⟩, hit, hne⟩ := st
    obtain ⟨xs, hq, hx⟩ := hg
    obtain ⟨its, rv, p, hz⟩ := I.tuple hq
    obtain ⟨f0, f1, f2, f3, f4, f5⟩ := hf it (by simp)
    have hl := rv.length
    have hT : s.TypeIs (.ref e) "enumerate" := ⟨_, he, rfl⟩
    unfold pyNext
    refine wpAny_bind (wpAny_attempt (wpAny_callSpecial?_slot (name := Str.ofString "__next__") hT F.slot_enumerate_next
      (wpAny_call_entry F.slot_enumerate_next hT F.entry_enumerate_next ?_ (F.args_enumerate_next_1 _))))
    show wpAny _ _ (field (.ref e) 2 >>= _) _ _ _
    refine wpAny_bind (wpAny_field he rfl (x := .ref it) rfl ?_)
    refine wpAny_bind (RZ.nextOf_tuple_end (A := X.A.in1) (I.ok.hd hc) hit p (by simp; omega) fun h' y he' hx' => ?_)
    obtain ⟨o, ho, hc⟩ := hx'
    refine wpAny_bind (wpAny_isInstance (T := "StopIteration") (b := true) ⟨o, ho, hc⟩ isSubtype_stop ?_)
    exact wpAny_pure ⟨rfl, I.turned (t' := s.toks) (fun b o hb q => he' b o hb q) f0 f1 f3 f4 f5⟩
  self := fun A i s Q E st h => let ⟨⟨_, he⟩, _⟩ := st; wpAny_pyIter_enum he h
def iEnumT (K : PySem.W.Frag) (ta : TA) : TI := fun σ H R => ta σ H fun vs H1 => ∃ a xs, vs = [.ref a] ∧ ((SqL K H1 a xs ∧ R (Ite K a) H1) ∨ (SqT K H1 a xs ∧ R (IteT K a) H1))
theorem pi_enumT {X : Cx} {e : Expr} {ta : TA} {p pos tpos : Pos} {elts : List Expr} {kk : Nat} (hg : Gl X "enumerate") (hm : X.mg "enumerate" = none) (ha : PA X [e] ta) (hs : starEach [e] X.env = [(false, eval e X.env)]) :
    PI X (.Tuple elts kk tpos) (.Call (.Name "enumerate" p) [e] [] pos) (iEnumT X.K ta) := by
  refine ⟨fun pins s σ H R I h => ?_⟩
  refine Call_ (ld_blt I hg hm boot_enumerate (PyProof.Rows.callWith_type1 (thn (ha.run pos pins s σ H _ I h) fun us s1 ⟨vs, H1, I1, r1, q1⟩ => ?_) hs rfl))
  obtain ⟨a, xs, ex, hq⟩ := q1
  subst ex
  cases r1 with
  | cons r rr =>
    cases rr
    cases r
    have fp : ∀ b : Addr, b ∈ [s1.heap.objs.size + 1, s1.heap.objs.size] → s1.heap.objs.size ≤ b := fun b hb => by
      have e' : b = s1.heap.objs.size + 1 ∨ b = s1.heap.objs.size := by simpa using hb
      rcases e' with z | z
      · rw [z]; exact Nat.le_add_right _ _
      · rw [z]; exact Nat.le_refl _
    rcases hq with ⟨hq, q⟩ | ⟨hq, q⟩
    · obtain ⟨its, rv, p', hz⟩ := I1.list hq
      refine call_enumerate_list p'.isList fun h' he hit hsz hk => wpAny_pyIter_enum he ?_
      have I2 : Inv X pins σ H1 { s1 with heap := h' } := I1.kept (t' := s1.toks) hk
      exact ⟨s1.heap.objs.size + 1, [s1.heap.objs.size + 1, s1.heap.objs.size], _, _, H1, rfl, I2, turn_enum a (s1.heap.objs.size + 1) s1.heap.objs.size, ⟨⟨.none, he⟩, hit, Nat.succ_ne_self _⟩, fun b hb => I1.fpOk (fp b hb) (I1.hok.fresh (fp b hb)), q⟩
    · obtain ⟨its, rv, p', hz⟩ := I1.tuple hq
      refine zcall_enum_tuple p' fun h' he hit hsz hk => wpAny_pyIter_enum he ?_
      have I2 : Inv X pins σ H1 { s1 with heap := h' } := I1.kept (t' := s1.toks) hk
      exact ⟨s1.heap.objs.size + 1, [s1.heap.objs.size + 1, s1.heap.objs.size], _, _, H1, rfl, I2, turn_enumT a (s1.heap.objs.size + 1) s1.heap.objs.size, ⟨⟨.none, he⟩, hit, Nat.succ_ne_self _⟩, fun b hb => I1.fpOk (fp b hb) (I1.hok.fresh (fp b hb)), q⟩
theorem itD_enumT {K : PySem.W.Frag} {mg : Str → Option Value} {G : Hp} {a : Addr} {xs : List V} {ds : List D} (ha : SqT K G a xs) (h : DenL K mg G xs ds) : ItD K mg (IteT K a) G (enumFrom 0 ds) := fun i G1 H1 e1 e2 => by
  have hs : SqT K H1 a xs := (e1.trans e2).sqT ha
  refine ⟨fun d hd => ?_, fun hl => ⟨xs, hs, by rw [h.1]; rw [enumFrom_len] at hl; exact hl⟩⟩
  rw [enumFrom_get] at hd
  simp only [Option.map_eq_some_iff] at hd
  obtain ⟨d', hd', rfl⟩ := hd
  obtain ⟨v, hv, hden⟩ := h.get hd'
  refine ⟨⟨xs, v, hs, hv⟩, fun x H' ⟨T, x', ex, hT, hH, hx⟩ => ?_⟩
  subst ex hH
  have := hx xs hs
  rw [hv] at this; cases this
  have st : Step G1 H1 (upd G1 T (.tup [.int (i : Nat), v])) (upd H1 T (.tup [.int (i : Nat), v])) [] := .shr hT
  refine ⟨_, st, Den.tupL (SqT.of upd_same) (.cons ?_ (.cons ((hden.mono e1).mono (st.ex e2)) .nil))⟩
  rw [Nat.zero_add]; exact .int _
/-- enumerate of a list or a tuple -/
def enumJ (m : M Opd) : M (List D) := bindM m fun o env => match dOf o env with
  | .ok (.lst ds) e => .ok (enumFrom 0 ds) e
  | .ok (.tup ds) e => .ok (enumFrom 0 ds) e
  | _ => .stk
theorem qi_enumJ {X : Cx} {W : WX} {pn : List Nat} {pos : Pos} {a : Expr} {elts : List Expr} {kk : Nat} {tpos p : Pos} {m : M Opd} (hg : Gl X "enumerate") (hm : X.mg "enumerate" = none) (ha : QO X W pn a m) (hs : starEach [a] X.env = [(false, eval a X.env)]) : QI X W pn (.Tuple elts kk tpos) (.Call (.Name "enumerate" p) [a] [] pos) (enumJ m) := fun Fh P hp =>
  PI.weak (pi_enumT hg hm (pa_cons (ha Fh P hp) pa_nil hs) hs) fun σ H R ⟨G, env, S, q⟩ => by
    refine ⟨G, env, S, ?_⟩
    unfold enumJ bindM at q
    cases z : m env with
    | err x e1 => simp only [z] at q; exact q
    | stk => simp only [z] at q; exact q
    | ok o e1 =>
      simp only [z] at q
      intro v G1 H1 ex w S1
      split at q
      · rename_i ds e2 z2
        obtain ⟨G2, x2, d2, S2⟩ := S1.dOf w z2
        obtain ⟨b, xs, rfl, h1, h2⟩ := Den.lst_inv d2
        exact ⟨b, xs, rfl, .inl ⟨SqL.of (S2.gh _ _ h1), q _ G2 H1 (ex.trans x2) (itD_enum h1 h2) S2⟩⟩
      · rename_i ds e2 z2
        obtain ⟨G2, x2, d2, S2⟩ := S1.dOf w z2
        obtain ⟨b, xs, rfl, h1, h2⟩ := Den.tup_inv d2
        exact ⟨b, xs, rfl, .inr ⟨S2.gh.sqT h1, q _ G2 H1 (ex.trans x2) (itD_enumT h1 h2) S2⟩⟩
      · exact q.elim
-- fast: enumJ
end Z
/-! Z: dicts of one's own -/
namespace Z
open PySem PySem.Spec PyProof.Rows L2
/-! ### keys -/
mutual
theorem hash_txl (w w' : World) : ∀ k : NestedKey, txl k = true → k.hash w = k.hash w'
  | .none, _ => rfl
  | .num _, _ => rfl
  | .text _, h => by rw [txl] at h; cases h
  | .tup ks, h => by rw [txl] at h; rw [NestedKey.hash, NestedKey.hash, hashes_txl w w' ks h]
theorem hashes_txl (w w' : World) : ∀ ks : List NestedKey, txls ks = true → NestedKey.hashes w ks = NestedKey.hashes w' ks
  | [], _ => rfl
  | k :: ks, h => by
    rw [txls, Bool.and_eq_true] at h
    rw [NestedKey.hashes, NestedKey.hashes, hash_txl w w' k h.1, hashes_txl w w' ks h.2]
end
theorem tupKey_txl {k : NestedKey} (h : tupKey k = true) : txl k = true := by
  cases k <;> first | (cases h; done) | skip
  rw [tupKey, Bool.and_eq_true] at h
  rw [txl]; exact h.1
theorem tupKey_depth {k : NestedKey} (h : tupKey k = true) : k.depth ≤ 8 := by
  cases k <;> first | (cases h; done) | skip
  rw [tupKey, Bool.and_eq_true] at h
  exact Nat.le_of_ble_eq_true h.2
section
variable {X : Cx} {pins : List (Addr × Obj)} {σ : L2.St} {H : Hp} {s : Shared}
mutual
theorem nk_is (I : Inv X pins σ H s) : ∀ (k : NestedKey) {v : V} {u : Value}, Den X.K X.mg H v (nkD k) → RelV v u → NestedIs s.heap k u
  | .none, v, u, h, r => by
    rw [nkD] at h
    cases h.non_inv; cases r; exact .none
  | .num i, v, u, h, r => by
    rw [nkD] at h
    cases h.int_inv
    obtain ⟨t, rfl⟩ := r; exact .int i t
  | .text x, v, u, h, r => by
    rw [nkD] at h
    cases h.str_inv
    obtain ⟨t, rfl⟩ := r; exact .text x t
  | .tup ks, v, u, h, r => by
    rw [nkD] at h
    obtain ⟨a, xs, rfl, h1, h2⟩ := h.tup_inv
    cases r
    obtain ⟨its, rv, ⟨o, e1, e2, n, e3⟩, _⟩ := I.tuple h1
    exact .tup e1 e2 e3 (by simpa using nks_is I ks h2 rv)
theorem nks_is (I : Inv X pins σ H s) : ∀ (ks : List NestedKey) {vs : List V} {us : List Value}, DenL X.K X.mg H vs (nkDs ks) → Vals vs us → NestedAll s.heap ks us
  | [], vs, us, h, r => by
    rw [nkDs] at h
    rw [h.nil_inv] at r
    cases r; exact .nil
  | k :: ks, vs, us, h, r => by
    rw [nkDs] at h
    obtain ⟨v, ws, rfl, h1, h2⟩ := h.cons_ex
    cases r with
    | cons r1 r2 => exact .cons (nk_is I k h1 r1) (nks_is I ks h2 r2)
end
end
/-! ### what a dict holds -/
section
variable {α β : Type}
def valN (kvs : List (NestedKey × α)) (k : NestedKey) : Option α := (kvs.find? fun kv => decide (kv.1 = k)).map (·.2)
def putN (kvs : List (NestedKey × α)) (k : NestedKey) (v : α) : List (NestedKey × α) :=
  if kvs.any (fun kv => decide (kv.1 = k)) then kvs.map (fun kv => if kv.1 = k then (kv.1, v) else kv) else kvs ++ [(k, v)]
def putE (es : List (NestedKey × Addr × V)) (k : NestedKey) (b : Addr) (v : V) : List (NestedKey × Addr × V) :=
  if es.any (fun kv => decide (kv.1 = k)) then es.map (fun kv => if kv.1 = k then (kv.1, kv.2.1, v) else kv) else es ++ [(k, b, v)]
end
theorem kN_inj {a b : Key} (h : kN a = kN b) : a = b := by
  cases a <;> cases b <;> first | (injection h with h; rw [h]; done) | (cases h; done)
theorem kN_dec (a b : Key) : decide (kN a = kN b) = decide (a = b) := by
  by_cases h : a = b
  · rw [decide_eq_true h, decide_eq_true (by rw [h])]
  · rw [decide_eq_false h, decide_eq_false fun z => h (kN_inj z)]
theorem valN_k (gs : List (Key × V)) (k : Key) : valN (gs.map fun p => (kN p.1, p.2)) (kN k) = valV gs k := by
  unfold valN valV
  rw [List.find?_map]
  have : ((fun kv : NestedKey × V => decide (kv.1 = kN k)) ∘ fun p : Key × V => (kN p.1, p.2)) = fun kv => decide (kv.1 = k) := by
    funext p; exact kN_dec p.1 k
  rw [this, Option.map_map]; rfl
section
variable {X : Cx} {pins : List (Addr × Obj)} {σ : L2.St} {H : Hp} {s : Shared} {a : Addr} {es : List (NestedKey × Addr × V)}
/-- entries, by keys, with their tuples -/
abbrev EX (es : List (NestedKey × Addr × V)) (xs : List (NestedKey × Addr × Value)) : Prop := Paired (fun (p : NestedKey × Addr × V) (q : NestedKey × Addr × Value) => p.1 = q.1 ∧ p.2.1 = q.2.1 ∧ RelV p.2.2 q.2.2) es xs
theorem EX.at {es : List (NestedKey × Addr × V)} {xs : List (NestedKey × Addr × Value)} (r : EX es xs) (k : NestedKey) : RelO ((es.find? fun kv => decide (kv.1 = k)).map (·.2.2)) ((atKey xs k).map (·.2)) := by
  induction r with
  | nil => exact True.intro
  | @cons p q ps qs h t ih =>
    obtain ⟨h1, h2, h3⟩ := h
    by_cases e : p.1 = k
    · have e' : q.1 = k := h1.symm.trans e
      have b : atKey (q :: qs) k = some q.2 := by simp [atKey, List.find?_cons, e']
      rw [b]; simp [List.find?_cons, e]; exact h3
    · have e' : ¬ q.1 = k := fun z => e (h1.trans z)
      have b : atKey (q :: qs) k = atKey qs k := by simp [atKey, List.find?_cons, e']
      rw [b]; simp [List.find?_cons, e]; simpa using ih
theorem EX.all {es : List (NestedKey × Addr × V)} {xs : List (NestedKey × Addr × Value)} {P : NestedKey → Addr → Prop} (r : EX es xs) (h : ∀ e ∈ es, P e.1 e.2.1) : ∀ x ∈ xs, P x.1 x.2.1 := by
  induction r with
  | nil => intro x hx; cases hx
  | @cons p q ps qs hq t ih =>
    intro x hx
    rcases List.mem_cons.mp hx with e | hx
    · subst e
      rw [← hq.1, ← hq.2.1]; exact h p List.mem_cons_self
    · exact ih (fun e he => h e (List.mem_cons_of_mem _ he)) x hx
theorem EX.repl {es : List (NestedKey × Addr × V)} {xs : List (NestedKey × Addr × Value)} (r : EX es xs) (k : NestedKey) {y : V} {u : Value} (ry : RelV y u) :
    EX (es.map fun kv => if kv.1 = k then (kv.1, kv.2.1, y) else kv) (xs.map (putAt k u)) := by
  induction r with
  | nil => exact .nil
  | @cons p q ps qs h t ih =>
    rw [List.map_cons, List.map_cons]
    refine .cons ?_ ih
    obtain ⟨h1, h2, h3⟩ := h
    unfold putAt
    by_cases e : p.1 = k
    · rw [if_pos e, if_pos (h1.symm.trans e)]; exact ⟨h1, h2, ry⟩
    · rw [if_neg e, if_neg (fun z => e (h1.trans z))]; exact ⟨h1, h2, h3⟩
theorem find_any {α : Type} (p : α → Bool) : ∀ l : List α, l.any p = (l.find? p).isSome
  | [] => rfl
  | x :: l => by
    rw [List.any_cons, List.find?_cons]
    cases h : p x with
    | true => rfl
    | false => simpa using find_any p l
theorem EX.put {es : List (NestedKey × Addr × V)} {xs : List (NestedKey × Addr × Value)} (r : EX es xs) (k : NestedKey) {b : Addr} {y : V} {u : Value} (ry : RelV y u) : EX (putE es k b y) (storedH xs k b u) := by
  have e : (es.any fun kv => decide (kv.1 = k)) = (atKey xs k).isSome := by
    rw [find_any]
    have := (r.at k).isSome_eq
    rwa [Option.isSome_map, Option.isSome_map] at this
  unfold putE storedH
  rw [e]
  by_cases q : (atKey xs k).isSome = true
  · rw [if_pos q, if_pos q]; exact r.repl k ry
  · rw [if_neg q, if_neg q]; exact Paired.snoc r ⟨rfl, rfl, ry⟩
theorem dcn_at (I : Inv X pins σ H s) (e : H a = some (dcO a es)) (hk : ∀ p ∈ es, Den X.K X.mg H (.ref p.2.1) (nkD p.1)) :
    es ≠ [] ∧ es.length ≤ sizeLine ∧ (a == sysModules) = false ∧ (∀ p ∈ es, tupKey p.1 = true) ∧ ∃ xs, EX es xs ∧ s.heap.DictOfH (nestedKind X.prog X.w) a xs := by
  obtain ⟨⟨ne, z, y, tk, w0, xs, r, o, ents, ep, h1, h2, h3, h4, h5⟩, _⟩ := (show ObjOk X.prog X.w H s.heap a (dcO a es) from I.hok a _ e)
  refine ⟨ne, z, y, tk, xs, r, o, ents, ep, h1, h2, h3, ?_, ?_, h5⟩
  · rw [h4]
    refine List.map_congr_left fun x hx => ?_
    have ht : tupKey x.1 = true := EX.all (P := fun k _ => tupKey k = true) r tk x hx
    unfold entN entryOfKey
    rw [hash_txl w0 X.w x.1 (tupKey_txl ht)]; rfl
  · intro x hx
    have h : tupKey x.1 = true ∧ NestedIs s.heap x.1 (.ref x.2.1) := EX.all (P := fun k b => tupKey k = true ∧ NestedIs s.heap k (.ref b)) r (fun p hp => ⟨tk p hp, nk_is I p.1 (hk p hp) rfl⟩) x hx
    exact ⟨h.2, tupKey_depth h.1⟩
theorem dk_nil (I : Inv X pins σ H s) (e : H a = some (.dK [])) : (a == sysModules) = false ∧ s.heap.DictOfH (nestedKind X.prog X.w) a [] := by
  obtain ⟨z, hd, vs, rel, o, es, ep, h1, h2, h3, h4, h5, h6⟩ := dk_of I.hok e
  cases rel
  refine ⟨hd, o, es, ep, h1, h2, h3, ?_, fun x hx => (by cases hx), List.nodup_nil⟩
  have : es.toList.length = 0 := by rw [h5.length]; rfl
  rw [List.length_eq_zero_iff.mp this]; rfl
end
/-- the object o at a holds kvs -/
def DcIs (K : PySem.W.Frag) (mg : Str → Option Value) (G : Hp) (a : Addr) (o : HO) (kvs : List (NestedKey × V)) : Prop :=
  (∃ gs, o = .dK gs ∧ kvs = gs.map fun p => (kN p.1, p.2)) ∨ ∃ es, o = dcO a es ∧ kvs = es.map (fun e => (e.1, e.2.2)) ∧ ∀ e ∈ es, Den K mg G (.ref e.2.1) (nkD e.1)
def flatK : NestedKey → Bool
  | .num _ => true
  | .text _ => true
  | _ => false
/-- the keys of a dict are of one kind -/
def fitK {α : Type} (kvs : List (NestedKey × α)) (k : NestedKey) : Bool := match kvs with
  | [] => flatK k || tupKey k
  | kv :: _ => (flatK k && flatK kv.1) || (tupKey k && tupKey kv.1)
theorem flatK_kN {k : NestedKey} (h : flatK k = true) : ∃ j, k = kN j := by
  cases k <;> first | (cases h; done) | skip
  · exact ⟨.inl _, rfl⟩
  · exact ⟨.inr _, rfl⟩
theorem kN_flat (k : Key) : flatK (kN k) = true := by cases k <;> rfl
theorem kN_tup (k : Key) : tupKey (kN k) = false := by cases k <;> rfl
theorem flat_tup {k : NestedKey} (h : tupKey k = true) : flatK k = false := by
  cases k <;> first | (cases h; done) | rfl
theorem key_v {K : PySem.W.Frag} {mg : Str → Option Value} {G : Hp} {v : V} {k : Key} (h : Den K mg G v (nkD (kN k))) : v = kV k := by
  cases k
  · exact h.int_inv
  · exact h.str_inv
section
variable {X : Cx} {pins : List (Addr × Obj)} {σ : L2.St} {G H : Hp} {s : Shared} {a : Addr} {o : HO} {kvs : List (NestedKey × V)} {k : NestedKey} {y : V} {u : Value}
/-- the two ways in which a key and a dict meet -/
theorem dc_cases (I : Inv X pins σ H s) (ex : Ex G H) (ho : H a = some o) (d : DcIs X.K X.mg G a o kvs) (hy : Den X.K X.mg G y (nkD k)) (f : fitK kvs k = true) (ry : RelV y u) :
    (∃ gs j, o = .dK gs ∧ kvs = gs.map (fun p => (kN p.1, p.2)) ∧ k = kN j ∧ y = kV j) ∨
    ∃ es b xs, (o = dcO a es ∨ es = [] ∧ o = .dK []) ∧ kvs = es.map (fun e => (e.1, e.2.2)) ∧ tupKey k = true ∧ u = .ref b ∧ y = .ref b ∧ (a == sysModules) = false ∧ es.length ≤ sizeLine ∧ (∀ p ∈ es, tupKey p.1 = true) ∧ (∀ e ∈ es, Den X.K X.mg G (.ref e.2.1) (nkD e.1)) ∧ EX es xs ∧
      s.heap.DictOfH (nestedKind X.prog X.w) a xs ∧ (nestedKind X.prog X.w).is s.heap k b := by
  have tp : tupKey k = true → ∃ b, u = .ref b ∧ y = .ref b ∧ (nestedKind X.prog X.w).is s.heap k b := fun ht => by
    have hi := nk_is I k (hy.mono ex) ry
    cases k <;> first | (cases ht; done) | skip
    rw [nkD] at hy
    obtain ⟨b, xs, rfl, _, _⟩ := hy.tup_inv
    obtain rfl : u = Value.ref b := ry
    exact ⟨b, rfl, rfl, hi, tupKey_depth ht⟩
  rcases d with ⟨gs, e, rfl⟩ | ⟨es, e, rfl, hk⟩
  · by_cases hf : flatK k = true
    · obtain ⟨j, rfl⟩ := flatK_kN hf
      exact .inl ⟨gs, j, e, rfl, rfl, key_v hy⟩
    · cases gs with
      | nil =>
        simp only [List.map_nil, fitK] at f
        have ht : tupKey k = true := by
          rcases Bool.or_eq_true_iff.mp f with z | z
          · exact absurd z hf
          · exact z
        obtain ⟨b, h1, h2, h3⟩ := tp ht
        subst e
        obtain ⟨g1, g2⟩ := dk_nil I ho
        exact .inr ⟨[], b, [], .inr ⟨rfl, rfl⟩, rfl, ht, h1, h2, g1, Nat.zero_le _, (fun p hp => by cases hp), (fun p hp => by cases hp), .nil, g2, h3⟩
      | cons g gs =>
        simp only [List.map_cons, fitK] at f
        rw [kN_tup, Bool.and_false, Bool.or_false, Bool.and_eq_true] at f
        exact absurd f.1 hf
  · subst e
    obtain ⟨z0, z1, z2, z3, xs, r, dd⟩ := dcn_at I ho fun p hp => (hk p hp).mono ex
    cases es with
    | nil => exact absurd rfl z0
    | cons e0 es =>
      simp only [List.map_cons, fitK] at f
      rw [z3 e0 List.mem_cons_self, flat_tup (z3 e0 List.mem_cons_self), Bool.and_false, Bool.false_or, Bool.and_true] at f
      obtain ⟨b, h1, h2, h3⟩ := tp f
      exact .inr ⟨_, b, xs, .inl rfl, rfl, f, h1, h2, z2, z1, z3, hk, r, dd, h3⟩
theorem valN_e {es : List (NestedKey × Addr × V)} {k : NestedKey} : valN (es.map fun e => (e.1, e.2.2)) k = (es.find? fun kv => decide (kv.1 = k)).map (·.2.2) := by
  unfold valN
  rw [List.find?_map, Option.map_map]; rfl
theorem dc_typeIs (I : Inv X pins σ H s) (ex : Ex G H) (ho : H a = some o) (d : DcIs X.K X.mg G a o kvs) : s.TypeIs (.ref a) "dict" := by
  rcases d with ⟨gs, e, rfl⟩ | ⟨es, e, rfl, hk⟩
  · subst e
    obtain ⟨_, _, vs, _, dd⟩ := dk_of I.hok ho
    exact dd.typeIs
  · subst e
    obtain ⟨z0, z1, z2, z3, xs, r, dd⟩ := dcn_at I ho fun p hp => (hk p hp).mono ex
    exact dd.typeIs
end
/-! ### in, not in, d[k] -/
def rDin (K : PySem.W.Frag) (mg : Str → Option Value) (neg : Bool) : R2 := fun y x H Q => ∃ G a o kvs k, x = .ref a ∧ Ex G H ∧ H a = some o ∧ DcIs K mg G a o kvs ∧ Den K mg G y (nkD k) ∧ fitK kvs k = true ∧ Q (.bl ((valN kvs k).isSome ^^ neg)) H
def rDix (K : PySem.W.Frag) (mg : Str → Option Value) : R2 := fun x y H Q => ∃ G a o kvs k v, x = .ref a ∧ Ex G H ∧ H a = some o ∧ DcIs K mg G a o kvs ∧ Den K mg G y (nkD k) ∧ fitK kvs k = true ∧ valN kvs k = some v ∧ Q v H
section
variable {X : Cx}
theorem nroom {A : Around} (hu : A.units + 65 < cLine) {prog : Program} {w : World} : (nestedKind prog w).room A.in1 := by
  show A.units + 1 + 8 < cLine
  omega
theorem op_din (hu : X.A.units + 65 < cLine) : OpR X (compareOp .In) (rDin X.K X.mg false) := by
  intro pins s σ H y x u v Q I ry rx h
  obtain ⟨G, a, o, kvs, k, rfl, ex, ho, d, hy, f, q⟩ := h
  obtain rfl : v = Value.ref a := rx
  rw [Bool.xor_false] at q
  rcases dc_cases I ex ho d hy f ry with ⟨gs, j, rfl, rfl, rfl, rfl⟩ | ⟨es, b, xs, eo, rfl, ht, rfl, rfl, hd, hl, htk, hk, r, dd, is⟩
  · rw [valN_k] at q
    exact d_in (by omega) I (DGet.k ho) ry fun s3 I3 => ⟨.bl _, H, I3, rfl, q⟩
  · refine wpAny_in_heap (nroom hu) is hd dd ⟨.bl _, H, I.tok _, ?_, q⟩
    rw [valN_e]
    have := (r.at k).isSome_eq
    rw [Option.isSome_map] at this ⊢
    rw [Option.isSome_map] at this
    rw [this]; rfl
theorem op_dnin (hu : X.A.units + 65 < cLine) : OpR X (compareOp .NotIn) (rDin X.K X.mg true) := by
  intro pins s σ H y x u v Q I ry rx h
  obtain ⟨G, a, o, kvs, k, rfl, ex, ho, d, hy, f, q⟩ := h
  obtain rfl : v = Value.ref a := rx
  rw [Bool.xor_true] at q
  rcases dc_cases I ex ho d hy f ry with ⟨gs, j, rfl, rfl, rfl, rfl⟩ | ⟨es, b, xs, eo, rfl, ht, rfl, rfl, hd, hl, htk, hk, r, dd, is⟩
  · rw [valN_k] at q
    exact d_notIn (by omega) I (DGet.k ho) ry fun s3 I3 => ⟨.bl _, H, I3, rfl, q⟩
  · refine wpAny_notIn_heap (nroom hu) is hd dd ⟨.bl _, H, I.tok _, ?_, q⟩
    rw [valN_e]
    have := (r.at k).isSome_eq
    rw [Option.isSome_map] at this ⊢
    rw [Option.isSome_map] at this
    rw [this]; rfl
theorem ix_dic (hu : X.A.units + 65 < cLine) : IxR X (rDix X.K X.mg) := by
  intro value slice pins s σ H x y v u Q I rx ry h hs
  obtain ⟨G, a, o, kvs, k, z, rfl, ex, ho, d, hy, f, hv, q⟩ := h
  obtain rfl : v = Value.ref a := rx
  refine tail_any (dc_typeIs I ex ho d) PySem.F.slot_dict_getitem.lookup ?_ hs
  rcases dc_cases I ex ho d hy f ry with ⟨gs, j, rfl, rfl, rfl, rfl⟩ | ⟨es, b, xs, eo, rfl, ht, rfl, rfl, hd, hl, htk, hk, r, dd, is⟩
  · rw [valN_k] at hv
    exact d_getItem (by omega) I (by have := DGet.k (k := j) ho; rw [hv] at this; exact this) ry fun w' s3 I3 rw' => ⟨z, H, I3, rw', q⟩
  · rw [valN_e] at hv
    obtain ⟨w', hw, rw'⟩ := RelO.some_of (v := z) (o := (atKey xs k).map (·.2)) (by rw [← hv]; exact r.at k)
    obtain ⟨p, hp, hp2⟩ := Option.map_eq_some_iff.mp hw
    refine wpAny_getItem_heap (nroom hu) is dd hp ?_
    rw [hp2]
    exact ⟨z, H, I.tok _, rw', q⟩
end
/-! ### d[k] = v -/
def rDset (K : PySem.W.Frag) (mg : Str → Option Value) : V → V → V → Hp → (Hp → Prop) → Prop := fun x y v H Q => ∃ G a o kvs k, x = .ref a ∧ Ex G H ∧ H a = some o ∧ G a = none ∧ DcIs K mg G a o kvs ∧ Den K mg G y (nkD k) ∧ fitK kvs k = true ∧ kvs.length < sizeLine ∧
  ∀ o', DcIs K mg G a o' (putN kvs k v) → Q (upd H a o')
theorem putN_k (gs : List (Key × V)) (k : Key) (v : V) : putN (gs.map fun p => (kN p.1, p.2)) (kN k) v = (putK gs k v).map fun p => (kN p.1, p.2) := by
  unfold putN putK
  rw [List.any_map]
  have : ((fun kv : NestedKey × V => decide (kv.1 = kN k)) ∘ fun p : Key × V => (kN p.1, p.2)) = fun kv => decide (kv.1 = k) := by
    funext p; exact kN_dec p.1 k
  rw [this]
  split
  · rw [List.map_map, List.map_map]
    refine List.map_congr_left fun p _ => ?_
    by_cases e : p.1 = k
    · simp [e]
    · have : ¬ kN p.1 = kN k := fun z => e (kN_inj z)
      simp [e, this]
  · simp
theorem putN_e (es : List (NestedKey × Addr × V)) (k : NestedKey) (b : Addr) (v : V) : putN (es.map fun e => (e.1, e.2.2)) k v = (putE es k b v).map fun e => (e.1, e.2.2) := by
  unfold putN putE
  rw [List.any_map]
  have : ((fun kv : NestedKey × V => decide (kv.1 = k)) ∘ fun e : NestedKey × Addr × V => (e.1, e.2.2)) = fun kv => decide (kv.1 = k) := rfl
  rw [this]
  split
  · rw [List.map_map, List.map_map]
    refine List.map_congr_left fun p _ => ?_
    by_cases e : p.1 = k <;> simp [e]
  · simp
theorem putE_ne {es : List (NestedKey × Addr × V)} {k : NestedKey} {b : Addr} {v : V} : putE es k b v ≠ [] := by
  unfold putE
  split
  · rename_i h
    intro e
    rw [List.map_eq_nil_iff] at e
    subst e; cases h
  · simp
theorem putE_len {es : List (NestedKey × Addr × V)} {k : NestedKey} {b : Addr} {v : V} : (putE es k b v).length ≤ es.length + 1 := by
  unfold putE
  split
  · rw [List.length_map]; omega
  · rw [List.length_append]; exact Nat.le_refl _
theorem putE_all {es : List (NestedKey × Addr × V)} {k : NestedKey} {b : Addr} {v : V} {P : NestedKey → Addr → Prop} (h : ∀ e ∈ es, P e.1 e.2.1) (hk : P k b) : ∀ e ∈ putE es k b v, P e.1 e.2.1 := by
  intro e he
  unfold putE at he
  split at he
  · obtain ⟨x, hx, rfl⟩ := List.mem_map.mp he
    split <;> exact h x hx
  · rcases List.mem_append.mp he with he | he
    · exact h e he
    · obtain rfl := List.mem_singleton.mp he
      exact hk
section
variable {X : Cx}
theorem set_dic (hu : X.A.units + 65 < cLine) : PSet X (rDset X.K X.mg) := by
  intro pins s σ H x y v ov iv u Q I ro ri rv h
  obtain ⟨G, a, o, kvs, k, rfl, ex, ho, hg, d, hy, f, hl, q⟩ := h
  obtain rfl : ov = Value.ref a := ro
  rcases dc_cases I ex ho d hy f ri with ⟨gs, j, rfl, rfl, rfl, rfl⟩ | ⟨es, b, xs, eo, rfl, ht, rfl, rfl, hd, hle, htk, hk, r, dd, is⟩
  · rw [List.length_map] at hl
    exact d_setItem (by omega) I (DPut.k ho hl) ri rv fun s4 I4 => ⟨_, I4, q _ (.inl ⟨_, rfl, putN_k gs j v⟩)⟩
  · rw [List.length_map] at hl
    have hz : xs.length ≤ sizeLine := by rw [← Paired.length r]; exact hle
    refine wpAny_setItem_heap (hsz := hz) (nroom hu) is dd fun h' dd' hs => ⟨upd H a (dcO a (putE es k b v)), ?_, q _ (.inr ⟨_, rfl, putN_e es k b v, putE_all (P := fun k b => Den X.K X.mg G (.ref b) (nkD k)) hk hy⟩)⟩
    obtain ⟨ob, ents, ep, hq, h2, h3, h4, _, h5⟩ := dd'
    have tk : ∀ e ∈ putE es k b v, tupKey e.1 = true := putE_all (P := fun k _ => tupKey k = true) htk ht
    have rr : EX (putE es k b v) (storedH xs k b u) := r.put k rv
    have dn : DcN a (putE es k b v) h' := ⟨putE_ne, by have := putE_len (es := es) (k := k) (b := b) (v := v); omega, hd, tk, X.w, _, rr, ob, ents, ep, hq, h2, h3, by rw [h4]; rfl, h5⟩
    refine d_write I ?_ hs ⟨ob, hq⟩ ⟨dn, ⟨ob, hq⟩, fun h1 h2 y k => ?_⟩
    · rcases eo with rfl | ⟨_, rfl⟩ <;> rw [ho] <;> exact True.intro
    · obtain ⟨y0, y1, y2, y3, w0, ys, y4, o2, en, e2, y5, y6⟩ := y
      exact ⟨y0, y1, y2, y3, w0, ys, y4, o2, en, e2, k _ y5, y6⟩
end
/-! ### data -/
theorem objR_od {K : PySem.W.Frag} {mg : Str → Option Value} {G : Hp} {a : Addr} {o : HO} {kvs : List (NestedKey × D)} : ObjR K mg G a o (.od kvs) ↔ ∃ ks, DcIs K mg G a o ks ∧ DenA K mg G ks kvs := by
  constructor
  · intro h
    cases o <;> first | exact h.elim | skip
    · rename_i gs
      obtain ⟨h1, h2⟩ := h
      refine ⟨_, .inl ⟨gs, rfl, rfl⟩, by rw [List.map_map]; exact h1, fun i p q e1 e2 => ?_⟩
      rw [List.getElem?_map] at e1
      cases z : gs[i]? with
      | none => rw [z] at e1; cases e1
      | some g => rw [z] at e1; cases e1; exact h2 i g q z e2
    · obtain ⟨es, rfl, h1, h2, h3⟩ := h
      refine ⟨_, .inr ⟨es, rfl, rfl, fun e he => ?_⟩, by rw [List.map_map]; exact h1, fun i p q e1 e2 => ?_⟩
      · obtain ⟨i, hi⟩ := List.getElem?_of_mem he
        exact h2 i e hi
      · rw [List.getElem?_map] at e1
        cases z : es[i]? with
        | none => rw [z] at e1; cases e1
        | some g => rw [z] at e1; cases e1; exact h3 i g q z e2
  · rintro ⟨ks, ⟨gs, rfl, rfl⟩ | ⟨es, rfl, rfl, hk⟩, h1, h2⟩
    · refine ⟨by rw [List.map_map] at h1; exact h1, fun i p q e1 e2 => h2 i (kN p.1, p.2) q (by rw [List.getElem?_map, e1]; rfl) e2⟩
    · refine ⟨es, rfl, by rw [List.map_map] at h1; exact h1, fun i p e => hk p (List.mem_of_getElem? e), fun i p q e1 e2 => h2 i (p.1, p.2.2) q (by rw [List.getElem?_map, e1]; rfl) e2⟩
section
variable {K : PySem.W.Frag} {mg : Str → Option Value} {G H : Hp}
theorem DenA.cons_ex {ks : List (NestedKey × V)} {k : NestedKey} {d : D} {kvs : List (NestedKey × D)} (h : DenA K mg G ks ((k, d) :: kvs)) : ∃ v vs, ks = (k, v) :: vs ∧ Den K mg G v d ∧ DenA K mg G vs kvs := by
  obtain ⟨h1, h2⟩ := h
  cases ks with
  | nil => simp at h1
  | cons p ks =>
    obtain ⟨pk, pv⟩ := p
    simp only [List.map_cons, List.cons.injEq] at h1
    obtain ⟨rfl, h1⟩ := h1
    exact ⟨pv, ks, rfl, h2 0 (pk, pv) (pk, d) rfl rfl, h1, fun i p q a b => h2 (i + 1) p q (by simpa using a) (by simpa using b)⟩
theorem DenA.nil_inv {ks : List (NestedKey × V)} (h : DenA K mg G ks ([] : List (NestedKey × D))) : ks = [] := by
  have := h.1
  simpa using this
theorem DenA.nilK : DenA K mg G ([] : List (NestedKey × V)) ([] : List (NestedKey × D)) := ⟨rfl, fun i p q a => by simp at a⟩
theorem DenA.consK {k : NestedKey} {v : V} {d : D} {vs : List (NestedKey × V)} {kvs : List (NestedKey × D)} (h : Den K mg G v d) (t : DenA K mg G vs kvs) : DenA K mg G ((k, v) :: vs) ((k, d) :: kvs) := by
  refine ⟨by simp [t.1], fun i p q a b => ?_⟩
  cases i with
  | zero => simp at a b; subst a; subst b; exact h
  | succ i => simp at a b; exact t.2 i p q a b
theorem DenA.val {kvs : List (NestedKey × D)} : ∀ {ks : List (NestedKey × V)}, DenA K mg G ks kvs → ∀ k, (valN ks k).isSome = (valN kvs k).isSome ∧ ∀ d, valN kvs k = some d → ∃ v, valN ks k = some v ∧ Den K mg G v d := by
  induction kvs with
  | nil =>
    intro ks h k
    rw [h.nil_inv]; exact ⟨rfl, fun d e => by cases e⟩
  | cons p kvs ih =>
    intro ks h k
    obtain ⟨pk, pd⟩ := p
    obtain ⟨v, vs, rfl, h1, h2⟩ := h.cons_ex
    unfold valN
    by_cases e : pk = k
    · simp [e]; exact h1
    · have := ih h2 k
      unfold valN at this
      simpa [e] using this
theorem DenA.fit {kvs : List (NestedKey × D)} {ks : List (NestedKey × V)} (h : DenA K mg G ks kvs) (k : NestedKey) : fitK ks k = fitK kvs k := by
  cases kvs with
  | nil => rw [h.nil_inv]; rfl
  | cons p kvs =>
    obtain ⟨pk, pd⟩ := p
    obtain ⟨v, vs, rfl, h1, h2⟩ := h.cons_ex
    rfl
theorem DenA.any {kvs : List (NestedKey × D)} {ks : List (NestedKey × V)} (h : DenA K mg G ks kvs) (k : NestedKey) : (ks.any fun kv => decide (kv.1 = k)) = kvs.any fun kv => decide (kv.1 = k) := by
  have := (h.val k).1
  unfold valN at this
  rw [find_any, find_any, ← Option.isSome_map (f := (·.2)), this, Option.isSome_map]
theorem DenA.repl {kvs : List (NestedKey × D)} : ∀ {ks : List (NestedKey × V)}, DenA K mg G ks kvs → ∀ {k : NestedKey} {v : V} {d : D}, Den K mg G v d → DenA K mg G (ks.map fun kv => if kv.1 = k then (kv.1, v) else kv) (kvs.map fun kv => if kv.1 = k then (kv.1, d) else kv) := by
  induction kvs with
  | nil => intro ks h k v d hd; rw [h.nil_inv]; exact .nilK
  | cons p kvs ih =>
    intro ks h k v d hd
    obtain ⟨pk, pd⟩ := p
    obtain ⟨v', vs, rfl, h1, h2⟩ := h.cons_ex
    rw [List.map_cons, List.map_cons]
    by_cases e : pk = k
    · simp only [e, if_true]; exact .consK hd (ih h2 hd)
    · simp only [e, if_false]; exact .consK h1 (ih h2 hd)
theorem DenA.snoc {kvs : List (NestedKey × D)} : ∀ {ks : List (NestedKey × V)}, DenA K mg G ks kvs → ∀ {k : NestedKey} {v : V} {d : D}, Den K mg G v d → DenA K mg G (ks ++ [(k, v)]) (kvs ++ [(k, d)]) := by
  induction kvs with
  | nil => intro ks h k v d hd; rw [h.nil_inv]; exact .consK hd .nilK
  | cons p kvs ih =>
    intro ks h k v d hd
    obtain ⟨pk, pd⟩ := p
    obtain ⟨v', vs, rfl, h1, h2⟩ := h.cons_ex
    exact .consK h1 (ih h2 hd)
theorem DenA.putK {kvs : List (NestedKey × D)} {ks : List (NestedKey × V)} (h : DenA K mg G ks kvs) {k : NestedKey} {v : V} {d : D} (hd : Den K mg G v d) : DenA K mg G (putN ks k v) (putN kvs k d) := by
  unfold putN
  rw [h.any k]
  split
  · exact h.repl hd
  · exact h.snoc hd
end
mutual
def toK : D → Option NestedKey
  | .int i => some (.num i)
  | .str x => some (.text x)
  | .tup ds => (toKs ds).map .tup
  | _ => none
def toKs : List D → Option (List NestedKey)
  | [] => some []
  | d :: ds => (toK d).bind fun k => (toKs ds).map fun ks => k :: ks
end
mutual
theorem toK_inv : ∀ (d : D) (k : NestedKey), toK d = some k → d = nkD k
  | .int i, k, h => by rw [toK] at h; cases h; rw [nkD]
  | .str x, k, h => by rw [toK] at h; cases h; rw [nkD]
  | .tup ds, k, h => by
    rw [toK, Option.map_eq_some_iff] at h
    obtain ⟨ks, h1, rfl⟩ := h
    rw [nkD, toKs_inv ds ks h1]
  | .non, k, h => by simp [toK] at h
  | .bl _, k, h => by simp [toK] at h
  | .lst _, k, h => by simp [toK] at h
  | .fls _, k, h => by simp [toK] at h
  | .dct _, k, h => by simp [toK] at h
  | .obj _ _, k, h => by simp [toK] at h
  | .cls _, k, h => by simp [toK] at h
  | .lam _ _ _ _, k, h => by simp [toK] at h
theorem toKs_inv : ∀ (ds : List D) (ks : List NestedKey), toKs ds = some ks → ds = nkDs ks
  | [], ks, h => by rw [toKs] at h; cases h; rw [nkDs]
  | d :: ds, ks, h => by
    simp only [toKs, Option.bind_eq_some_iff, Option.map_eq_some_iff] at h
    obtain ⟨k, h1, ks', h2, rfl⟩ := h
    rw [nkDs, ← toK_inv d k h1, ← toKs_inv ds ks' h2]
end
def keyR : RV → Option NestedKey
  | .sh d => toK d
  | _ => none
def dctOf : RV → Option (List (NestedKey × D))
  | .od kvs => some kvs
  | .sh (.dct kvs) => some kvs
  | _ => none
def dinF (neg : Bool) (y x : RV) : Option RV := match dctOf x, keyR y with
  | some kvs, some k => if fitK kvs k = true then some (.sh (.bl ((valN kvs k).isSome ^^ neg))) else none
  | _, _ => none
def dixF (x y : RV) : Option RV := match dctOf x, keyR y with
  | some kvs, some k => if fitK kvs k = true then (valN kvs k).map .sh else none
  | _, _ => none
section
variable {K : PySem.W.Frag} {mg : Str → Option Value} {G H : Hp}
theorem keyR_den {v : V} {r : RV} {k : NestedKey} (w : View K mg G H v r) (e : keyR r = some k) : Den K mg G v (nkD k) := by
  cases r with
  | sh d => rw [← toK_inv d k e]; exact w
  | _ => cases e
theorem dct_view {v : V} {r : RV} {kvs : List (NestedKey × D)} (ex : Ex G H) (w : View K mg G H v r) (e : dctOf r = some kvs) : ∃ a o ks, v = .ref a ∧ H a = some o ∧ DcIs K mg G a o ks ∧ DenA K mg G ks kvs := by
  unfold dctOf at e
  split at e <;> cases e
  · obtain ⟨a, o, rfl, h1, h2, h3⟩ := w
    obtain ⟨ks, h4, h5⟩ := objR_od.mp h3
    exact ⟨a, o, ks, rfl, h1, h4, h5⟩
  · have w : Den K mg G v (.dct kvs) := w
    cases w with
    | dct h l q =>
      rename_i a gs
      obtain ⟨ks, h4, h5⟩ := (objR_od (a := a) (o := .dK gs)).mp (show ObjR K mg G a (.dK gs) (.od kvs) from ⟨l, q⟩)
      exact ⟨a, _, ks, rfl, ex _ _ h, h4, h5⟩
    | dcn h l q1 q2 =>
      rename_i a es
      obtain ⟨ks, h4, h5⟩ := (objR_od (a := a) (o := dcO a es)).mp (show ObjR K mg G a (dcO a es) (.od kvs) from ⟨es, rfl, l, q1, q2⟩)
      exact ⟨a, _, ks, rfl, ex _ _ h, h4, h5⟩
theorem s_dinF {neg : Bool} : OpS K mg (rDin K mg neg) (dinF neg) := fun G H y x b c r Q ex wy wx e k => by
  unfold dinF at e
  split at e
  · rename_i kvs ky h1 h2
    split at e
    · rename_i f; cases e
      obtain ⟨a, o, ks, rfl, ho, d, rel⟩ := dct_view ex wx h1
      refine ⟨G, a, o, ks, ky, rfl, ex, ho, d, keyR_den wy h2, by rw [rel.fit]; exact f, ?_⟩
      rw [(rel.val ky).1]
      exact k _ G H .same (.bl _)
    · cases e
  · cases e
theorem s_dixF : OpS K mg (rDix K mg) dixF := fun G H x y b c r Q ex wx wy e k => by
  unfold dixF at e
  split at e
  · rename_i kvs ky h1 h2
    split at e
    · rename_i f
      rw [Option.map_eq_some_iff] at e
      obtain ⟨dv, h3, rfl⟩ := e
      obtain ⟨a, o, ks, rfl, ho, d, rel⟩ := dct_view ex wx h1
      obtain ⟨v, h4, h5⟩ := (rel.val ky).2 dv h3
      exact ⟨G, a, o, ks, ky, v, rfl, ex, ho, d, keyR_den wy h2, by rw [rel.fit]; exact f, h4, k _ G H .same h5⟩
    · cases e
  · cases e
end
/-! ### the statement d[k] = v, the displays -/
def setDM (i : Nat) (mv : M Opd) (mk : M Opd) : MS := bindS mv fun o1 e1 => match dOf o1 e1 with
  | .ok d e2 => (match slotOf e2 i with
    | some _ => bindS mk (fun o2 e3 => match slotOf e3 i, (resolve e3 o2).bind keyR with
      | some (.od kvs), some k => if fitK kvs k = true ∧ kvs.length < sizeLine then .nx (e3.set i (some (.od (putN kvs k d)))) else .stk
      | _, _ => .stk) e2
    | none => .stk)
  | _ => .stk
def newD : M RV := fun env => .ok (.od []) env
def dispM (mk mv : M Opd) : M RV := fun env => match mk env with
  | .ok o1 e1 => (match mv e1 with
    | .ok o2 e2 => (match (resolve e2 o1).bind keyR with
      | some k => (match dOf o2 e2 with
        | .ok d e3 => if (flatK k || tupKey k) = true then .ok (.od [(k, d)]) e3 else .stk
        | _ => .stk)
      | none => .stk)
    | _ => .stk)
  | _ => .stk
-- fast: setDM newD dispM
section
variable {X : Cx} {W : WX} {pn : List Nat} {pos : Pos}
theorem qs_setD {i : Nat} {x : Str} {px tpos : Pos} {e k : Expr} {mv mk : M Opd} (hu : X.A.units + 65 < cLine) (hN : X.N[i]? = some x) (hv : Vis X.env.scope x) (hd : (x == ("__debug__" : Str)) = false) (hcd : (x == ("__classdict__" : Str)) = false) (he : QO X W pn e mv) (hk : QO X W pn k mk)
    (ha : ∀ v, assign (.Subscript (.Name x px) k tpos) X.env v = (do
      let ov ← holding [v] (eval (.Name x px) X.env)
      let iv ← holding [v, ov] (eval k X.env)
      standAt tpos
      holding [v, ov, iv] (setItem ov iv v)
      release [v, ov, iv] []))
    (hs : swapsWithSole [.Subscript (.Name x px) k tpos] e pos.line X.env = pure false) (hw : swappedStores [.Subscript (.Name x px) k tpos] e X.env = pure none) (h1 : (assignEach [.Subscript (.Name x px) k tpos] X.env).map (·.2) = [assign (.Subscript (.Name x px) k tpos) X.env]) :
    QS X W pn (.Assign [.Subscript (.Name x px) k tpos] e pos) (setDM i mv mk) := fun Fh P hp =>
  PS.weak (ps_asg (he Fh P hp) (pg_sub (pe_var hN hv hd hcd) (hk Fh P hp) (set_dic hu) ha) hs hw h1) fun D σ H ⟨G, env, S, q⟩ => by
    refine ⟨G, env, S, PO_S (σ := σ) q fun o e1 v G1 H1 ex w S1 hk => ?_⟩
    cases z1 : dOf o e1 with
    | err x e2 => exact (dOf_noerr z1).elim
    | stk => simp only [z1] at hk; exact hk.elim
    | ok d e2 =>
      simp only [z1] at hk
      obtain ⟨G2, x2, d2, S2⟩ := S1.dOf w z1
      cases z2 : slotOf e2 i with
      | none => simp only [z2] at hk; exact hk.elim
      | some r0 =>
        simp only [z2] at hk
        obtain ⟨u, hu, _⟩ := S2.val i r0 (slotOf_some z2)
        refine ⟨u, hu, G2, e2, S2, PO_S (σ := σ) (PSt.mono x2 hk) fun o2 e3 y G3 H3 ex3 w3 S3 hk3 => ?_⟩
        cases z3 : slotOf e3 i with
        | none => simp only [z3] at hk3; exact hk3.elim
        | some r1 =>
          cases z4 : (resolve e3 o2).bind keyR with
          | none =>
            rw [z3, z4] at hk3
            cases r1 <;> exact hk3.elim
          | some kk =>
            rw [z3, z4] at hk3
            cases r1 with
            | od kvs =>
              simp only at hk3
              by_cases hc : fitK kvs kk = true ∧ kvs.length < sizeLine
              · rw [if_pos hc] at hk3
                have es := slotOf_some z3
                obtain ⟨u', hu', wu⟩ := S3.val i _ es
                rw [hu] at hu'; cases hu'
                obtain ⟨a, oo, rfl, g1, g2, g3⟩ := wu
                obtain ⟨ks, g4, g5⟩ := objR_od.mp g3
                simp only [Option.bind_eq_some_iff] at z4
                obtain ⟨r, y1, y2⟩ := z4
                have hl : ks.length < sizeLine := by
                  have := congrArg List.length g5.1
                  simp only [List.length_map] at this
                  omega
                refine ⟨G3, a, oo, ks, kk, rfl, S3.gh, g1, g2, g4, keyR_den (S3.resolve w3 y1) y2, by rw [g5.fit]; exact hc.1, hl, fun o' hi => ?_⟩
                exact hk3 σ G3 _ (Ex.refl _) (S3.mut (o' := o') es rfl hu (objR_od.mpr ⟨_, hi, g5.putK (d2.mono ex3)⟩))
              · rw [if_neg hc] at hk3; exact hk3.elim
            | sh _ => exact hk3.elim
            | ol _ => exact hk3.elim
            | oo _ _ => exact hk3.elim
theorem qv_newD : QV X W pn (.Dict [] [] pos) newD := fun Fh P hp => PE.weak pe_dnewK fun σ H Q ⟨G, env, S, q⟩ => by
  intro p hn
  have st : Step G H G (upd H p (.dK [])) [p] := .own hn
  exact q (.ref p) G _ (Ex.refl _) ⟨p, .dK [], rfl, upd_same, S.gh.none hn, rfl, fun i p q a => by simp at a⟩ (S.step st)

/-- {k: v}: what stands behind, flat keys -/
def tDispT (K : PySem.W.Frag) (mg : Str → Option Value) (tk tv : TE) : TE := fun σ H Q => ∀ p, H p = none → tk σ (upd H p (.dK [])) fun y H1 => tv σ H1 fun v H2 => H2 p = some (.dK []) ∧ ∃ G k, Ex G H2 ∧ Den K mg G y (nkD k) ∧ tupKey k = true ∧
  ∀ o', DcIs K mg G p o' [(k, v)] → Q (.ref p) (upd H2 p o')
theorem pe_dispT {k v : Expr} {tk tv : TE} (hu : X.A.units + 65 < cLine) (hk : PE X k tk) (hv : PE X v tv) : PE X (.Dict [some k] [v] pos) (tDispT X.K X.mg tk tv) := by
  refine ⟨fun pins s σ H Q I q => ?_⟩
  have hn := I.hok.fresh (Nat.le_refl s.heap.objs.size)
  have I1 := I.laid (a := s.heap.objs.size) (o := .dK []) (h' := s.heap.push { cls := .type "dict", data := .dict #[] }) (t' := s.toks) (fun _ _ q => Heap.get?_push_of_some _ q) (Nat.le_refl _) (dk_empty s.heap I.big)
  have hsh := zip_pairTrees [some k] [v] X.env pos rfl rfl
  have hlen : (pairTrees [some k] [v] X.env pos).length = 1 := pairTrees_length [some k] [v] X.env pos rfl rfl
  rw [arm_eval_Dict, hsh, dictDisplay_pairs _ (fun z => by rw [z] at hlen; cases hlen) (by omega)]
  refine wpAny_bind (wpAny_standAt (wpAny_bind (wpAny_subDictH (knd := nestedKind X.prog X.w) (Q := fun d s' => wpAny (model X.prog X.w) X.A (pure (Value.ref d)) (EP X pins σ Q) X.xe s') (by show X.A.units + 8 < cLine; omega) (by omega) ?_)))
  refine pairTrees_cons_walk (thn (hk.run pins _ σ _ _ I1 (q _ hn)) fun u s1 ⟨x, H1, I1, rx, q1⟩ => thn (hv.run pins s1 σ H1 _ I1 q1) fun w2 s2 ⟨y, H2, I2, ry, e, G, kk, ex, hd, ht, q2⟩ => pairTrees_nil_walk ?_)
  have hi := nk_is I2 kk (hd.mono ex) rx
  obtain ⟨b, rfl, rfl⟩ : ∃ b, u = .ref b ∧ x = .ref b := by
    cases kk <;> first | (cases ht; done) | skip
    rw [nkD] at hd
    obtain ⟨b, xs, rfl, _, _⟩ := hd.tup_inv
    exact ⟨b, rx, rfl⟩
  obtain ⟨hsm, dd⟩ := dk_nil I2 e
  refine ⟨[(kk, b, w2)], ⟨rfl, rfl, ⟨hi, tupKey_depth ht⟩, trivial⟩, dd, fun h' tk dn hs => wpAny_pure ?_⟩
  obtain ⟨ob, ents, ep, hq, h2, h3, h4, h6, h5⟩ := dn
  refine ⟨.ref s.heap.objs.size, upd H2 s.heap.objs.size (dcO s.heap.objs.size [(kk, b, y)]), ?_, rfl, q2 _ (.inr ⟨[(kk, b, y)], rfl, rfl, fun e0 he => by obtain rfl := List.mem_singleton.mp he; exact hd⟩)⟩
  have dn : DcN s.heap.objs.size [(kk, b, y)] h' := ⟨by simp, by rw [sizeLine_eq, List.length_singleton]; omega, hsm, fun e0 he => by obtain rfl := List.mem_singleton.mp he; exact ht, X.w, [(kk, b, w2)], .cons ⟨rfl, rfl, ry⟩ .nil, ob, ents, ep, hq, h2, h3, by rw [h4]; rfl, h5⟩
  refine d_write I2 (by rw [e]; exact True.intro) hs ⟨ob, hq⟩ ⟨dn, ⟨ob, hq⟩, fun h1 h2 y k => ?_⟩
  obtain ⟨y0, y1, y2, y3, w0, ys, y4, o2, en, e2, y5, y6⟩ := y
  exact ⟨y0, y1, y2, y3, w0, ys, y4, o2, en, e2, k _ y5, y6⟩
theorem qv_disp1 {k v : Expr} {mk mv : M Opd} (hu : X.A.units + 65 < cLine) (hk : QO X W pn k mk) (hv : QO X W pn v mv) : QV X W pn (.Dict [some k] [v] pos) (dispM mk mv) := fun Fh P hp => by
  have r1 := pe_dispT (pos := pos) hu (PE.ex fun F => hk F P hp) (PE.ex fun F => hv F P hp)
  have r2 : PE X (.Dict [some k] [v] pos) (tDisp [(fun σ H Q => ∃ F, rdO X.K X.mg W F P mk σ H Q, fun σ H Q => ∃ F, rdO X.K X.mg W F P mv σ H Q)]) := pe_disp (pps_cons (PE.ex fun F => hk F P hp) (PE.ex fun F => hv F P hp) pps_nil) rfl rfl (by simp) (by simp)
  refine PE.weak (PE.or r1 r2) fun σ H Q ⟨G, env, S, q⟩ => ?_
  unfold dispM at q
  cases z1 : mk env with
  | err x e => simp only [z1] at q; exact q.elim
  | stk => simp only [z1] at q; exact q.elim
  | ok o1 e1 =>
  simp only [z1] at q
  cases z2 : mv e1 with
  | err x e => simp only [z2] at q; exact q.elim
  | stk => simp only [z2] at q; exact q.elim
  | ok o2 e2 =>
  simp only [z2] at q
  cases z3 : (resolve e2 o1).bind keyR with
  | none => simp only [z3] at q; exact q.elim
  | some kk =>
  simp only [z3] at q
  simp only [Option.bind_eq_some_iff] at z3
  obtain ⟨r0, y1, y2⟩ := z3
  cases z4 : dOf o2 e2 with
  | err x e => simp only [z4] at q; exact q.elim
  | stk => simp only [z4] at q; exact q.elim
  | ok d e3 =>
  simp only [z4] at q
  by_cases hc : (flatK kk || tupKey kk) = true
  · rw [if_pos hc] at q
    by_cases ht : tupKey kk = true
    · refine .inl fun p hn => ?_
      have hF : Fh p = none := S.fh.none hn
      refine ⟨_, G, env, S.guard (o := .dK []) hn nofun, ?_⟩
      rw [z1]
      intro y G1 H1 ex1 w1 S1
      refine ⟨_, G1, e1, S1, ?_⟩
      rw [z2]
      intro v' G2 H2 ex2 w2 S2
      have hy := keyR_den (S2.resolve (w1.mono ex2) y1) y2
      obtain ⟨G3, ex3, d3, S3⟩ := S2.dOf w2 z4
      refine ⟨S2.fh.at updF_same, G3, kk, S3.gh, hy.mono ex3, ht, fun o' hi => ?_⟩
      have hob : ObjR X.K X.mg G3 p o' (.od [(kk, d)]) := objR_od.mpr ⟨_, hi, .consK d3 .nilK⟩
      have S4 := S3.reguard (o' := o') hob.nt
      have hg : G3 p = none := S3.dj p _ updF_same
      exact q (.ref p) G3 _ ((ex1.trans ex2).trans ex3) (View.of_own upd_same hg hob) (by rw [tmps_own rfl]; exact S4.unguard hF)
    · have hf : flatK kk = true := by
        rcases Bool.or_eq_true_iff.mp hc with z | z
        · exact z
        · exact absurd z ht
      obtain ⟨j, rfl⟩ := flatK_kN hf
      refine .inr fun p hn => ?_
      have hF : Fh p = none := S.fh.none hn
      refine ⟨_, G, env, S.guard (o := .dK []) hn nofun, ?_⟩
      rw [z1]
      intro y G1 H1 ex1 w1 S1
      refine ⟨_, G1, e1, S1, ?_⟩
      rw [z2]
      intro v' G2 H2 ex2 w2 S2
      have hy := key_v (keyR_den (S2.resolve (w1.mono ex2) y1) y2)
      obtain ⟨G3, ex3, d3, S3⟩ := S2.dOf w2 z4
      subst hy
      refine ⟨S2.fh.at updF_same, [(j, v')], rfl, by simp, ?_⟩
      have hob : ObjR X.K X.mg G3 p (.dK (mergeK [] [(j, v')])) (.od [(kN j, d)]) := objR_od.mpr ⟨[(kN j, v')], .inl ⟨[(j, v')], rfl, rfl⟩, .consK d3 .nilK⟩
      have S4 := S3.reguard (o' := .dK (mergeK [] [(j, v')])) hob.nt
      have hg : G3 p = none := S3.dj p _ updF_same
      exact q (.ref p) G3 _ ((ex1.trans ex2).trans ex3) (View.of_own upd_same hg hob) (by rw [tmps_own rfl]; exact S4.unguard hF)
  · rw [if_neg hc] at q; exact q.elim
end
/-! ### a slot's object is shared ahead of a statement -/
def shrS (i : Nat) (s : MS) : MS := fun env => match slotOf env i with
  | some r => s (env.set i (some (.sh r.d)))
  | none => .stk
-- fast: shrS
theorem qs_shr {X : Cx} {W : WX} {pn : List Nat} {st : Stmt} {s : MS} {i : Nat} (h : QS X W pn st s) : QS X W pn st (shrS i s) := fun Fh P hp => PS.weak (h Fh P hp) fun D σ H ⟨G, env, S, q⟩ => by
  unfold shrS at q
  cases z : slotOf env i with
  | none => simp only [z] at q; exact q.elim
  | some r =>
    simp only [z] at q
    obtain ⟨v, hv, _⟩ := S.val i r (slotOf_some z)
    obtain ⟨G', ex, _, S'⟩ := S.shareSlot (slotOf_some z) hv
    exact ⟨G', _, S', PSt.mono ex q⟩
end Z
/-! sorted(xs): ints, texts, tuples of alike data -/
namespace Z
open PySem PySem.Spec PySem.W PyProof.Rows L2
theorem each_reads {h : Heap} : ∀ {us : List Value} {ds : List PyData} {as : List Addr}, ReadsAll h us ds as → EachIs (fun v d => ∃ as, Reads h v d as) us ds
  | _, _, _, .nil => .nil
  | _, _, _, .cons a t => .cons ⟨_, a⟩ (each_reads t)
def sortOk (ps : List PyData) : Bool := (decide (ps.length ≤ 1) || ps.all (fun p => match p with
  | .tuple (_ :: _) => true
  | _ => false) || ps.all (fun p => match p with
  | .tuple _ => false
  | _ => true)) && ps.all (fun p => (match p with
  | .none => false
  | _ => true) && decide (p.depth ≤ 10) && ps.all fun q => alike p q)
theorem sortOk_tuple {ps : List PyData} (h : ps.all (fun p => match p with
  | .tuple (_ :: _) => true
  | _ => false) = true) : ∀ d, d ∈ ps → ∃ x r, d = .tuple (x :: r) := fun d hd => by
  have := List.all_eq_true.mp h d hd
  cases d with
  | tuple xs => cases xs with
    | nil => cases this
    | cons x r => exact ⟨x, r, rfl⟩
  | _ => cases this
theorem sortOk_flat {ps : List PyData} (h : ps.all (fun p => match p with
  | .tuple _ => false
  | _ => true) = true) : ∀ d, d ∈ ps → ∀ xs, d ≠ .tuple xs := fun d hd xs e => by
  subst e
  have := List.all_eq_true.mp h _ hd
  cases this
theorem sortOk_none {p : PyData} (h : (match p with
  | .none => false
  | _ => true) = true) : p ≠ .none := fun e => by subst e; cases h
section
variable {prog : Program} {w : World} {A : Around} {s : Shared}
theorem sortsAt {vs : List Value} {ds : List PyData} (e : EachIs (fun v d => ∃ as, Reads s.heap v d as) vs ds) (h : sortOk ds = true) (hu : A.units + 11 < cLine) : SortsAt prog w A s (dataKind s.heap ds) vs := by
  unfold sortOk at h
  simp only [Bool.and_eq_true] at h
  obtain ⟨h1, h2⟩ := h
  have al : ∀ d ∈ ds, d ≠ .none ∧ d.depth ≤ 10 ∧ ∀ d' ∈ ds, alike d d' = true := fun d hd => by
    have := List.all_eq_true.mp h2 d hd
    simp only [Bool.and_eq_true, decide_eq_true_eq] at this
    exact ⟨sortOk_none this.1.1, this.1.2, fun d' hd' => List.all_eq_true.mp this.2 d' hd'⟩
  have hal : AllAlike ds := fun d hd d' hd' => (al d hd).2.2 d' hd'
  have hdp : ∀ d, d ∈ ds → A.units + d.depth < cLine := fun d hd => by
    have := (al d hd).2.1
    omega
  rw [Bool.or_eq_true, Bool.or_eq_true] at h1
  rcases h1 with (h1 | h1) | h1
  · have h1 := of_decide_eq_true h1
    refine ⟨fun v hv => ?_, general', fun E x y a b Q ha hb hq => ?_, fun h2 => ?_⟩
    · obtain ⟨d, hd, as, r⟩ := e.left v hv
      exact ⟨_, dataKind_some hal hd r⟩
    · obtain ⟨d, as, hd, ra, rfl⟩ := dataKind_inv ha
      obtain ⟨d', as', hd', rb, rfl⟩ := dataKind_inv hb
      have : A.units + min d.depth d'.depth < cLine := Nat.lt_of_le_of_lt (Nat.add_le_add_left (Nat.min_le_left _ _) _) (hdp d hd)
      exact oneLt_alike (f := false) (fun z => nomatch z) ra rb (hal d hd d' hd') (al d hd).1 this hq
    · exfalso
      rw [e.length] at h2; omega
  · exact SortsAt.data e hal (.inl (sortOk_tuple h1)) hdp
  · exact SortsAt.data e hal (.inr fun d hd => ⟨(al d hd).1, sortOk_flat h1 d hd⟩) hdp
end
def leV (a b : V × PyData) : Bool := !dataLt b.2 a.2
def rSortD (K : PySem.W.Frag) : List V → Hp → VK → Prop := fun vs H Q => ∃ (a : Addr) (xs : List V) (ds : List PyData), vs = [V.ref a] ∧ SqL K H a xs ∧ DpAll K H xs ds ∧ sortOk ds = true ∧
  ∀ p, H p = none → Q (.ref p) (upd H p (.lst (((xs.zip ds).mergeSort leV).map Prod.fst)))
theorem each_key {h h' : Heap} {ds : List PyData} (keep : ∀ (b : Addr) (o : Obj), h.get? b = some o → h'.get? b = some o) (hall : ∀ d ∈ ds, ∀ d' ∈ ds, alike d d' = true) :
    ∀ {xs : List V} {us : List Value} {es : List PyData} {as : List Addr}, (∀ d ∈ es, d ∈ ds) → Vals xs us → ReadsAll h us es as → EachIs (fun v (b : V × PyData) => (dataKind h' ds).keyOf v = some (keyToks b.2)) us (xs.zip es)
  | _, _, _, _, _, .nil, .nil => .nil
  | _, _, _, _, hs, .cons r t, .cons a b => by
    rw [List.zip_cons_cons]
    exact .cons (dataKind_some hall (hs _ List.mem_cons_self) (Reads.keeps keep a)) (each_key keep hall (fun d hd => hs d (List.mem_cons_of_mem _ hd)) t b)
theorem each_val {h : Heap} : ∀ {xs : List V} {us : List Value} {es : List PyData} {as : List Addr}, Vals xs us → ReadsAll h us es as → EachIs (fun v (b : V × PyData) => RelV b.1 v) us (xs.zip es)
  | _, _, _, _, .nil, .nil => .nil
  | _, _, _, _, .cons r t, .cons a b => by
    rw [List.zip_cons_cons]
    exact .cons r (each_val t b)
theorem each_vals : ∀ {us : List Value} {bs : List (V × PyData)}, EachIs (fun v (b : V × PyData) => RelV b.1 v) us bs → Vals (bs.map Prod.fst) us
  | _, _, .nil => .nil
  | _, _, .cons r t => .cons r (each_vals t)
section
variable {X : Cx}
theorem cr_sortD (hu : X.A.units + 65 < cLine) : CallR X (.builtin "sorted") (rSortD X.K) := by
  intro pins s σ H vs us Q I r h
  obtain ⟨a, xs, ds, rfl, hs, hd, ok, q⟩ := h
  obtain ⟨its, rv, hl, hz⟩ := I.list hs
  rw [Vals.ref1 r]
  obtain ⟨as, ra⟩ := Dp.readsAll I ds xs _ hd rv
  have hlen : its.length = xs.length := rv.length.symm
  have keep : ∀ (b : Addr) (o : Obj), s.heap.get? b = some o → (PySem.W.sortingHeap (PySem.W.copyHeap s.heap its) (s.heap.objs.size + 1) its).get? b = some o := fun b o e => PySem.W.sorting_copy_old e
  have ra' := ReadsAll.keeps keep ra
  have e1 := each_reads ra'
  have S := sortsAt (prog := X.prog) (w := X.w) (A := X.A.in1.in1) (s := { s with heap := PySem.W.sortingHeap (PySem.W.copyHeap s.heap its) (s.heap.objs.size + 1) its }) e1 ok (by show X.A.units + 1 + 1 + 11 < cLine; omega)
  refine PySem.W.sorted_vals hl.isList S (by rw [hlen]; exact hz) ?_
  have hall : ∀ d ∈ ds, ∀ d' ∈ ds, alike d d' = true := by
    unfold sortOk at ok
    simp only [Bool.and_eq_true] at ok
    intro d hd d' hd'
    have := List.all_eq_true.mp ok.2 d hd
    simp only [Bool.and_eq_true] at this
    exact List.all_eq_true.mp this.2 d' hd'
  have hkey : EachIs (fun v (b : V × PyData) => (dataKind (PySem.W.sortingHeap (PySem.W.copyHeap s.heap its) (s.heap.objs.size + 1) its) ds).keyOf v = some (keyToks b.2)) its (xs.zip ds) := each_key keep hall (fun d hd => hd) rv ra
  have hval : EachIs (fun v (b : V × PyData) => RelV b.1 v) its (xs.zip ds) := each_val rv ra
  have z := sortVals_each (κ := dataKind (PySem.W.sortingHeap (PySem.W.copyHeap s.heap its) (s.heap.objs.size + 1) its) ds) (rev := false) (fun b : V × PyData => keyToks b.2) hval hkey
  have hz2 : EachIs (fun v (b : V × PyData) => RelV b.1 v) (sortVals (dataKind (PySem.W.sortingHeap (PySem.W.copyHeap s.heap its) (s.heap.objs.size + 1) its) ds) false its its) ((xs.zip ds).mergeSort leV) := z
  have hv := each_vals hz2
  obtain ⟨ep, he'⟩ := PyProof.Rows.sortedAll_at s.heap its (sortVals (dataKind (PySem.W.sortingHeap (PySem.W.copyHeap s.heap its) (s.heap.objs.size + 1) its) ds) false its its).toArray
  have hl2 : (((xs.zip ds).mergeSort leV).map Prod.fst).length ≤ sizeLine := by
    rw [List.length_map, List.length_mergeSort, List.length_zip]
    omega
  exact ⟨.ref _, upd H (s.heap.objs.size + 1) (.lst (((xs.zip ds).mergeSort leV).map Prod.fst)), I.laid (t' := s.toks) (fun _ _ => PyProof.Rows.sortedAll_old) (Nat.le_succ _) ⟨hl2, _, ep, hv, he'⟩, rfl, q _ (I.hok.fresh (Nat.le_succ _))⟩
end
section
variable {K : PySem.W.Frag} {mg : Str → Option Value} {G H : Hp}
def leD (a b : D × PyData) : Bool := !dataLt b.2 a.2
def sortF (as : List RV) : Option RV := match as with
  | [r] => (match listOf r with
    | some ds => (match toPs ds with
      | some ps => if sortOk ps = true then some (.ol (((ds.zip ps).mergeSort leD).map Prod.fst)) else none
      | none => none)
    | none => none)
  | _ => none
theorem toPs_len : ∀ {ds : List D} {ps : List PyData}, toPs ds = some ps → ps.length = ds.length
  | [], ps, e => by
    rw [toPs] at e; cases e; rfl
  | d :: ds, ps, e => by
    rw [toPs] at e
    cases h1 : toP d with
    | none => rw [h1] at e; cases e
    | some p =>
      cases h2 : toPs ds with
      | none => rw [h1, h2] at e; cases e
      | some qs =>
        rw [h1, h2] at e
        cases e
        rw [List.length_cons, List.length_cons, toPs_len h2]
theorem each_den : ∀ {xs : List V} {ds : List D} {ps : List PyData}, DenL K mg G xs ds → ps.length = ds.length → EachIs (fun (a : V × PyData) (b : D × PyData) => Den K mg G a.1 b.1 ∧ a.2 = b.2) (xs.zip ps) (ds.zip ps)
  | xs, [], ps, h, _ => by
    obtain rfl := DenL.nil_inv h
    exact .nil
  | xs, d :: ds, [], h, e => by cases e
  | xs, d :: ds, p :: ps, h, e => by
    obtain ⟨v, vs, rfl, h1, h2⟩ := DenL.cons_ex h
    exact .cons ⟨h1, rfl⟩ (each_den h2 (by simpa using e))
theorem den_each : ∀ {as : List (V × PyData)} {bs : List (D × PyData)}, EachIs (fun (a : V × PyData) (b : D × PyData) => Den K mg G a.1 b.1 ∧ a.2 = b.2) as bs → DenL K mg G (as.map Prod.fst) (bs.map Prod.fst)
  | _, _, .nil => .nil
  | _, _, .cons r t => .cons r.1 (den_each t)
theorem s_sortF : CallS K mg (rSortD K) sortF := fun G H xs as c Q ex va e k => by
  unfold sortF at e
  split at e
  · obtain ⟨v, rfl, w⟩ := va.one
    split at e
    · rename_i ds q
      split at e
      · rename_i ps q2
        split at e
        · rename_i ok
          cases e
          obtain ⟨a, ys, rfl, h1, h2⟩ := w.list ex q
          have hp : DpAll K H ys ps := DenL.dp ex ds ys ps h2 q2
          have z := sort_each (r := leV) (s := leD) (each_den h2 (toPs_len q2)) fun p hp q hq => by
            have a1 := ((each_den h2 (toPs_len q2)).zip p hp).2
            have a2 := ((each_den h2 (toPs_len q2)).zip q hq).2
            unfold leV leD
            rw [a1, a2]
          exact ⟨a, ys, ps, rfl, SqL.of h1, hp, ok, fun b hb => k (.ref b) G _ (.own hb) (View.of_own upd_same (ex.none hb) (den_each z))⟩
        · cases e
      · cases e
    · cases e
  · cases e
end
end Z
/-! Z: running data-level texts by rewriting -/
namespace Z
open PySem PySem.Spec PyProof.Rows L2
theorem noMuts_ints : ∀ {l : List Int}, noMut.noMuts (l.map D.int) = true
  | [] => rfl
  | a :: l => by rw [List.map_cons]; simp only [noMut.noMuts, noMut, noMuts_ints, Bool.and_self]
theorem seqD_lst {ds : List D} : seqD (.lst ds) = some ds := rfl
theorem seqD_tup {ds : List D} : seqD (.tup ds) = some ds := rfl
theorem addD_int {i j : Int} : addD (.sh (.int i)) (.sh (.int j)) = some (.sh (.int (i + j))) := rfl
theorem subI_int {i j : Int} : subI (.sh (.int i)) (.sh (.int j)) = some (.sh (.int (i - j))) := rfl
theorem mulI_int {i j : Int} (h : CMul i j) : mulI (.sh (.int i)) (.sh (.int j)) = some (.sh (.int (i * j))) := by
  show Option.map RV.sh (if CMul i j then some (.int (i * j)) else none) = _
  rw [if_pos h]; rfl
theorem mulD_r {i j : Int} (h1 : -18446744073709551616 < j) (h2 : j < 18446744073709551616) : mulD (.sh (.int i)) (.sh (.int j)) = some (.sh (.int (i * j))) := by
  unfold mulD orF
  rw [mulI_int (.inr ⟨by simpa using h1, by simpa using h2⟩)]
theorem mulD_l {i j : Int} (h1 : -18446744073709551616 < i) (h2 : i < 18446744073709551616) : mulD (.sh (.int i)) (.sh (.int j)) = some (.sh (.int (i * j))) := by
  unfold mulD orF
  rw [mulI_int (.inl ⟨by simpa using h1, by simpa using h2⟩)]
theorem modI_int {i j : Int} (h : 0 < j) : modI (.sh (.int i)) (.sh (.int j)) = some (.sh (.int (i % j))) := by
  show Option.map RV.sh (if 0 < j then some (.int (i % j)) else none) = _
  rw [if_pos h]; rfl
theorem divI_int {i j : Int} (h : 0 < j) (h2 : j < 1073741824) : divI (.sh (.int i)) (.sh (.int j)) = some (.sh (.int (i / j))) := by
  show Option.map RV.sh (if CDiv i j then some (.int (i / j)) else none) = _
  rw [if_pos ⟨h, h2⟩]; rfl
theorem asgT_n {pn : List Nat} {i : Nat} {d : D} {env : DEnv} : asgT pn (.name i) d env = if i < env.length ∧ i ∉ pn then some (env.set i (some (.sh d))) else none := by unfold asgT; rfl
theorem asgT_t {pn : List Nat} {ts : List Tgt} {ds : List D} {env : DEnv} : asgT pn (.tup ts) (.tup ds) env = asgTs pn ts ds env := by rw [asgT]
theorem asgTs_n {pn : List Nat} {env : DEnv} : asgTs pn [] [] env = some env := by rw [asgTs]
theorem asgTs_c {pn : List Nat} {t : Tgt} {ts : List Tgt} {d : D} {ds : List D} {env : DEnv} : asgTs pn (t :: ts) (d :: ds) env = (asgT pn t d env).bind fun e => asgTs pn ts ds e := by rw [asgTs]
theorem powI_18 : powI (.sh (.int 10)) (.sh (.int 18)) = some (.sh (.int 1000000000000000000)) := by
  show Option.map RV.sh (if CPow 10 18 then some (.int (10 ^ (18 : Int).toNat)) else none) = _
  rw [if_pos (by decide)]; rfl
theorem ltI_int {i j : Int} : ltI (.sh (.int i)) (.sh (.int j)) = some (.sh (.bl (decide (i < j)))) := rfl
theorem leI_int {i j : Int} : leI (.sh (.int i)) (.sh (.int j)) = some (.sh (.bl (decide (i ≤ j)))) := rfl
theorem gtI_int {i j : Int} : gtI (.sh (.int i)) (.sh (.int j)) = some (.sh (.bl (decide (j < i)))) := rfl
theorem geI_int {i j : Int} : geI (.sh (.int i)) (.sh (.int j)) = some (.sh (.bl (decide (j ≤ i)))) := rfl
theorem eqF_int {i j : Int} : eqF (.sh (.int i)) (.sh (.int j)) = some (.sh (.bl (decide (i = j)))) := by
  have h : eqP (.sh (.int i)) (.sh (.int j)) = some (PyData.eqv (.int i) (.int j)) := rfl
  unfold eqF; rw [h]
  show some (RV.sh (.bl (PyData.eqv (.int i) (.int j)))) = _
  have h2 : PyData.eqv (.int i) (.int j) = decide (i = j) := by
    first | rfl | (simp [PyData.eqv]) | (unfold PyData.eqv; rfl)
  rw [h2]
theorem neF_int {i j : Int} : neF (.sh (.int i)) (.sh (.int j)) = some (.sh (.bl (!decide (i = j)))) := by
  have := @eqF_int i j
  unfold eqF at this; unfold neF
  cases z : eqP (.sh (.int i)) (.sh (.int j)) with
  | none => rw [z] at this; cases this
  | some c => rw [z] at this; cases this; rfl
theorem eqF_bl {i j : Bool} : eqF (.sh (.bl i)) (.sh (.bl j)) = some (.sh (.bl (i == j))) := by cases i <;> cases j <;> rfl
theorem neF_bl {i j : Bool} : neF (.sh (.bl i)) (.sh (.bl j)) = some (.sh (.bl (i != j))) := by cases i <;> cases j <;> rfl
theorem ixF_ol {ds : List D} {i : Int} : ixF (.ol ds) (.sh (.int i)) = (atI ds i).map .sh := rfl
theorem ixF_lst {ds : List D} {i : Int} : ixF (.sh (.lst ds)) (.sh (.int i)) = (atI ds i).map .sh := rfl
theorem ixF_tup {ds : List D} {i : Int} : ixF (.sh (.tup ds)) (.sh (.int i)) = (atI ds i).map .sh := rfl
theorem at0 {α : Type} {a : α} {l : List α} : atI (a :: l) 0 = some a := by simp [atI, ixN]
theorem at1 {α : Type} {a b : α} {l : List α} : atI (a :: b :: l) 1 = some b := by
  unfold atI ixN; rw [if_pos (by decide), if_pos (by simp only [List.length_cons]; omega)]; rfl
theorem at2 {α : Type} {a b c : α} {l : List α} : atI (a :: b :: c :: l) 2 = some c := by
  unfold atI ixN; rw [if_pos (by decide), if_pos (by simp only [List.length_cons]; omega)]; rfl
theorem at3 {α : Type} {a b c d : α} {l : List α} : atI (a :: b :: c :: d :: l) 3 = some d := by
  unfold atI ixN; rw [if_pos (by decide), if_pos (by simp only [List.length_cons]; omega)]; rfl
theorem at4 {α : Type} {a b c d e : α} {l : List α} : atI (a :: b :: c :: d :: e :: l) 4 = some e := by
  unfold atI ixN; rw [if_pos (by decide), if_pos (by simp only [List.length_cons]; omega)]; rfl
theorem atN {α : Type} {l : List α} {n : Nat} (h : n < l.length) : atI l (n : Int) = l[n]? := by
  unfold atI ixN
  rw [if_pos (by omega), if_pos (by omega)]
  simp
theorem atZ {α : Type} {l : List α} {i : Int} (h0 : 0 ≤ i) (h : i < l.length) : atI l i = l[i.toNat]? := by
  unfold atI ixN
  rw [if_pos h0, if_pos h]
  simp
def iabs (i : Int) : Int := if i < 0 then -i else i
theorem absF_int {i : Int} : absF [.sh (.int i)] = some (.sh (.int (iabs i))) := rfl
theorem intF_int {i : Int} : intF [.sh (.int i)] = some (.sh (.int i)) := rfl
theorem lenF_ol {ds : List D} : lenF [.ol ds] = some (.sh (.int ds.length)) := rfl
theorem lenF_lst {ds : List D} : lenF [.sh (.lst ds)] = some (.sh (.int ds.length)) := rfl
theorem lenF_tup {ds : List D} : lenF [.sh (.tup ds)] = some (.sh (.int ds.length)) := rfl
theorem listF_ol {ds : List D} : listF [.ol ds] = some (.ol ds) := rfl
theorem listF_lst {ds : List D} : listF [.sh (.lst ds)] = some (.ol ds) := rfl
theorem tupleF_ol {ds : List D} : tupleF [.ol ds] = some (.sh (.tup ds)) := rfl
theorem tupleF_lst {ds : List D} : tupleF [.sh (.lst ds)] = some (.sh (.tup ds)) := rfl
theorem isiF_ {T : Ty0} {r : RV} : isiF T r = (tyD r).map fun t => .sh (.bl (isiB t T)) := by unfold isiF; cases tyD r <;> rfl
theorem isiTF_ {Ts : List Ty0} {r : RV} : isiTF Ts r = (tyD r).map fun t => .sh (.bl (Ts.any (isiB t))) := by unfold isiTF; cases tyD r <;> rfl
end Z
/-! Z: the data level, word by word, as it runs in a frame (printed by fast.py) -/
namespace Z
open PySem PySem.Spec PyProof.Rows L2
def bindR {α β : Type} (r : Res α) (f : α → M β) : Res β := match r with
  | .ok a e => f a e
  | .err x e => .err x e
  | .stk => .stk
def bindRS {α : Type} (r : Res α) (f : α → MS) : Out := match r with
  | .ok a e => f a e
  | .err x e => .err x e
  | .stk => .stk
def seqR (r : Out) (t : MS) : Out := match r with
  | .nx e => t e
  | o => o
def runR (rs : List RV) (r : Out) : FRes := match r with
  | .nx e => (match backD rs e with
    | some rs' => .ok (.sh .non) rs'
    | none => .stk)
  | .rt r e => (match backD rs e with
    | some rs' => .ok r rs'
    | none => .stk)
  | .err x e => (match backD rs e with
    | some rs' => .err x rs'
    | none => .stk)
  | _ => .stk
def finR (os : List Opd) (rs : List RV) (env : DEnv) (r : FRes) : Res RV := match r with
  | .ok r rs' => if rs'.length = rs.length then .ok r (wb os rs rs' env) else .stk
  | .err x rs' => if rs'.length = rs.length then .err x (wb os rs rs' env) else .stk
  | .stk => .stk
theorem bindM_e {α β : Type} {m : M α} {f : α → M β} {env : DEnv} : bindM m f env = bindR (m env) f := rfl
theorem bindR_ok {α β : Type} {a : α} {e : DEnv} {f : α → M β} : bindR (.ok a e) f = f a e := rfl
theorem bindR_err {α β : Type} {x : Exn} {e : DEnv} {f : α → M β} : bindR (.err x e) f = .err x e := rfl
theorem bindR_stk {α β : Type} {f : α → M β} : bindR .stk f = .stk := rfl
theorem bindS_e {α : Type} {m : M α} {f : α → MS} {env : DEnv} : bindS m f env = bindRS (m env) f := rfl
theorem bindRS_ok {α : Type} {a : α} {e : DEnv} {f : α → MS} : bindRS (.ok a e) f = f a e := rfl
theorem bindRS_err {α : Type} {x : Exn} {e : DEnv} {f : α → MS} : bindRS (.err x e) f = .err x e := rfl
theorem bindRS_stk {α : Type} {f : α → MS} : bindRS .stk f = .stk := rfl
theorem seqM_e {s t : MS} {env : DEnv} : seqM s t env = seqR (s env) t := rfl
theorem seqR_nx {e : DEnv} {t : MS} : seqR (.nx e) t = t e := rfl
theorem seqR_rt {r : RV} {e : DEnv} {t : MS} : seqR (.rt r e) t = .rt r e := rfl
theorem seqR_bk {e : DEnv} {t : MS} : seqR (.bk e) t = .bk e := rfl
theorem seqR_ct {e : DEnv} {t : MS} : seqR (.ct e) t = .ct e := rfl
theorem seqR_err {x : Exn} {e : DEnv} {t : MS} : seqR (.err x e) t = .err x e := rfl
theorem seqR_stk {t : MS} : seqR .stk t = .stk := rfl
theorem runD_e {n : Nat} {s : List Nat → MS} {rs : List RV} : runD n s rs = runR rs (s (ownIx 0 rs) (rs.map some ++ List.replicate (n - rs.length) none)) := by
  unfold runD runR
  rfl
theorem runR_nx {rs : List RV} {e : DEnv} : runR rs (.nx e) = (match backD rs e with
    | some rs' => .ok (.sh .non) rs'
    | none => .stk) := rfl
theorem runR_rt {rs : List RV} {r : RV} {e : DEnv} : runR rs (.rt r e) = (match backD rs e with
    | some rs' => .ok r rs'
    | none => .stk) := rfl
theorem runR_err {rs : List RV} {x : Exn} {e : DEnv} : runR rs (.err x e) = (match backD rs e with
    | some rs' => .err x rs'
    | none => .stk) := rfl
theorem finF_e {f : FnD} {os : List Opd} {env : DEnv} : finF f os env = (match resolves env os with
  | some rs => if (lent os rs).Nodup then finR os rs env (f rs) else .stk
  | none => .stk) := rfl
theorem finR_ok {os : List Opd} {rs rs' : List RV} {env : DEnv} {r : RV} : finR os rs env (.ok r rs') = if rs'.length = rs.length then .ok r (wb os rs rs' env) else .stk := rfl
theorem finR_err {os : List Opd} {rs rs' : List RV} {env : DEnv} {x : Exn} : finR os rs env (.err x rs') = if rs'.length = rs.length then .err x (wb os rs rs' env) else .stk := rfl
theorem pureF_e {f : FnD} {rs : List RV} : pureF f rs = if anyOwn rs = true then lentF f rs else f rs := rfl
theorem slot_0 {x : Option RV} {e : DEnv} : slotOf (x :: e) 0 = x := rfl
theorem slot_s {x : Option RV} {e : DEnv} {n : Nat} : slotOf (x :: e) (n + 1) = slotOf e n := rfl
theorem nopM_e  {env : DEnv} : nopM  env = .nx env := rfl
theorem asgM_e {pn : List Nat} {i : Nat} {m : M RV} {env : DEnv} : asgM pn i m env = (bindS m fun r e => if i < e.length ∧ i ∉ pn then .nx (e.set i (some r)) else .stk) env := rfl
theorem dropM_e {m : M RV} {env : DEnv} : dropM m env = (bindS m fun _ e => .nx e) env := rfl
theorem retS_e {m : M RV} {env : DEnv} : retS m env = (bindS m fun r e => .rt r e) env := rfl
theorem retN_e  {env : DEnv} : retN  env = .rt (.sh .non) env := rfl
theorem retName_e {pn : List Nat} {i : Nat} {env : DEnv} : retName pn i env = match slotOf env i with
  | some r => if r.own = true ∧ i ∉ pn then .rt r (env.set i none) else .rt (.sh r.d) (env.set i (some (.sh r.d)))
  | none => .stk := rfl
theorem ifS_e {m : M Bool} {s t : MS} {env : DEnv} : ifS m s t env = (bindS m fun b => if b = true then s else t) env := rfl
theorem setM_e {i : Nat} {mv : M Opd} {mk : M Opd} {env : DEnv} : setM i mv mk env = (bindS mv fun o1 e1 => match dOf o1 e1 with
  | .ok d e2 => (match slotOf e2 i with
    | some _ => bindS mk (fun o2 e3 => match slotOf e3 i, (resolve e3 o2).bind asInt with
      | some (.ol ds), some k => (match ixN ds.length k with
        | some j => .nx (e3.set i (some (.ol (ds.set j d))))
        | none => .stk)
      | _, _ => .stk) e2
    | none => .stk)
  | _ => .stk) env := rfl
theorem augM_e {pn : List Nat} {i : Nat} {g : Int → Int → Int} {m : M Opd} {env : DEnv} : augM pn i g m env = match (slotOf env i).bind asInt with
  | some a => bindS m (fun o e => match (resolve e o).bind asInt with
    | some b => if i < e.length ∧ i ∉ pn then .nx (e.set i (some (.sh (.int (g a b))))) else .stk
    | none => .stk) env
  | none => .stk := rfl
theorem brkM_e  {env : DEnv} : brkM  env = .bk env := rfl
theorem cntM_e  {env : DEnv} : cntM  env = .ct env := rfl
theorem neverS_e  {env : DEnv} : neverS  env = .stk := rfl
theorem cM_e {d : D} {env : DEnv} : cM d env = .ok (.sh d) env := rfl
theorem shareM_e {m : M RV} {env : DEnv} : shareM m env = (bindM m fun r e => .ok (.val r.d) e) env := rfl
theorem takeM_e {m : M Opd} {env : DEnv} : takeM m env = (bindM m fun o env => match dOf o env with
  | .ok d e => .ok (.sh d) e
  | .err x e => .err x e
  | .stk => .stk) env := rfl
theorem nameO_e {i : Nat} {env : DEnv} : nameO i env = match slotOf env i with
  | some _ => .ok (.slot i) env
  | none => .stk := rfl
theorem nilO_e  {env : DEnv} : nilO  env = .ok [] env := rfl
theorem consO_e {m : M Opd} {ms : M (List Opd)} {env : DEnv} : consO m ms env = (bindM m fun o => bindM ms fun os env => .ok (o :: os) env) env := rfl
theorem opM_e {f : RV → RV → Option RV} {ma mb : M Opd} {env : DEnv} : opM f ma mb env = (bindM ma fun o1 => bindM mb fun o2 => fin2 f o1 o2) env := rfl
theorem unM_e {f : RV → Option RV} {ma : M Opd} {env : DEnv} : unM f ma env = (bindM ma fun o1 => fin1 f o1) env := rfl
theorem callM_e {f : List RV → Option RV} {ma : M (List Opd)} {env : DEnv} : callM f ma env = (bindM ma fun os => finN f os) env := rfl
theorem tupM_e {m : M (List Opd)} {env : DEnv} : tupM m env = (bindM m fun os env => match dsOf os env with
  | .ok ds e => if ds.length ≤ sizeLine then .ok (.sh (.tup ds)) e else .stk
  | .err x e => .err x e
  | .stk => .stk) env := rfl
theorem lstM_e {m : M (List Opd)} {env : DEnv} : lstM m env = (bindM m fun os env => match dsOf os env with
  | .ok ds e => if ds.length ≤ sizeLine then .ok (.ol ds) e else .stk
  | .err x e => .err x e
  | .stk => .stk) env := rfl
theorem fnA_e {f : FnD} {arr : List Src} {mp mk : M (List Opd)} {env : DEnv} : fnA f arr mp mk env = (bindM mp fun os1 => bindM mk fun os2 => finA f arr (os1 ++ os2)) env := rfl
theorem boM_e {m : M RV} {env : DEnv} : boM m env = (bindM m fun r e => match r with
  | .sh (.bl k) => .ok k e
  | _ => .stk) env := rfl
theorem truM_e {m : M Opd} {env : DEnv} : truM m env = (bindM m fun o env => match resolve env o with
  | some r => (match truF r with
    | some b => .ok b env
    | none => .stk)
  | none => .stk) env := rfl
theorem notM_e {m : M Bool} {env : DEnv} : notM m env = (bindM m fun b env => .ok (!b) env) env := rfl
theorem andM_e {ma mb : M Bool} {env : DEnv} : andM ma mb env = (bindM ma fun b => if b = true then mb else fun env => .ok false env) env := rfl
theorem orM_e {ma mb : M Bool} {env : DEnv} : orM ma mb env = (bindM ma fun b => if b = true then (fun env => .ok true env) else mb) env := rfl
theorem ifM_e {mt : M Bool} {ma mb : M RV} {env : DEnv} : ifM mt ma mb env = (bindM mt fun b => if b = true then ma else mb) env := rfl
theorem andV_e {ma mb : M RV} {env : DEnv} : andV ma mb env = (bindM ma (andV2 mb)) env := rfl
theorem andV2_e {mb : M RV} {r : RV} {e : DEnv} : andV2 mb r e = match r with
  | .sh (.bl true) => mb e
  | .sh (.bl false) => .ok (.sh (.bl false)) e
  | _ => .stk := rfl
theorem orrV_e {ma mb : M RV} {env : DEnv} : orrV ma mb env = (bindM ma (orV2 mb)) env := rfl
theorem orV2_e {mb : M RV} {r : RV} {e : DEnv} : orV2 mb r e = match r with
  | .sh (.bl false) => mb e
  | .sh (.bl true) => .ok (.sh (.bl true)) e
  | _ => .stk := rfl
theorem notV_e {ma : M RV} {env : DEnv} : notV ma env = (bindM ma notV2) env := rfl
theorem notV2_e {r : RV} {e : DEnv} : notV2 r e = match r with
  | .sh (.bl k) => .ok (.sh (.bl (!k))) e
  | _ => .stk := rfl
theorem chainM_e {f f' : RV → RV → Option RV} {ma mb mc : M Opd} {env : DEnv} : chainM f f' ma mb mc env = (bindM ma fun o1 => bindM mb fun o2 => bindM (fin2 f o1 o2) fun r => chain2 f' o2 mc r) env := rfl
theorem chain2_e {f' : RV → RV → Option RV} {o2 : Opd} {mc : M Opd} {r : RV} {e : DEnv} : chain2 f' o2 mc r e = match r with
  | .sh (.bl true) => bindM mc (fun o3 => fin2 f' o2 o3) e
  | .sh (.bl false) => .ok (.sh (.bl false)) e
  | _ => .stk := rfl
theorem mutM_e {T : String} {i : Nat} {f : RV → List D → Option (D × RV)} {m : M (List Opd)} {env : DEnv} : mutM T i f m env = match slotOf env i with
  | some r0 => if tyOk T r0 = true then bindM m (fun os e => match dsOf os e with
    | .ok ds e2 => (match slotOf e2 i with
      | some r => if r.own = true then (match f r ds with
        | some (res, r') => .ok (.sh res) (e2.set i (some r'))
        | none => .stk) else .stk
      | none => .stk)
    | _ => .stk) env else .stk
  | none => .stk := rfl
theorem shV_e {m : M RV} {env : DEnv} : shV m env = (bindM m fun r e => .ok (.sh r.d) e) env := rfl
theorem mkA_e {c : Str} {f : FnD} {arr : List Src} {mp mk : M (List Opd)} {env : DEnv} : mkA c f arr mp mk env = (bindM mp fun os1 => bindM mk fun os2 => finMk c f arr (os1 ++ os2)) env := rfl
theorem propM_e {c : Str} {f : FnD} {mo : M Opd} {env : DEnv} : propM c f mo env = (bindM mo fun o e => match (resolve e o).bind clsR with
  | some (c', _) => if c' = c then noErr (finF f [o] e) else .stk
  | none => .stk) env := rfl
theorem methA_e {c m : Str} {f : FnD} {arr : List Src} {mo : M Opd} {mp mk : M (List Opd)} {env : DEnv} : methA c m f arr mo mp mk env = (bindM mo fun o e => match (resolve e o).bind clsR with
  | some (c', fs) => if c' = c ∧ fs.lookup m = none then bindM mp (fun os1 => bindM mk fun os2 => finA f arr (o :: (os1 ++ os2))) e else .stk
  | none => .stk) env := rfl
theorem fldS_e {cs : List Str} {i : Nat} {f : Str} {mv : M Opd} {env : DEnv} : fldS cs i f mv env = (bindS mv fun o e => match dOf o e with
  | .ok d e2 => (match slotOf e2 i with
    | some (.oo c fs) => if c ∈ cs ∧ fs.length < 1000 then .nx (e2.set i (some (.oo c (putD f d fs)))) else .stk
    | _ => .stk)
  | _ => .stk) env := rfl
theorem par2_e {pn : List Nat} {i j : Nat} {ma mb : M RV} {env : DEnv} : par2 pn i j ma mb env = (bindS ma fun r1 e1 => match mb e1 with
  | .ok r2 e2 => if okL pn e2.length [i, j] = true then .nx ((e2.set i (some r1)).set j (some r2)) else .stk
  | _ => .stk) env := rfl
theorem par3_e {pn : List Nat} {i j l : Nat} {ma mb mc : M RV} {env : DEnv} : par3 pn i j l ma mb mc env = (bindS ma fun r1 e1 => match mb e1 with
  | .ok r2 e2 => (match mc e2 with
    | .ok r3 e3 => if okL pn e3.length [i, j, l] = true then .nx (((e3.set i (some r1)).set j (some r2)).set l (some r3)) else .stk
    | _ => .stk)
  | _ => .stk) env := rfl
theorem forS_e {pn : List Nat} {t : Tgt} {mi : M (List D)} {s : MS} {env : DEnv} : forS pn t mi s env = (bindS mi fun ds => forM pn t s ds) env := rfl
theorem seqI_e {m : M Opd} {env : DEnv} : seqI m env = (bindM m fun o env => match dOf o env with
  | .ok d e => (match itemsOf d with
    | some ds => .ok ds e
    | none => .stk)
  | .err x e => .err x e
  | .stk => .stk) env := rfl
theorem rngI_e {f : List RV → Option (List D)} {m : M (List Opd)} {env : DEnv} : rngI f m env = (bindM m fun os env => match (resolves env os).bind f with
  | some ds => .ok ds env
  | none => .stk) env := rfl
theorem enumI_e {m : M Opd} {env : DEnv} : enumI m env = (bindM m fun o env => match dOf o env with
  | .ok (.lst ds) e => .ok (enumFrom 0 ds) e
  | _ => .stk) env := rfl
theorem zipI2_e {m : M (List Opd)} {env : DEnv} : zipI2 m env = (bindM m fun os env => match dsOf os env with
  | .ok [d, e] en => (match seqD d, seqD e with
    | some ds, some es => .ok (zipD ds es) en
    | _, _ => .stk)
  | _ => .stk) env := rfl
theorem slM_e {m : M Opd} {ml mu : M (Option Int)} {env : DEnv} : slM m ml mu env = (bindM m fun o => bindM ml fun l => bindM mu fun u => finS o l u) env := rfl
theorem noP_e  {env : DEnv} : noP  env = .ok none env := rfl
theorem someP_e {m : M Opd} {env : DEnv} : someP m env = (bindM m fun o env => match (resolve env o).bind asInt with
  | some i => .ok (some i) env
  | none => .stk) env := rfl
theorem asgTM_e {pn : List Nat} {t : Tgt} {m : M Opd} {env : DEnv} : asgTM pn t m env = (bindS m fun o env => match dOf o env with
  | .ok d e => (match asgT pn t d e with
    | some e' => .nx e'
    | none => .stk)
  | .err x e => .err x e
  | .stk => .stk) env := rfl
theorem yesM_e  {env : DEnv} : yesM  env = .ok true env := rfl
theorem mutT_e {T : String} {f : RV → List D → Option (D × RV)} {mv : M RV} {ma : M (List Opd)} {env : DEnv} : mutT T f mv ma env = (bindM mv fun r e0 => if tyOk T r = true then bindM ma (fun os e => match dsOf os e with
  | .ok ds e2 => (match f r ds with
    | some (res, _) => .ok (.sh res) e2
    | none => .stk)
  | _ => .stk) e0 else .stk) env := rfl
theorem callOM_e {c : Str} {f : FnD} {arr : List Src} {mo : M Opd} {mp mk : M (List Opd)} {env : DEnv} : callOM c f arr mo mp mk env = (bindM mo fun o e1 => if insO c o e1 = true then bindM mp (fun os1 => bindM mk fun os2 e => if insO c o e = true then finA f arr (o :: (os1 ++ os2)) e else .stk) e1 else .stk) env := rfl
theorem lenOM_e {c : Str} {f : FnD} {mo : M Opd} {env : DEnv} : lenOM c f mo env = (bindM mo fun o e => if insO c o e = true then lenFits (finF f [o] e) else .stk) env := rfl
theorem statM_e {f : FnD} {arr : List Src} {mp mk : M (List Opd)} {env : DEnv} : statM f arr mp mk env = (fnA f arr mp mk) env := rfl
theorem augLM_e {i : Nat} {g : Int → Int → Int} {mk mv : M Opd} {env : DEnv} : augLM i g mk mv env = match slotOf env i with
  | some _ => bindS mk (fun o1 e1 => match slotOf e1 i, (resolve e1 o1).bind asInt with
    | some (.ol ds), some k => if 0 ≤ k then (match ds[k.toNat]? with
        | some (.int a) => bindS mv (fun o2 e2 => match slotOf e2 i, (resolve e2 o2).bind asInt with
          | some (.ol es), some b => (match ixN es.length k with
            | some j' => .nx (e2.set i (some (.ol (es.set j' (.int (g a b))))))
            | none => .stk)
          | _, _ => .stk) e1
        | _ => .stk) else .stk
    | _, _ => .stk) env
  | none => .stk := rfl
theorem eqOM_e {neg : Bool} {c : Str} {f : FnD} {ma mb : M Opd} {env : DEnv} : eqOM neg c f ma mb env = (bindM ma fun o1 => bindM mb fun o2 e => match resolve e o2 with
  | some r2 => if (insO c o1 e && cmpT c r2) = true then eqRes neg (finF f [o1, o2] e) else .stk
  | none => .stk) env := rfl
theorem lm1_e {f : RV → RV → Option RV} {mo me : M Opd} {env : DEnv} : lm1 f mo me env = (bindM mo fun o1 e1 => match resolve e1 o1 with
  | some r => if tyOk "list" r = true then bindM me (fun o2 => fin2 f o1 o2) e1 else .stk
  | none => .stk) env := rfl
theorem sm1_e {f : RV → RV → Option RV} {mo me : M Opd} {env : DEnv} : sm1 f mo me env = (bindM mo fun o1 e1 => match resolve e1 o1 with
  | some r => if isStrR r = true then bindM me (fun o2 => fin2 f o1 o2) e1 else .stk
  | none => .stk) env := rfl
theorem fmtM_e {m : M Opd} {env : DEnv} : fmtM m env = (unM fmtF m) env := rfl
theorem thruS_e {s : MS} {env : DEnv} : thruS s env = match s env with
  | .err _ _ => .stk
  | o => o := rfl
theorem cmM_e {c : Str} {f : FnD} {arr : List Src} {mp : M (List Opd)} {env : DEnv} : cmM c f arr mp env = (bindM mp fun os => finA f arr (.val (.cls c) :: os)) env := rfl
theorem mkV_e {i : Nat} {c : Str} {f : FnD} {arr : List Src} {mp mk : M (List Opd)} {env : DEnv} : mkV i c f arr mp mk env = match slotOf env i with
  | some (.sh (.cls c')) => if c' = c then mkA c f arr mp mk env else .stk
  | _ => .stk := rfl
theorem raise1_e {c f : Str} {m : M (List Opd)} {env : DEnv} : raise1 c f m env = (bindS m fun os env => match dsOf os env with
  | .ok [d] e => .err (exn1 c f d) e
  | _ => .stk) env := rfl
theorem raise0_e {c : Str} {env : DEnv} : raise0 c env = .err (exn0 c) env := rfl
theorem tellS_e {es : List Str} {pn : List Nat} {i j : Nat} {f g : Str} {s : MS} {env : DEnv} : tellS es pn i j f g s env = if i ∈ pn ∨ j ∈ pn ∨ i = j then .stk else match s env with
  | .err x e => if x.c ∈ es then (match x.fs.lookup f, x.fs.lookup g with
    | some d1, some d2 => if j < e.length ∧ i < e.length then .nx (((e.set i none).set j (some (.sh (.tup [d1, d2])))).set i none) else .stk
    | _, _ => .stk) else .stk
  | o => o := rfl
theorem lamM_e {k : Nat} {I : LamI} {L : Nat} {env : DEnv} : lamM k I L env = .ok (.sh (.lam k I L [])) env := rfl
theorem lcallM_e {lt : LamT} {i : Nat} {env : DEnv} : lcallM lt i env = match slotOf env i with
  | some (.sh (.lam k I _ ds)) => (match lt k I ds with
    | .ok r _ => .ok r env
    | .err x _ => .err x env
    | .stk => .stk)
  | _ => .stk := rfl
theorem lendM_e {L : Nat} {cap : CapT} {f : FnD} {m : M (List Opd)} {env : DEnv} : lendM L cap f m env = (bindM m fun os env => match dsOf os env with
  | .ok ds e => (match f ((ds.map (cvD L cap e)).map .sh) with
    | .ok r _ => if noLamR r = true then .ok r e else .stk
    | _ => .stk)
  | .err x e => .err x e
  | .stk => .stk) env := rfl
theorem reprOM_e {c : Str} {f : FnD} {mo : M Opd} {env : DEnv} : reprOM c f mo env = (bindM mo fun o e => if insO c o e = true then strRes (finF f [o] e) else .stk) env := rfl
theorem mulOM_e {c : Str} {f : FnD} {ma mb : M Opd} {env : DEnv} : mulOM c f ma mb env = (bindM ma fun o1 => bindM mb fun o2 e => if (insO c o1 e && insO c o2 e) = true then objRes (finF f [o1, o2] e) else .stk) env := rfl
theorem enumJ_e {m : M Opd} {env : DEnv} : enumJ m env = (bindM m fun o env => match dOf o env with
  | .ok (.lst ds) e => .ok (enumFrom 0 ds) e
  | .ok (.tup ds) e => .ok (enumFrom 0 ds) e
  | _ => .stk) env := rfl
theorem setDM_e {i : Nat} {mv : M Opd} {mk : M Opd} {env : DEnv} : setDM i mv mk env = (bindS mv fun o1 e1 => match dOf o1 e1 with
  | .ok d e2 => (match slotOf e2 i with
    | some _ => bindS mk (fun o2 e3 => match slotOf e3 i, (resolve e3 o2).bind keyR with
      | some (.od kvs), some k => if fitK kvs k = true ∧ kvs.length < sizeLine then .nx (e3.set i (some (.od (putN kvs k d)))) else .stk
      | _, _ => .stk) e2
    | none => .stk)
  | _ => .stk) env := rfl
theorem newD_e  {env : DEnv} : newD  env = .ok (.od []) env := rfl
theorem dispM_e {mk mv : M Opd} {env : DEnv} : dispM mk mv env = match mk env with
  | .ok o1 e1 => (match mv e1 with
    | .ok o2 e2 => (match (resolve e2 o1).bind keyR with
      | some k => (match dOf o2 e2 with
        | .ok d e3 => if (flatK k || tupKey k) = true then .ok (.od [(k, d)]) e3 else .stk
        | _ => .stk)
      | none => .stk)
    | _ => .stk)
  | _ => .stk := rfl
theorem shrS_e {i : Nat} {s : MS} {env : DEnv} : shrS i s env = match slotOf env i with
  | some r => s (env.set i (some (.sh r.d)))
  | none => .stk := rfl
/-! end of words -/
end Z
/-! Z: loops of data-level texts by invariants -/
namespace Z
open PySem PySem.Spec PyProof.Rows L2
def forStep (pn : List Nat) (t : Tgt) (s : MS) (d : D) (env : DEnv) : Out := match asgT pn t d env with
  | some e1 => s e1
  | none => .stk
theorem forM_nx {pn : List Nat} {t : Tgt} {s : MS} (I : Nat → DEnv → Prop) : ∀ {ds : List D} {n : Nat} {env : DEnv}, I n env →
    (∀ i d env, ds[i]? = some d → I (n + i) env → ∃ e2, forStep pn t s d env = .nx e2 ∧ I (n + i + 1) e2) → ∃ env', forM pn t s ds env = .nx env' ∧ I (n + ds.length) env'
  | [], n, env, h, st => ⟨env, rfl, h⟩
  | d :: ds, n, env, h, st => by
    obtain ⟨e2, h2, h3⟩ := st 0 d env rfl h
    unfold forStep at h2
    cases h1 : asgT pn t d env with
    | none => rw [h1] at h2; cases h2
    | some e1 =>
    simp only [h1] at h2
    obtain ⟨env', h4, h5⟩ := forM_nx I (ds := ds) (n := n + 1) (env := e2) h3 fun i d' env' hd hi => by
      have := st (i + 1) d' env' (by simpa using hd) (by rw [show n + (i + 1) = n + 1 + i by omega]; exact hi)
      rw [show n + (i + 1) + 1 = n + 1 + i + 1 by omega] at this
      exact this
    refine ⟨env', ?_, by rw [List.length_cons, show n + (ds.length + 1) = n + 1 + ds.length by omega]; exact h5⟩
    unfold forM
    rw [h1]
    simp only [h2]
    exact h4
def lcStep (pn : List Nat) (t : Tgt) (me : M Opd) (d : D) (env : DEnv) : Res D := match asgT pn t d env with
  | some e1 => (match me e1 with
    | .ok o e3 => dOf o e3
    | _ => .stk)
  | none => .stk
theorem lcGo_ok {pn vs : List Nat} {t : Tgt} {me : M Opd} (I : List D → DEnv → Prop) : ∀ {ds acc : List D} {env : DEnv}, I acc env → acc.length + ds.length ≤ 16777216 →
    (∀ acc d env, d ∈ ds → I acc env → ∃ y e4, lcStep pn t me d env = .ok y e4 ∧ I (acc ++ [y]) (wipeD e4 vs)) → ∃ acc' env', lcGo pn vs t yesM me ds acc env = .ok acc' env' ∧ I acc' env' ∧ acc'.length = acc.length + ds.length
  | [], acc, env, h, hl, st => ⟨acc, env, rfl, h, rfl⟩
  | d :: ds, acc, env, h, hl, st => by
    obtain ⟨y, e4, hs, h4⟩ := st acc d env List.mem_cons_self h
    unfold lcStep at hs
    cases h1 : asgT pn t d env with
    | none => rw [h1] at hs; cases hs
    | some e1 =>
    simp only [h1] at hs
    cases h2 : me e1 with
    | err x e => rw [h2] at hs; cases hs
    | stk => rw [h2] at hs; cases hs
    | ok o e3 =>
    simp only [h2] at hs
    have h3 := hs
    rw [List.length_cons] at hl
    obtain ⟨acc', env', h5, h6, h7⟩ := lcGo_ok I (ds := ds) (acc := acc ++ [y]) h4 (by simp; omega) fun a d' e' hd => st a d' e' (List.mem_cons_of_mem _ hd)
    refine ⟨acc', env', ?_, h6, by rw [h7]; simp; omega⟩
    unfold lcGo
    rw [h1]
    simp only [yesM, h2, h3]
    rw [if_pos (by rw [sizeLine_eq]; omega)]
    exact h5
theorem lcM_eq {pn vs : List Nat} {t : Tgt} {mi : M (List D)} {mt : M Bool} {me : M Opd} {env e1 e2 : DEnv} {ds acc : List D} (h1 : mi env = .ok ds e1) (hc : (∀ i ∈ vs, i ∉ pn) ∧ ∀ i ∈ slotsT t, i ∈ vs) (h2 : lcGo pn vs t mt me ds [] (wipeD e1 vs) = .ok acc e2) :
    lcM pn vs t mi mt me env = .ok (.ol acc) (wipeD e2 vs) := by
  unfold lcM bindM
  simp only [h1]
  rw [if_pos hc, h2]
theorem whileM_nx {c : M Bool} {b : MS} (I Q : DEnv → Prop) (m : DEnv → Nat) (st : ∀ env, I env → (∃ e1, c env = .ok false e1 ∧ Q e1) ∨ ∃ e1 e2, c env = .ok true e1 ∧ b e1 = .nx e2 ∧ I e2 ∧ m e2 < m env) :
    ∀ {n : Nat} {env : DEnv}, I env → m env < n → ∃ env', whileM c b n env = .nx env' ∧ Q env'
  | 0, env, h, hn => by omega
  | n + 1, env, h, hn => by
    unfold whileM bindS
    rcases st env h with ⟨e1, h1, h2⟩ | ⟨e1, e2, h1, h2, h3, h4⟩
    · simp only [h1]
      exact ⟨e1, by simp, h2⟩
    · obtain ⟨env', h5, h6⟩ := whileM_nx I Q m st (n := n) h3 (by omega)
      simp only [h1, h2]
      exact ⟨env', by simpa using h5, h6⟩
theorem nodup_le : ∀ {k : Nat} {l : List Int}, l.Nodup → (∀ x ∈ l, 0 ≤ x ∧ x < k) → l.length ≤ k
  | 0, l, h, hx => by
    cases l with
    | nil => simp
    | cons a r => have := hx a List.mem_cons_self; omega
  | k + 1, l, h, hx => by
    by_cases hk : (k : Int) ∈ l
    · have h1 := nodup_le (k := k) (l := l.erase (k : Int)) (h.erase _) fun x m => by
        obtain ⟨m1, m2⟩ := (h.mem_erase_iff).mp m
        have := hx x m2; omega
      rw [List.length_erase_of_mem hk] at h1
      omega
    · have h1 := nodup_le (k := k) (l := l) h fun x m => by
        have := hx x m
        have ne : x ≠ (k : Int) := fun e => hk (e ▸ m)
        omega
      omega
end Z
/-! Z: tools for plain laws: comprehensions and loops over encoded lists, sums, repeated lists, equal data -/
namespace Z
open PySem PySem.Spec PyProof.Rows L2
theorem lcGo_map {α : Type} {pn vs : List Nat} {t : Tgt} {me : M Opd} {enc g : α → D} {env : DEnv} : ∀ {xs : List α} {acc : List D}, acc.length + xs.length ≤ 16777216 →
    (∀ x ∈ xs, ∃ e4, lcStep pn t me (enc x) env = .ok (g x) e4 ∧ wipeD e4 vs = env) → lcGo pn vs t yesM me (xs.map enc) acc env = .ok (acc ++ xs.map g) env
  | [], acc, _, _ => by simp [lcGo]
  | x :: xs, acc, hl, h => by
    obtain ⟨e4, h1, h2⟩ := h x List.mem_cons_self
    unfold lcStep at h1
    cases z1 : asgT pn t (enc x) env with
    | none => rw [z1] at h1; cases h1
    | some e1 =>
    simp only [z1] at h1
    cases z2 : me e1 with
    | err y e => rw [z2] at h1; cases h1
    | stk => rw [z2] at h1; cases h1
    | ok o e3 =>
    simp only [z2] at h1
    rw [List.length_cons] at hl
    have ih := lcGo_map (xs := xs) (acc := acc ++ [g x]) (pn := pn) (vs := vs) (t := t) (me := me) (enc := enc) (g := g) (env := env) (by simp; omega) fun y hy => h y (List.mem_cons_of_mem _ hy)
    rw [List.map_cons]
    unfold lcGo
    rw [z1]
    simp only [yesM, z2, h1]
    rw [if_pos (by rw [sizeLine_eq]; omega), h2]
    rw [ih]
    simp
theorem lcM_map {α : Type} {pn vs : List Nat} {t : Tgt} {mi : M (List D)} {me : M Opd} {enc g : α → D} {env : DEnv} {xs : List α} (h1 : mi env = .ok (xs.map enc) env) (hc : (∀ i ∈ vs, i ∉ pn) ∧ ∀ i ∈ slotsT t, i ∈ vs) (hw : wipeD env vs = env) (hl : xs.length ≤ 16777216)
    (h : ∀ x ∈ xs, ∃ e4, lcStep pn t me (enc x) env = .ok (g x) e4 ∧ wipeD e4 vs = env) : lcM pn vs t mi yesM me env = .ok (.ol (xs.map g)) env := by
  have := lcM_eq (mt := yesM) h1 hc (by rw [hw]; exact lcGo_map (acc := []) (by simpa using hl) h)
  rw [this, hw]; rfl
theorem lcM_map1 {α : Type} {pn vs : List Nat} {t : Tgt} {mi : M (List D)} {me : M Opd} {enc g : α → D} {env env1 : DEnv} {xs : List α} (h1 : mi env = .ok (xs.map enc) env1) (hc : (∀ i ∈ vs, i ∉ pn) ∧ ∀ i ∈ slotsT t, i ∈ vs) (hw : wipeD env1 vs = env1) (hl : xs.length ≤ 16777216)
    (h : ∀ x ∈ xs, ∃ e4, lcStep pn t me (enc x) env1 = .ok (g x) e4 ∧ wipeD e4 vs = env1) : lcM pn vs t mi yesM me env = .ok (.ol (xs.map g)) env1 := by
  have := lcM_eq (mt := yesM) h1 hc (by rw [hw]; exact lcGo_map (acc := []) (by simpa using hl) h)
  rw [this, hw]; rfl
/-- with a test -/
def lcT (pn : List Nat) (t : Tgt) (mt : M Bool) (me : M Opd) (d : D) (env : DEnv) : Option (Option D × DEnv) := match asgT pn t d env with
  | some e1 => (match mt e1 with
    | .ok true e2 => (match me e2 with
      | .ok o e3 => (match dOf o e3 with
        | .ok y e4 => some (some y, e4)
        | _ => none)
      | _ => none)
    | .ok false e2 => some (none, e2)
    | _ => none)
  | none => none
theorem lcGo_filt {α : Type} {pn vs : List Nat} {t : Tgt} {mt : M Bool} {me : M Opd} {enc g : α → D} {b : α → Bool} {env : DEnv} : ∀ {xs : List α} {acc : List D}, acc.length + xs.length ≤ 16777216 →
    (∀ x ∈ xs, ∃ e4, lcT pn t mt me (enc x) env = some (if b x then some (g x) else none, e4) ∧ wipeD e4 vs = env) → lcGo pn vs t mt me (xs.map enc) acc env = .ok (acc ++ (xs.filter b).map g) env
  | [], acc, _, _ => by simp [lcGo]
  | x :: xs, acc, hl, h => by
    obtain ⟨e4, h1, h2⟩ := h x List.mem_cons_self
    rw [List.length_cons] at hl
    unfold lcT at h1
    rw [List.map_cons]
    unfold lcGo
    cases z1 : asgT pn t (enc x) env with
    | none => rw [z1] at h1; cases h1
    | some e1 =>
    simp only [z1] at h1 ⊢
    cases z2 : mt e1 with
    | err y e => rw [z2] at h1; cases h1
    | stk => rw [z2] at h1; cases h1
    | ok c e2 =>
    simp only [z2] at h1 ⊢
    cases c with
    | false =>
      simp only at h1 ⊢
      simp only [Option.some.injEq, Prod.mk.injEq] at h1
      obtain ⟨k1, rfl⟩ := h1
      have hb : b x = false := by
        cases hb : b x with
        | false => rfl
        | true => rw [hb] at k1; cases k1
      rw [h2, List.filter_cons_of_neg (by simp [hb])]
      exact lcGo_filt (by omega) fun y hy => h y (List.mem_cons_of_mem _ hy)
    | true =>
      simp only at h1 ⊢
      cases z3 : me e2 with
      | err y e => rw [z3] at h1; cases h1
      | stk => rw [z3] at h1; cases h1
      | ok o e3 =>
      simp only [z3] at h1 ⊢
      cases z4 : dOf o e3 with
      | err y e => rw [z4] at h1; cases h1
      | stk => rw [z4] at h1; cases h1
      | ok y e5 =>
      simp only [z4] at h1 ⊢
      simp only [Option.some.injEq, Prod.mk.injEq] at h1
      obtain ⟨k1, rfl⟩ := h1
      have hb : b x = true ∧ y = g x := by
        cases hb : b x with
        | false => rw [hb] at k1; cases k1
        | true => rw [hb] at k1; exact ⟨rfl, by simpa using k1⟩
      rw [if_pos (by rw [sizeLine_eq]; omega), h2, List.filter_cons_of_pos (by simp [hb.1]), hb.2]
      rw [lcGo_filt (by simp; omega) fun y hy => h y (List.mem_cons_of_mem _ hy)]
      simp
theorem lcM_filt {α : Type} {pn vs : List Nat} {t : Tgt} {mi : M (List D)} {mt : M Bool} {me : M Opd} {enc g : α → D} {b : α → Bool} {env : DEnv} {xs : List α} (h1 : mi env = .ok (xs.map enc) env) (hc : (∀ i ∈ vs, i ∉ pn) ∧ ∀ i ∈ slotsT t, i ∈ vs) (hw : wipeD env vs = env) (hl : xs.length ≤ 16777216)
    (h : ∀ x ∈ xs, ∃ e4, lcT pn t mt me (enc x) env = some (if b x then some (g x) else none, e4) ∧ wipeD e4 vs = env) : lcM pn vs t mi mt me env = .ok (.ol ((xs.filter b).map g)) env := by
  have := lcM_eq (mt := mt) h1 hc (by rw [hw]; exact lcGo_filt (acc := []) (by simpa using hl) h)
  rw [this, hw]; rfl
/-- a loop over an encoded list that carries a state -/
theorem forM_map {α S : Type} {pn : List Nat} {t : Tgt} {s : MS} (st : S → DEnv) (f : S → α → S) (I : S → Prop) (enc : α → D) : ∀ {xs : List α} {x0 : S}, I x0 →
    (∀ x a, a ∈ xs → I x → forStep pn t s (enc a) (st x) = .nx (st (f x a)) ∧ I (f x a)) → forM pn t s (xs.map enc) (st x0) = .nx (st (xs.foldl f x0)) ∧ I (xs.foldl f x0)
  | [], x0, h0, _ => ⟨rfl, h0⟩
  | a :: xs, x0, h0, h => by
    obtain ⟨h1, h2⟩ := h x0 a List.mem_cons_self h0
    have ih := forM_map st f I enc (xs := xs) (x0 := f x0 a) h2 fun x b hb => h x b (List.mem_cons_of_mem _ hb)
    refine ⟨?_, ih.2⟩
    rw [List.map_cons]
    unfold forStep at h1
    unfold forM
    cases z : asgT pn t (enc a) (st x0) with
    | none => rw [z] at h1; cases h1
    | some e1 =>
      simp only [z] at h1 ⊢
      simp only [h1]
      exact ih.1
/-- the same, what the loop leaves in slots of no interest told by a relation -/
theorem forM_ex {α S : Type} {pn : List Nat} {t : Tgt} {s : MS} (st : S → DEnv → Prop) (f : S → α → S) (enc : α → D) : ∀ {xs : List α} {x0 : S} {env : DEnv}, st x0 env →
    (∀ x a env, a ∈ xs → st x env → ∃ e2, forStep pn t s (enc a) env = .nx e2 ∧ st (f x a) e2) → ∃ env', forM pn t s (xs.map enc) env = .nx env' ∧ st (xs.foldl f x0) env'
  | [], x0, env, h0, _ => ⟨env, rfl, h0⟩
  | a :: xs, x0, env, h0, h => by
    obtain ⟨e2, h1, h2⟩ := h x0 a env List.mem_cons_self h0
    obtain ⟨env', k1, k2⟩ := forM_ex st f enc (xs := xs) (x0 := f x0 a) h2 fun x b e hb => h x b e (List.mem_cons_of_mem _ hb)
    refine ⟨env', ?_, k2⟩
    rw [List.map_cons]
    unfold forStep at h1
    unfold forM
    cases z : asgT pn t (enc a) env with
    | none => rw [z] at h1; cases h1
    | some e1 =>
      simp only [z] at h1 ⊢
      simp only [h1]
      exact k1
theorem forM_exi {α S : Type} {pn : List Nat} {t : Tgt} {s : MS} (st : Nat → S → DEnv → Prop) (f : S → α → S) (enc : α → D) : ∀ {xs : List α} {n : Nat} {x0 : S} {env : DEnv}, st n x0 env →
    (∀ i x a env, xs[i]? = some a → st (n + i) x env → ∃ e2, forStep pn t s (enc a) env = .nx e2 ∧ st (n + i + 1) (f x a) e2) → ∃ env', forM pn t s (xs.map enc) env = .nx env' ∧ st (n + xs.length) (xs.foldl f x0) env'
  | [], n, x0, env, h0, _ => ⟨env, rfl, h0⟩
  | a :: xs, n, x0, env, h0, h => by
    obtain ⟨e2, h1, h2⟩ := h 0 x0 a env rfl h0
    obtain ⟨env', k1, k2⟩ := forM_exi st f enc (xs := xs) (n := n + 1) (x0 := f x0 a) h2 fun i x b e hb hs => by
      have := h (i + 1) x b e (by simpa using hb) (by rw [show n + (i + 1) = n + 1 + i by omega]; exact hs)
      rw [show n + (i + 1) + 1 = n + 1 + i + 1 by omega] at this
      exact this
    refine ⟨env', ?_, by rw [List.length_cons, show n + (xs.length + 1) = n + 1 + xs.length by omega]; exact k2⟩
    rw [List.map_cons]
    unfold forStep at h1
    unfold forM
    cases z : asgT pn t (enc a) env with
    | none => rw [z] at h1; cases h1
    | some e1 =>
      simp only [z] at h1 ⊢
      simp only [h1]
      exact k1
theorem rangeD_map (n : Nat) : rangeD 0 n = (List.range n).map fun (i : Nat) => D.int (i : Int) := by
  unfold rangeD
  congr 1
  funext i
  simp
theorem ints_of : ∀ l : List Int, intsOf (l.map D.int) = some l
  | [] => rfl
  | a :: l => by simp [intsOf, ints_of l]
theorem sumF_ints {l : List Int} : sumF [.sh (.lst (l.map D.int))] = some (.sh (.int l.sum)) := by
  show Option.map _ (Option.bind (some _) intsOf) = _
  rw [Option.bind_some, ints_of]; rfl
theorem bools_of : ∀ l : List Bool, boolsOf (l.map D.bl) = some l
  | [] => rfl
  | a :: l => by simp [boolsOf, bools_of l]
theorem allF_bools {l : List Bool} : allF [.sh (.lst (l.map D.bl))] = some (.sh (.bl (l.all id))) := by
  show Option.map _ (Option.bind (some _) boolsOf) = _
  rw [Option.bind_some, bools_of]; rfl
theorem anyF_bools {l : List Bool} : anyF [.sh (.lst (l.map D.bl))] = some (.sh (.bl (l.any id))) := by
  show Option.map _ (Option.bind (some _) boolsOf) = _
  rw [Option.bind_some, bools_of]; rfl
theorem flat_one {α : Type} (a : α) : ∀ n : Nat, (List.replicate n [a]).flatten = List.replicate n a
  | 0 => rfl
  | n + 1 => by rw [List.replicate_succ, List.flatten_cons, flat_one a n]; rfl
theorem orF_l {f g : RV → RV → Option RV} {a b z : RV} (h : f a b = some z) : orF f g a b = some z := by unfold orF; rw [h]
theorem orF_r {f g : RV → RV → Option RV} {a b : RV} {z : Option RV} (h : f a b = none) (h2 : g a b = z) : orF f g a b = z := by unfold orF; rw [h]; exact h2
theorem repL_one {d : D} {n : Nat} (h : n ≤ 100000) : repL (.sh (.lst [d])) (.sh (.int (n : Int))) = some (.ol (List.replicate n d)) := by
  have a1 : fitR [d].length (n : Int) = true := by
    unfold fitR
    rw [Int.toNat_natCast, Int.natAbs_natCast, List.length_singleton, Nat.one_mul, Bool.and_eq_true]
    exact ⟨Nat.ble_eq_true_of_le (by omega), Nat.ble_eq_true_of_le (by omega)⟩
  unfold repL
  simp only [listOf]
  rw [if_pos a1, Int.toNat_natCast, flat_one]
theorem mulD_rep {d : D} {n : Nat} (h : n ≤ 100000) : mulD (.sh (.lst [d])) (.sh (.int (n : Int))) = some (.ol (List.replicate n d)) := orF_r (f := mulI) (g := orF repL repT) rfl (orF_l (repL_one h))
theorem repT_one {d : D} {n : Nat} (h2 : 2 ≤ n) (h : n ≤ 1000) : repT (.sh (.tup [d])) (.sh (.int (n : Int))) = some (.sh (.tup (List.replicate n d))) := by
  unfold repT
  simp only [tupOf]
  rw [if_pos ⟨by simp, by omega, by omega, by simp⟩, Int.toNat_natCast, flat_one]
theorem mulD_repT {d : D} {n : Nat} (h2 : 2 ≤ n) (h : n ≤ 1000) : mulD (.sh (.tup [d])) (.sh (.int (n : Int))) = some (.sh (.tup (List.replicate n d))) := orF_r (f := mulI) (g := orF repL repT) rfl (orF_r (f := repL) (g := repT) rfl (repT_one h2 h))
theorem addD_tup {xs ys : List D} (h : xs.length + ys.length ≤ 100000) : addD (.sh (.tup xs)) (.sh (.tup ys)) = some (.sh (.tup (xs ++ ys))) := by
  refine orF_r (f := addI) (g := orF addS (orF addT addL)) rfl (orF_r (f := addS) (g := orF addT addL) rfl (orF_l ?_))
  unfold addT
  simp only [tupOf]
  rw [if_pos (Nat.le_trans h (by decide))]
theorem addD_lst {a b : RV} {xs ys : List D} (ha : listOf a = some xs) (hb : listOf b = some ys) (h : xs.length + ys.length ≤ 100000) : addD a b = some (.ol (xs ++ ys)) := by
  have e : addL a b = some (.ol (xs ++ ys)) := by
    unfold addL
    rw [ha, hb]
    simp only
    rw [if_pos (Nat.le_trans h (by decide))]
  unfold listOf at ha
  split at ha <;> first | (cases ha; done) | skip
  all_goals exact orF_r (f := addI) (g := orF addS (orF addT addL)) rfl (orF_r (f := addS) (g := orF addT addL) rfl (orF_r (f := addT) (g := addL) rfl e))
/-! ### equal data -/
/-- data without instances and dicts, at most so deep -/
def Pl : Nat → D → Prop
  | n + 1, .non => True
  | n + 1, .bl _ => True
  | n + 1, .int _ => True
  | n + 1, .str x => PyData.strOk x = true
  | n + 1, .lst xs => ∀ x ∈ xs, Pl n x
  | n + 1, .tup xs => ∀ x ∈ xs, Pl n x
  | _, _ => False
mutual
theorem eqv_refl : ∀ p : PyData, p.canLay0 = true → PyData.eqv p p = true
  | .none, _ => rfl
  | .bool b, _ => by simp [PyData.eqv]
  | .int b, _ => by simp [PyData.eqv]
  | .str b, _ => by simp [PyData.eqv]
  | .list xs, h => by simp only [PyData.eqv]; exact eqvAll_refl xs (by simpa [PyData.canLay0] using h)
  | .tuple xs, h => by simp only [PyData.eqv]; exact eqvAll_refl xs (by simpa [PyData.canLay0] using h)
  | .dict kvs, h => by simp [PyData.canLay0] at h
theorem eqvAll_refl : ∀ ps : List PyData, PyData.canLayAll0 ps = true → PyData.eqvAll ps ps = true
  | [], _ => rfl
  | p :: ps, h => by
    simp only [PyData.canLayAll0, Bool.and_eq_true] at h
    simp only [PyData.eqvAll, Bool.and_eq_true]
    exact ⟨eqv_refl p h.1, eqvAll_refl ps h.2⟩
end
theorem Pl.p : ∀ (n : Nat) (d : D), Pl n d → ∃ p, toP d = some p ∧ p.depth ≤ n ∧ p.canLay0 = true
  | 0, d, h => by cases d <;> exact h.elim
  | n + 1, d, h => by
    have all : ∀ xs : List D, (∀ x ∈ xs, Pl n x) → ∃ ps, toPs xs = some ps ∧ PyData.depthAll ps ≤ n ∧ PyData.canLayAll0 ps = true := by
      intro xs
      induction xs with
      | nil => exact fun _ => ⟨[], rfl, Nat.zero_le _, rfl⟩
      | cons x xs ih =>
        intro hx
        obtain ⟨p, h1, h2, h3⟩ := Pl.p n x (hx x List.mem_cons_self)
        obtain ⟨ps, k1, k2, k3⟩ := ih fun y hy => hx y (List.mem_cons_of_mem _ hy)
        exact ⟨p :: ps, by simp [toPs, h1, k1], by simp [PyData.depthAll]; omega, by simp [PyData.canLayAll0, h3, k3]⟩
    cases d with
    | non => exact ⟨_, rfl, by simp [PyData.depth], rfl⟩
    | bl b => exact ⟨_, rfl, by simp [PyData.depth], rfl⟩
    | int i => exact ⟨_, rfl, by simp [PyData.depth], rfl⟩
    | str x => exact ⟨_, rfl, by simp [PyData.depth], h⟩
    | lst xs =>
      obtain ⟨ps, k1, k2, k3⟩ := all xs h
      exact ⟨.list ps, by simp [toP, k1], by simp [PyData.depth]; omega, by simp [PyData.canLay0, k3]⟩
    | tup xs =>
      obtain ⟨ps, k1, k2, k3⟩ := all xs h
      exact ⟨.tuple ps, by simp [toP, k1], by simp [PyData.depth]; omega, by simp [PyData.canLay0, k3]⟩
    | _ => exact h.elim
theorem eqP_same {a b : RV} {n : Nat} (hn : n ≤ 64) (h : Pl n a.d) (e : b.d = a.d) : eqP a b = some true := by
  obtain ⟨p, h1, h2, h3⟩ := Pl.p n _ h
  unfold eqP
  rw [e, h1]
  have hs : SeqAt.shaped p = true := by unfold SeqAt.shaped; simp [h3]; omega
  simp only [hs, Bool.and_self, if_true, eqv_refl p h3]
theorem eqF_same {a b : RV} {n : Nat} (hn : n ≤ 64) (h : Pl n a.d) (e : b.d = a.d) : eqF a b = some (.sh (.bl true)) := by unfold eqF; rw [eqP_same hn h e]; rfl
theorem neF_same {a b : RV} {n : Nat} (hn : n ≤ 64) (h : Pl n a.d) (e : b.d = a.d) : neF a b = some (.sh (.bl false)) := by unfold neF; rw [eqP_same hn h e]; rfl
theorem Pl.ints {n : Nat} {l : List Int} : ∀ x ∈ l.map D.int, Pl (n + 1) x := fun x hx => by
  obtain ⟨i, _, rfl⟩ := List.mem_map.mp hx
  trivial
end Z
local macro_rules
  | `(tactic| simp_arith [$ls,*]) => `(tactic| simp (config := { maxSteps := 1000000 }) (disch := omega) only [Z.bindM_e, Z.bindR_ok, Z.bindR_err, Z.bindR_stk, Z.bindS_e, Z.bindRS_ok, Z.bindRS_err, Z.bindRS_stk, Z.seqM_e, Z.seqR_nx, Z.seqR_rt, Z.seqR_bk, Z.seqR_ct, Z.seqR_err, Z.seqR_stk, Z.runD_e, Z.runR_nx, Z.runR_rt, Z.runR_err, Z.finF_e, Z.finR_ok, Z.finR_err, Z.pureF_e, Z.slot_0, Z.slot_s, Z.nopM_e, Z.asgM_e, Z.dropM_e, Z.retS_e, Z.retN_e, Z.retName_e, Z.ifS_e, Z.setM_e, Z.augM_e, Z.brkM_e, Z.cntM_e, Z.neverS_e, Z.cM_e, Z.shareM_e, Z.takeM_e, Z.nameO_e, Z.nilO_e, Z.consO_e, Z.opM_e, Z.unM_e, Z.callM_e, Z.tupM_e, Z.lstM_e, Z.fnA_e, Z.boM_e, Z.truM_e, Z.notM_e, Z.andM_e, Z.orM_e, Z.ifM_e, Z.andV_e, Z.andV2_e, Z.orrV_e, Z.orV2_e, Z.notV_e, Z.notV2_e, Z.chainM_e, Z.chain2_e, Z.mutM_e, Z.shV_e, Z.mkA_e, Z.propM_e, Z.methA_e, Z.fldS_e, Z.par2_e, Z.par3_e, Z.forS_e, Z.seqI_e, Z.rngI_e, Z.enumI_e, Z.zipI2_e, Z.slM_e, Z.noP_e, Z.someP_e, Z.asgTM_e, Z.yesM_e, Z.mutT_e, Z.callOM_e, Z.lenOM_e, Z.statM_e, Z.augLM_e, Z.eqOM_e, Z.lm1_e, Z.sm1_e, Z.fmtM_e, Z.thruS_e, Z.cmM_e, Z.mkV_e, Z.raise1_e, Z.raise0_e, Z.tellS_e, Z.lamM_e, Z.lcallM_e, Z.lendM_e, Z.reprOM_e, Z.mulOM_e, Z.enumJ_e, Z.setDM_e, Z.newD_e, Z.dispM_e, Z.shrS_e, Z.ownIx, Z.backD, Z.resolve, Z.resolves, Z.dOf, Z.dsOf, Z.fin1, Z.fin2, Z.finN, Z.finA, Z.finS, Z.arrO, Z.srcO, Z.lent, Z.wb, Z.tyOk, Z.appF, Z.clrF, Z.finMk, Z.noErr, Z.putD, Z.okL, Z.itemsOf, Z.asInt, Z.asgT_n, Z.asgT_t, Z.asgTs_n, Z.asgTs_c, Z.anyOwn, Z.lentF, Z.noMutR, Z.noMut, Z.noMut.noMuts, Z.noMuts_ints, Bool.or_true, Bool.true_or, beq_self_eq_true, Z.seqD_lst, Z.seqD_tup, Z.insO, Z.lenFits_nat, Z.negF, Z.RV.d, Z.RV.own, Z.truF, Z.addD_int, Z.subI_int, Z.mulD_r, Z.modI_int, Z.divI_int, Z.powI_18, Z.ltI_int, Z.leI_int, Z.gtI_int, Z.geI_int, Z.eqF_int, Z.neF_int, Z.eqF_bl, Z.neF_bl, Z.ixF_ol, Z.ixF_lst, Z.ixF_tup, Z.at0, Z.at1, Z.at2, Z.at3, Z.at4, Z.absF_int, Z.intF_int, Z.lenF_ol, Z.lenF_lst, Z.lenF_tup, Z.listF_ol, Z.listF_lst, Z.tupleF_ol, Z.tupleF_lst, Z.isiF_, Z.isiTF_, Z.tyD, Z.isiB, L2.ixN, List.map_cons, List.map_nil, List.cons_append, List.nil_append, List.append_nil, List.length_cons, List.length_nil, List.replicate, List.getElem?_cons_zero, List.getElem?_cons_succ, List.set_cons_zero, List.set_cons_succ, Option.join_some, Option.map_some, Option.map_none, Option.bind_some, Option.bind_none, Option.join, Nat.reduceAdd, Nat.reduceSub, Nat.reduceLT, Nat.reduceLeDiff, Int.reduceLT, Int.reduceLE, Int.reduceToNat, Int.reduceNeg, Nat.reduceEqDiff, reduceIte, if_true, if_false, PySem.sizeLine_eq, decide_true, decide_false, Bool.not_true, Bool.not_false, Bool.false_eq_true, and_self, and_true, true_and, not_false_eq_true, not_true_eq_false, List.nodup_nil, List.nodup_cons, List.not_mem_nil, List.mem_cons, List.mem_singleton, or_false, false_or, id_eq, eq_self, forall_eq, forall_eq_or_imp, implies_true, forall_const, imp_self, reduceCtorEq, Int.cast_ofNat_Int, Nat.zero_add, Option.some.injEq, ite_true, ite_false, List.contains_nil, List.contains_cons, Bool.or_false, Bool.and_true, Bool.true_and, Bool.and_self, Z.eqRes, Z.isStrR, Z.strRes, Z.clsR, Z.fldF, $ls,*])
local macro_rules
  | `(tactic| simp_all_arith [$ls,*]) => `(tactic| simp (config := { maxSteps := 1000000 }) (disch := omega) only [Z.bindM_e, Z.bindR_ok, Z.bindR_err, Z.bindR_stk, Z.bindS_e, Z.bindRS_ok, Z.bindRS_err, Z.bindRS_stk, Z.seqM_e, Z.seqR_nx, Z.seqR_rt, Z.seqR_bk, Z.seqR_ct, Z.seqR_err, Z.seqR_stk, Z.runD_e, Z.runR_nx, Z.runR_rt, Z.runR_err, Z.finF_e, Z.finR_ok, Z.finR_err, Z.pureF_e, Z.slot_0, Z.slot_s, Z.nopM_e, Z.asgM_e, Z.dropM_e, Z.retS_e, Z.retN_e, Z.retName_e, Z.ifS_e, Z.setM_e, Z.augM_e, Z.brkM_e, Z.cntM_e, Z.neverS_e, Z.cM_e, Z.shareM_e, Z.takeM_e, Z.nameO_e, Z.nilO_e, Z.consO_e, Z.opM_e, Z.unM_e, Z.callM_e, Z.tupM_e, Z.lstM_e, Z.fnA_e, Z.boM_e, Z.truM_e, Z.notM_e, Z.andM_e, Z.orM_e, Z.ifM_e, Z.andV_e, Z.andV2_e, Z.orrV_e, Z.orV2_e, Z.notV_e, Z.notV2_e, Z.chainM_e, Z.chain2_e, Z.mutM_e, Z.shV_e, Z.mkA_e, Z.propM_e, Z.methA_e, Z.fldS_e, Z.par2_e, Z.par3_e, Z.forS_e, Z.seqI_e, Z.rngI_e, Z.enumI_e, Z.zipI2_e, Z.slM_e, Z.noP_e, Z.someP_e, Z.asgTM_e, Z.yesM_e, Z.mutT_e, Z.callOM_e, Z.lenOM_e, Z.statM_e, Z.augLM_e, Z.eqOM_e, Z.lm1_e, Z.sm1_e, Z.fmtM_e, Z.thruS_e, Z.cmM_e, Z.mkV_e, Z.raise1_e, Z.raise0_e, Z.tellS_e, Z.lamM_e, Z.lcallM_e, Z.lendM_e, Z.reprOM_e, Z.mulOM_e, Z.enumJ_e, Z.setDM_e, Z.newD_e, Z.dispM_e, Z.shrS_e, Z.ownIx, Z.backD, Z.resolve, Z.resolves, Z.dOf, Z.dsOf, Z.fin1, Z.fin2, Z.finN, Z.finA, Z.finS, Z.arrO, Z.srcO, Z.lent, Z.wb, Z.tyOk, Z.appF, Z.clrF, Z.finMk, Z.noErr, Z.putD, Z.okL, Z.itemsOf, Z.asInt, Z.asgT_n, Z.asgT_t, Z.asgTs_n, Z.asgTs_c, Z.anyOwn, Z.lentF, Z.noMutR, Z.noMut, Z.noMut.noMuts, Z.noMuts_ints, Bool.or_true, Bool.true_or, beq_self_eq_true, Z.seqD_lst, Z.seqD_tup, Z.insO, Z.lenFits_nat, Z.negF, Z.RV.d, Z.RV.own, Z.truF, Z.addD_int, Z.subI_int, Z.mulD_r, Z.modI_int, Z.divI_int, Z.powI_18, Z.ltI_int, Z.leI_int, Z.gtI_int, Z.geI_int, Z.eqF_int, Z.neF_int, Z.eqF_bl, Z.neF_bl, Z.ixF_ol, Z.ixF_lst, Z.ixF_tup, Z.at0, Z.at1, Z.at2, Z.at3, Z.at4, Z.absF_int, Z.intF_int, Z.lenF_ol, Z.lenF_lst, Z.lenF_tup, Z.listF_ol, Z.listF_lst, Z.tupleF_ol, Z.tupleF_lst, Z.isiF_, Z.isiTF_, Z.tyD, Z.isiB, L2.ixN, List.map_cons, List.map_nil, List.cons_append, List.nil_append, List.append_nil, List.length_cons, List.length_nil, List.replicate, List.getElem?_cons_zero, List.getElem?_cons_succ, List.set_cons_zero, List.set_cons_succ, Option.join_some, Option.map_some, Option.map_none, Option.bind_some, Option.bind_none, Option.join, Nat.reduceAdd, Nat.reduceSub, Nat.reduceLT, Nat.reduceLeDiff, Int.reduceLT, Int.reduceLE, Int.reduceToNat, Int.reduceNeg, Nat.reduceEqDiff, reduceIte, if_true, if_false, PySem.sizeLine_eq, decide_true, decide_false, Bool.not_true, Bool.not_false, Bool.false_eq_true, and_self, and_true, true_and, not_false_eq_true, not_true_eq_false, List.nodup_nil, List.nodup_cons, List.not_mem_nil, List.mem_cons, List.mem_singleton, or_false, false_or, id_eq, eq_self, forall_eq, forall_eq_or_imp, implies_true, forall_const, imp_self, reduceCtorEq, Int.cast_ofNat_Int, Nat.zero_add, Option.some.injEq, ite_true, ite_false, List.contains_nil, List.contains_cons, Bool.or_false, Bool.and_true, Bool.true_and, Bool.and_self, Z.eqRes, Z.isStrR, Z.strRes, $ls,*])
local macro_rules
  | `(tactic| simp_arith) => `(tactic| simp_arith [])
local macro_rules
  | `(tactic| simp_all_arith) => `(tactic| simp_all_arith [])
namespace Y
open PySem PySem.Spec PyProof.Rows L2 Z
structure Txt (K : PySem.W.Frag) (mg : Str → Option Value) : Prop where
  n_int : mg "int" = none
  n_list : mg "list" = none
  n_range : mg "range" = none
  n_len : mg "len" = none
  n_abs : mg "abs" = none
  n_tuple : mg "tuple" = none
  n_isinstance : mg "isinstance" = none
  n_bool : mg "bool" = none
  n_enumerate : mg "enumerate" = none
  n_all : mg "all" = none
  n_sorted : mg "sorted" = none
  n_zip : mg "zip" = none
  n_str : mg "str" = none
  n_any : mg "any" = none
  n_sum : mg "sum" = none
  g_law : mg "law" = some (.ref (He.ga K "law"))
  g__law_bag : mg "_law_bag" = some (.ref (He.ga K "_law_bag"))
  g__law_pull : mg "_law_pull" = some (.ref (He.ga K "_law_pull"))
  g__law_of : mg "_law_of" = some (.ref (He.ga K "_law_of"))
  g__law_prime : mg "_law_prime" = some (.ref (He.ga K "_law_prime"))
  g__law_calm : mg "_law_calm" = some (.ref (He.ga K "_law_calm"))
  g__law_figures : mg "_law_figures" = some (.ref (He.ga K "_law_figures"))
  g__law_plain : mg "_law_plain" = some (.ref (He.ga K "_law_plain"))
  g_is_number : mg "is_number" = some (.ref (He.ga K "is_number"))
  g_PRIMES : mg "PRIMES" = some (.ref (He.ga K "PRIMES"))
  t_PRIMES : Zf.ok K (.tup "PRIMES" [.int (2), .int (3), .int (5), .int (7)]) = true
  g_is_prime : mg "is_prime" = some (.ref (He.ga K "is_prime"))
  g_need_prime : mg "need_prime" = some (.ref (He.ga K "need_prime"))
  g_Turner : mg "Turner" = some (.ref (He.ga K "Turner"))
  v_Turner_MOST : ClX.CRead K (He.ga K "Turner") (.type "type") ∧ ∃ u, ClX.CVal K (He.ga K "Turner") (.type "type") "MOST" (He.Dv.v K (.int (240))) u
  g_is_within : mg "is_within" = some (.ref (He.ga K "is_within"))
  g_is_figure : mg "is_figure" = some (.ref (He.ga K "is_figure"))
  g_is_state : mg "is_state" = some (.ref (He.ga K "is_state"))
  c_Turner : Cls K (He.ga K "Turner")
  na_Turner_own_prime : NoAttr K (He.ga K "Turner") "own_prime"
  na_Turner_own_states : NoAttr K (He.ga K "Turner") "own_states"
  na_Turner_own_start : NoAttr K (He.ga K "Turner") "own_start"
  m_Turner : Mk K (He.ga K "Turner") (He.ma K (He.ga K "Turner") "__init__")
  g__law_made : mg "_law_made" = some (.ref (He.ga K "_law_made"))
  g__law_few : mg "_law_few" = some (.ref (He.ga K "_law_few"))
  g__law_all_rows : mg "_law_all_rows" = some (.ref (He.ga K "_law_all_rows"))
  g__law_way : mg "_law_way" = some (.ref (He.ga K "_law_way"))
  g__law_behind : mg "_law_behind" = some (.ref (He.ga K "_law_behind"))
  g__law_same : mg "_law_same" = some (.ref (He.ga K "_law_same"))
  k_MOST_DIALS : ∃ t, mg "MOST_DIALS" = some (.int  (200) t)
  g_need_dials : mg "need_dials" = some (.ref (He.ga K "need_dials"))
  h_Turner___len__ : Meth K (He.ga K "Turner") "__len__" (He.ma K (He.ga K "Turner") "__len__")
  h_Turner_states : Meth K (He.ga K "Turner") "states" (He.ma K (He.ga K "Turner") "states")
  g_next_alive : mg "next_alive" = some (.ref (He.ga K "next_alive"))
  p_Turner_start : PropOf K (He.ga K "Turner") "start" (He.ma K (He.ga K "Turner") "start") (propG K "Turner" "start")
  g_first_still : mg "first_still" = some (.ref (He.ga K "first_still"))
  g_still_count : mg "still_count" = some (.ref (He.ga K "still_count"))
  f__law_bag : ∃ fd, ZFun K z__law_bag fd
  f__law_pull : ∃ fd, ZFun K z__law_pull fd
  f__law_of : ∃ fd, ZFun K z__law_of fd
  f__law_prime : ∃ fd, ZFun K z__law_prime fd
  f__law_calm : ∃ fd, ZFun K z__law_calm fd
  f__law_figures : ∃ fd, ZFun K z__law_figures fd
  f__law_plain : ∃ fd, ZFun K z__law_plain fd
  f_is_number : ∃ fd, ZFun K z_is_number fd
  f_is_prime : ∃ fd, ZFun K z_is_prime fd
  f_need_prime : ∃ fd, ZFun K z_need_prime fd
  f_is_within : ∃ fd, ZFun K z_is_within fd
  f_is_figure : ∃ fd, ZFun K z_is_figure fd
  f_is_state : ∃ fd, ZFun K z_is_state fd
  f_Turner___init__ : ∃ fd, ZFun K z_Turner___init__ fd
  f__law_made : ∃ fd, ZFun K z__law_made fd
  f__law_few : ∃ fd, ZFun K z__law_few fd
  f__law_all_rows : ∃ fd, ZFun K z__law_all_rows fd
  f__law_way : ∃ fd, ZFun K z__law_way fd
  f__law_behind : ∃ fd, ZFun K z__law_behind fd
  f__law_same : ∃ fd, ZFun K z__law_same fd
  f_need_dials : ∃ fd, ZFun K z_need_dials fd
  f_Turner___len__ : ∃ fd, ZFun K z_Turner___len__ fd
  f_Turner_states : ∃ fd, ZFun K z_Turner_states fd
  f_next_alive : ∃ fd, ZFun K z_next_alive fd
  f_Turner_start : ∃ fd, ZFun K z_Turner_start fd
  f_first_still : ∃ fd, ZFun K z_first_still fd
  f_still_count : ∃ fd, ZFun K z_still_count fd
  f_law : ∃ fd, ZFun K z_law fd
/-- slots: 0 _law_script, 1 _law_mixed, 2 _law_cell -/
def L__law_bag_1 (pn : List Nat) : MS := (seqM (asgM pn 1 (opM modI (shareM (callM intF (consO (shareM (opM addD (shareM (opM addD (shareM (opM mulD (nameO 1) (shareM (cM (.int 50051))))) (shareM (opM mulD (shareM (opM modI (shareM (callM intF (consO (nameO 2) nilO))) (shareM (cM (.int 1000039))))) (shareM (cM (.int 881))))))) (shareM (cM (.int 13))))) nilO))) (shareM (cM (.int 2147483579))))) nopM)
def S__law_bag (pn : List Nat) : MS := (seqM (asgM pn 1 (cM (.int 4926))) (seqM (forS pn (.name 2) (seqI (shareM (slM (nameO 0) noP (someP (shareM (cM (.int 63))))))) (L__law_bag_1 pn)) (seqM (retS (lstM (consO (shareM (callM listF (consO (shareM (slM (nameO 0) noP (someP (shareM (cM (.int 63)))))) nilO))) (consO (shareM (cM (.int 0))) (consO (shareM (cM (.int 0))) (consO (nameO 1) (consO (shareM (cM (.int 0))) nilO))))))) nopM)))
def D__law_bag : FnD := runD 3 S__law_bag
/-- slots: 0 _law_bag_here, 1 _law_many, 2 _law_cell, 3 _law_digit, 4 _law_twice -/
def S__law_pull (pn : List Nat) : MS := (seqM (setM 0 (shareM (opM addD (shareM (opM ixF (nameO 0) (shareM (cM (.int 4))))) (shareM (cM (.int 1))))) (shareM (cM (.int 4)))) (seqM (ifS (andM (boM (opM eqF (shareM (opM ixF (nameO 0) (shareM (cM (.int 2))))) (shareM (cM (.int 0))))) (boM (opM ltI (shareM (opM ixF (nameO 0) (shareM (cM (.int 1))))) (shareM (callM lenF (consO (shareM (opM ixF (nameO 0) (shareM (cM (.int 0))))) nilO)))))) (seqM (asgM pn 2 (opM ixF (shareM (opM ixF (nameO 0) (shareM (cM (.int 0))))) (shareM (opM ixF (nameO 0) (shareM (cM (.int 1))))))) (seqM (setM 0 (shareM (opM addD (shareM (opM ixF (nameO 0) (shareM (cM (.int 1))))) (shareM (cM (.int 1))))) (shareM (cM (.int 1)))) (seqM (ifS (boM (opM geI (shareM (callM absF (consO (nameO 2) nilO))) (shareM (opM powI (shareM (cM (.int 10))) (shareM (cM (.int 18))))))) (seqM (setM 0 (shareM (callM absF (consO (nameO 2) nilO))) (shareM (cM (.int 2)))) nopM) (seqM (setM 0 (shareM (opM modI (shareM (callM intF (consO (shareM (opM addD (shareM (opM addD (shareM (opM mulD (shareM (opM ixF (nameO 0) (shareM (cM (.int 3))))) (shareM (cM (.int 44029))))) (shareM (opM mulD (shareM (opM modI (shareM (callM intF (consO (nameO 2) nilO))) (shareM (cM (.int 1000039))))) (shareM (cM (.int 727))))))) (shareM (cM (.int 37))))) nilO))) (shareM (cM (.int 2147483629))))) (shareM (cM (.int 3)))) nopM)) nopM))) nopM) (seqM (ifS (boM (opM gtI (shareM (opM ixF (nameO 0) (shareM (cM (.int 2))))) (shareM (cM (.int 0))))) (seqM (asgM pn 3 (opM modI (shareM (callM intF (consO (shareM (opM ixF (nameO 0) (shareM (cM (.int 2))))) nilO))) (nameO 1))) (seqM (setM 0 (shareM (opM divI (shareM (opM ixF (nameO 0) (shareM (cM (.int 2))))) (nameO 1))) (shareM (cM (.int 2)))) (seqM (retName pn 3) nopM))) nopM) (seqM (asgM pn 4 (opM modI (shareM (callM intF (consO (shareM (opM addD (shareM (opM mulD (shareM (opM ixF (nameO 0) (shareM (cM (.int 3))))) (shareM (opM ixF (nameO 0) (shareM (cM (.int 3))))))) (shareM (opM mulD (shareM (opM ixF (nameO 0) (shareM (cM (.int 4))))) (shareM (cM (.int 8093))))))) nilO))) (shareM (cM (.int 2147483549))))) (seqM (setM 0 (shareM (opM modI (shareM (callM intF (consO (shareM (opM addD (shareM (opM addD (shareM (opM mulD (nameO 4) (shareM (cM (.int 16427))))) (shareM (opM mulD (shareM (opM ixF (nameO 0) (shareM (cM (.int 3))))) (shareM (cM (.int 60029))))))) (shareM (cM (.int 54331))))) nilO))) (shareM (cM (.int 2147483629))))) (shareM (cM (.int 3)))) (seqM (retS (opM modI (shareM (callM intF (consO (shareM (opM divI (shareM (opM ixF (nameO 0) (shareM (cM (.int 3))))) (shareM (cM (.int 64))))) nilO))) (nameO 1))) nopM))))))
def D__law_pull : FnD := runD 5 S__law_pull
/-- slots: 0 _law_bag_here, 1 _law_some -/
def S__law_of (pn : List Nat) : MS := (seqM (retS (opM ixF (nameO 1) (shareM (fnA D__law_pull [.inl 0, .inl 1] (consO (nameO 0) (consO (shareM (callM lenF (consO (nameO 1) nilO))) nilO)) nilO)))) nopM)
def D__law_of : FnD := runD 2 S__law_of
/-- slots: 0 _law_bag_here -/
def S__law_prime (pn : List Nat) : MS := (seqM (retS (fnA D__law_of [.inl 0, .inl 1] (consO (nameO 0) (consO (shareM (lstM (consO (shareM (cM (.int 2))) (consO (shareM (cM (.int 2))) (consO (shareM (cM (.int 3))) (consO (shareM (cM (.int 2))) (consO (shareM (cM (.int 3))) (consO (shareM (cM (.int 5))) (consO (shareM (cM (.int 7))) nilO))))))))) nilO)) nilO)) nopM)
def D__law_prime : FnD := runD 1 S__law_prime
/-- slots: 0 _law_bag_here, 1 _law_m, 2 _law_turn, 3 _law_goals -/
def E__law_calm_1 (pn : List Nat) : M Opd := (shareM (tupM (consO (shareM (opM mulD (nameO 2) (shareM (callM intF (consO (shareM (opM eqF (shareM (fnA D__law_pull [.inl 0, .inl 1] (consO (nameO 0) (consO (shareM (cM (.int 3))) nilO)) nilO)) (shareM (cM (.int 0))))) nilO))))) (consO (nameO 3) nilO))))
def I__law_calm_1 (pn : List Nat) : M (List D) := (seqI (shareM (opM ixF (nameO 1) (shareM (cM (.int 1))))))
def S__law_calm (pn : List Nat) : MS := (seqM (retS (tupM (consO (shareM (opM ixF (nameO 1) (shareM (cM (.int 0))))) (consO (shareM (lcM pn [2, 3] (.tup [(.name 2), (.name 3)]) (I__law_calm_1 pn) yesM (E__law_calm_1 pn))) (consO (shareM (opM ixF (nameO 1) (shareM (cM (.int 2))))) nilO))))) nopM)
def D__law_calm : FnD := runD 4 S__law_calm
/-- slots: 0 _law_bag_here, 1 _law_p, 2 _law_many, 3 _law_k -/
def E__law_figures_1 (pn : List Nat) : M Opd := (shareM (fnA D__law_pull [.inl 0, .inl 1] (consO (nameO 0) (consO (nameO 1) nilO)) nilO))
def I__law_figures_1 (pn : List Nat) : M (List D) := (rngI rng1F (consO (nameO 2) nilO))
def S__law_figures (pn : List Nat) : MS := (seqM (retS (callM tupleF (consO (shareM (lcM pn [3] (.name 3) (I__law_figures_1 pn) yesM (E__law_figures_1 pn))) nilO))) nopM)
def D__law_figures : FnD := runD 4 S__law_figures
/-- slots: 0 _law_bag_here, 1 _law_p, 2 _law_top, 3 _law_many, 4 _law_rows, 5 _law_k -/
def L__law_plain_1 (pn : List Nat) : MS := (seqM (dropM (mutM "list" 4 appF (consO (shareM (tupM (consO (shareM (fnA D__law_of [.inl 0, .inl 1] (consO (nameO 0) (consO (shareM (lstM (consO (shareM (cM (.int 0))) (consO (shareM (cM (.int 0))) (consO (shareM (cM (.int 1))) (consO (shareM (opM subI (nameO 1) (shareM (cM (.int 1))))) (consO (shareM (fnA D__law_pull [.inl 0, .inl 1] (consO (nameO 0) (consO (nameO 1) nilO)) nilO)) nilO))))))) nilO)) nilO)) (consO (shareM (fnA D__law_figures [.inl 0, .inl 1, .inl 2] (consO (nameO 0) (consO (nameO 3) (consO (nameO 1) nilO))) nilO)) nilO)))) nilO))) nopM)
def S__law_plain (pn : List Nat) : MS := (seqM (asgM pn 3 (opM addD (shareM (cM (.int 1))) (shareM (fnA D__law_pull [.inl 0, .inl 1] (consO (nameO 0) (consO (nameO 2) nilO)) nilO)))) (seqM (asgM pn 4 (lstM nilO)) (seqM (forS pn (.name 5) (rngI rng1F (consO (nameO 3) nilO)) (L__law_plain_1 pn)) (seqM (retS (tupM (consO (nameO 1) (consO (nameO 4) (consO (shareM (fnA D__law_pull [.inl 0, .inl 1] (consO (nameO 0) (consO (nameO 3) nilO)) nilO)) nilO))))) nopM))))
def D__law_plain : FnD := runD 6 S__law_plain
/-- slots: 0 value -/
def S_is_number (pn : List Nat) : MS := (seqM (retS (andV (unM (isiF .int) (nameO 0)) (notV (unM (isiF .bl) (nameO 0))))) nopM)
def D_is_number : FnD := runD 1 S_is_number
/-- slots: 0 value -/
def S_is_prime (pn : List Nat) : MS := (seqM (retS (andV (fnA (pureF D_is_number) [.inl 0] (consO (nameO 0) nilO) nilO) (opM inX (nameO 0) (shareM (cM (.tup [.int (2), .int (3), .int (5), .int (7)])))))) nopM)
def D_is_prime : FnD := runD 1 S_is_prime
/-- slots: 0 value -/
def S_need_prime (pn : List Nat) : MS := (seqM (ifS (notM (truM (shareM (fnA (pureF D_is_prime) [.inl 0] (consO (nameO 0) nilO) nilO)))) (seqM neverS nopM) nopM) nopM)
def D_need_prime : FnD := runD 1 S_need_prime
/-- slots: 0 value, 1 low, 2 high -/
def S_is_within (pn : List Nat) : MS := (seqM (retS (andV (fnA (pureF D_is_number) [.inl 0] (consO (nameO 0) nilO) nilO) (chainM leI leI (nameO 1) (nameO 0) (nameO 2)))) nopM)
def D_is_within : FnD := runD 3 S_is_within
/-- slots: 0 prime, 1 value -/
def S_is_figure (pn : List Nat) : MS := (seqM (retS (fnA (pureF D_is_within) [.inl 0, .inl 1, .inl 2] (consO (nameO 1) (consO (shareM (cM (.int 0))) (consO (shareM (opM subI (nameO 0) (shareM (cM (.int 1))))) nilO))) nilO)) nopM)
def D_is_figure : FnD := runD 2 S_is_figure
/-- slots: 0 prime, 1 value, 2 many, 3 targets, 4 target -/
def E_is_state_1 (pn : List Nat) : M Opd := (shareM (fnA (pureF D_is_within) [.inl 0, .inl 1, .inl 2] (consO (nameO 4) (consO (shareM (cM (.int 0))) (consO (shareM (opM subI (nameO 2) (shareM (cM (.int 1))))) nilO))) nilO))
def I_is_state_1 (pn : List Nat) : M (List D) := (seqI (nameO 3))
def S_is_state (pn : List Nat) : MS := (seqM (ifS (orM (notM (truM (shareM (unM (isiF .tup) (nameO 1))))) (orM (boM (opM neF (shareM (callM lenF (consO (nameO 1) nilO))) (shareM (cM (.int 2))))) (notM (truM (shareM (fnA (pureF D_is_figure) [.inl 0, .inl 1] (consO (nameO 0) (consO (shareM (opM ixF (nameO 1) (shareM (cM (.int 0))))) nilO)) nilO)))))) (seqM (retS (cM (.bl false))) nopM) nopM) (seqM (asgM pn 3 (opM ixF (nameO 1) (shareM (cM (.int 1))))) (seqM (ifS (orM (notM (truM (shareM (unM (isiF .tup) (nameO 3))))) (boM (opM neF (shareM (callM lenF (consO (nameO 3) nilO))) (nameO 0)))) (seqM (retS (cM (.bl false))) nopM) nopM) (seqM (retS (callM allF (consO (shareM (lcM pn [4] (.name 4) (I_is_state_1 pn) yesM (E_is_state_1 pn))) nilO))) nopM))))
def D_is_state : FnD := runD 5 S_is_state
/-- slots: 0 self, 1 prime, 2 states, 3 start, 4 index, 5 state -/
def L_Turner___init___1 (pn : List Nat) : MS := (seqM (ifS (orM (boM (opM eqF (nameO 4) (shareM (cM (.int (240)))))) (notM (truM (shareM (fnA (pureF D_is_state) [.inl 0, .inl 1, .inl 2] (consO (nameO 1) (consO (nameO 5) (consO (shareM (callM lenF (consO (nameO 2) nilO))) nilO))) nilO))))) (seqM neverS nopM) nopM) nopM)
def S_Turner___init__ (pn : List Nat) : MS := (seqM (dropM (fnA (pureF D_need_prime) [.inl 0] (consO (nameO 1) nilO) nilO)) (seqM (forS pn (.tup [(.name 4), (.name 5)]) (enumJ (nameO 2)) (L_Turner___init___1 pn)) (seqM (ifS (boM (opM eqF (shareM (callM lenF (consO (nameO 2) nilO))) (shareM (cM (.int 0))))) (seqM neverS nopM) nopM) (seqM (ifS (notM (truM (shareM (fnA (pureF D_is_within) [.inl 0, .inl 1, .inl 2] (consO (nameO 3) (consO (shareM (cM (.int 0))) (consO (shareM (opM subI (shareM (callM lenF (consO (nameO 2) nilO))) (shareM (cM (.int 1))))) nilO))) nilO)))) (seqM neverS nopM) nopM) (seqM (fldS ["Turner"] 0 "own_prime" (nameO 1)) (seqM (fldS ["Turner"] 0 "own_states" (shareM (callM listF (consO (nameO 2) nilO)))) (seqM (fldS ["Turner"] 0 "own_start" (nameO 3)) nopM)))))))
def D_Turner___init__ : FnD := runD 6 S_Turner___init__
/-- slots: 0 _law_m -/
def S__law_made (pn : List Nat) : MS := (seqM (retS (shV (mkA "Turner" D_Turner___init__ [.inl 0, .inl 1, .inl 2] (consO (shareM (opM ixF (nameO 0) (shareM (cM (.int 0))))) (consO (shareM (callM listF (consO (shareM (opM ixF (nameO 0) (shareM (cM (.int 1))))) nilO))) nilO)) (consO (shareM (opM ixF (nameO 0) (shareM (cM (.int 2))))) nilO)))) nopM)
def D__law_made : FnD := runD 1 S__law_made
/-- slots: 0 _law_p -/
def S__law_few (pn : List Nat) : MS := (seqM (retS (unM (dcF [(.inl 2, .inl 8), (.inl 3, .inl 5), (.inl 5, .inl 3), (.inl 7, .inl 3)]) (nameO 0))) nopM)
def D__law_few : FnD := runD 1 S__law_few
/-- slots: 0 _law_p, 1 _law_many, 2 _law_found, 3 _law_k, 4 _law_late, 5 _law_x, 6 _law_row -/
def E__law_all_rows_1 (pn : List Nat) : M Opd := (shareM (opM addD (nameO 6) (shareM (tupM (consO (nameO 5) nilO)))))
def I__law_all_rows_1 (pn : List Nat) : M (List D) := (seqI (nameO 2))
def L__law_all_rows_1 (pn : List Nat) : MS := (seqM (asgM pn 4 (opM addD (nameO 4) (shareM (lcM pn [6] (.name 6) (I__law_all_rows_1 pn) yesM (E__law_all_rows_1 pn))))) nopM)
def L__law_all_rows_2 (pn : List Nat) : MS := (seqM (asgM pn 4 (lstM nilO)) (seqM (forS pn (.name 5) (rngI rng1F (consO (nameO 0) nilO)) (L__law_all_rows_1 pn)) (seqM (asgM pn 2 (takeM (nameO 4))) nopM)))
def S__law_all_rows (pn : List Nat) : MS := (seqM (asgM pn 2 (lstM (consO (shareM (tupM nilO)) nilO))) (seqM (forS pn (.name 3) (rngI rng1F (consO (nameO 1) nilO)) (L__law_all_rows_2 pn)) (seqM (retName pn 2) nopM)))
def D__law_all_rows : FnD := runD 7 S__law_all_rows
/-- slots: 0 _law_m, 1 _law_row, 2 _law_found, 3 _law_here, 4 _law_x -/
def L__law_way_1 (pn : List Nat) : MS := (seqM (dropM (mutM "list" 2 appF (consO (nameO 3) nilO))) (seqM (asgM pn 3 (opM ixF (shareM (opM ixF (shareM (opM ixF (shareM (opM ixF (nameO 0) (shareM (cM (.int 1))))) (nameO 3))) (shareM (cM (.int 1))))) (nameO 4))) nopM))
def S__law_way (pn : List Nat) : MS := (seqM (par2 pn 2 3 (lstM nilO) (opM ixF (nameO 0) (shareM (cM (.int 2))))) (seqM (forS pn (.name 4) (seqI (nameO 1)) (L__law_way_1 pn)) (seqM (retName pn 2) nopM)))
def D__law_way : FnD := runD 5 S__law_way
/-- slots: 0 _law_m, 1 _law_row, 2 _law_way_here, 3 _law_k -/
def E__law_behind_1 (pn : List Nat) : M Opd := (shareM (opM modI (shareM (callM intF (consO (shareM (opM addD (shareM (opM ixF (nameO 1) (nameO 3))) (shareM (opM ixF (shareM (opM ixF (shareM (opM ixF (nameO 0) (shareM (cM (.int 1))))) (shareM (opM ixF (nameO 2) (nameO 3))))) (shareM (cM (.int 0))))))) nilO))) (shareM (opM ixF (nameO 0) (shareM (cM (.int 0)))))))
def I__law_behind_1 (pn : List Nat) : M (List D) := (rngI rng1F (consO (shareM (callM lenF (consO (nameO 1) nilO))) nilO))
def S__law_behind (pn : List Nat) : MS := (seqM (asgM pn 2 (fnA (pureF D__law_way) [.inl 0, .inl 1] (consO (nameO 0) (consO (nameO 1) nilO)) nilO)) (seqM (retS (callM tupleF (consO (shareM (lcM pn [3] (.name 3) (I__law_behind_1 pn) yesM (E__law_behind_1 pn))) nilO))) nopM))
def D__law_behind : FnD := runD 4 S__law_behind
/-- slots: 0 _law_found, 1 _law_due, 2 _law_a, 3 _law_b -/
def E__law_same_1 (rec : FnD) (pn : List Nat) : M Opd := (shareM (fnA rec [.inl 0, .inl 1] (consO (nameO 2) (consO (nameO 3) nilO)) nilO))
def I__law_same_1 (rec : FnD) (pn : List Nat) : M (List D) := (zipI2 (consO (nameO 0) (consO (nameO 1) nilO)))
def S__law_same (rec : FnD) (pn : List Nat) : MS := (seqM (ifS (truM (shareM (unM (isiTF [.lst, .tup]) (nameO 1)))) (seqM (ifS (orM (boM (opM neF (shareM (unM (isiF .lst) (nameO 0))) (shareM (unM (isiF .lst) (nameO 1))))) (boM (opM neF (shareM (unM (isiF .tup) (nameO 0))) (shareM (unM (isiF .tup) (nameO 1)))))) (seqM (retS (cM (.bl false))) nopM) nopM) (seqM (retS (andV (opM eqF (shareM (callM lenF (consO (nameO 0) nilO))) (shareM (callM lenF (consO (nameO 1) nilO)))) (callM allF (consO (shareM (lcM pn [2, 3] (.tup [(.name 2), (.name 3)]) (I__law_same_1 rec pn) yesM (E__law_same_1 rec pn))) nilO)))) nopM)) nopM) (seqM (ifS (orM (boM (opM isF (nameO 1) (shareM (cM .non)))) (boM (opM isF (nameO 0) (shareM (cM .non))))) (seqM (retS (andV (opM isF (nameO 1) (shareM (cM .non))) (opM isF (nameO 0) (shareM (cM .non))))) nopM) nopM) (seqM (ifS (orM (boM (opM neF (shareM (unM (isiF .bl) (nameO 1))) (shareM (unM (isiF .bl) (nameO 0))))) (boM (opM neF (shareM (unM (isiF .int) (nameO 1))) (shareM (unM (isiF .int) (nameO 0)))))) (seqM (retS (cM (.bl false))) nopM) nopM) (seqM (retS (andV (opM eqF (shareM (unM (isiF .str) (nameO 1))) (shareM (unM (isiF .str) (nameO 0)))) (opM eqF (nameO 0) (nameO 1)))) nopM))))
def D__law_same : Nat → FnD
  | 0 => runD 4 fun _ => neverS
  | k + 1 => runD 4 (S__law_same (D__law_same k))
/-- slots: 0 value -/
def S_need_dials (pn : List Nat) : MS := (seqM (ifS (notM (truM (shareM (fnA (pureF D_is_within) [.inl 0, .inl 1, .inl 2] (consO (nameO 0) (consO (shareM (cM (.int 0))) (consO (shareM (cM (.int (200)))) nilO))) nilO)))) (seqM neverS nopM) nopM) nopM)
def D_need_dials : FnD := runD 1 S_need_dials
/-- slots: 0 self -/
def S_Turner___len__ (pn : List Nat) : MS := (seqM (retS (callM lenF (consO (shareM (unM (fldF ["Turner"] "own_states") (nameO 0))) nilO))) nopM)
def D_Turner___len__ : FnD := runD 1 S_Turner___len__
/-- slots: 0 self -/
def S_Turner_states (pn : List Nat) : MS := (seqM (retS (callM listF (consO (shareM (unM (fldF ["Turner"] "own_states") (nameO 0))) nilO))) nopM)
def D_Turner_states : FnD := runD 1 S_Turner_states
/-- slots: 0 turner, 1 alive, 2 found, 3 turn, 4 targets, 5 target -/
def E_next_alive_1 (pn : List Nat) : M Opd := (shareM (opM ixF (nameO 1) (nameO 5)))
def I_next_alive_1 (pn : List Nat) : M (List D) := (seqI (nameO 4))
def L_next_alive_1 (pn : List Nat) : MS := (seqM (dropM (mutM "list" 2 appF (consO (shareM (andV (opM eqF (nameO 3) (shareM (cM (.int 0)))) (callM anyF (consO (shareM (lcM pn [5] (.name 5) (I_next_alive_1 pn) yesM (E_next_alive_1 pn))) nilO)))) nilO))) nopM)
def S_next_alive (pn : List Nat) : MS := (seqM (asgM pn 2 (lstM nilO)) (seqM (forS pn (.tup [(.name 3), (.name 4)]) (seqI (shareM (methA "Turner" "states" (pureF D_Turner_states) [.inl 0] (nameO 0) nilO nilO))) (L_next_alive_1 pn)) (seqM (retName pn 2) nopM)))
def D_next_alive : FnD := runD 6 S_next_alive
/-- slots: 0 self -/
def S_Turner_start (pn : List Nat) : MS := (seqM (retS (unM (fldF ["Turner"] "own_start") (nameO 0))) nopM)
def D_Turner_start : FnD := runD 1 S_Turner_start
/-- slots: 0 turner, 1 dials, 2 alive, 3 dial, 4 found, 5 state, 6 left, 7 targets, 8 figure, 9 at, 10 target -/
def L_first_still_1 (pn : List Nat) : MS := (seqM (dropM (mutM "list" 2 appF (consO (shareM (fnA (pureF D_next_alive) [.inl 0, .inl 1] (consO (nameO 0) (consO (shareM (opM ixF (nameO 2) (shareM (unM negF (shareM (cM (.int 1))))))) nilO)) nilO)) nilO))) nopM)
def E_first_still_1 (pn : List Nat) : M Opd := (nameO 9)
def I_first_still_1 (pn : List Nat) : M (List D) := (enumJ (nameO 7))
def L_first_still_2 (pn : List Nat) : MS := (seqM (asgM pn 7 (opM ixF (shareM (opM ixF (shareM (methA "Turner" "states" (pureF D_Turner_states) [.inl 0] (nameO 0) nilO nilO)) (nameO 5))) (shareM (cM (.int 1))))) (seqM (asgM pn 8 (opM ixF (shareM (lcM pn [9, 10] (.tup [(.name 9), (.name 10)]) (I_first_still_1 pn) (truM (shareM (opM ixF (nameO 6) (nameO 10)))) (E_first_still_1 pn))) (shareM (cM (.int 0))))) (seqM (dropM (mutM "list" 4 appF (consO (nameO 8) nilO))) (seqM (asgM pn 5 (opM ixF (nameO 7) (nameO 8))) nopM))))
def S_first_still (pn : List Nat) : MS := (seqM (dropM (fnA (pureF D_need_dials) [.inl 0] (consO (nameO 1) nilO) nilO)) (seqM (asgM pn 2 (lstM (consO (shareM (opM mulD (shareM (lstM (consO (shareM (cM (.bl true))) nilO))) (shareM (lenOM "Turner" D_Turner___len__ (nameO 0))))) nilO))) (seqM (forS pn (.name 3) (rngI rng1F (consO (nameO 1) nilO)) (L_first_still_1 pn)) (seqM (ifS (notM (truM (shareM (opM ixF (shareM (opM ixF (nameO 2) (shareM (unM negF (shareM (cM (.int 1))))))) (shareM (propM "Turner" D_Turner_start (nameO 0))))))) (seqM (retS (cM .non)) nopM) nopM) (seqM (par2 pn 4 5 (lstM nilO) (propM "Turner" D_Turner_start (nameO 0))) (seqM (forS pn (.name 6) (seqI (shareM (unM back2F (nameO 2)))) (L_first_still_2 pn)) (seqM (retS (callM tupleF (consO (nameO 4) nilO))) nopM)))))))
def D_first_still : FnD := runD 11 S_first_still
/-- slots: 0 turner, 1 dials, 2 states, 3 many, 4 dial, 5 turn, 6 targets, 7 target -/
def E_still_count_1 (pn : List Nat) : M Opd := (shareM (opM ixF (nameO 3) (nameO 7)))
def I_still_count_1 (pn : List Nat) : M (List D) := (seqI (nameO 6))
def E_still_count_2 (pn : List Nat) : M Opd := (shareM (ifM (boM (opM eqF (nameO 5) (shareM (cM (.int 0))))) (callM sumF (consO (shareM (lcM pn [7] (.name 7) (I_still_count_1 pn) yesM (E_still_count_1 pn))) nilO)) (cM (.int 0))))
def I_still_count_2 (pn : List Nat) : M (List D) := (seqI (nameO 2))
def L_still_count_1 (pn : List Nat) : MS := (seqM (asgM pn 3 (lcM pn [5, 6] (.tup [(.name 5), (.name 6)]) (I_still_count_2 pn) yesM (E_still_count_2 pn))) nopM)
def S_still_count (pn : List Nat) : MS := (seqM (dropM (fnA (pureF D_need_dials) [.inl 0] (consO (nameO 1) nilO) nilO)) (seqM (asgM pn 2 (methA "Turner" "states" (pureF D_Turner_states) [.inl 0] (nameO 0) nilO nilO)) (seqM (asgM pn 3 (opM mulD (shareM (lstM (consO (shareM (cM (.int 1))) nilO))) (shareM (callM lenF (consO (nameO 2) nilO))))) (seqM (forS pn (.name 4) (rngI rng1F (consO (nameO 1) nilO)) (L_still_count_1 pn)) (seqM (retS (opM ixF (nameO 3) (shareM (propM "Turner" D_Turner_start (nameO 0))))) nopM)))))
def D_still_count : FnD := runD 8 S_still_count
/-- slots: 0 _law_script, 1 _law_bag_here, 2 _law_turn_z, 3 _law_p, 4 _law_m, 5 _law_found, 6 _law_many, 7 _law_some, 8 _law_row -/
def E_law_1 (pn : List Nat) : M Opd := (nameO 8)
def I_law_1 (pn : List Nat) : M (List D) := (seqI (shareM (fnA (pureF D__law_all_rows) [.inl 0, .inl 1] (consO (nameO 3) (consO (nameO 6) nilO)) nilO)))
def L_law_1 (pn : List Nat) : MS := (seqM (asgM pn 7 (callM sortF (consO (shareM (lcM pn [8] (.name 8) (I_law_1 pn) (boM (opM eqF (shareM (fnA (pureF D__law_behind) [.inl 0, .inl 1] (consO (nameO 4) (consO (nameO 8) nilO)) nilO)) (nameO 8))) (E_law_1 pn))) nilO))) (seqM (ifS (notM (truM (shareM (fnA (pureF (D__law_same 8)) [.inl 0, .inl 1] (consO (shareM (lstM (consO (shareM (fnA (pureF D_still_count) [.inl 0, .inl 1] (consO (nameO 5) (consO (nameO 6) nilO)) nilO)) (consO (shareM (fnA (pureF D_first_still) [.inl 0, .inl 1] (consO (nameO 5) (consO (nameO 6) nilO)) nilO)) nilO)))) (consO (shareM (lstM (consO (shareM (callM lenF (consO (nameO 7) nilO))) (consO (shareM (ifM (boM (opM neF (nameO 7) (shareM (lstM nilO)))) (opM ixF (nameO 7) (shareM (cM (.int 0)))) (cM .non))) nilO)))) nilO)) nilO)))) (seqM (retS (cM (.bl false))) nopM) nopM) nopM))
def L_law_2 (pn : List Nat) : MS := (seqM (asgM pn 3 (fnA D__law_prime [.inl 0] (consO (nameO 1) nilO) nilO)) (seqM (asgM pn 4 (fnA D__law_calm [.inl 0, .inl 1] (consO (nameO 1) (consO (shareM (fnA D__law_plain [.inl 0, .inl 1, .inl 2] (consO (nameO 1) (consO (nameO 3) (consO (shareM (cM (.int 5))) nilO))) nilO)) nilO)) nilO)) (seqM (asgM pn 5 (fnA (pureF D__law_made) [.inl 0] (consO (nameO 4) nilO) nilO)) (seqM (forS pn (.name 6) (rngI rng1F (consO (shareM (opM addD (shareM (fnA (pureF D__law_few) [.inl 0] (consO (nameO 3) nilO) nilO)) (shareM (cM (.int 1))))) nilO)) (L_law_1 pn)) (seqM (ifS (orM (boM (opM neF (shareM (fnA (pureF D_still_count) [.inl 1, .inl 0] nilO (consO (shareM (cM (.int 2))) (consO (nameO 5) nilO)))) (shareM (fnA (pureF D_still_count) [.inl 0, .inl 1] (consO (nameO 5) (consO (shareM (cM (.int 2))) nilO)) nilO)))) (boM (opM neF (shareM (fnA (pureF D_first_still) [.inl 1, .inl 0] nilO (consO (shareM (cM (.int 0))) (consO (nameO 5) nilO)))) (shareM (tupM nilO))))) (seqM (retS (cM (.bl false))) nopM) nopM) nopM)))))
def S_law (pn : List Nat) : MS := (seqM (asgM pn 1 (fnA (pureF D__law_bag) [.inl 0] (consO (nameO 0) nilO) nilO)) (seqM (forS pn (.name 2) (rngI rng1F (consO (shareM (cM (.int 5))) nilO)) (L_law_2 pn)) (seqM (retS (cM (.bl true))) nopM)))
def D_law : FnD := runD 9 S_law
end Y
namespace Y
open PySem PySem.Spec PyProof.Rows L2 Z
section
variable {Pr : Program} {w : World} {K : PySem.W.Frag} {mg : Str → Option Value} {base : Heap}
theorem sc__law_bag : FnScope ["_law_script", "_law_mixed", "_law_cell"] ["_law_script"] (defScope z__law_bag.st) := ⟨rfl, rfl, rfl, by decide +kernel, rfl, by decide +kernel, by decide +kernel⟩
theorem ok__law_bag (T : Txt K mg) {fd : FuncData} (F : ZFun K z__law_bag fd) : FnOk Pr w K mg base (L2.CX Pr w) (1) (z__law_bag.at_ K) fd ["_law_script"] (spOf K mg 1 D__law_bag) := by
  have sc := sc__law_bag
  exact fn_ok (k := 0) (N := ["_law_script", "_law_mixed", "_law_cell"]) (ps := ["_law_script"]) (s := S__law_bag) F sc fun pn cdv A outer sh H E hr => conv (qss_cons (qs_asg (i := 1) sc.nd rfl (by first | exact .inl rfl | exact .inr rfl) qv_int rfl (.inl rfl)) (qss_cons (qs_for (passes_of rfl) rfl (qi_seq (qo_v (qv_sl (qo_name (i := 0) rfl (by first | exact .inl rfl | exact .inr (.inl rfl) | exact .inr (.inr rfl)) (by decide) (by decide)) qp_none (qp_some (qo_v qv_int))))) (qg_name (i := 2) sc.nd rfl (by first | exact .inl rfl | exact .inr rfl) (by first | exact .inl rfl | exact .inr rfl)) (qss_cons (qs_asg (i := 1) sc.nd rfl (by first | exact .inl rfl | exact .inr rfl) (qv_op op_mod s_modI (qo_v (qv_callTy cr_int1 s_intF rfl T.n_int PyProof.Rows.boot_int (qs_cons (qo_v (qv_op o_add s_addX (qo_v (qv_op o_add s_addX (qo_v (qv_op o_mul s_mulX (qo_name (i := 1) rfl (by first | exact .inl rfl | exact .inr (.inl rfl) | exact .inr (.inr rfl)) (by decide) (by decide)) (qo_v qv_int))) (qo_v (qv_op o_mul s_mulX (qo_v (qv_op op_mod s_modI (qo_v (qv_callTy cr_int1 s_intF rfl T.n_int PyProof.Rows.boot_int (qs_cons (qo_name (i := 2) rfl (by first | exact .inl rfl | exact .inr (.inl rfl) | exact .inr (.inr rfl)) (by decide) (by decide)) qs_nil rfl) (by decide) (by decide) rfl rfl)) (qo_v qv_int))) (qo_v qv_int))))) (qo_v qv_int))) qs_nil rfl) (by decide) (by decide) rfl rfl)) (qo_v qv_int)) rfl (.inl rfl)) qss_nil) (fun _ => rfl)) (qss_cons (qs_ret (qv_lst (qs_cons (qo_v (qv_callTy call_list_of s_listF rfl T.n_list PyProof.Rows.boot_list (qs_cons (qo_v (qv_sl (qo_name (i := 0) rfl (by first | exact .inl rfl | exact .inr (.inl rfl) | exact .inr (.inr rfl)) (by decide) (by decide)) qp_none (qp_some (qo_v qv_int)))) qs_nil rfl) (by decide) (by decide) rfl rfl)) (qs_cons (qo_v qv_int) (qs_cons (qo_v qv_int) (qs_cons (qo_name (i := 1) rfl (by first | exact .inl rfl | exact .inr (.inl rfl) | exact .inr (.inr rfl)) (by decide) (by decide)) (qs_cons (qo_v qv_int) qs_nil rfl) rfl) rfl) rfl) rfl))) qss_nil))) rfl
theorem sc__law_pull : FnScope ["_law_bag_here", "_law_many", "_law_cell", "_law_digit", "_law_twice"] ["_law_bag_here", "_law_many"] (defScope z__law_pull.st) := ⟨rfl, rfl, rfl, by decide +kernel, rfl, by decide +kernel, by decide +kernel⟩
theorem ok__law_pull (T : Txt K mg) {fd : FuncData} (F : ZFun K z__law_pull fd) : FnOk Pr w K mg base (L2.CX Pr w) (1) (z__law_pull.at_ K) fd ["_law_bag_here", "_law_many"] (spOf K mg 2 D__law_pull) := by
  have sc := sc__law_pull
  exact fn_ok (k := 0) (N := ["_law_bag_here", "_law_many", "_law_cell", "_law_digit", "_law_twice"]) (ps := ["_law_bag_here", "_law_many"]) (s := S__law_pull) F sc fun pn cdv A outer sh H E hr => conv (qss_cons (qs_setL (i := 0) rfl (by first | exact .inl rfl | exact .inr (.inl rfl) | exact .inr (.inr rfl)) (by decide) (by decide) (qo_v (qv_op o_add s_addX (qo_v (qv_ix ix_seq s_ixF (qo_name (i := 0) rfl (by first | exact .inl rfl | exact .inr (.inl rfl) | exact .inr (.inr rfl)) (by decide) (by decide)) (qo_v qv_int) (fun _ _ => rfl))) (qo_v qv_int))) (qo_v qv_int) (fun _ => rfl) rfl rfl rfl) (qss_cons (qs_if (qt_w (qw_and (qt_cmp (op_eqD (u64 hr)) s_eqF (qo_v (qv_ix ix_seq s_ixF (qo_name (i := 0) rfl (by first | exact .inl rfl | exact .inr (.inl rfl) | exact .inr (.inr rfl)) (by decide) (by decide)) (qo_v qv_int) (fun _ _ => rfl))) (qo_v qv_int) (nomark _)) (qw_and1 (qt_cmp op_lt s_ltI (qo_v (qv_ix ix_seq s_ixF (qo_name (i := 0) rfl (by first | exact .inl rfl | exact .inr (.inl rfl) | exact .inr (.inr rfl)) (by decide) (by decide)) (qo_v qv_int) (fun _ _ => rfl))) (qo_v (qv_callB cr_len1 s_lenF rfl T.n_len boot_len (qs_cons (qo_v (qv_ix ix_seq s_ixF (qo_name (i := 0) rfl (by first | exact .inl rfl | exact .inr (.inl rfl) | exact .inr (.inr rfl)) (by decide) (by decide)) (qo_v qv_int) (fun _ _ => rfl))) qs_nil rfl) (by decide) (by decide) rfl rfl)) (nomark _))))) (qss_cons (qs_asg (i := 2) sc.nd rfl (by first | exact .inl rfl | exact .inr rfl) (qv_ix ix_seq s_ixF (qo_v (qv_ix ix_seq s_ixF (qo_name (i := 0) rfl (by first | exact .inl rfl | exact .inr (.inl rfl) | exact .inr (.inr rfl)) (by decide) (by decide)) (qo_v qv_int) (fun _ _ => rfl))) (qo_v (qv_ix ix_seq s_ixF (qo_name (i := 0) rfl (by first | exact .inl rfl | exact .inr (.inl rfl) | exact .inr (.inr rfl)) (by decide) (by decide)) (qo_v qv_int) (fun _ _ => rfl))) (fun _ _ => rfl)) rfl (.inl rfl)) (qss_cons (qs_setL (i := 0) rfl (by first | exact .inl rfl | exact .inr (.inl rfl) | exact .inr (.inr rfl)) (by decide) (by decide) (qo_v (qv_op o_add s_addX (qo_v (qv_ix ix_seq s_ixF (qo_name (i := 0) rfl (by first | exact .inl rfl | exact .inr (.inl rfl) | exact .inr (.inr rfl)) (by decide) (by decide)) (qo_v qv_int) (fun _ _ => rfl))) (qo_v qv_int))) (qo_v qv_int) (fun _ => rfl) rfl rfl rfl) (qss_cons (qs_if (qt_cmp op_ge s_geI (qo_v (qv_callB call_abs s_absF rfl T.n_abs PyProof.Rows.boot_abs (qs_cons (qo_name (i := 2) rfl (by first | exact .inl rfl | exact .inr (.inl rfl) | exact .inr (.inr rfl)) (by decide) (by decide)) qs_nil rfl) (by decide) (by decide) rfl rfl)) (qo_v (qv_op op_pow s_powI (qo_v qv_int) (qo_v qv_int))) (nomark _)) (qss_cons (qs_setL (i := 0) rfl (by first | exact .inl rfl | exact .inr (.inl rfl) | exact .inr (.inr rfl)) (by decide) (by decide) (qo_v (qv_callB call_abs s_absF rfl T.n_abs PyProof.Rows.boot_abs (qs_cons (qo_name (i := 2) rfl (by first | exact .inl rfl | exact .inr (.inl rfl) | exact .inr (.inr rfl)) (by decide) (by decide)) qs_nil rfl) (by decide) (by decide) rfl rfl)) (qo_v qv_int) (fun _ => rfl) rfl rfl rfl) qss_nil) (qss_cons (qs_setL (i := 0) rfl (by first | exact .inl rfl | exact .inr (.inl rfl) | exact .inr (.inr rfl)) (by decide) (by decide) (qo_v (qv_op op_mod s_modI (qo_v (qv_callTy cr_int1 s_intF rfl T.n_int PyProof.Rows.boot_int (qs_cons (qo_v (qv_op o_add s_addX (qo_v (qv_op o_add s_addX (qo_v (qv_op o_mul s_mulX (qo_v (qv_ix ix_seq s_ixF (qo_name (i := 0) rfl (by first | exact .inl rfl | exact .inr (.inl rfl) | exact .inr (.inr rfl)) (by decide) (by decide)) (qo_v qv_int) (fun _ _ => rfl))) (qo_v qv_int))) (qo_v (qv_op o_mul s_mulX (qo_v (qv_op op_mod s_modI (qo_v (qv_callTy cr_int1 s_intF rfl T.n_int PyProof.Rows.boot_int (qs_cons (qo_name (i := 2) rfl (by first | exact .inl rfl | exact .inr (.inl rfl) | exact .inr (.inr rfl)) (by decide) (by decide)) qs_nil rfl) (by decide) (by decide) rfl rfl)) (qo_v qv_int))) (qo_v qv_int))))) (qo_v qv_int))) qs_nil rfl) (by decide) (by decide) rfl rfl)) (qo_v qv_int))) (qo_v qv_int) (fun _ => rfl) rfl rfl rfl) qss_nil)) qss_nil))) qss_nil) (qss_cons (qs_if (qt_cmp op_gt s_gtI (qo_v (qv_ix ix_seq s_ixF (qo_name (i := 0) rfl (by first | exact .inl rfl | exact .inr (.inl rfl) | exact .inr (.inr rfl)) (by decide) (by decide)) (qo_v qv_int) (fun _ _ => rfl))) (qo_v qv_int) (nomark _)) (qss_cons (qs_asg (i := 3) sc.nd rfl (by first | exact .inl rfl | exact .inr rfl) (qv_op op_mod s_modI (qo_v (qv_callTy cr_int1 s_intF rfl T.n_int PyProof.Rows.boot_int (qs_cons (qo_v (qv_ix ix_seq s_ixF (qo_name (i := 0) rfl (by first | exact .inl rfl | exact .inr (.inl rfl) | exact .inr (.inr rfl)) (by decide) (by decide)) (qo_v qv_int) (fun _ _ => rfl))) qs_nil rfl) (by decide) (by decide) rfl rfl)) (qo_name (i := 1) rfl (by first | exact .inl rfl | exact .inr (.inl rfl) | exact .inr (.inr rfl)) (by decide) (by decide))) rfl (.inl rfl)) (qss_cons (qs_setL (i := 0) rfl (by first | exact .inl rfl | exact .inr (.inl rfl) | exact .inr (.inr rfl)) (by decide) (by decide) (qo_v (qv_op op_fdiv s_divI (qo_v (qv_ix ix_seq s_ixF (qo_name (i := 0) rfl (by first | exact .inl rfl | exact .inr (.inl rfl) | exact .inr (.inr rfl)) (by decide) (by decide)) (qo_v qv_int) (fun _ _ => rfl))) (qo_name (i := 1) rfl (by first | exact .inl rfl | exact .inr (.inl rfl) | exact .inr (.inr rfl)) (by decide) (by decide)))) (qo_v qv_int) (fun _ => rfl) rfl rfl rfl) (qss_cons (qs_retName (i := 3) rfl (by first | exact .inl rfl | exact .inr (.inl rfl) | exact .inr (.inr rfl)) (by decide) (by decide)) qss_nil))) qss_nil) (qss_cons (qs_asg (i := 4) sc.nd rfl (by first | exact .inl rfl | exact .inr rfl) (qv_op op_mod s_modI (qo_v (qv_callTy cr_int1 s_intF rfl T.n_int PyProof.Rows.boot_int (qs_cons (qo_v (qv_op o_add s_addX (qo_v (qv_op o_mul s_mulX (qo_v (qv_ix ix_seq s_ixF (qo_name (i := 0) rfl (by first | exact .inl rfl | exact .inr (.inl rfl) | exact .inr (.inr rfl)) (by decide) (by decide)) (qo_v qv_int) (fun _ _ => rfl))) (qo_v (qv_ix ix_seq s_ixF (qo_name (i := 0) rfl (by first | exact .inl rfl | exact .inr (.inl rfl) | exact .inr (.inr rfl)) (by decide) (by decide)) (qo_v qv_int) (fun _ _ => rfl))))) (qo_v (qv_op o_mul s_mulX (qo_v (qv_ix ix_seq s_ixF (qo_name (i := 0) rfl (by first | exact .inl rfl | exact .inr (.inl rfl) | exact .inr (.inr rfl)) (by decide) (by decide)) (qo_v qv_int) (fun _ _ => rfl))) (qo_v qv_int))))) qs_nil rfl) (by decide) (by decide) rfl rfl)) (qo_v qv_int)) rfl (.inl rfl)) (qss_cons (qs_setL (i := 0) rfl (by first | exact .inl rfl | exact .inr (.inl rfl) | exact .inr (.inr rfl)) (by decide) (by decide) (qo_v (qv_op op_mod s_modI (qo_v (qv_callTy cr_int1 s_intF rfl T.n_int PyProof.Rows.boot_int (qs_cons (qo_v (qv_op o_add s_addX (qo_v (qv_op o_add s_addX (qo_v (qv_op o_mul s_mulX (qo_name (i := 4) rfl (by first | exact .inl rfl | exact .inr (.inl rfl) | exact .inr (.inr rfl)) (by decide) (by decide)) (qo_v qv_int))) (qo_v (qv_op o_mul s_mulX (qo_v (qv_ix ix_seq s_ixF (qo_name (i := 0) rfl (by first | exact .inl rfl | exact .inr (.inl rfl) | exact .inr (.inr rfl)) (by decide) (by decide)) (qo_v qv_int) (fun _ _ => rfl))) (qo_v qv_int))))) (qo_v qv_int))) qs_nil rfl) (by decide) (by decide) rfl rfl)) (qo_v qv_int))) (qo_v qv_int) (fun _ => rfl) rfl rfl rfl) (qss_cons (qs_ret (qv_op op_mod s_modI (qo_v (qv_callTy cr_int1 s_intF rfl T.n_int PyProof.Rows.boot_int (qs_cons (qo_v (qv_op op_fdiv s_divI (qo_v (qv_ix ix_seq s_ixF (qo_name (i := 0) rfl (by first | exact .inl rfl | exact .inr (.inl rfl) | exact .inr (.inr rfl)) (by decide) (by decide)) (qo_v qv_int) (fun _ _ => rfl))) (qo_v qv_int))) qs_nil rfl) (by decide) (by decide) rfl rfl)) (qo_name (i := 1) rfl (by first | exact .inl rfl | exact .inr (.inl rfl) | exact .inr (.inr rfl)) (by decide) (by decide)))) qss_nil)))))) rfl
theorem sc__law_of : FnScope ["_law_bag_here", "_law_some"] ["_law_bag_here", "_law_some"] (defScope z__law_of.st) := ⟨rfl, rfl, rfl, by decide +kernel, rfl, by decide +kernel, by decide +kernel⟩
theorem ok__law_of (T : Txt K mg) {fd : FuncData} (F : ZFun K z__law_of fd) : FnOk Pr w K mg base (L2.CX Pr w) (2) (z__law_of.at_ K) fd ["_law_bag_here", "_law_some"] (spOf K mg 2 D__law_of) := by
  have sc := sc__law_of
  obtain ⟨fd__law_pull, F__law_pull⟩ := T.f__law_pull
  have G__law_pull := ok__law_pull (Pr := Pr) (w := w) (base := base) T F__law_pull
  have B__law_pull_2 : Bnd K mg fd__law_pull ["_law_bag_here", "_law_many"] 2 [] [.inl 0, .inl 1] := bnd_of F__law_pull rfl rfl (fun _ _ _ _ _ _ us ws h1 h2 => match us, ws, h1, h2 with | [_, _], [], _, _ => rfl)
  exact fn_ok (k := 1) (N := ["_law_bag_here", "_law_some"]) (ps := ["_law_bag_here", "_law_some"]) (s := S__law_of) F sc fun pn cdv A outer sh H E hr => conv (qss_cons (qs_ret (qv_ix ix_seq s_ixF (qo_name (i := 1) rfl (by first | exact .inl rfl | exact .inr (.inl rfl) | exact .inr (.inr rfl)) (by decide) (by decide)) (qo_v (qv_fn (ks := []) (arr := [.inl 0, .inl 1]) G__law_pull (takes_of rfl rfl rfl rfl) (hr.mono (by decide)) rfl T.g__law_pull F__law_pull.kp B__law_pull_2 (qs_cons (qo_name (i := 0) rfl (by first | exact .inl rfl | exact .inr (.inl rfl) | exact .inr (.inr rfl)) (by decide) (by decide)) (qs_cons (qo_v (qv_callB cr_len1 s_lenF rfl T.n_len boot_len (qs_cons (qo_name (i := 1) rfl (by first | exact .inl rfl | exact .inr (.inl rfl) | exact .inr (.inr rfl)) (by decide) (by decide)) qs_nil rfl) (by decide) (by decide) rfl rfl)) qs_nil rfl) rfl) qk_nil rfl rfl rfl rfl (by decide) rfl rfl (len_cons (len_cons len_nil)) len_nil)) (fun _ _ => rfl))) qss_nil) rfl
theorem sc__law_prime : FnScope ["_law_bag_here"] ["_law_bag_here"] (defScope z__law_prime.st) := ⟨rfl, rfl, rfl, by decide +kernel, rfl, by decide +kernel, by decide +kernel⟩
theorem ok__law_prime (T : Txt K mg) {fd : FuncData} (F : ZFun K z__law_prime fd) : FnOk Pr w K mg base (L2.CX Pr w) (3) (z__law_prime.at_ K) fd ["_law_bag_here"] (spOf K mg 1 D__law_prime) := by
  have sc := sc__law_prime
  obtain ⟨fd__law_of, F__law_of⟩ := T.f__law_of
  have G__law_of := ok__law_of (Pr := Pr) (w := w) (base := base) T F__law_of
  have B__law_of_2 : Bnd K mg fd__law_of ["_law_bag_here", "_law_some"] 2 [] [.inl 0, .inl 1] := bnd_of F__law_of rfl rfl (fun _ _ _ _ _ _ us ws h1 h2 => match us, ws, h1, h2 with | [_, _], [], _, _ => rfl)
  exact fn_ok (k := 2) (N := ["_law_bag_here"]) (ps := ["_law_bag_here"]) (s := S__law_prime) F sc fun pn cdv A outer sh H E hr => conv (qss_cons (qs_ret (qv_fn (ks := []) (arr := [.inl 0, .inl 1]) G__law_of (takes_of rfl rfl rfl rfl) (hr.mono (by decide)) rfl T.g__law_of F__law_of.kp B__law_of_2 (qs_cons (qo_name (i := 0) rfl (by first | exact .inl rfl | exact .inr (.inl rfl) | exact .inr (.inr rfl)) (by decide) (by decide)) (qs_cons (qo_v (qv_lst (qs_cons (qo_v qv_int) (qs_cons (qo_v qv_int) (qs_cons (qo_v qv_int) (qs_cons (qo_v qv_int) (qs_cons (qo_v qv_int) (qs_cons (qo_v qv_int) (qs_cons (qo_v qv_int) qs_nil rfl) rfl) rfl) rfl) rfl) rfl) rfl))) qs_nil rfl) rfl) qk_nil rfl rfl rfl rfl (by decide) rfl rfl (len_cons (len_cons len_nil)) len_nil)) qss_nil) rfl
theorem sc__law_calm : FnScope ["_law_bag_here", "_law_m", "_law_turn", "_law_goals"] ["_law_bag_here", "_law_m"] (defScope z__law_calm.st) := ⟨rfl, rfl, rfl, by decide +kernel, rfl, by decide +kernel, by decide +kernel⟩
theorem ok__law_calm (T : Txt K mg) {fd : FuncData} (F : ZFun K z__law_calm fd) : FnOk Pr w K mg base (L2.CX Pr w) (2) (z__law_calm.at_ K) fd ["_law_bag_here", "_law_m"] (spOf K mg 2 D__law_calm) := by
  have sc := sc__law_calm
  obtain ⟨fd__law_pull, F__law_pull⟩ := T.f__law_pull
  have G__law_pull := ok__law_pull (Pr := Pr) (w := w) (base := base) T F__law_pull
  have B__law_pull_2 : Bnd K mg fd__law_pull ["_law_bag_here", "_law_many"] 2 [] [.inl 0, .inl 1] := bnd_of F__law_pull rfl rfl (fun _ _ _ _ _ _ us ws h1 h2 => match us, ws, h1, h2 with | [_, _], [], _, _ => rfl)
  exact fn_ok (k := 1) (N := ["_law_bag_here", "_law_m", "_law_turn", "_law_goals"]) (ps := ["_law_bag_here", "_law_m"]) (s := S__law_calm) F sc fun pn cdv A outer sh H E hr => conv (qss_cons (qs_ret (qv_tup (qs_cons (qo_v (qv_ix ix_seq s_ixF (qo_name (i := 1) rfl (by first | exact .inl rfl | exact .inr (.inl rfl) | exact .inr (.inr rfl)) (by decide) (by decide)) (qo_v qv_int) (fun _ _ => rfl))) (qs_cons (qo_v (qv_lc (own := [("_law_turn", 2), ("_law_goals", 3)]) rfl sc.nd (qi_seq (qo_v (qv_ix ix_seq s_ixF (qo_name (i := 1) rfl (by first | exact .inl rfl | exact .inr (.inl rfl) | exact .inr (.inr rfl)) (by decide) (by decide)) (qo_v qv_int) (fun _ _ => rfl)))) (blkOk_by (by rfl)) (fun _ _ _ _ _ => (qg_tup (n := 2) rfl (qgs_cons (qg_name (i := 2) sc.nd rfl (by first | exact .inl rfl | exact .inr rfl) (by first | exact .inl rfl | exact .inr rfl)) (qgs_cons (qg_name (i := 3) sc.nd rfl (by first | exact .inl rfl | exact .inr rfl) (by first | exact .inl rfl | exact .inr rfl)) qgs_nil rfl) rfl) rfl rfl rfl)) (fun _ _ _ _ _ => qts_nil) (fun _ _ _ _ _ => (qo_v (qv_tup (qs_cons (qo_v (qv_op o_mul s_mulX (qo_name (i := 2) rfl (by first | exact .inl rfl | exact .inr (.inl rfl) | exact .inr (.inr rfl)) (by decide) (by decide)) (qo_v (qv_callTy cr_int1 s_intF rfl T.n_int PyProof.Rows.boot_int (qs_cons (qo_v (qv_cmp (op_eqD (u64 hr)) s_eqF (qo_v (qv_fn (ks := []) (arr := [.inl 0, .inl 1]) G__law_pull takes0 (hr.mono (by decide)) rfl T.g__law_pull F__law_pull.kp B__law_pull_2 (qs_cons (qo_name (i := 0) rfl (by first | exact .inl rfl | exact .inr (.inl rfl) | exact .inr (.inr rfl)) (by decide) (by decide)) (qs_cons (qo_v qv_int) qs_nil rfl) rfl) qk_nil rfl rfl rfl rfl (by decide) rfl rfl (len_cons (len_cons len_nil)) len_nil)) (qo_v qv_int) (nomark _))) qs_nil rfl) (by decide) (by decide) rfl rfl)))) (qs_cons (qo_name (i := 3) rfl (by first | exact .inl rfl | exact .inr (.inl rfl) | exact .inr (.inr rfl)) (by decide) (by decide)) qs_nil rfl) rfl)))) (fun _ => rfl))) (qs_cons (qo_v (qv_ix ix_seq s_ixF (qo_name (i := 1) rfl (by first | exact .inl rfl | exact .inr (.inl rfl) | exact .inr (.inr rfl)) (by decide) (by decide)) (qo_v qv_int) (fun _ _ => rfl))) qs_nil rfl) rfl) rfl))) qss_nil) rfl
theorem sc__law_figures : FnScope ["_law_bag_here", "_law_p", "_law_many", "_law_k"] ["_law_bag_here", "_law_p", "_law_many"] (defScope z__law_figures.st) := ⟨rfl, rfl, rfl, by decide +kernel, rfl, by decide +kernel, by decide +kernel⟩
theorem ok__law_figures (T : Txt K mg) {fd : FuncData} (F : ZFun K z__law_figures fd) : FnOk Pr w K mg base (L2.CX Pr w) (2) (z__law_figures.at_ K) fd ["_law_bag_here", "_law_p", "_law_many"] (spOf K mg 3 D__law_figures) := by
  have sc := sc__law_figures
  obtain ⟨fd__law_pull, F__law_pull⟩ := T.f__law_pull
  have G__law_pull := ok__law_pull (Pr := Pr) (w := w) (base := base) T F__law_pull
  have B__law_pull_2 : Bnd K mg fd__law_pull ["_law_bag_here", "_law_many"] 2 [] [.inl 0, .inl 1] := bnd_of F__law_pull rfl rfl (fun _ _ _ _ _ _ us ws h1 h2 => match us, ws, h1, h2 with | [_, _], [], _, _ => rfl)
  exact fn_ok (k := 1) (N := ["_law_bag_here", "_law_p", "_law_many", "_law_k"]) (ps := ["_law_bag_here", "_law_p", "_law_many"]) (s := S__law_figures) F sc fun pn cdv A outer sh H E hr => conv (qss_cons (qs_ret (qv_callTy call_tuple_of s_tupleF rfl T.n_tuple PyProof.Rows.boot_tuple (qs_cons (qo_v (qv_lc (own := [("_law_k", 3)]) rfl sc.nd (qi_rng1 rfl T.n_range (qs_cons (qo_name (i := 2) rfl (by first | exact .inl rfl | exact .inr (.inl rfl) | exact .inr (.inr rfl)) (by decide) (by decide)) qs_nil rfl) rfl) (blkOk_by (by rfl)) (fun _ _ _ _ _ => (qg_name (i := 3) sc.nd rfl (by first | exact .inl rfl | exact .inr rfl) (by first | exact .inl rfl | exact .inr rfl))) (fun _ _ _ _ _ => qts_nil) (fun _ _ _ _ _ => (qo_v (qv_fn (ks := []) (arr := [.inl 0, .inl 1]) G__law_pull takes0 (hr.mono (by decide)) rfl T.g__law_pull F__law_pull.kp B__law_pull_2 (qs_cons (qo_name (i := 0) rfl (by first | exact .inl rfl | exact .inr (.inl rfl) | exact .inr (.inr rfl)) (by decide) (by decide)) (qs_cons (qo_name (i := 1) rfl (by first | exact .inl rfl | exact .inr (.inl rfl) | exact .inr (.inr rfl)) (by decide) (by decide)) qs_nil rfl) rfl) qk_nil rfl rfl rfl rfl (by decide) rfl rfl (len_cons (len_cons len_nil)) len_nil))) (fun _ => rfl))) qs_nil rfl) (by decide) (by decide) rfl rfl)) qss_nil) rfl
theorem sc__law_plain : FnScope ["_law_bag_here", "_law_p", "_law_top", "_law_many", "_law_rows", "_law_k"] ["_law_bag_here", "_law_p", "_law_top"] (defScope z__law_plain.st) := ⟨rfl, rfl, rfl, by decide +kernel, rfl, by decide +kernel, by decide +kernel⟩
theorem ok__law_plain (T : Txt K mg) {fd : FuncData} (F : ZFun K z__law_plain fd) : FnOk Pr w K mg base (L2.CX Pr w) (3) (z__law_plain.at_ K) fd ["_law_bag_here", "_law_p", "_law_top"] (spOf K mg 3 D__law_plain) := by
  have sc := sc__law_plain
  obtain ⟨fd__law_pull, F__law_pull⟩ := T.f__law_pull
  have G__law_pull := ok__law_pull (Pr := Pr) (w := w) (base := base) T F__law_pull
  have B__law_pull_2 : Bnd K mg fd__law_pull ["_law_bag_here", "_law_many"] 2 [] [.inl 0, .inl 1] := bnd_of F__law_pull rfl rfl (fun _ _ _ _ _ _ us ws h1 h2 => match us, ws, h1, h2 with | [_, _], [], _, _ => rfl)
  obtain ⟨fd__law_figures, F__law_figures⟩ := T.f__law_figures
  have G__law_figures := ok__law_figures (Pr := Pr) (w := w) (base := base) T F__law_figures
  have B__law_figures_3 : Bnd K mg fd__law_figures ["_law_bag_here", "_law_p", "_law_many"] 3 [] [.inl 0, .inl 1, .inl 2] := bnd_of F__law_figures rfl rfl (fun _ _ _ _ _ _ us ws h1 h2 => match us, ws, h1, h2 with | [_, _, _], [], _, _ => rfl)
  obtain ⟨fd__law_of, F__law_of⟩ := T.f__law_of
  have G__law_of := ok__law_of (Pr := Pr) (w := w) (base := base) T F__law_of
  have B__law_of_2 : Bnd K mg fd__law_of ["_law_bag_here", "_law_some"] 2 [] [.inl 0, .inl 1] := bnd_of F__law_of rfl rfl (fun _ _ _ _ _ _ us ws h1 h2 => match us, ws, h1, h2 with | [_, _], [], _, _ => rfl)
  exact fn_ok (k := 2) (N := ["_law_bag_here", "_law_p", "_law_top", "_law_many", "_law_rows", "_law_k"]) (ps := ["_law_bag_here", "_law_p", "_law_top"]) (s := S__law_plain) F sc fun pn cdv A outer sh H E hr => conv (qss_cons (qs_asg (i := 3) sc.nd rfl (by first | exact .inl rfl | exact .inr rfl) (qv_op o_add s_addX (qo_v qv_int) (qo_v (qv_fn (ks := []) (arr := [.inl 0, .inl 1]) G__law_pull (takes_of rfl rfl rfl rfl) (hr.mono (by decide)) rfl T.g__law_pull F__law_pull.kp B__law_pull_2 (qs_cons (qo_name (i := 0) rfl (by first | exact .inl rfl | exact .inr (.inl rfl) | exact .inr (.inr rfl)) (by decide) (by decide)) (qs_cons (qo_name (i := 2) rfl (by first | exact .inl rfl | exact .inr (.inl rfl) | exact .inr (.inr rfl)) (by decide) (by decide)) qs_nil rfl) rfl) qk_nil rfl rfl rfl rfl (by decide) rfl rfl (len_cons (len_cons len_nil)) len_nil))) rfl (.inl rfl)) (qss_cons (qs_asg (i := 4) sc.nd rfl (by first | exact .inl rfl | exact .inr rfl) (qv_lst qs_nil) rfl (.inl rfl)) (qss_cons (qs_for (passes_of rfl) rfl (qi_rng1 rfl T.n_range (qs_cons (qo_name (i := 3) rfl (by first | exact .inl rfl | exact .inr (.inl rfl) | exact .inr (.inr rfl)) (by decide) (by decide)) qs_nil rfl) rfl) (qg_name (i := 5) sc.nd rfl (by first | exact .inl rfl | exact .inr rfl) (by first | exact .inl rfl | exact .inr rfl)) (qss_cons (qs_expr (qv_mut (i := 4) PySem.F.plainAttrs_list PySem.F.slot_list_append PySem.F.type_list_append mt_append s_appF rfl (by first | exact .inl rfl | exact .inr (.inl rfl) | exact .inr (.inr rfl)) (by decide) (by decide) (qs_cons (qo_v (qv_tup (qs_cons (qo_v (qv_fn (ks := []) (arr := [.inl 0, .inl 1]) G__law_of (takes_of rfl rfl rfl rfl) (hr.mono (by decide)) rfl T.g__law_of F__law_of.kp B__law_of_2 (qs_cons (qo_name (i := 0) rfl (by first | exact .inl rfl | exact .inr (.inl rfl) | exact .inr (.inr rfl)) (by decide) (by decide)) (qs_cons (qo_v (qv_lst (qs_cons (qo_v qv_int) (qs_cons (qo_v qv_int) (qs_cons (qo_v qv_int) (qs_cons (qo_v (qv_op op_sub s_subI (qo_name (i := 1) rfl (by first | exact .inl rfl | exact .inr (.inl rfl) | exact .inr (.inr rfl)) (by decide) (by decide)) (qo_v qv_int))) (qs_cons (qo_v (qv_fn (ks := []) (arr := [.inl 0, .inl 1]) G__law_pull (takes_of rfl rfl rfl rfl) (hr.mono (by decide)) rfl T.g__law_pull F__law_pull.kp B__law_pull_2 (qs_cons (qo_name (i := 0) rfl (by first | exact .inl rfl | exact .inr (.inl rfl) | exact .inr (.inr rfl)) (by decide) (by decide)) (qs_cons (qo_name (i := 1) rfl (by first | exact .inl rfl | exact .inr (.inl rfl) | exact .inr (.inr rfl)) (by decide) (by decide)) qs_nil rfl) rfl) qk_nil rfl rfl rfl rfl (by decide) rfl rfl (len_cons (len_cons len_nil)) len_nil)) qs_nil rfl) rfl) rfl) rfl) rfl))) qs_nil rfl) rfl) qk_nil rfl rfl rfl rfl (by decide) rfl rfl (len_cons (len_cons len_nil)) len_nil)) (qs_cons (qo_v (qv_fn (ks := []) (arr := [.inl 0, .inl 1, .inl 2]) G__law_figures (takes_of rfl rfl rfl rfl) (hr.mono (by decide)) rfl T.g__law_figures F__law_figures.kp B__law_figures_3 (qs_cons (qo_name (i := 0) rfl (by first | exact .inl rfl | exact .inr (.inl rfl) | exact .inr (.inr rfl)) (by decide) (by decide)) (qs_cons (qo_name (i := 3) rfl (by first | exact .inl rfl | exact .inr (.inl rfl) | exact .inr (.inr rfl)) (by decide) (by decide)) (qs_cons (qo_name (i := 1) rfl (by first | exact .inl rfl | exact .inr (.inl rfl) | exact .inr (.inr rfl)) (by decide) (by decide)) qs_nil rfl) rfl) rfl) qk_nil rfl rfl rfl rfl (by decide) rfl rfl (len_cons (len_cons (len_cons len_nil))) len_nil)) qs_nil rfl) rfl))) qs_nil rfl) rfl rfl rfl rfl rfl) rfl) qss_nil) (fun _ => rfl)) (qss_cons (qs_ret (qv_tup (qs_cons (qo_name (i := 1) rfl (by first | exact .inl rfl | exact .inr (.inl rfl) | exact .inr (.inr rfl)) (by decide) (by decide)) (qs_cons (qo_name (i := 4) rfl (by first | exact .inl rfl | exact .inr (.inl rfl) | exact .inr (.inr rfl)) (by decide) (by decide)) (qs_cons (qo_v (qv_fn (ks := []) (arr := [.inl 0, .inl 1]) G__law_pull (takes_of rfl rfl rfl rfl) (hr.mono (by decide)) rfl T.g__law_pull F__law_pull.kp B__law_pull_2 (qs_cons (qo_name (i := 0) rfl (by first | exact .inl rfl | exact .inr (.inl rfl) | exact .inr (.inr rfl)) (by decide) (by decide)) (qs_cons (qo_name (i := 3) rfl (by first | exact .inl rfl | exact .inr (.inl rfl) | exact .inr (.inr rfl)) (by decide) (by decide)) qs_nil rfl) rfl) qk_nil rfl rfl rfl rfl (by decide) rfl rfl (len_cons (len_cons len_nil)) len_nil)) qs_nil rfl) rfl) rfl))) qss_nil)))) rfl
theorem sc_is_number : FnScope ["value"] ["value"] (defScope z_is_number.st) := ⟨rfl, rfl, rfl, by decide +kernel, rfl, by decide +kernel, by decide +kernel⟩
theorem ok_is_number (T : Txt K mg) {fd : FuncData} (F : ZFun K z_is_number fd) : FnOk Pr w K mg base (L2.CX Pr w) (1) (z_is_number.at_ K) fd ["value"] (spOf K mg 1 D_is_number) := by
  have sc := sc_is_number
  exact fn_ok (k := 0) (N := ["value"]) (ps := ["value"]) (s := S_is_number) F sc fun pn cdv A outer sh H E hr => conv (qss_cons (qs_ret (qv_and (qv_isi (T := .int) (by decide) rfl T.n_isinstance PyProof.Rows.boot_int rfl T.n_int (by decide) (by decide) (qo_name (i := 0) rfl (by first | exact .inl rfl | exact .inr (.inl rfl) | exact .inr (.inr rfl)) (by decide) (by decide)) rfl rfl rfl) (qv_one (qv_not (qv_isi (T := .bl) (by decide) rfl T.n_isinstance PyProof.Rows.boot_bool rfl T.n_bool (by decide) (by decide) (qo_name (i := 0) rfl (by first | exact .inl rfl | exact .inr (.inl rfl) | exact .inr (.inr rfl)) (by decide) (by decide)) rfl rfl rfl))))) qss_nil) rfl
theorem sc_is_prime : FnScope ["value"] ["value"] (defScope z_is_prime.st) := ⟨rfl, rfl, rfl, by decide +kernel, rfl, by decide +kernel, by decide +kernel⟩
theorem ok_is_prime (T : Txt K mg) {fd : FuncData} (F : ZFun K z_is_prime fd) : FnOk Pr w K mg base (L2.CX Pr w) (2) (z_is_prime.at_ K) fd ["value"] (spOf K mg 1 D_is_prime) := by
  have sc := sc_is_prime
  obtain ⟨fd_is_number, F_is_number⟩ := T.f_is_number
  have G_is_number := ok_is_number (Pr := Pr) (w := w) (base := base) T F_is_number
  have B_is_number_1 : Bnd K mg fd_is_number ["value"] 1 [] [.inl 0] := bnd_of F_is_number rfl rfl (fun _ _ _ _ _ _ us ws h1 h2 => match us, ws, h1, h2 with | [_], [], _, _ => rfl)
  exact fn_ok (k := 1) (N := ["value"]) (ps := ["value"]) (s := S_is_prime) F sc fun pn cdv A outer sh H E hr => conv (qss_cons (qs_ret (qv_and (qv_fn (ks := []) (arr := [.inl 0]) (pure_ok G_is_number) (takes_of rfl rfl rfl rfl) (hr.mono (by decide)) rfl T.g_is_number F_is_number.kp B_is_number_1 (qs_cons (qo_name (i := 0) rfl (by first | exact .inl rfl | exact .inr (.inl rfl) | exact .inr (.inr rfl)) (by decide) (by decide)) qs_nil rfl) qk_nil rfl rfl rfl rfl (by decide) rfl rfl (len_cons len_nil) len_nil) (qv_one (qv_cmp o_in s_inX (qo_name (i := 0) rfl (by first | exact .inl rfl | exact .inr (.inl rfl) | exact .inr (.inr rfl)) (by decide) (by decide)) (qo_v (qv_glob (v := .ref (He.ga K "PRIMES")) (d := .tup [.int (2), .int (3), .int (5), .int (7)]) rfl T.g_PRIMES rfl (fun G => tup_den T.t_PRIMES rfl G) (by decide))) (by with_unfolding_all rfl))))) qss_nil) rfl
theorem sc_need_prime : FnScope ["value"] ["value"] (defScope z_need_prime.st) := ⟨rfl, rfl, rfl, by decide +kernel, rfl, by decide +kernel, by decide +kernel⟩
theorem ok_need_prime (T : Txt K mg) {fd : FuncData} (F : ZFun K z_need_prime fd) : FnOk Pr w K mg base (L2.CX Pr w) (3) (z_need_prime.at_ K) fd ["value"] (spOf K mg 1 D_need_prime) := by
  have sc := sc_need_prime
  obtain ⟨fd_is_prime, F_is_prime⟩ := T.f_is_prime
  have G_is_prime := ok_is_prime (Pr := Pr) (w := w) (base := base) T F_is_prime
  have B_is_prime_1 : Bnd K mg fd_is_prime ["value"] 1 [] [.inl 0] := bnd_of F_is_prime rfl rfl (fun _ _ _ _ _ _ us ws h1 h2 => match us, ws, h1, h2 with | [_], [], _, _ => rfl)
  exact fn_ok (k := 2) (N := ["value"]) (ps := ["value"]) (s := S_need_prime) F sc fun pn cdv A outer sh H E hr => conv (qss_cons (qs_if (qt_not (qt_truth (qo_v (qv_fn (ks := []) (arr := [.inl 0]) (pure_ok G_is_prime) (takes_of rfl rfl rfl rfl) (hr.mono (by decide)) rfl T.g_is_prime F_is_prime.kp B_is_prime_1 (qs_cons (qo_name (i := 0) rfl (by first | exact .inl rfl | exact .inr (.inl rfl) | exact .inr (.inr rfl)) (by decide) (by decide)) qs_nil rfl) qk_nil rfl rfl rfl rfl (by decide) rfl rfl (len_cons len_nil) len_nil)) (fun _ => rfl))) (qss_cons qs_never qss_nil) qss_nil) qss_nil) rfl
theorem sc_is_within : FnScope ["value", "low", "high"] ["value", "low", "high"] (defScope z_is_within.st) := ⟨rfl, rfl, rfl, by decide +kernel, rfl, by decide +kernel, by decide +kernel⟩
theorem ok_is_within (T : Txt K mg) {fd : FuncData} (F : ZFun K z_is_within fd) : FnOk Pr w K mg base (L2.CX Pr w) (2) (z_is_within.at_ K) fd ["value", "low", "high"] (spOf K mg 3 D_is_within) := by
  have sc := sc_is_within
  obtain ⟨fd_is_number, F_is_number⟩ := T.f_is_number
  have G_is_number := ok_is_number (Pr := Pr) (w := w) (base := base) T F_is_number
  have B_is_number_1 : Bnd K mg fd_is_number ["value"] 1 [] [.inl 0] := bnd_of F_is_number rfl rfl (fun _ _ _ _ _ _ us ws h1 h2 => match us, ws, h1, h2 with | [_], [], _, _ => rfl)
  exact fn_ok (k := 1) (N := ["value", "low", "high"]) (ps := ["value", "low", "high"]) (s := S_is_within) F sc fun pn cdv A outer sh H E hr => conv (qss_cons (qs_ret (qv_and (qv_fn (ks := []) (arr := [.inl 0]) (pure_ok G_is_number) (takes_of rfl rfl rfl rfl) (hr.mono (by decide)) rfl T.g_is_number F_is_number.kp B_is_number_1 (qs_cons (qo_name (i := 0) rfl (by first | exact .inl rfl | exact .inr (.inl rfl) | exact .inr (.inr rfl)) (by decide) (by decide)) qs_nil rfl) qk_nil rfl rfl rfl rfl (by decide) rfl rfl (len_cons len_nil) len_nil) (qv_one (qv_chain op_le s_leI op_le s_leI (qo_name (i := 1) rfl (by first | exact .inl rfl | exact .inr (.inl rfl) | exact .inr (.inr rfl)) (by decide) (by decide)) (qo_name (i := 0) rfl (by first | exact .inl rfl | exact .inr (.inl rfl) | exact .inr (.inr rfl)) (by decide) (by decide)) (qo_name (i := 2) rfl (by first | exact .inl rfl | exact .inr (.inl rfl) | exact .inr (.inr rfl)) (by decide) (by decide)) (by with_unfolding_all rfl))))) qss_nil) rfl
theorem sc_is_figure : FnScope ["prime", "value"] ["prime", "value"] (defScope z_is_figure.st) := ⟨rfl, rfl, rfl, by decide +kernel, rfl, by decide +kernel, by decide +kernel⟩
theorem ok_is_figure (T : Txt K mg) {fd : FuncData} (F : ZFun K z_is_figure fd) : FnOk Pr w K mg base (L2.CX Pr w) (3) (z_is_figure.at_ K) fd ["prime", "value"] (spOf K mg 2 D_is_figure) := by
  have sc := sc_is_figure
  obtain ⟨fd_is_within, F_is_within⟩ := T.f_is_within
  have G_is_within := ok_is_within (Pr := Pr) (w := w) (base := base) T F_is_within
  have B_is_within_3 : Bnd K mg fd_is_within ["value", "low", "high"] 3 [] [.inl 0, .inl 1, .inl 2] := bnd_of F_is_within rfl rfl (fun _ _ _ _ _ _ us ws h1 h2 => match us, ws, h1, h2 with | [_, _, _], [], _, _ => rfl)
  exact fn_ok (k := 2) (N := ["prime", "value"]) (ps := ["prime", "value"]) (s := S_is_figure) F sc fun pn cdv A outer sh H E hr => conv (qss_cons (qs_ret (qv_fn (ks := []) (arr := [.inl 0, .inl 1, .inl 2]) (pure_ok G_is_within) (takes_of rfl rfl rfl rfl) (hr.mono (by decide)) rfl T.g_is_within F_is_within.kp B_is_within_3 (qs_cons (qo_name (i := 1) rfl (by first | exact .inl rfl | exact .inr (.inl rfl) | exact .inr (.inr rfl)) (by decide) (by decide)) (qs_cons (qo_v qv_int) (qs_cons (qo_v (qv_op op_sub s_subI (qo_name (i := 0) rfl (by first | exact .inl rfl | exact .inr (.inl rfl) | exact .inr (.inr rfl)) (by decide) (by decide)) (qo_v qv_int))) qs_nil rfl) rfl) rfl) qk_nil rfl rfl rfl rfl (by decide) rfl rfl (len_cons (len_cons (len_cons len_nil))) len_nil)) qss_nil) rfl
theorem sc_is_state : FnScope ["prime", "value", "many", "targets", "target"] ["prime", "value", "many"] (defScope z_is_state.st) := ⟨rfl, rfl, rfl, by decide +kernel, rfl, by decide +kernel, by decide +kernel⟩
theorem ok_is_state (T : Txt K mg) {fd : FuncData} (F : ZFun K z_is_state fd) : FnOk Pr w K mg base (L2.CX Pr w) (4) (z_is_state.at_ K) fd ["prime", "value", "many"] (spOf K mg 3 D_is_state) := by
  have sc := sc_is_state
  obtain ⟨fd_is_figure, F_is_figure⟩ := T.f_is_figure
  have G_is_figure := ok_is_figure (Pr := Pr) (w := w) (base := base) T F_is_figure
  have B_is_figure_2 : Bnd K mg fd_is_figure ["prime", "value"] 2 [] [.inl 0, .inl 1] := bnd_of F_is_figure rfl rfl (fun _ _ _ _ _ _ us ws h1 h2 => match us, ws, h1, h2 with | [_, _], [], _, _ => rfl)
  obtain ⟨fd_is_within, F_is_within⟩ := T.f_is_within
  have G_is_within := ok_is_within (Pr := Pr) (w := w) (base := base) T F_is_within
  have B_is_within_3 : Bnd K mg fd_is_within ["value", "low", "high"] 3 [] [.inl 0, .inl 1, .inl 2] := bnd_of F_is_within rfl rfl (fun _ _ _ _ _ _ us ws h1 h2 => match us, ws, h1, h2 with | [_, _, _], [], _, _ => rfl)
  exact fn_ok (k := 3) (N := ["prime", "value", "many", "targets", "target"]) (ps := ["prime", "value", "many"]) (s := S_is_state) F sc fun pn cdv A outer sh H E hr => conv (qss_cons (qs_if (qt_w (qw_or (qt_not (qt_truth (qo_v (qv_isi (T := .tup) (by decide) rfl T.n_isinstance PyProof.Rows.boot_tuple rfl T.n_tuple (by decide) (by decide) (qo_name (i := 1) rfl (by first | exact .inl rfl | exact .inr (.inl rfl) | exact .inr (.inr rfl)) (by decide) (by decide)) rfl rfl rfl)) (fun _ => rfl))) (qw_or (qt_cmp (op_neD (u64 hr)) s_neF (qo_v (qv_callB cr_len1 s_lenF rfl T.n_len boot_len (qs_cons (qo_name (i := 1) rfl (by first | exact .inl rfl | exact .inr (.inl rfl) | exact .inr (.inr rfl)) (by decide) (by decide)) qs_nil rfl) (by decide) (by decide) rfl rfl)) (qo_v qv_int) (nomark _)) (qw_or1 (qt_not (qt_truth (qo_v (qv_fn (ks := []) (arr := [.inl 0, .inl 1]) (pure_ok G_is_figure) (takes_of rfl rfl rfl rfl) (hr.mono (by decide)) rfl T.g_is_figure F_is_figure.kp B_is_figure_2 (qs_cons (qo_name (i := 0) rfl (by first | exact .inl rfl | exact .inr (.inl rfl) | exact .inr (.inr rfl)) (by decide) (by decide)) (qs_cons (qo_v (qv_ix ix_seq s_ixF (qo_name (i := 1) rfl (by first | exact .inl rfl | exact .inr (.inl rfl) | exact .inr (.inr rfl)) (by decide) (by decide)) (qo_v qv_int) (fun _ _ => rfl))) qs_nil rfl) rfl) qk_nil rfl rfl rfl rfl (by decide) rfl rfl (len_cons (len_cons len_nil)) len_nil)) (fun _ => rfl))))))) (qss_cons (qs_ret qv_bl) qss_nil) qss_nil) (qss_cons (qs_asg (i := 3) sc.nd rfl (by first | exact .inl rfl | exact .inr rfl) (qv_ix ix_seq s_ixF (qo_name (i := 1) rfl (by first | exact .inl rfl | exact .inr (.inl rfl) | exact .inr (.inr rfl)) (by decide) (by decide)) (qo_v qv_int) (fun _ _ => rfl)) rfl (.inl rfl)) (qss_cons (qs_if (qt_w (qw_or (qt_not (qt_truth (qo_v (qv_isi (T := .tup) (by decide) rfl T.n_isinstance PyProof.Rows.boot_tuple rfl T.n_tuple (by decide) (by decide) (qo_name (i := 3) rfl (by first | exact .inl rfl | exact .inr (.inl rfl) | exact .inr (.inr rfl)) (by decide) (by decide)) rfl rfl rfl)) (fun _ => rfl))) (qw_or1 (qt_cmp (op_neD (u64 hr)) s_neF (qo_v (qv_callB cr_len1 s_lenF rfl T.n_len boot_len (qs_cons (qo_name (i := 3) rfl (by first | exact .inl rfl | exact .inr (.inl rfl) | exact .inr (.inr rfl)) (by decide) (by decide)) qs_nil rfl) (by decide) (by decide) rfl rfl)) (qo_name (i := 0) rfl (by first | exact .inl rfl | exact .inr (.inl rfl) | exact .inr (.inr rfl)) (by decide) (by decide)) (nomark _))))) (qss_cons (qs_ret qv_bl) qss_nil) qss_nil) (qss_cons (qs_ret (qv_callB (cr_all rfl) s_allF rfl T.n_all PyProof.Rows.boot_all (qs_cons (qo_v (qv_lc (own := [("target", 4)]) rfl sc.nd (qi_seq (qo_name (i := 3) rfl (by first | exact .inl rfl | exact .inr (.inl rfl) | exact .inr (.inr rfl)) (by decide) (by decide))) (blkOk_by (by rfl)) (fun _ _ _ _ _ => (qg_name (i := 4) sc.nd rfl (by first | exact .inl rfl | exact .inr rfl) (by first | exact .inl rfl | exact .inr rfl))) (fun _ _ _ _ _ => qts_nil) (fun _ _ _ _ _ => (qo_v (qv_fn (ks := []) (arr := [.inl 0, .inl 1, .inl 2]) (pure_ok G_is_within) takes0 (hr.mono (by decide)) rfl T.g_is_within F_is_within.kp B_is_within_3 (qs_cons (qo_name (i := 4) rfl (by first | exact .inl rfl | exact .inr (.inl rfl) | exact .inr (.inr rfl)) (by decide) (by decide)) (qs_cons (qo_v qv_int) (qs_cons (qo_v (qv_op op_sub s_subI (qo_name (i := 2) rfl (by first | exact .inl rfl | exact .inr (.inl rfl) | exact .inr (.inr rfl)) (by decide) (by decide)) (qo_v qv_int))) qs_nil rfl) rfl) rfl) qk_nil rfl rfl rfl rfl (by decide) rfl rfl (len_cons (len_cons (len_cons len_nil))) len_nil))) (fun _ => rfl))) qs_nil rfl) (by decide) (by decide) rfl rfl)) qss_nil)))) rfl
theorem sc_Turner___init__ : FnScope ["self", "prime", "states", "start", "index", "state"] ["self", "prime", "states", "start"] (defScope z_Turner___init__.st) := ⟨rfl, rfl, rfl, by decide +kernel, rfl, by decide +kernel, by decide +kernel⟩
theorem ok_Turner___init__ (T : Txt K mg) {fd : FuncData} (F : ZFun K z_Turner___init__ fd) : FnOk Pr w K mg base (L2.CX Pr w) (5) (z_Turner___init__.at_ K) fd ["self", "prime", "states", "start"] (spOf K mg 4 D_Turner___init__) := by
  have sc := sc_Turner___init__
  obtain ⟨fd_need_prime, F_need_prime⟩ := T.f_need_prime
  have G_need_prime := ok_need_prime (Pr := Pr) (w := w) (base := base) T F_need_prime
  have B_need_prime_1 : Bnd K mg fd_need_prime ["value"] 1 [] [.inl 0] := bnd_of F_need_prime rfl rfl (fun _ _ _ _ _ _ us ws h1 h2 => match us, ws, h1, h2 with | [_], [], _, _ => rfl)
  obtain ⟨fd_is_state, F_is_state⟩ := T.f_is_state
  have G_is_state := ok_is_state (Pr := Pr) (w := w) (base := base) T F_is_state
  have B_is_state_3 : Bnd K mg fd_is_state ["prime", "value", "many"] 3 [] [.inl 0, .inl 1, .inl 2] := bnd_of F_is_state rfl rfl (fun _ _ _ _ _ _ us ws h1 h2 => match us, ws, h1, h2 with | [_, _, _], [], _, _ => rfl)
  obtain ⟨fd_is_within, F_is_within⟩ := T.f_is_within
  have G_is_within := ok_is_within (Pr := Pr) (w := w) (base := base) T F_is_within
  have B_is_within_3 : Bnd K mg fd_is_within ["value", "low", "high"] 3 [] [.inl 0, .inl 1, .inl 2] := bnd_of F_is_within rfl rfl (fun _ _ _ _ _ _ us ws h1 h2 => match us, ws, h1, h2 with | [_, _, _], [], _, _ => rfl)
  exact fn_ok (k := 4) (N := ["self", "prime", "states", "start", "index", "state"]) (ps := ["self", "prime", "states", "start"]) (s := S_Turner___init__) F sc fun pn cdv A outer sh H E hr => conv (qss_cons (qs_expr (qv_fn (ks := []) (arr := [.inl 0]) (pure_ok G_need_prime) (takes_of rfl rfl rfl rfl) (hr.mono (by decide)) rfl T.g_need_prime F_need_prime.kp B_need_prime_1 (qs_cons (qo_name (i := 1) rfl (by first | exact .inl rfl | exact .inr (.inl rfl) | exact .inr (.inr rfl)) (by decide) (by decide)) qs_nil rfl) qk_nil rfl rfl rfl rfl (by decide) rfl rfl (len_cons len_nil) len_nil) rfl) (qss_cons (qs_for (passes_of rfl) rfl (qi_enumJ rfl T.n_enumerate (qo_name (i := 2) rfl (by first | exact .inl rfl | exact .inr (.inl rfl) | exact .inr (.inr rfl)) (by decide) (by decide)) rfl) (qg_tup (n := 2) rfl (qgs_cons (qg_name (i := 4) sc.nd rfl (by first | exact .inl rfl | exact .inr rfl) (by first | exact .inl rfl | exact .inr rfl)) (qgs_cons (qg_name (i := 5) sc.nd rfl (by first | exact .inl rfl | exact .inr rfl) (by first | exact .inl rfl | exact .inr rfl)) qgs_nil rfl) rfl) rfl rfl rfl) (qss_cons (qs_if (qt_w (qw_or (qt_cmp (op_eqD (u64 hr)) s_eqF (qo_name (i := 4) rfl (by first | exact .inl rfl | exact .inr (.inl rfl) | exact .inr (.inr rfl)) (by decide) (by decide)) (qo_v (qv_cval (v := He.Dv.v K (.int (240))) (d := .int (240)) rfl T.g_Turner T.v_Turner_MOST.1 T.v_Turner_MOST.2.choose_spec (fun G => dvD_den rfl G) (by decide) rfl)) (nomark _)) (qw_or1 (qt_not (qt_truth (qo_v (qv_fn (ks := []) (arr := [.inl 0, .inl 1, .inl 2]) (pure_ok G_is_state) (takes_of rfl rfl rfl rfl) (hr.mono (by decide)) rfl T.g_is_state F_is_state.kp B_is_state_3 (qs_cons (qo_name (i := 1) rfl (by first | exact .inl rfl | exact .inr (.inl rfl) | exact .inr (.inr rfl)) (by decide) (by decide)) (qs_cons (qo_name (i := 5) rfl (by first | exact .inl rfl | exact .inr (.inl rfl) | exact .inr (.inr rfl)) (by decide) (by decide)) (qs_cons (qo_v (qv_callB cr_len1 s_lenF rfl T.n_len boot_len (qs_cons (qo_name (i := 2) rfl (by first | exact .inl rfl | exact .inr (.inl rfl) | exact .inr (.inr rfl)) (by decide) (by decide)) qs_nil rfl) (by decide) (by decide) rfl rfl)) qs_nil rfl) rfl) rfl) qk_nil rfl rfl rfl rfl (by decide) rfl rfl (len_cons (len_cons (len_cons len_nil))) len_nil)) (fun _ => rfl)))))) (qss_cons qs_never qss_nil) qss_nil) qss_nil) (fun _ => rfl)) (qss_cons (qs_if (qt_cmp (op_eqD (u64 hr)) s_eqF (qo_v (qv_callB cr_len1 s_lenF rfl T.n_len boot_len (qs_cons (qo_name (i := 2) rfl (by first | exact .inl rfl | exact .inr (.inl rfl) | exact .inr (.inr rfl)) (by decide) (by decide)) qs_nil rfl) (by decide) (by decide) rfl rfl)) (qo_v qv_int) (nomark _)) (qss_cons qs_never qss_nil) qss_nil) (qss_cons (qs_if (qt_not (qt_truth (qo_v (qv_fn (ks := []) (arr := [.inl 0, .inl 1, .inl 2]) (pure_ok G_is_within) (takes_of rfl rfl rfl rfl) (hr.mono (by decide)) rfl T.g_is_within F_is_within.kp B_is_within_3 (qs_cons (qo_name (i := 3) rfl (by first | exact .inl rfl | exact .inr (.inl rfl) | exact .inr (.inr rfl)) (by decide) (by decide)) (qs_cons (qo_v qv_int) (qs_cons (qo_v (qv_op op_sub s_subI (qo_v (qv_callB cr_len1 s_lenF rfl T.n_len boot_len (qs_cons (qo_name (i := 2) rfl (by first | exact .inl rfl | exact .inr (.inl rfl) | exact .inr (.inr rfl)) (by decide) (by decide)) qs_nil rfl) (by decide) (by decide) rfl rfl)) (qo_v qv_int))) qs_nil rfl) rfl) rfl) qk_nil rfl rfl rfl rfl (by decide) rfl rfl (len_cons (len_cons (len_cons len_nil))) len_nil)) (fun _ => rfl))) (qss_cons qs_never qss_nil) qss_nil) (qss_cons (qs_fld (cs := ["Turner"]) (i := 0) (fun c hc => by obtain rfl := List.mem_singleton.mp hc; exact ⟨_, T.g_Turner, T.c_Turner, T.na_Turner_own_prime⟩) rfl (by first | exact .inl rfl | exact .inr (.inl rfl) | exact .inr (.inr rfl)) (by decide) (by decide) (qo_name (i := 1) rfl (by first | exact .inl rfl | exact .inr (.inl rfl) | exact .inr (.inr rfl)) (by decide) (by decide)) rfl) (qss_cons (qs_fld (cs := ["Turner"]) (i := 0) (fun c hc => by obtain rfl := List.mem_singleton.mp hc; exact ⟨_, T.g_Turner, T.c_Turner, T.na_Turner_own_states⟩) rfl (by first | exact .inl rfl | exact .inr (.inl rfl) | exact .inr (.inr rfl)) (by decide) (by decide) (qo_v (qv_callTy call_list_of s_listF rfl T.n_list PyProof.Rows.boot_list (qs_cons (qo_name (i := 2) rfl (by first | exact .inl rfl | exact .inr (.inl rfl) | exact .inr (.inr rfl)) (by decide) (by decide)) qs_nil rfl) (by decide) (by decide) rfl rfl)) rfl) (qss_cons (qs_fld (cs := ["Turner"]) (i := 0) (fun c hc => by obtain rfl := List.mem_singleton.mp hc; exact ⟨_, T.g_Turner, T.c_Turner, T.na_Turner_own_start⟩) rfl (by first | exact .inl rfl | exact .inr (.inl rfl) | exact .inr (.inr rfl)) (by decide) (by decide) (qo_name (i := 3) rfl (by first | exact .inl rfl | exact .inr (.inl rfl) | exact .inr (.inr rfl)) (by decide) (by decide)) rfl) qss_nil))))))) rfl
theorem sc__law_made : FnScope ["_law_m"] ["_law_m"] (defScope z__law_made.st) := ⟨rfl, rfl, rfl, by decide +kernel, rfl, by decide +kernel, by decide +kernel⟩
theorem ok__law_made (T : Txt K mg) {fd : FuncData} (F : ZFun K z__law_made fd) : FnOk Pr w K mg base (L2.CX Pr w) (7) (z__law_made.at_ K) fd ["_law_m"] (spOf K mg 1 D__law_made) := by
  have sc := sc__law_made
  obtain ⟨fd_Turner___init__, F_Turner___init__⟩ := T.f_Turner___init__
  have G_Turner___init__ := ok_Turner___init__ (Pr := Pr) (w := w) (base := base) T F_Turner___init__
  have B_Turner___init___2_start : BndI K mg fd_Turner___init__ ["self", "prime", "states", "start"] 2 ["start"] [.inl 0, .inl 1, .inl 2] := bndI_of F_Turner___init__ rfl rfl (fun _ _ _ _ _ _ _ us ws h1 h2 => match us, ws, h1, h2 with | [_, _], [_], _, _ => rfl)
  exact fn_ok (k := 6) (N := ["_law_m"]) (ps := ["_law_m"]) (s := S__law_made) F sc fun pn cdv A outer sh H E hr => conv (qss_cons (qs_ret (qv_sh (qv_make (ks := ["start"]) (arr := [.inl 0, .inl 1, .inl 2]) G_Turner___init__ (takes_of rfl rfl rfl rfl) (hr.mono (by decide)) rfl T.g_Turner T.m_Turner B_Turner___init___2_start (qs_cons (qo_v (qv_ix ix_seq s_ixF (qo_name (i := 0) rfl (by first | exact .inl rfl | exact .inr (.inl rfl) | exact .inr (.inr rfl)) (by decide) (by decide)) (qo_v qv_int) (fun _ _ => rfl))) (qs_cons (qo_v (qv_callTy call_list_of s_listF rfl T.n_list PyProof.Rows.boot_list (qs_cons (qo_v (qv_ix ix_seq s_ixF (qo_name (i := 0) rfl (by first | exact .inl rfl | exact .inr (.inl rfl) | exact .inr (.inr rfl)) (by decide) (by decide)) (qo_v qv_int) (fun _ _ => rfl))) qs_nil rfl) (by decide) (by decide) rfl rfl)) qs_nil rfl) rfl) (qk_cons (qo_v (qv_ix ix_seq s_ixF (qo_name (i := 0) rfl (by first | exact .inl rfl | exact .inr (.inl rfl) | exact .inr (.inr rfl)) (by decide) (by decide)) (qo_v qv_int) (fun _ _ => rfl))) qk_nil) rfl rfl (by decide) rfl rfl (len_cons (len_cons len_nil)) (len_cons len_nil)))) qss_nil) rfl
theorem sc__law_few : FnScope ["_law_p"] ["_law_p"] (defScope z__law_few.st) := ⟨rfl, rfl, rfl, by decide +kernel, rfl, by decide +kernel, by decide +kernel⟩
theorem ok__law_few (T : Txt K mg) {fd : FuncData} (F : ZFun K z__law_few fd) : FnOk Pr w K mg base (L2.CX Pr w) (1) (z__law_few.at_ K) fd ["_law_p"] (spOf K mg 1 D__law_few) := by
  have sc := sc__law_few
  exact fn_ok (k := 0) (N := ["_law_p"]) (ps := ["_law_p"]) (s := S__law_few) F sc fun pn cdv A outer sh H E hr => conv (qss_cons (qs_ret (qv_dcon (kvs := [(.inl 2, .inl 8), (.inl 3, .inl 5), (.inl 5, .inl 3), (.inl 7, .inl 3)]) (u2 hr) (pps_cons pe_int pe_int (pps_cons pe_int pe_int (pps_cons pe_int pe_int (pps_cons pe_int pe_int pps_nil)))) rfl rfl (by simp) (by decide) (by decide) rfl (qo_name (i := 0) rfl (by first | exact .inl rfl | exact .inr (.inl rfl) | exact .inr (.inr rfl)) (by decide) (by decide)) (fun _ _ => rfl))) qss_nil) rfl
theorem sc__law_all_rows : FnScope ["_law_p", "_law_many", "_law_found", "_law_k", "_law_late", "_law_x", "_law_row"] ["_law_p", "_law_many"] (defScope z__law_all_rows.st) := ⟨rfl, rfl, rfl, by decide +kernel, rfl, by decide +kernel, by decide +kernel⟩
theorem ok__law_all_rows (T : Txt K mg) {fd : FuncData} (F : ZFun K z__law_all_rows fd) : FnOk Pr w K mg base (L2.CX Pr w) (1) (z__law_all_rows.at_ K) fd ["_law_p", "_law_many"] (spOf K mg 2 D__law_all_rows) := by
  have sc := sc__law_all_rows
  exact fn_ok (k := 0) (N := ["_law_p", "_law_many", "_law_found", "_law_k", "_law_late", "_law_x", "_law_row"]) (ps := ["_law_p", "_law_many"]) (s := S__law_all_rows) F sc fun pn cdv A outer sh H E hr => conv (qss_cons (qs_asg (i := 2) sc.nd rfl (by first | exact .inl rfl | exact .inr rfl) (qv_lst (qs_cons (qo_v (qv_tup qs_nil)) qs_nil rfl)) rfl (.inl rfl)) (qss_cons (qs_for (passes_of rfl) rfl (qi_rng1 rfl T.n_range (qs_cons (qo_name (i := 1) rfl (by first | exact .inl rfl | exact .inr (.inl rfl) | exact .inr (.inr rfl)) (by decide) (by decide)) qs_nil rfl) rfl) (qg_name (i := 3) sc.nd rfl (by first | exact .inl rfl | exact .inr rfl) (by first | exact .inl rfl | exact .inr rfl)) (qss_cons (qs_asg (i := 4) sc.nd rfl (by first | exact .inl rfl | exact .inr rfl) (qv_lst qs_nil) rfl (.inl rfl)) (qss_cons (qs_for (passes_of rfl) rfl (qi_rng1 rfl T.n_range (qs_cons (qo_name (i := 0) rfl (by first | exact .inl rfl | exact .inr (.inl rfl) | exact .inr (.inr rfl)) (by decide) (by decide)) qs_nil rfl) rfl) (qg_name (i := 5) sc.nd rfl (by first | exact .inl rfl | exact .inr rfl) (by first | exact .inl rfl | exact .inr rfl)) (qss_cons (qs_asg (i := 4) sc.nd rfl (by first | exact .inl rfl | exact .inr rfl) (qv_op o_add s_addX (qo_name (i := 4) rfl (by first | exact .inl rfl | exact .inr (.inl rfl) | exact .inr (.inr rfl)) (by decide) (by decide)) (qo_v (qv_lc (own := [("_law_row", 6)]) rfl sc.nd (qi_seq (qo_name (i := 2) rfl (by first | exact .inl rfl | exact .inr (.inl rfl) | exact .inr (.inr rfl)) (by decide) (by decide))) (blkOk_by (by rfl)) (fun _ _ _ _ _ => (qg_name (i := 6) sc.nd rfl (by first | exact .inl rfl | exact .inr rfl) (by first | exact .inl rfl | exact .inr rfl))) (fun _ _ _ _ _ => qts_nil) (fun _ _ _ _ _ => (qo_v (qv_op o_add s_addX (qo_name (i := 6) rfl (by first | exact .inl rfl | exact .inr (.inl rfl) | exact .inr (.inr rfl)) (by decide) (by decide)) (qo_v (qv_tup (qs_cons (qo_name (i := 5) rfl (by first | exact .inl rfl | exact .inr (.inl rfl) | exact .inr (.inr rfl)) (by decide) (by decide)) qs_nil rfl)))))) (fun _ => rfl)))) rfl (.inl rfl)) qss_nil) (fun _ => rfl)) (qss_cons (qs_asg (i := 2) sc.nd rfl (by first | exact .inl rfl | exact .inr rfl) (qv_o (qo_name (i := 4) rfl (by first | exact .inl rfl | exact .inr (.inl rfl) | exact .inr (.inr rfl)) (by decide) (by decide))) rfl (.inl rfl)) qss_nil))) (fun _ => rfl)) (qss_cons (qs_retName (i := 2) rfl (by first | exact .inl rfl | exact .inr (.inl rfl) | exact .inr (.inr rfl)) (by decide) (by decide)) qss_nil))) rfl
theorem sc__law_way : FnScope ["_law_m", "_law_row", "_law_found", "_law_here", "_law_x"] ["_law_m", "_law_row"] (defScope z__law_way.st) := ⟨rfl, rfl, rfl, by decide +kernel, rfl, by decide +kernel, by decide +kernel⟩
theorem ok__law_way (T : Txt K mg) {fd : FuncData} (F : ZFun K z__law_way fd) : FnOk Pr w K mg base (L2.CX Pr w) (1) (z__law_way.at_ K) fd ["_law_m", "_law_row"] (spOf K mg 2 D__law_way) := by
  have sc := sc__law_way
  exact fn_ok (k := 0) (N := ["_law_m", "_law_row", "_law_found", "_law_here", "_law_x"]) (ps := ["_law_m", "_law_row"]) (s := S__law_way) F sc fun pn cdv A outer sh H E hr => conv (qss_cons (qs_par (i := 2) (j := 3) rfl sc.nd rfl rfl (by decide) rfl rfl (qv_lst qs_nil) (qv_ix ix_seq s_ixF (qo_name (i := 0) rfl (by first | exact .inl rfl | exact .inr (.inl rfl) | exact .inr (.inr rfl)) (by decide) (by decide)) (qo_v qv_int) (fun _ _ => rfl)) rfl rfl rfl rfl) (qss_cons (qs_for (passes_of rfl) rfl (qi_seq (qo_name (i := 1) rfl (by first | exact .inl rfl | exact .inr (.inl rfl) | exact .inr (.inr rfl)) (by decide) (by decide))) (qg_name (i := 4) sc.nd rfl (by first | exact .inl rfl | exact .inr rfl) (by first | exact .inl rfl | exact .inr rfl)) (qss_cons (qs_expr (qv_mut (i := 2) PySem.F.plainAttrs_list PySem.F.slot_list_append PySem.F.type_list_append mt_append s_appF rfl (by first | exact .inl rfl | exact .inr (.inl rfl) | exact .inr (.inr rfl)) (by decide) (by decide) (qs_cons (qo_name (i := 3) rfl (by first | exact .inl rfl | exact .inr (.inl rfl) | exact .inr (.inr rfl)) (by decide) (by decide)) qs_nil rfl) rfl rfl rfl rfl rfl) rfl) (qss_cons (qs_asg (i := 3) sc.nd rfl (by first | exact .inl rfl | exact .inr rfl) (qv_ix ix_seq s_ixF (qo_v (qv_ix ix_seq s_ixF (qo_v (qv_ix ix_seq s_ixF (qo_v (qv_ix ix_seq s_ixF (qo_name (i := 0) rfl (by first | exact .inl rfl | exact .inr (.inl rfl) | exact .inr (.inr rfl)) (by decide) (by decide)) (qo_v qv_int) (fun _ _ => rfl))) (qo_name (i := 3) rfl (by first | exact .inl rfl | exact .inr (.inl rfl) | exact .inr (.inr rfl)) (by decide) (by decide)) (fun _ _ => rfl))) (qo_v qv_int) (fun _ _ => rfl))) (qo_name (i := 4) rfl (by first | exact .inl rfl | exact .inr (.inl rfl) | exact .inr (.inr rfl)) (by decide) (by decide)) (fun _ _ => rfl)) rfl (.inl rfl)) qss_nil)) (fun _ => rfl)) (qss_cons (qs_retName (i := 2) rfl (by first | exact .inl rfl | exact .inr (.inl rfl) | exact .inr (.inr rfl)) (by decide) (by decide)) qss_nil))) rfl
theorem sc__law_behind : FnScope ["_law_m", "_law_row", "_law_way_here", "_law_k"] ["_law_m", "_law_row"] (defScope z__law_behind.st) := ⟨rfl, rfl, rfl, by decide +kernel, rfl, by decide +kernel, by decide +kernel⟩
theorem ok__law_behind (T : Txt K mg) {fd : FuncData} (F : ZFun K z__law_behind fd) : FnOk Pr w K mg base (L2.CX Pr w) (2) (z__law_behind.at_ K) fd ["_law_m", "_law_row"] (spOf K mg 2 D__law_behind) := by
  have sc := sc__law_behind
  obtain ⟨fd__law_way, F__law_way⟩ := T.f__law_way
  have G__law_way := ok__law_way (Pr := Pr) (w := w) (base := base) T F__law_way
  have B__law_way_2 : Bnd K mg fd__law_way ["_law_m", "_law_row"] 2 [] [.inl 0, .inl 1] := bnd_of F__law_way rfl rfl (fun _ _ _ _ _ _ us ws h1 h2 => match us, ws, h1, h2 with | [_, _], [], _, _ => rfl)
  exact fn_ok (k := 1) (N := ["_law_m", "_law_row", "_law_way_here", "_law_k"]) (ps := ["_law_m", "_law_row"]) (s := S__law_behind) F sc fun pn cdv A outer sh H E hr => conv (qss_cons (qs_asg (i := 2) sc.nd rfl (by first | exact .inl rfl | exact .inr rfl) (qv_fn (ks := []) (arr := [.inl 0, .inl 1]) (pure_ok G__law_way) (takes_of rfl rfl rfl rfl) (hr.mono (by decide)) rfl T.g__law_way F__law_way.kp B__law_way_2 (qs_cons (qo_name (i := 0) rfl (by first | exact .inl rfl | exact .inr (.inl rfl) | exact .inr (.inr rfl)) (by decide) (by decide)) (qs_cons (qo_name (i := 1) rfl (by first | exact .inl rfl | exact .inr (.inl rfl) | exact .inr (.inr rfl)) (by decide) (by decide)) qs_nil rfl) rfl) qk_nil rfl rfl rfl rfl (by decide) rfl rfl (len_cons (len_cons len_nil)) len_nil) rfl (.inl rfl)) (qss_cons (qs_ret (qv_callTy call_tuple_of s_tupleF rfl T.n_tuple PyProof.Rows.boot_tuple (qs_cons (qo_v (qv_lc (own := [("_law_k", 3)]) rfl sc.nd (qi_rng1 rfl T.n_range (qs_cons (qo_v (qv_callB cr_len1 s_lenF rfl T.n_len boot_len (qs_cons (qo_name (i := 1) rfl (by first | exact .inl rfl | exact .inr (.inl rfl) | exact .inr (.inr rfl)) (by decide) (by decide)) qs_nil rfl) (by decide) (by decide) rfl rfl)) qs_nil rfl) rfl) (blkOk_by (by rfl)) (fun _ _ _ _ _ => (qg_name (i := 3) sc.nd rfl (by first | exact .inl rfl | exact .inr rfl) (by first | exact .inl rfl | exact .inr rfl))) (fun _ _ _ _ _ => qts_nil) (fun _ _ _ _ _ => (qo_v (qv_op op_mod s_modI (qo_v (qv_callTy cr_int1 s_intF rfl T.n_int PyProof.Rows.boot_int (qs_cons (qo_v (qv_op o_add s_addX (qo_v (qv_ix ix_seq s_ixF (qo_name (i := 1) rfl (by first | exact .inl rfl | exact .inr (.inl rfl) | exact .inr (.inr rfl)) (by decide) (by decide)) (qo_name (i := 3) rfl (by first | exact .inl rfl | exact .inr (.inl rfl) | exact .inr (.inr rfl)) (by decide) (by decide)) (fun _ _ => rfl))) (qo_v (qv_ix ix_seq s_ixF (qo_v (qv_ix ix_seq s_ixF (qo_v (qv_ix ix_seq s_ixF (qo_name (i := 0) rfl (by first | exact .inl rfl | exact .inr (.inl rfl) | exact .inr (.inr rfl)) (by decide) (by decide)) (qo_v qv_int) (fun _ _ => rfl))) (qo_v (qv_ix ix_seq s_ixF (qo_name (i := 2) rfl (by first | exact .inl rfl | exact .inr (.inl rfl) | exact .inr (.inr rfl)) (by decide) (by decide)) (qo_name (i := 3) rfl (by first | exact .inl rfl | exact .inr (.inl rfl) | exact .inr (.inr rfl)) (by decide) (by decide)) (fun _ _ => rfl))) (fun _ _ => rfl))) (qo_v qv_int) (fun _ _ => rfl))))) qs_nil rfl) (by decide) (by decide) rfl rfl)) (qo_v (qv_ix ix_seq s_ixF (qo_name (i := 0) rfl (by first | exact .inl rfl | exact .inr (.inl rfl) | exact .inr (.inr rfl)) (by decide) (by decide)) (qo_v qv_int) (fun _ _ => rfl)))))) (fun _ => rfl))) qs_nil rfl) (by decide) (by decide) rfl rfl)) qss_nil)) rfl
theorem sc__law_same : FnScope ["_law_found", "_law_due", "_law_a", "_law_b"] ["_law_found", "_law_due"] (defScope z__law_same.st) := ⟨rfl, rfl, rfl, by decide +kernel, rfl, by decide +kernel, by decide +kernel⟩
theorem ok__law_same (T : Txt K mg) {fd : FuncData} (F : ZFun K z__law_same fd) (n : Nat) : FnOk Pr w K mg base (L2.CX Pr w) (n + 1) (z__law_same.at_ K) fd ["_law_found", "_law_due"] (spOf K mg 2 (D__law_same n)) := by
  have sc := sc__law_same
  have B__law_same_2 : Bnd K mg fd ["_law_found", "_law_due"] 2 [] [.inl 0, .inl 1] := bnd_of F rfl rfl (fun _ _ _ _ _ _ us ws h1 h2 => match us, ws, h1, h2 with | [_, _], [], _, _ => rfl)
  induction n with
  | zero => exact fn_ok (k := 0) (N := ["_law_found", "_law_due", "_law_a", "_law_b"]) (ps := ["_law_found", "_law_due"]) (s := fun _ => neverS) F sc fun pn cdv A outer sh H E hr => qss_never
  | succ n IH => exact fn_ok (k := n + 1) (N := ["_law_found", "_law_due", "_law_a", "_law_b"]) (ps := ["_law_found", "_law_due"]) (s := S__law_same (D__law_same n)) F sc fun pn cdv A outer sh H E hr => conv (qss_cons (qs_if (qt_truth (qo_v (qv_isi2 (T := .lst) (T' := .tup) (by decide) (by decide) rfl T.n_isinstance PyProof.Rows.boot_list rfl T.n_list (by decide) (by decide) PyProof.Rows.boot_tuple rfl T.n_tuple (by decide) (by decide) (qo_name (i := 1) rfl (by first | exact .inl rfl | exact .inr (.inl rfl) | exact .inr (.inr rfl)) (by decide) (by decide)) rfl rfl rfl rfl rfl)) (fun _ => rfl)) (qss_cons (qs_if (qt_w (qw_or (qt_cmp (op_neD (u64 hr)) s_neF (qo_v (qv_isi (T := .lst) (by decide) rfl T.n_isinstance PyProof.Rows.boot_list rfl T.n_list (by decide) (by decide) (qo_name (i := 0) rfl (by first | exact .inl rfl | exact .inr (.inl rfl) | exact .inr (.inr rfl)) (by decide) (by decide)) rfl rfl rfl)) (qo_v (qv_isi (T := .lst) (by decide) rfl T.n_isinstance PyProof.Rows.boot_list rfl T.n_list (by decide) (by decide) (qo_name (i := 1) rfl (by first | exact .inl rfl | exact .inr (.inl rfl) | exact .inr (.inr rfl)) (by decide) (by decide)) rfl rfl rfl)) (nomark _)) (qw_or1 (qt_cmp (op_neD (u64 hr)) s_neF (qo_v (qv_isi (T := .tup) (by decide) rfl T.n_isinstance PyProof.Rows.boot_tuple rfl T.n_tuple (by decide) (by decide) (qo_name (i := 0) rfl (by first | exact .inl rfl | exact .inr (.inl rfl) | exact .inr (.inr rfl)) (by decide) (by decide)) rfl rfl rfl)) (qo_v (qv_isi (T := .tup) (by decide) rfl T.n_isinstance PyProof.Rows.boot_tuple rfl T.n_tuple (by decide) (by decide) (qo_name (i := 1) rfl (by first | exact .inl rfl | exact .inr (.inl rfl) | exact .inr (.inr rfl)) (by decide) (by decide)) rfl rfl rfl)) (nomark _))))) (qss_cons (qs_ret qv_bl) qss_nil) qss_nil) (qss_cons (qs_ret (qv_and (qv_cmp (op_eqD (u64 hr)) s_eqF (qo_v (qv_callB cr_len1 s_lenF rfl T.n_len boot_len (qs_cons (qo_name (i := 0) rfl (by first | exact .inl rfl | exact .inr (.inl rfl) | exact .inr (.inr rfl)) (by decide) (by decide)) qs_nil rfl) (by decide) (by decide) rfl rfl)) (qo_v (qv_callB cr_len1 s_lenF rfl T.n_len boot_len (qs_cons (qo_name (i := 1) rfl (by first | exact .inl rfl | exact .inr (.inl rfl) | exact .inr (.inr rfl)) (by decide) (by decide)) qs_nil rfl) (by decide) (by decide) rfl rfl)) (nomark _)) (qv_one (qv_callB (cr_all rfl) s_allF rfl T.n_all PyProof.Rows.boot_all (qs_cons (qo_v (qv_lc (own := [("_law_a", 2), ("_law_b", 3)]) rfl sc.nd (qi_zip2 rfl T.n_zip (qs_cons (qo_name (i := 0) rfl (by first | exact .inl rfl | exact .inr (.inl rfl) | exact .inr (.inr rfl)) (by decide) (by decide)) (qs_cons (qo_name (i := 1) rfl (by first | exact .inl rfl | exact .inr (.inl rfl) | exact .inr (.inr rfl)) (by decide) (by decide)) qs_nil rfl) rfl) rfl rfl) (blkOk_by (by rfl)) (fun _ _ _ _ _ => (qg_tup (n := 2) rfl (qgs_cons (qg_name (i := 2) sc.nd rfl (by first | exact .inl rfl | exact .inr rfl) (by first | exact .inl rfl | exact .inr rfl)) (qgs_cons (qg_name (i := 3) sc.nd rfl (by first | exact .inl rfl | exact .inr rfl) (by first | exact .inl rfl | exact .inr rfl)) qgs_nil rfl) rfl) rfl rfl rfl)) (fun _ _ _ _ _ => qts_nil) (fun _ _ _ _ _ => (qo_v (qv_fn (ks := []) (arr := [.inl 0, .inl 1]) IH takes0 hr rfl T.g__law_same F.kp B__law_same_2 (qs_cons (qo_name (i := 2) rfl (by first | exact .inl rfl | exact .inr (.inl rfl) | exact .inr (.inr rfl)) (by decide) (by decide)) (qs_cons (qo_name (i := 3) rfl (by first | exact .inl rfl | exact .inr (.inl rfl) | exact .inr (.inr rfl)) (by decide) (by decide)) qs_nil rfl) rfl) qk_nil rfl rfl rfl rfl (by decide) rfl rfl (len_cons (len_cons len_nil)) len_nil))) (fun _ => rfl))) qs_nil rfl) (by decide) (by decide) rfl rfl)))) qss_nil)) qss_nil) (qss_cons (qs_if (qt_w (qw_or (qt_cmp op_isN s_isF (qo_name (i := 1) rfl (by first | exact .inl rfl | exact .inr (.inl rfl) | exact .inr (.inr rfl)) (by decide) (by decide)) (qo_v qv_non) (nomark _)) (qw_or1 (qt_cmp op_isN s_isF (qo_name (i := 0) rfl (by first | exact .inl rfl | exact .inr (.inl rfl) | exact .inr (.inr rfl)) (by decide) (by decide)) (qo_v qv_non) (nomark _))))) (qss_cons (qs_ret (qv_and (qv_cmp op_isN s_isF (qo_name (i := 1) rfl (by first | exact .inl rfl | exact .inr (.inl rfl) | exact .inr (.inr rfl)) (by decide) (by decide)) (qo_v qv_non) (nomark _)) (qv_one (qv_cmp op_isN s_isF (qo_name (i := 0) rfl (by first | exact .inl rfl | exact .inr (.inl rfl) | exact .inr (.inr rfl)) (by decide) (by decide)) (qo_v qv_non) (nomark _))))) qss_nil) qss_nil) (qss_cons (qs_if (qt_w (qw_or (qt_cmp (op_neD (u64 hr)) s_neF (qo_v (qv_isi (T := .bl) (by decide) rfl T.n_isinstance PyProof.Rows.boot_bool rfl T.n_bool (by decide) (by decide) (qo_name (i := 1) rfl (by first | exact .inl rfl | exact .inr (.inl rfl) | exact .inr (.inr rfl)) (by decide) (by decide)) rfl rfl rfl)) (qo_v (qv_isi (T := .bl) (by decide) rfl T.n_isinstance PyProof.Rows.boot_bool rfl T.n_bool (by decide) (by decide) (qo_name (i := 0) rfl (by first | exact .inl rfl | exact .inr (.inl rfl) | exact .inr (.inr rfl)) (by decide) (by decide)) rfl rfl rfl)) (nomark _)) (qw_or1 (qt_cmp (op_neD (u64 hr)) s_neF (qo_v (qv_isi (T := .int) (by decide) rfl T.n_isinstance PyProof.Rows.boot_int rfl T.n_int (by decide) (by decide) (qo_name (i := 1) rfl (by first | exact .inl rfl | exact .inr (.inl rfl) | exact .inr (.inr rfl)) (by decide) (by decide)) rfl rfl rfl)) (qo_v (qv_isi (T := .int) (by decide) rfl T.n_isinstance PyProof.Rows.boot_int rfl T.n_int (by decide) (by decide) (qo_name (i := 0) rfl (by first | exact .inl rfl | exact .inr (.inl rfl) | exact .inr (.inr rfl)) (by decide) (by decide)) rfl rfl rfl)) (nomark _))))) (qss_cons (qs_ret qv_bl) qss_nil) qss_nil) (qss_cons (qs_ret (qv_and (qv_cmp (op_eqD (u64 hr)) s_eqF (qo_v (qv_isi (T := .str) (by decide) rfl T.n_isinstance PyProof.Rows.boot_str rfl T.n_str (by decide) (by decide) (qo_name (i := 1) rfl (by first | exact .inl rfl | exact .inr (.inl rfl) | exact .inr (.inr rfl)) (by decide) (by decide)) rfl rfl rfl)) (qo_v (qv_isi (T := .str) (by decide) rfl T.n_isinstance PyProof.Rows.boot_str rfl T.n_str (by decide) (by decide) (qo_name (i := 0) rfl (by first | exact .inl rfl | exact .inr (.inl rfl) | exact .inr (.inr rfl)) (by decide) (by decide)) rfl rfl rfl)) (nomark _)) (qv_one (qv_cmp (op_eqD (u64 hr)) s_eqF (qo_name (i := 0) rfl (by first | exact .inl rfl | exact .inr (.inl rfl) | exact .inr (.inr rfl)) (by decide) (by decide)) (qo_name (i := 1) rfl (by first | exact .inl rfl | exact .inr (.inl rfl) | exact .inr (.inr rfl)) (by decide) (by decide)) (nomark _))))) qss_nil)))) rfl
theorem sc_need_dials : FnScope ["value"] ["value"] (defScope z_need_dials.st) := ⟨rfl, rfl, rfl, by decide +kernel, rfl, by decide +kernel, by decide +kernel⟩
theorem ok_need_dials (T : Txt K mg) {fd : FuncData} (F : ZFun K z_need_dials fd) : FnOk Pr w K mg base (L2.CX Pr w) (3) (z_need_dials.at_ K) fd ["value"] (spOf K mg 1 D_need_dials) := by
  have sc := sc_need_dials
  obtain ⟨fd_is_within, F_is_within⟩ := T.f_is_within
  have G_is_within := ok_is_within (Pr := Pr) (w := w) (base := base) T F_is_within
  have B_is_within_3 : Bnd K mg fd_is_within ["value", "low", "high"] 3 [] [.inl 0, .inl 1, .inl 2] := bnd_of F_is_within rfl rfl (fun _ _ _ _ _ _ us ws h1 h2 => match us, ws, h1, h2 with | [_, _, _], [], _, _ => rfl)
  exact fn_ok (k := 2) (N := ["value"]) (ps := ["value"]) (s := S_need_dials) F sc fun pn cdv A outer sh H E hr => conv (qss_cons (qs_if (qt_not (qt_truth (qo_v (qv_fn (ks := []) (arr := [.inl 0, .inl 1, .inl 2]) (pure_ok G_is_within) (takes_of rfl rfl rfl rfl) (hr.mono (by decide)) rfl T.g_is_within F_is_within.kp B_is_within_3 (qs_cons (qo_name (i := 0) rfl (by first | exact .inl rfl | exact .inr (.inl rfl) | exact .inr (.inr rfl)) (by decide) (by decide)) (qs_cons (qo_v qv_int) (qs_cons (qo_v (qv_glob (v := .int (200)) (d := .int (200)) rfl T.k_MOST_DIALS.choose_spec ⟨_, rfl⟩ (fun _ => .int _) (by decide))) qs_nil rfl) rfl) rfl) qk_nil rfl rfl rfl rfl (by decide) rfl rfl (len_cons (len_cons (len_cons len_nil))) len_nil)) (fun _ => rfl))) (qss_cons qs_never qss_nil) qss_nil) qss_nil) rfl
theorem sc_Turner___len__ : FnScope ["self"] ["self"] (defScope z_Turner___len__.st) := ⟨rfl, rfl, rfl, by decide +kernel, rfl, by decide +kernel, by decide +kernel⟩
theorem ok_Turner___len__ (T : Txt K mg) {fd : FuncData} (F : ZFun K z_Turner___len__ fd) : FnOk Pr w K mg base (L2.CX Pr w) (1) (z_Turner___len__.at_ K) fd ["self"] (spOf K mg 1 D_Turner___len__) := by
  have sc := sc_Turner___len__
  exact fn_ok (k := 0) (N := ["self"]) (ps := ["self"]) (s := S_Turner___len__) F sc fun pn cdv A outer sh H E hr => conv (qss_cons (qs_ret (qv_callB cr_len1 s_lenF rfl T.n_len boot_len (qs_cons (qo_v (qv_fld (cs := ["Turner"]) (fun c hc => by obtain rfl := List.mem_singleton.mp hc; exact ⟨_, T.g_Turner, T.c_Turner, T.na_Turner_own_states⟩) (qo_name (i := 0) rfl (by first | exact .inl rfl | exact .inr (.inl rfl) | exact .inr (.inr rfl)) (by decide) (by decide)) rfl)) qs_nil rfl) (by decide) (by decide) rfl rfl)) qss_nil) rfl
theorem sc_Turner_states : FnScope ["self"] ["self"] (defScope z_Turner_states.st) := ⟨rfl, rfl, rfl, by decide +kernel, rfl, by decide +kernel, by decide +kernel⟩
theorem ok_Turner_states (T : Txt K mg) {fd : FuncData} (F : ZFun K z_Turner_states fd) : FnOk Pr w K mg base (L2.CX Pr w) (1) (z_Turner_states.at_ K) fd ["self"] (spOf K mg 1 D_Turner_states) := by
  have sc := sc_Turner_states
  exact fn_ok (k := 0) (N := ["self"]) (ps := ["self"]) (s := S_Turner_states) F sc fun pn cdv A outer sh H E hr => conv (qss_cons (qs_ret (qv_callTy call_list_of s_listF rfl T.n_list PyProof.Rows.boot_list (qs_cons (qo_v (qv_fld (cs := ["Turner"]) (fun c hc => by obtain rfl := List.mem_singleton.mp hc; exact ⟨_, T.g_Turner, T.c_Turner, T.na_Turner_own_states⟩) (qo_name (i := 0) rfl (by first | exact .inl rfl | exact .inr (.inl rfl) | exact .inr (.inr rfl)) (by decide) (by decide)) rfl)) qs_nil rfl) (by decide) (by decide) rfl rfl)) qss_nil) rfl
theorem sc_next_alive : FnScope ["turner", "alive", "found", "turn", "targets", "target"] ["turner", "alive"] (defScope z_next_alive.st) := ⟨rfl, rfl, rfl, by decide +kernel, rfl, by decide +kernel, by decide +kernel⟩
theorem ok_next_alive (T : Txt K mg) {fd : FuncData} (F : ZFun K z_next_alive fd) : FnOk Pr w K mg base (L2.CX Pr w) (2) (z_next_alive.at_ K) fd ["turner", "alive"] (spOf K mg 2 D_next_alive) := by
  have sc := sc_next_alive
  obtain ⟨fd_Turner_states, F_Turner_states⟩ := T.f_Turner_states
  have G_Turner_states := ok_Turner_states (Pr := Pr) (w := w) (base := base) T F_Turner_states
  have B_Turner_states_1 : Bnd K mg fd_Turner_states ["self"] 1 [] [.inl 0] := bnd_of F_Turner_states rfl rfl (fun _ _ _ _ _ _ us ws h1 h2 => match us, ws, h1, h2 with | [_], [], _, _ => rfl)
  exact fn_ok (k := 1) (N := ["turner", "alive", "found", "turn", "targets", "target"]) (ps := ["turner", "alive"]) (s := S_next_alive) F sc fun pn cdv A outer sh H E hr => conv (qss_cons (qs_asg (i := 2) sc.nd rfl (by first | exact .inl rfl | exact .inr rfl) (qv_lst qs_nil) rfl (.inl rfl)) (qss_cons (qs_for (passes_of rfl) rfl (qi_seq (qo_v (qv_meth0 (ks := []) (arr := [.inl 0]) (pure_ok G_Turner_states) (takes_of rfl rfl rfl rfl) (hr.mono (by decide)) T.g_Turner T.c_Turner T.h_Turner_states B_Turner_states_1 (qo_name (i := 0) rfl (by first | exact .inl rfl | exact .inr (.inl rfl) | exact .inr (.inr rfl)) (by decide) (by decide)) qk_nil rfl rfl rfl len_nil rfl))) (qg_tup (n := 2) rfl (qgs_cons (qg_name (i := 3) sc.nd rfl (by first | exact .inl rfl | exact .inr rfl) (by first | exact .inl rfl | exact .inr rfl)) (qgs_cons (qg_name (i := 4) sc.nd rfl (by first | exact .inl rfl | exact .inr rfl) (by first | exact .inl rfl | exact .inr rfl)) qgs_nil rfl) rfl) rfl rfl rfl) (qss_cons (qs_expr (qv_mut (i := 2) PySem.F.plainAttrs_list PySem.F.slot_list_append PySem.F.type_list_append mt_append s_appF rfl (by first | exact .inl rfl | exact .inr (.inl rfl) | exact .inr (.inr rfl)) (by decide) (by decide) (qs_cons (qo_v (qv_and (qv_cmp (op_eqD (u64 hr)) s_eqF (qo_name (i := 3) rfl (by first | exact .inl rfl | exact .inr (.inl rfl) | exact .inr (.inr rfl)) (by decide) (by decide)) (qo_v qv_int) (nomark _)) (qv_one (qv_callB (cr_any rfl) s_anyF rfl T.n_any PyProof.Rows.boot_any (qs_cons (qo_v (qv_lc (own := [("target", 5)]) rfl sc.nd (qi_seq (qo_name (i := 4) rfl (by first | exact .inl rfl | exact .inr (.inl rfl) | exact .inr (.inr rfl)) (by decide) (by decide))) (blkOk_by (by rfl)) (fun _ _ _ _ _ => (qg_name (i := 5) sc.nd rfl (by first | exact .inl rfl | exact .inr rfl) (by first | exact .inl rfl | exact .inr rfl))) (fun _ _ _ _ _ => qts_nil) (fun _ _ _ _ _ => (qo_v (qv_ix ix_seq s_ixF (qo_name (i := 1) rfl (by first | exact .inl rfl | exact .inr (.inl rfl) | exact .inr (.inr rfl)) (by decide) (by decide)) (qo_name (i := 5) rfl (by first | exact .inl rfl | exact .inr (.inl rfl) | exact .inr (.inr rfl)) (by decide) (by decide)) (fun _ _ => rfl)))) (fun _ => rfl))) qs_nil rfl) (by decide) (by decide) rfl rfl)))) qs_nil rfl) rfl rfl rfl rfl rfl) rfl) qss_nil) (fun _ => rfl)) (qss_cons (qs_retName (i := 2) rfl (by first | exact .inl rfl | exact .inr (.inl rfl) | exact .inr (.inr rfl)) (by decide) (by decide)) qss_nil))) rfl
theorem sc_Turner_start : FnScope ["self"] ["self"] (defScope z_Turner_start.st) := ⟨rfl, rfl, rfl, by decide +kernel, rfl, by decide +kernel, by decide +kernel⟩
theorem ok_Turner_start (T : Txt K mg) {fd : FuncData} (F : ZFun K z_Turner_start fd) : FnOk Pr w K mg base (L2.CX Pr w) (1) (z_Turner_start.at_ K) fd ["self"] (spOf K mg 1 D_Turner_start) := by
  have sc := sc_Turner_start
  exact fn_ok (k := 0) (N := ["self"]) (ps := ["self"]) (s := S_Turner_start) F sc fun pn cdv A outer sh H E hr => conv (qss_cons (qs_ret (qv_fld (cs := ["Turner"]) (fun c hc => by obtain rfl := List.mem_singleton.mp hc; exact ⟨_, T.g_Turner, T.c_Turner, T.na_Turner_own_start⟩) (qo_name (i := 0) rfl (by first | exact .inl rfl | exact .inr (.inl rfl) | exact .inr (.inr rfl)) (by decide) (by decide)) rfl)) qss_nil) rfl
theorem sc_first_still : FnScope ["turner", "dials", "alive", "dial", "found", "state", "left", "targets", "figure", "at", "target"] ["turner", "dials"] (defScope z_first_still.st) := ⟨rfl, rfl, rfl, by decide +kernel, rfl, by decide +kernel, by decide +kernel⟩
theorem ok_first_still (T : Txt K mg) {fd : FuncData} (F : ZFun K z_first_still fd) : FnOk Pr w K mg base (L2.CX Pr w) (4) (z_first_still.at_ K) fd ["turner", "dials"] (spOf K mg 2 D_first_still) := by
  have sc := sc_first_still
  obtain ⟨fd_need_dials, F_need_dials⟩ := T.f_need_dials
  have G_need_dials := ok_need_dials (Pr := Pr) (w := w) (base := base) T F_need_dials
  have B_need_dials_1 : Bnd K mg fd_need_dials ["value"] 1 [] [.inl 0] := bnd_of F_need_dials rfl rfl (fun _ _ _ _ _ _ us ws h1 h2 => match us, ws, h1, h2 with | [_], [], _, _ => rfl)
  obtain ⟨fd_Turner___len__, F_Turner___len__⟩ := T.f_Turner___len__
  have G_Turner___len__ := ok_Turner___len__ (Pr := Pr) (w := w) (base := base) T F_Turner___len__
  have B_Turner___len___1 : Bnd K mg fd_Turner___len__ ["self"] 1 [] [.inl 0] := bnd_of F_Turner___len__ rfl rfl (fun _ _ _ _ _ _ us ws h1 h2 => match us, ws, h1, h2 with | [_], [], _, _ => rfl)
  have B_Turner___len___1_b : Binds K fd_Turner___len__ ["self"] [] := F_Turner___len__.bindsN fun _ _ _ _ _ _ us hl => match us, hl with | [_], _ => rfl
  obtain ⟨fd_next_alive, F_next_alive⟩ := T.f_next_alive
  have G_next_alive := ok_next_alive (Pr := Pr) (w := w) (base := base) T F_next_alive
  have B_next_alive_2 : Bnd K mg fd_next_alive ["turner", "alive"] 2 [] [.inl 0, .inl 1] := bnd_of F_next_alive rfl rfl (fun _ _ _ _ _ _ us ws h1 h2 => match us, ws, h1, h2 with | [_, _], [], _, _ => rfl)
  obtain ⟨fd_Turner_start, F_Turner_start⟩ := T.f_Turner_start
  have G_Turner_start := ok_Turner_start (Pr := Pr) (w := w) (base := base) T F_Turner_start
  have B_Turner_start_1 : Bnd K mg fd_Turner_start ["self"] 1 [] [.inl 0] := bnd_of F_Turner_start rfl rfl (fun _ _ _ _ _ _ us ws h1 h2 => match us, ws, h1, h2 with | [_], [], _, _ => rfl)
  have B_Turner_start_1_b : Binds K fd_Turner_start ["self"] [] := F_Turner_start.bindsN fun _ _ _ _ _ _ us hl => match us, hl with | [_], _ => rfl
  obtain ⟨fd_Turner_states, F_Turner_states⟩ := T.f_Turner_states
  have G_Turner_states := ok_Turner_states (Pr := Pr) (w := w) (base := base) T F_Turner_states
  have B_Turner_states_1 : Bnd K mg fd_Turner_states ["self"] 1 [] [.inl 0] := bnd_of F_Turner_states rfl rfl (fun _ _ _ _ _ _ us ws h1 h2 => match us, ws, h1, h2 with | [_], [], _, _ => rfl)
  exact fn_ok (k := 3) (N := ["turner", "dials", "alive", "dial", "found", "state", "left", "targets", "figure", "at", "target"]) (ps := ["turner", "dials"]) (s := S_first_still) F sc fun pn cdv A outer sh H E hr => conv (qss_cons (qs_expr (qv_fn (ks := []) (arr := [.inl 0]) (pure_ok G_need_dials) (takes_of rfl rfl rfl rfl) (hr.mono (by decide)) rfl T.g_need_dials F_need_dials.kp B_need_dials_1 (qs_cons (qo_name (i := 1) rfl (by first | exact .inl rfl | exact .inr (.inl rfl) | exact .inr (.inr rfl)) (by decide) (by decide)) qs_nil rfl) qk_nil rfl rfl rfl rfl (by decide) rfl rfl (len_cons len_nil) len_nil) rfl) (qss_cons (qs_asg (i := 2) sc.nd rfl (by first | exact .inl rfl | exact .inr rfl) (qv_lst (qs_cons (qo_v (qv_op o_mul s_mulX (qo_v (qv_lst (qs_cons (qo_v qv_bl) qs_nil rfl))) (qo_v (qv_lenOw G_Turner___len__ (hr.mono (by decide)) rfl T.n_len T.g_Turner T.h_Turner___len__ B_Turner___len___1_b rfl (qo_name (i := 0) rfl (by first | exact .inl rfl | exact .inr (.inl rfl) | exact .inr (.inr rfl)) (by decide) (by decide)) rfl rfl)))) qs_nil rfl)) rfl (.inl rfl)) (qss_cons (qs_for (passes_of rfl) rfl (qi_rng1 rfl T.n_range (qs_cons (qo_name (i := 1) rfl (by first | exact .inl rfl | exact .inr (.inl rfl) | exact .inr (.inr rfl)) (by decide) (by decide)) qs_nil rfl) rfl) (qg_name (i := 3) sc.nd rfl (by first | exact .inl rfl | exact .inr rfl) (by first | exact .inl rfl | exact .inr rfl)) (qss_cons (qs_expr (qv_mut (i := 2) PySem.F.plainAttrs_list PySem.F.slot_list_append PySem.F.type_list_append mt_append s_appF rfl (by first | exact .inl rfl | exact .inr (.inl rfl) | exact .inr (.inr rfl)) (by decide) (by decide) (qs_cons (qo_v (qv_fn (ks := []) (arr := [.inl 0, .inl 1]) (pure_ok G_next_alive) (takes_of rfl rfl rfl rfl) (hr.mono (by decide)) rfl T.g_next_alive F_next_alive.kp B_next_alive_2 (qs_cons (qo_name (i := 0) rfl (by first | exact .inl rfl | exact .inr (.inl rfl) | exact .inr (.inr rfl)) (by decide) (by decide)) (qs_cons (qo_v (qv_ix ix_seq s_ixF (qo_name (i := 2) rfl (by first | exact .inl rfl | exact .inr (.inl rfl) | exact .inr (.inr rfl)) (by decide) (by decide)) (qo_v (qv_un un_neg s_negF (qo_v qv_int))) (fun _ _ => rfl))) qs_nil rfl) rfl) qk_nil rfl rfl rfl rfl (by decide) rfl rfl (len_cons (len_cons len_nil)) len_nil)) qs_nil rfl) rfl rfl rfl rfl rfl) rfl) qss_nil) (fun _ => rfl)) (qss_cons (qs_if (qt_not (qt_truth (qo_v (qv_ix ix_seq s_ixF (qo_v (qv_ix ix_seq s_ixF (qo_name (i := 2) rfl (by first | exact .inl rfl | exact .inr (.inl rfl) | exact .inr (.inr rfl)) (by decide) (by decide)) (qo_v (qv_un un_neg s_negF (qo_v qv_int))) (fun _ _ => rfl))) (qo_v (qv_prop G_Turner_start (hr.mono (by decide)) T.g_Turner T.c_Turner T.p_Turner_start B_Turner_start_1_b rfl (qo_name (i := 0) rfl (by first | exact .inl rfl | exact .inr (.inl rfl) | exact .inr (.inr rfl)) (by decide) (by decide)) rfl)) (fun _ _ => rfl))) (fun _ => rfl))) (qss_cons (qs_ret qv_non) qss_nil) qss_nil) (qss_cons (qs_par (i := 4) (j := 5) rfl sc.nd rfl rfl (by decide) rfl rfl (qv_lst qs_nil) (qv_prop G_Turner_start (hr.mono (by decide)) T.g_Turner T.c_Turner T.p_Turner_start B_Turner_start_1_b rfl (qo_name (i := 0) rfl (by first | exact .inl rfl | exact .inr (.inl rfl) | exact .inr (.inr rfl)) (by decide) (by decide)) rfl) rfl rfl rfl rfl) (qss_cons (qs_for (passes_of rfl) rfl (qi_seq (qo_v (qv_back2 (qo_name (i := 2) rfl (by first | exact .inl rfl | exact .inr (.inl rfl) | exact .inr (.inr rfl)) (by decide) (by decide))))) (qg_name (i := 6) sc.nd rfl (by first | exact .inl rfl | exact .inr rfl) (by first | exact .inl rfl | exact .inr rfl)) (qss_cons (qs_asg (i := 7) sc.nd rfl (by first | exact .inl rfl | exact .inr rfl) (qv_ix ix_seq s_ixF (qo_v (qv_ix ix_seq s_ixF (qo_v (qv_meth0 (ks := []) (arr := [.inl 0]) (pure_ok G_Turner_states) (takes_of rfl rfl rfl rfl) (hr.mono (by decide)) T.g_Turner T.c_Turner T.h_Turner_states B_Turner_states_1 (qo_name (i := 0) rfl (by first | exact .inl rfl | exact .inr (.inl rfl) | exact .inr (.inr rfl)) (by decide) (by decide)) qk_nil rfl rfl rfl len_nil rfl)) (qo_name (i := 5) rfl (by first | exact .inl rfl | exact .inr (.inl rfl) | exact .inr (.inr rfl)) (by decide) (by decide)) (fun _ _ => rfl))) (qo_v qv_int) (fun _ _ => rfl)) rfl (.inl rfl)) (qss_cons (qs_asg (i := 8) sc.nd rfl (by first | exact .inl rfl | exact .inr rfl) (qv_ix ix_seq s_ixF (qo_v (qv_lc (own := [("at", 9), ("target", 10)]) rfl sc.nd (qi_enumJ rfl T.n_enumerate (qo_name (i := 7) rfl (by first | exact .inl rfl | exact .inr (.inl rfl) | exact .inr (.inr rfl)) (by decide) (by decide)) rfl) (blkOk_by (by rfl)) (fun _ _ _ _ _ => (qg_tup (n := 2) rfl (qgs_cons (qg_name (i := 9) sc.nd rfl (by first | exact .inl rfl | exact .inr rfl) (by first | exact .inl rfl | exact .inr rfl)) (qgs_cons (qg_name (i := 10) sc.nd rfl (by first | exact .inl rfl | exact .inr rfl) (by first | exact .inl rfl | exact .inr rfl)) qgs_nil rfl) rfl) rfl rfl rfl)) (fun _ _ _ _ _ => (qts_one (qt_truth (qo_v (qv_ix ix_seq s_ixF (qo_name (i := 6) rfl (by first | exact .inl rfl | exact .inr (.inl rfl) | exact .inr (.inr rfl)) (by decide) (by decide)) (qo_name (i := 10) rfl (by first | exact .inl rfl | exact .inr (.inl rfl) | exact .inr (.inr rfl)) (by decide) (by decide)) (fun _ _ => rfl))) (fun _ => rfl)))) (fun _ _ _ _ _ => (qo_name (i := 9) rfl (by first | exact .inl rfl | exact .inr (.inl rfl) | exact .inr (.inr rfl)) (by decide) (by decide))) (fun _ => rfl))) (qo_v qv_int) (fun _ _ => rfl)) rfl (.inl rfl)) (qss_cons (qs_expr (qv_mut (i := 4) PySem.F.plainAttrs_list PySem.F.slot_list_append PySem.F.type_list_append mt_append s_appF rfl (by first | exact .inl rfl | exact .inr (.inl rfl) | exact .inr (.inr rfl)) (by decide) (by decide) (qs_cons (qo_name (i := 8) rfl (by first | exact .inl rfl | exact .inr (.inl rfl) | exact .inr (.inr rfl)) (by decide) (by decide)) qs_nil rfl) rfl rfl rfl rfl rfl) rfl) (qss_cons (qs_asg (i := 5) sc.nd rfl (by first | exact .inl rfl | exact .inr rfl) (qv_ix ix_seq s_ixF (qo_name (i := 7) rfl (by first | exact .inl rfl | exact .inr (.inl rfl) | exact .inr (.inr rfl)) (by decide) (by decide)) (qo_name (i := 8) rfl (by first | exact .inl rfl | exact .inr (.inl rfl) | exact .inr (.inr rfl)) (by decide) (by decide)) (fun _ _ => rfl)) rfl (.inl rfl)) qss_nil)))) (fun _ => rfl)) (qss_cons (qs_ret (qv_callTy call_tuple_of s_tupleF rfl T.n_tuple PyProof.Rows.boot_tuple (qs_cons (qo_name (i := 4) rfl (by first | exact .inl rfl | exact .inr (.inl rfl) | exact .inr (.inr rfl)) (by decide) (by decide)) qs_nil rfl) (by decide) (by decide) rfl rfl)) qss_nil))))))) rfl
theorem sc_still_count : FnScope ["turner", "dials", "states", "many", "dial", "turn", "targets", "target"] ["turner", "dials"] (defScope z_still_count.st) := ⟨rfl, rfl, rfl, by decide +kernel, rfl, by decide +kernel, by decide +kernel⟩
theorem ok_still_count (T : Txt K mg) {fd : FuncData} (F : ZFun K z_still_count fd) : FnOk Pr w K mg base (L2.CX Pr w) (4) (z_still_count.at_ K) fd ["turner", "dials"] (spOf K mg 2 D_still_count) := by
  have sc := sc_still_count
  obtain ⟨fd_need_dials, F_need_dials⟩ := T.f_need_dials
  have G_need_dials := ok_need_dials (Pr := Pr) (w := w) (base := base) T F_need_dials
  have B_need_dials_1 : Bnd K mg fd_need_dials ["value"] 1 [] [.inl 0] := bnd_of F_need_dials rfl rfl (fun _ _ _ _ _ _ us ws h1 h2 => match us, ws, h1, h2 with | [_], [], _, _ => rfl)
  obtain ⟨fd_Turner_states, F_Turner_states⟩ := T.f_Turner_states
  have G_Turner_states := ok_Turner_states (Pr := Pr) (w := w) (base := base) T F_Turner_states
  have B_Turner_states_1 : Bnd K mg fd_Turner_states ["self"] 1 [] [.inl 0] := bnd_of F_Turner_states rfl rfl (fun _ _ _ _ _ _ us ws h1 h2 => match us, ws, h1, h2 with | [_], [], _, _ => rfl)
  obtain ⟨fd_Turner_start, F_Turner_start⟩ := T.f_Turner_start
  have G_Turner_start := ok_Turner_start (Pr := Pr) (w := w) (base := base) T F_Turner_start
  have B_Turner_start_1 : Bnd K mg fd_Turner_start ["self"] 1 [] [.inl 0] := bnd_of F_Turner_start rfl rfl (fun _ _ _ _ _ _ us ws h1 h2 => match us, ws, h1, h2 with | [_], [], _, _ => rfl)
  have B_Turner_start_1_b : Binds K fd_Turner_start ["self"] [] := F_Turner_start.bindsN fun _ _ _ _ _ _ us hl => match us, hl with | [_], _ => rfl
  exact fn_ok (k := 3) (N := ["turner", "dials", "states", "many", "dial", "turn", "targets", "target"]) (ps := ["turner", "dials"]) (s := S_still_count) F sc fun pn cdv A outer sh H E hr => conv (qss_cons (qs_expr (qv_fn (ks := []) (arr := [.inl 0]) (pure_ok G_need_dials) (takes_of rfl rfl rfl rfl) (hr.mono (by decide)) rfl T.g_need_dials F_need_dials.kp B_need_dials_1 (qs_cons (qo_name (i := 1) rfl (by first | exact .inl rfl | exact .inr (.inl rfl) | exact .inr (.inr rfl)) (by decide) (by decide)) qs_nil rfl) qk_nil rfl rfl rfl rfl (by decide) rfl rfl (len_cons len_nil) len_nil) rfl) (qss_cons (qs_asg (i := 2) sc.nd rfl (by first | exact .inl rfl | exact .inr rfl) (qv_meth0 (ks := []) (arr := [.inl 0]) (pure_ok G_Turner_states) (takes_of rfl rfl rfl rfl) (hr.mono (by decide)) T.g_Turner T.c_Turner T.h_Turner_states B_Turner_states_1 (qo_name (i := 0) rfl (by first | exact .inl rfl | exact .inr (.inl rfl) | exact .inr (.inr rfl)) (by decide) (by decide)) qk_nil rfl rfl rfl len_nil rfl) rfl (.inl rfl)) (qss_cons (qs_asg (i := 3) sc.nd rfl (by first | exact .inl rfl | exact .inr rfl) (qv_op o_mul s_mulX (qo_v (qv_lst (qs_cons (qo_v qv_int) qs_nil rfl))) (qo_v (qv_callB cr_len1 s_lenF rfl T.n_len boot_len (qs_cons (qo_name (i := 2) rfl (by first | exact .inl rfl | exact .inr (.inl rfl) | exact .inr (.inr rfl)) (by decide) (by decide)) qs_nil rfl) (by decide) (by decide) rfl rfl))) rfl (.inl rfl)) (qss_cons (qs_for (passes_of rfl) rfl (qi_rng1 rfl T.n_range (qs_cons (qo_name (i := 1) rfl (by first | exact .inl rfl | exact .inr (.inl rfl) | exact .inr (.inr rfl)) (by decide) (by decide)) qs_nil rfl) rfl) (qg_name (i := 4) sc.nd rfl (by first | exact .inl rfl | exact .inr rfl) (by first | exact .inl rfl | exact .inr rfl)) (qss_cons (qs_asg (i := 3) sc.nd rfl (by first | exact .inl rfl | exact .inr rfl) (qv_lc (own := [("turn", 5), ("targets", 6)]) rfl sc.nd (qi_seq (qo_name (i := 2) rfl (by first | exact .inl rfl | exact .inr (.inl rfl) | exact .inr (.inr rfl)) (by decide) (by decide))) (blkOk_by (by rfl)) (fun _ _ _ _ _ => (qg_tup (n := 2) rfl (qgs_cons (qg_name (i := 5) sc.nd rfl (by first | exact .inl rfl | exact .inr rfl) (by first | exact .inl rfl | exact .inr rfl)) (qgs_cons (qg_name (i := 6) sc.nd rfl (by first | exact .inl rfl | exact .inr rfl) (by first | exact .inl rfl | exact .inr rfl)) qgs_nil rfl) rfl) rfl rfl rfl)) (fun _ _ _ _ _ => qts_nil) (fun _ _ _ _ _ => (qo_v (qv_if (qt_cmp (op_eqD (u64 hr)) s_eqF (qo_name (i := 5) rfl (by first | exact .inl rfl | exact .inr (.inl rfl) | exact .inr (.inr rfl)) (by decide) (by decide)) (qo_v qv_int) (nomark _)) (qv_callB (cr_sum rfl) s_sumF rfl T.n_sum PyProof.Rows.boot_sum (qs_cons (qo_v (qv_lc (own := [("target", 7)]) rfl sc.nd (qi_seq (qo_name (i := 6) rfl (by first | exact .inl rfl | exact .inr (.inl rfl) | exact .inr (.inr rfl)) (by decide) (by decide))) (blkOk_by (by rfl)) (fun _ _ _ _ _ => (qg_name (i := 7) sc.nd rfl (by first | exact .inl rfl | exact .inr rfl) (by first | exact .inl rfl | exact .inr rfl))) (fun _ _ _ _ _ => qts_nil) (fun _ _ _ _ _ => (qo_v (qv_ix ix_seq s_ixF (qo_name (i := 3) rfl (by first | exact .inl rfl | exact .inr (.inl rfl) | exact .inr (.inr rfl)) (by decide) (by decide)) (qo_name (i := 7) rfl (by first | exact .inl rfl | exact .inr (.inl rfl) | exact .inr (.inr rfl)) (by decide) (by decide)) (fun _ _ => rfl)))) (fun _ => rfl))) qs_nil rfl) (by decide) (by decide) rfl rfl) qv_int))) (fun _ => rfl)) rfl (.inl rfl)) qss_nil) (fun _ => rfl)) (qss_cons (qs_ret (qv_ix ix_seq s_ixF (qo_name (i := 3) rfl (by first | exact .inl rfl | exact .inr (.inl rfl) | exact .inr (.inr rfl)) (by decide) (by decide)) (qo_v (qv_prop G_Turner_start (hr.mono (by decide)) T.g_Turner T.c_Turner T.p_Turner_start B_Turner_start_1_b rfl (qo_name (i := 0) rfl (by first | exact .inl rfl | exact .inr (.inl rfl) | exact .inr (.inr rfl)) (by decide) (by decide)) rfl)) (fun _ _ => rfl))) qss_nil))))) rfl
theorem sc_law : FnScope ["_law_script", "_law_bag_here", "_law_turn_z", "_law_p", "_law_m", "_law_found", "_law_many", "_law_some", "_law_row"] ["_law_script"] (defScope z_law.st) := ⟨rfl, rfl, rfl, by decide +kernel, rfl, by decide +kernel, by decide +kernel⟩
theorem ok_law (T : Txt K mg) {fd : FuncData} (F : ZFun K z_law fd) : FnOk Pr w K mg base (L2.CX Pr w) (10) (z_law.at_ K) fd ["_law_script"] (spOf K mg 1 D_law) := by
  have sc := sc_law
  obtain ⟨fd__law_bag, F__law_bag⟩ := T.f__law_bag
  have G__law_bag := ok__law_bag (Pr := Pr) (w := w) (base := base) T F__law_bag
  have B__law_bag_1 : Bnd K mg fd__law_bag ["_law_script"] 1 [] [.inl 0] := bnd_of F__law_bag rfl rfl (fun _ _ _ _ _ _ us ws h1 h2 => match us, ws, h1, h2 with | [_], [], _, _ => rfl)
  obtain ⟨fd__law_prime, F__law_prime⟩ := T.f__law_prime
  have G__law_prime := ok__law_prime (Pr := Pr) (w := w) (base := base) T F__law_prime
  have B__law_prime_1 : Bnd K mg fd__law_prime ["_law_bag_here"] 1 [] [.inl 0] := bnd_of F__law_prime rfl rfl (fun _ _ _ _ _ _ us ws h1 h2 => match us, ws, h1, h2 with | [_], [], _, _ => rfl)
  obtain ⟨fd__law_calm, F__law_calm⟩ := T.f__law_calm
  have G__law_calm := ok__law_calm (Pr := Pr) (w := w) (base := base) T F__law_calm
  have B__law_calm_2 : Bnd K mg fd__law_calm ["_law_bag_here", "_law_m"] 2 [] [.inl 0, .inl 1] := bnd_of F__law_calm rfl rfl (fun _ _ _ _ _ _ us ws h1 h2 => match us, ws, h1, h2 with | [_, _], [], _, _ => rfl)
  obtain ⟨fd__law_plain, F__law_plain⟩ := T.f__law_plain
  have G__law_plain := ok__law_plain (Pr := Pr) (w := w) (base := base) T F__law_plain
  have B__law_plain_3 : Bnd K mg fd__law_plain ["_law_bag_here", "_law_p", "_law_top"] 3 [] [.inl 0, .inl 1, .inl 2] := bnd_of F__law_plain rfl rfl (fun _ _ _ _ _ _ us ws h1 h2 => match us, ws, h1, h2 with | [_, _, _], [], _, _ => rfl)
  obtain ⟨fd__law_made, F__law_made⟩ := T.f__law_made
  have G__law_made := ok__law_made (Pr := Pr) (w := w) (base := base) T F__law_made
  have B__law_made_1 : Bnd K mg fd__law_made ["_law_m"] 1 [] [.inl 0] := bnd_of F__law_made rfl rfl (fun _ _ _ _ _ _ us ws h1 h2 => match us, ws, h1, h2 with | [_], [], _, _ => rfl)
  obtain ⟨fd__law_few, F__law_few⟩ := T.f__law_few
  have G__law_few := ok__law_few (Pr := Pr) (w := w) (base := base) T F__law_few
  have B__law_few_1 : Bnd K mg fd__law_few ["_law_p"] 1 [] [.inl 0] := bnd_of F__law_few rfl rfl (fun _ _ _ _ _ _ us ws h1 h2 => match us, ws, h1, h2 with | [_], [], _, _ => rfl)
  obtain ⟨fd__law_all_rows, F__law_all_rows⟩ := T.f__law_all_rows
  have G__law_all_rows := ok__law_all_rows (Pr := Pr) (w := w) (base := base) T F__law_all_rows
  have B__law_all_rows_2 : Bnd K mg fd__law_all_rows ["_law_p", "_law_many"] 2 [] [.inl 0, .inl 1] := bnd_of F__law_all_rows rfl rfl (fun _ _ _ _ _ _ us ws h1 h2 => match us, ws, h1, h2 with | [_, _], [], _, _ => rfl)
  obtain ⟨fd__law_behind, F__law_behind⟩ := T.f__law_behind
  have G__law_behind := ok__law_behind (Pr := Pr) (w := w) (base := base) T F__law_behind
  have B__law_behind_2 : Bnd K mg fd__law_behind ["_law_m", "_law_row"] 2 [] [.inl 0, .inl 1] := bnd_of F__law_behind rfl rfl (fun _ _ _ _ _ _ us ws h1 h2 => match us, ws, h1, h2 with | [_, _], [], _, _ => rfl)
  obtain ⟨fd__law_same, F__law_same⟩ := T.f__law_same
  have G__law_same := ok__law_same (Pr := Pr) (w := w) (base := base) T F__law_same 8
  have B__law_same_2 : Bnd K mg fd__law_same ["_law_found", "_law_due"] 2 [] [.inl 0, .inl 1] := bnd_of F__law_same rfl rfl (fun _ _ _ _ _ _ us ws h1 h2 => match us, ws, h1, h2 with | [_, _], [], _, _ => rfl)
  obtain ⟨fd_first_still, F_first_still⟩ := T.f_first_still
  have G_first_still := ok_first_still (Pr := Pr) (w := w) (base := base) T F_first_still
  have B_first_still_0_dials_turner : Bnd K mg fd_first_still ["turner", "dials"] 0 ["dials", "turner"] [.inl 1, .inl 0] := bnd_of F_first_still rfl rfl (fun _ _ _ _ _ _ us ws h1 h2 => match us, ws, h1, h2 with | [], [_, _], _, _ => rfl)
  have B_first_still_2 : Bnd K mg fd_first_still ["turner", "dials"] 2 [] [.inl 0, .inl 1] := bnd_of F_first_still rfl rfl (fun _ _ _ _ _ _ us ws h1 h2 => match us, ws, h1, h2 with | [_, _], [], _, _ => rfl)
  obtain ⟨fd_still_count, F_still_count⟩ := T.f_still_count
  have G_still_count := ok_still_count (Pr := Pr) (w := w) (base := base) T F_still_count
  have B_still_count_0_dials_turner : Bnd K mg fd_still_count ["turner", "dials"] 0 ["dials", "turner"] [.inl 1, .inl 0] := bnd_of F_still_count rfl rfl (fun _ _ _ _ _ _ us ws h1 h2 => match us, ws, h1, h2 with | [], [_, _], _, _ => rfl)
  have B_still_count_2 : Bnd K mg fd_still_count ["turner", "dials"] 2 [] [.inl 0, .inl 1] := bnd_of F_still_count rfl rfl (fun _ _ _ _ _ _ us ws h1 h2 => match us, ws, h1, h2 with | [_, _], [], _, _ => rfl)
  exact fn_ok (k := 9) (N := ["_law_script", "_law_bag_here", "_law_turn_z", "_law_p", "_law_m", "_law_found", "_law_many", "_law_some", "_law_row"]) (ps := ["_law_script"]) (s := S_law) F sc fun pn cdv A outer sh H E hr => conv (qss_cons (qs_asg (i := 1) sc.nd rfl (by first | exact .inl rfl | exact .inr rfl) (qv_fn (ks := []) (arr := [.inl 0]) (pure_ok G__law_bag) (takes_of rfl rfl rfl rfl) (hr.mono (by decide)) rfl T.g__law_bag F__law_bag.kp B__law_bag_1 (qs_cons (qo_name (i := 0) rfl (by first | exact .inl rfl | exact .inr (.inl rfl) | exact .inr (.inr rfl)) (by decide) (by decide)) qs_nil rfl) qk_nil rfl rfl rfl rfl (by decide) rfl rfl (len_cons len_nil) len_nil) rfl (.inl rfl)) (qss_cons (qs_for (passes_of rfl) rfl (qi_rng1 rfl T.n_range (qs_cons (qo_v qv_int) qs_nil rfl) rfl) (qg_name (i := 2) sc.nd rfl (by first | exact .inl rfl | exact .inr rfl) (by first | exact .inl rfl | exact .inr rfl)) (qss_cons (qs_asg (i := 3) sc.nd rfl (by first | exact .inl rfl | exact .inr rfl) (qv_fn (ks := []) (arr := [.inl 0]) G__law_prime (takes_of rfl rfl rfl rfl) (hr.mono (by decide)) rfl T.g__law_prime F__law_prime.kp B__law_prime_1 (qs_cons (qo_name (i := 1) rfl (by first | exact .inl rfl | exact .inr (.inl rfl) | exact .inr (.inr rfl)) (by decide) (by decide)) qs_nil rfl) qk_nil rfl rfl rfl rfl (by decide) rfl rfl (len_cons len_nil) len_nil) rfl (.inl rfl)) (qss_cons (qs_asg (i := 4) sc.nd rfl (by first | exact .inl rfl | exact .inr rfl) (qv_fn (ks := []) (arr := [.inl 0, .inl 1]) G__law_calm (takes_of rfl rfl rfl rfl) (hr.mono (by decide)) rfl T.g__law_calm F__law_calm.kp B__law_calm_2 (qs_cons (qo_name (i := 1) rfl (by first | exact .inl rfl | exact .inr (.inl rfl) | exact .inr (.inr rfl)) (by decide) (by decide)) (qs_cons (qo_v (qv_fn (ks := []) (arr := [.inl 0, .inl 1, .inl 2]) G__law_plain (takes_of rfl rfl rfl rfl) (hr.mono (by decide)) rfl T.g__law_plain F__law_plain.kp B__law_plain_3 (qs_cons (qo_name (i := 1) rfl (by first | exact .inl rfl | exact .inr (.inl rfl) | exact .inr (.inr rfl)) (by decide) (by decide)) (qs_cons (qo_name (i := 3) rfl (by first | exact .inl rfl | exact .inr (.inl rfl) | exact .inr (.inr rfl)) (by decide) (by decide)) (qs_cons (qo_v qv_int) qs_nil rfl) rfl) rfl) qk_nil rfl rfl rfl rfl (by decide) rfl rfl (len_cons (len_cons (len_cons len_nil))) len_nil)) qs_nil rfl) rfl) qk_nil rfl rfl rfl rfl (by decide) rfl rfl (len_cons (len_cons len_nil)) len_nil) rfl (.inl rfl)) (qss_cons (qs_asg (i := 5) sc.nd rfl (by first | exact .inl rfl | exact .inr rfl) (qv_fn (ks := []) (arr := [.inl 0]) (pure_ok G__law_made) (takes_of rfl rfl rfl rfl) (hr.mono (by decide)) rfl T.g__law_made F__law_made.kp B__law_made_1 (qs_cons (qo_name (i := 4) rfl (by first | exact .inl rfl | exact .inr (.inl rfl) | exact .inr (.inr rfl)) (by decide) (by decide)) qs_nil rfl) qk_nil rfl rfl rfl rfl (by decide) rfl rfl (len_cons len_nil) len_nil) rfl (.inl rfl)) (qss_cons (qs_for (passes_of rfl) rfl (qi_rng1 rfl T.n_range (qs_cons (qo_v (qv_op o_add s_addX (qo_v (qv_fn (ks := []) (arr := [.inl 0]) (pure_ok G__law_few) (takes_of rfl rfl rfl rfl) (hr.mono (by decide)) rfl T.g__law_few F__law_few.kp B__law_few_1 (qs_cons (qo_name (i := 3) rfl (by first | exact .inl rfl | exact .inr (.inl rfl) | exact .inr (.inr rfl)) (by decide) (by decide)) qs_nil rfl) qk_nil rfl rfl rfl rfl (by decide) rfl rfl (len_cons len_nil) len_nil)) (qo_v qv_int))) qs_nil rfl) rfl) (qg_name (i := 6) sc.nd rfl (by first | exact .inl rfl | exact .inr rfl) (by first | exact .inl rfl | exact .inr rfl)) (qss_cons (qs_asg (i := 7) sc.nd rfl (by first | exact .inl rfl | exact .inr rfl) (qv_callB (cr_sortD (u65 hr)) s_sortF rfl T.n_sorted PyProof.Rows.boot_sorted (qs_cons (qo_v (qv_lc (own := [("_law_row", 8)]) rfl sc.nd (qi_seq (qo_v (qv_fn (ks := []) (arr := [.inl 0, .inl 1]) (pure_ok G__law_all_rows) (takes_of rfl rfl rfl rfl) (hr.mono (by decide)) rfl T.g__law_all_rows F__law_all_rows.kp B__law_all_rows_2 (qs_cons (qo_name (i := 3) rfl (by first | exact .inl rfl | exact .inr (.inl rfl) | exact .inr (.inr rfl)) (by decide) (by decide)) (qs_cons (qo_name (i := 6) rfl (by first | exact .inl rfl | exact .inr (.inl rfl) | exact .inr (.inr rfl)) (by decide) (by decide)) qs_nil rfl) rfl) qk_nil rfl rfl rfl rfl (by decide) rfl rfl (len_cons (len_cons len_nil)) len_nil))) (blkOk_by (by rfl)) (fun _ _ _ _ _ => (qg_name (i := 8) sc.nd rfl (by first | exact .inl rfl | exact .inr rfl) (by first | exact .inl rfl | exact .inr rfl))) (fun _ _ _ _ _ => (qts_one (qt_cmp (op_eqD (u64 hr)) s_eqF (qo_v (qv_fn (ks := []) (arr := [.inl 0, .inl 1]) (pure_ok G__law_behind) takes0 (hr.mono (by decide)) rfl T.g__law_behind F__law_behind.kp B__law_behind_2 (qs_cons (qo_name (i := 4) rfl (by first | exact .inl rfl | exact .inr (.inl rfl) | exact .inr (.inr rfl)) (by decide) (by decide)) (qs_cons (qo_name (i := 8) rfl (by first | exact .inl rfl | exact .inr (.inl rfl) | exact .inr (.inr rfl)) (by decide) (by decide)) qs_nil rfl) rfl) qk_nil rfl rfl rfl rfl (by decide) rfl rfl (len_cons (len_cons len_nil)) len_nil)) (qo_name (i := 8) rfl (by first | exact .inl rfl | exact .inr (.inl rfl) | exact .inr (.inr rfl)) (by decide) (by decide)) (nomark _)))) (fun _ _ _ _ _ => (qo_name (i := 8) rfl (by first | exact .inl rfl | exact .inr (.inl rfl) | exact .inr (.inr rfl)) (by decide) (by decide))) (fun _ => rfl))) qs_nil rfl) (by decide) (by decide) rfl rfl) rfl (.inl rfl)) (qss_cons (qs_if (qt_not (qt_truth (qo_v (qv_fn (ks := []) (arr := [.inl 0, .inl 1]) (pure_ok G__law_same) (takes_of rfl rfl rfl rfl) (hr.mono (by decide)) rfl T.g__law_same F__law_same.kp B__law_same_2 (qs_cons (qo_v (qv_lst (qs_cons (qo_v (qv_fn (ks := []) (arr := [.inl 0, .inl 1]) (pure_ok G_still_count) (takes_of rfl rfl rfl rfl) (hr.mono (by decide)) rfl T.g_still_count F_still_count.kp B_still_count_2 (qs_cons (qo_name (i := 5) rfl (by first | exact .inl rfl | exact .inr (.inl rfl) | exact .inr (.inr rfl)) (by decide) (by decide)) (qs_cons (qo_name (i := 6) rfl (by first | exact .inl rfl | exact .inr (.inl rfl) | exact .inr (.inr rfl)) (by decide) (by decide)) qs_nil rfl) rfl) qk_nil rfl rfl rfl rfl (by decide) rfl rfl (len_cons (len_cons len_nil)) len_nil)) (qs_cons (qo_v (qv_fn (ks := []) (arr := [.inl 0, .inl 1]) (pure_ok G_first_still) (takes_of rfl rfl rfl rfl) (hr.mono (by decide)) rfl T.g_first_still F_first_still.kp B_first_still_2 (qs_cons (qo_name (i := 5) rfl (by first | exact .inl rfl | exact .inr (.inl rfl) | exact .inr (.inr rfl)) (by decide) (by decide)) (qs_cons (qo_name (i := 6) rfl (by first | exact .inl rfl | exact .inr (.inl rfl) | exact .inr (.inr rfl)) (by decide) (by decide)) qs_nil rfl) rfl) qk_nil rfl rfl rfl rfl (by decide) rfl rfl (len_cons (len_cons len_nil)) len_nil)) qs_nil rfl) rfl))) (qs_cons (qo_v (qv_lst (qs_cons (qo_v (qv_callB cr_len1 s_lenF rfl T.n_len boot_len (qs_cons (qo_name (i := 7) rfl (by first | exact .inl rfl | exact .inr (.inl rfl) | exact .inr (.inr rfl)) (by decide) (by decide)) qs_nil rfl) (by decide) (by decide) rfl rfl)) (qs_cons (qo_v (qv_if (qt_cmp (op_neD (u64 hr)) s_neF (qo_name (i := 7) rfl (by first | exact .inl rfl | exact .inr (.inl rfl) | exact .inr (.inr rfl)) (by decide) (by decide)) (qo_v (qv_lst qs_nil)) (nomark _)) (qv_ix ix_seq s_ixF (qo_name (i := 7) rfl (by first | exact .inl rfl | exact .inr (.inl rfl) | exact .inr (.inr rfl)) (by decide) (by decide)) (qo_v qv_int) (fun _ _ => rfl)) qv_non)) qs_nil rfl) rfl))) qs_nil rfl) rfl) qk_nil rfl rfl rfl rfl (by decide) rfl rfl (len_cons (len_cons len_nil)) len_nil)) (fun _ => rfl))) (qss_cons (qs_ret qv_bl) qss_nil) qss_nil) qss_nil)) (fun _ => rfl)) (qss_cons (qs_if (qt_w (qw_or (qt_cmp (op_neD (u64 hr)) s_neF (qo_v (qv_fn0 (ks := ["dials", "turner"]) (arr := [.inl 1, .inl 0]) (pure_ok G_still_count) (takes_of rfl rfl rfl rfl) (hr.mono (by decide)) rfl T.g_still_count F_still_count.kp B_still_count_0_dials_turner (qk_cons (qo_v qv_int) (qk_cons (qo_name (i := 5) rfl (by first | exact .inl rfl | exact .inr (.inl rfl) | exact .inr (.inr rfl)) (by decide) (by decide)) qk_nil)) rfl rfl rfl (by decide) rfl (len_cons (len_cons len_nil)))) (qo_v (qv_fn (ks := []) (arr := [.inl 0, .inl 1]) (pure_ok G_still_count) (takes_of rfl rfl rfl rfl) (hr.mono (by decide)) rfl T.g_still_count F_still_count.kp B_still_count_2 (qs_cons (qo_name (i := 5) rfl (by first | exact .inl rfl | exact .inr (.inl rfl) | exact .inr (.inr rfl)) (by decide) (by decide)) (qs_cons (qo_v qv_int) qs_nil rfl) rfl) qk_nil rfl rfl rfl rfl (by decide) rfl rfl (len_cons (len_cons len_nil)) len_nil)) (nomark _)) (qw_or1 (qt_cmp (op_neD (u64 hr)) s_neF (qo_v (qv_fn0 (ks := ["dials", "turner"]) (arr := [.inl 1, .inl 0]) (pure_ok G_first_still) (takes_of rfl rfl rfl rfl) (hr.mono (by decide)) rfl T.g_first_still F_first_still.kp B_first_still_0_dials_turner (qk_cons (qo_v qv_int) (qk_cons (qo_name (i := 5) rfl (by first | exact .inl rfl | exact .inr (.inl rfl) | exact .inr (.inr rfl)) (by decide) (by decide)) qk_nil)) rfl rfl rfl (by decide) rfl (len_cons (len_cons len_nil)))) (qo_v (qv_tup qs_nil)) (nomark _))))) (qss_cons (qs_ret qv_bl) qss_nil) qss_nil) qss_nil))))) (fun _ => rfl)) (qss_cons (qs_ret qv_bl) qss_nil))) rfl
end
theorem txt_of {K : PySem.W.Frag} {h : Heap} {mg : Str → Option Value} (X : K.In h) (G : h.Ns mainGlobals mg) (c : ZSays fa fn K) : Txt K mg where
  n_int := He.free_ok X G (c.fact 0 rfl)
  n_list := He.free_ok X G (c.fact 1 rfl)
  n_range := He.free_ok X G (c.fact 2 rfl)
  n_len := He.free_ok X G (c.fact 3 rfl)
  n_abs := He.free_ok X G (c.fact 4 rfl)
  n_tuple := He.free_ok X G (c.fact 5 rfl)
  n_isinstance := He.free_ok X G (c.fact 6 rfl)
  n_bool := He.free_ok X G (c.fact 7 rfl)
  n_enumerate := He.free_ok X G (c.fact 8 rfl)
  n_all := He.free_ok X G (c.fact 9 rfl)
  n_sorted := He.free_ok X G (c.fact 10 rfl)
  n_zip := He.free_ok X G (c.fact 11 rfl)
  n_str := He.free_ok X G (c.fact 12 rfl)
  n_any := He.free_ok X G (c.fact 13 rfl)
  n_sum := He.free_ok X G (c.fact 14 rfl)
  g_law := He.glo_ok X G (c.fact 15 rfl)
  g__law_bag := He.glo_ok X G (c.fact 16 rfl)
  g__law_pull := He.glo_ok X G (c.fact 17 rfl)
  g__law_of := He.glo_ok X G (c.fact 18 rfl)
  g__law_prime := He.glo_ok X G (c.fact 19 rfl)
  g__law_calm := He.glo_ok X G (c.fact 20 rfl)
  g__law_figures := He.glo_ok X G (c.fact 21 rfl)
  g__law_plain := He.glo_ok X G (c.fact 22 rfl)
  g_is_number := He.glo_ok X G (c.fact 23 rfl)
  g_PRIMES := He.glo_ok X G (c.fact 24 rfl)
  t_PRIMES := c.fact 25 rfl
  g_is_prime := He.glo_ok X G (c.fact 26 rfl)
  g_need_prime := He.glo_ok X G (c.fact 27 rfl)
  g_Turner := He.glo_ok X G (c.fact 28 rfl)
  v_Turner_MOST := cval_ok (c.fact 29 rfl)
  g_is_within := He.glo_ok X G (c.fact 30 rfl)
  g_is_figure := He.glo_ok X G (c.fact 31 rfl)
  g_is_state := He.glo_ok X G (c.fact 32 rfl)
  c_Turner := He.cls_ok (c.fact 33 rfl)
  na_Turner_own_prime := He.noat_ok (c.fact 34 rfl)
  na_Turner_own_states := He.noat_ok (c.fact 35 rfl)
  na_Turner_own_start := He.noat_ok (c.fact 36 rfl)
  m_Turner := He.mkr_ok (c.fact 37 rfl)
  g__law_made := He.glo_ok X G (c.fact 38 rfl)
  g__law_few := He.glo_ok X G (c.fact 39 rfl)
  g__law_all_rows := He.glo_ok X G (c.fact 40 rfl)
  g__law_way := He.glo_ok X G (c.fact 41 rfl)
  g__law_behind := He.glo_ok X G (c.fact 42 rfl)
  g__law_same := He.glo_ok X G (c.fact 43 rfl)
  k_MOST_DIALS := He.int_ok X G (c.fact 44 rfl)
  g_need_dials := He.glo_ok X G (c.fact 45 rfl)
  h_Turner___len__ := He.meth_ok (c.fact 46 rfl)
  h_Turner_states := He.meth_ok (c.fact 47 rfl)
  g_next_alive := He.glo_ok X G (c.fact 48 rfl)
  p_Turner_start := prop_ok (c.fact 49 rfl)
  g_first_still := He.glo_ok X G (c.fact 50 rfl)
  g_still_count := He.glo_ok X G (c.fact 51 rfl)
  f__law_bag := c.def_ 0 (d := z__law_bag) rfl
  f__law_pull := c.def_ 1 (d := z__law_pull) rfl
  f__law_of := c.def_ 2 (d := z__law_of) rfl
  f__law_prime := c.def_ 3 (d := z__law_prime) rfl
  f__law_calm := c.def_ 4 (d := z__law_calm) rfl
  f__law_figures := c.def_ 5 (d := z__law_figures) rfl
  f__law_plain := c.def_ 6 (d := z__law_plain) rfl
  f_is_number := c.def_ 7 (d := z_is_number) rfl
  f_is_prime := c.def_ 8 (d := z_is_prime) rfl
  f_need_prime := c.def_ 9 (d := z_need_prime) rfl
  f_is_within := c.def_ 10 (d := z_is_within) rfl
  f_is_figure := c.def_ 11 (d := z_is_figure) rfl
  f_is_state := c.def_ 12 (d := z_is_state) rfl
  f_Turner___init__ := c.def_ 13 (d := z_Turner___init__) rfl
  f__law_made := c.def_ 14 (d := z__law_made) rfl
  f__law_few := c.def_ 15 (d := z__law_few) rfl
  f__law_all_rows := c.def_ 16 (d := z__law_all_rows) rfl
  f__law_way := c.def_ 17 (d := z__law_way) rfl
  f__law_behind := c.def_ 18 (d := z__law_behind) rfl
  f__law_same := c.def_ 19 (d := z__law_same) rfl
  f_need_dials := c.def_ 20 (d := z_need_dials) rfl
  f_Turner___len__ := c.def_ 21 (d := z_Turner___len__) rfl
  f_Turner_states := c.def_ 22 (d := z_Turner_states) rfl
  f_next_alive := c.def_ 23 (d := z_next_alive) rfl
  f_Turner_start := c.def_ 24 (d := z_Turner_start) rfl
  f_first_still := c.def_ 25 (d := z_first_still) rfl
  f_still_count := c.def_ 26 (d := z_still_count) rfl
  f_law := c.def_ 27 (d := z_law) rfl
end Y
namespace Y
open PySem Z
instance : Inhabited D := ⟨.non⟩
def BagOk (r : List D) : Prop := ∃ (cs : List Int) (a b c e : Int), r = [.lst (cs.map D.int), .int a, .int b, .int c, .int e] ∧ 0 ≤ a ∧ 0 ≤ b ∧ 0 ≤ c ∧ c < 2147483648
theorem emod_bd {x m : Int} (h : 0 < m) : 0 ≤ x % m ∧ x % m < m := ⟨Int.emod_nonneg _ (by omega), Int.emod_lt_of_pos _ h⟩
theorem pull_ok {bag : List D} {m : Int} (hb : BagOk bag) (hm : 0 < m) (hm2 : m < 1073741824) : ∃ d bag', D__law_pull [.ol bag, .sh (.int m)] = .ok (.sh (.int d)) [.ol bag', .sh (.int m)] ∧ 0 ≤ d ∧ d < m ∧ BagOk bag' := by
  obtain ⟨cs, a, b, c, e, rfl, ha, hb, hc, hc2⟩ := hb
  have bd := fun x => @emod_bd x 2147483629 (by decide)
  by_cases h1 : b = 0
  · by_cases h2 : a < (cs.map D.int).length
    · have ea : L2.atI (cs.map D.int) a = some (.int cs[a.toNat]!) := by
        rw [atZ ha h2]
        rw [List.length_map] at h2
        have h3 : a.toNat < cs.length := by omega
        simp [h3]
      generalize cs[a.toNat]! = v at ea
      by_cases h3 : 1000000000000000000 ≤ iabs v
      · have h4 : 0 < iabs v := by omega
        unfold D__law_pull S__law_pull
        simp_arith [h1, h2, ea, h3, h4]
        exact ⟨_, _, rfl, (emod_bd hm).1, (emod_bd hm).2, cs, _, _, _, _, rfl, by omega, Int.ediv_nonneg (by omega) (by omega), hc, hc2⟩
      · unfold D__law_pull S__law_pull
        simp_arith [h1, h2, ea, h3, Int.lt_irrefl]
        exact ⟨_, _, rfl, (emod_bd hm).1, (emod_bd hm).2, cs, _, _, _, _, rfl, by omega, by omega, (bd _).1, Int.lt_trans (bd _).2 (by decide)⟩
    · unfold D__law_pull S__law_pull
      simp_arith [h1, h2, Int.lt_irrefl]
      exact ⟨_, _, rfl, (emod_bd hm).1, (emod_bd hm).2, cs, _, _, _, _, rfl, by omega, by omega, (bd _).1, Int.lt_trans (bd _).2 (by decide)⟩
  · have h5 : 0 < b := by omega
    unfold D__law_pull S__law_pull
    simp_arith [h1, h5]
    exact ⟨_, _, rfl, (emod_bd hm).1, (emod_bd hm).2, cs, _, _, _, _, rfl, by omega, Int.ediv_nonneg (by omega) (by omega), hc, hc2⟩
theorem cut_map (ns : List Int) (lo hi : Option Int) : ∃ cs : List Int, cutG (ns.map D.int) lo hi = cs.map D.int := by
  unfold cutG
  rw [← List.map_drop, ← List.map_take]
  exact ⟨_, rfl⟩
theorem slF_fls {ds : List D} {lo hi : Option Int} : slF (.sh (.fls ds)) lo hi = some (.ol (cutG ds lo hi)) := rfl
theorem bag_ok (ns : List Int) : ∃ bag, D__law_bag [.sh (.fls (ns.map D.int))] = .ok (.ol bag) [.sh (.fls (ns.map D.int))] ∧ BagOk bag := by
  obtain ⟨cs, hcs⟩ := cut_map ns none (some 63)
  obtain ⟨env', h1, mx, o, h2, h3, h4⟩ := forM_nx (pn := []) (t := .name 2) (s := L__law_bag_1 []) (ds := cs.map D.int) (n := 0) (env := [some (.sh (.fls (ns.map D.int))), some (.sh (.int 4926)), none])
    (fun _ env => ∃ (mx : Int) (o : Option RV), env = [some (.sh (.fls (ns.map D.int))), some (.sh (.int mx)), o] ∧ 0 ≤ mx ∧ mx < 2147483648) ⟨4926, none, rfl, by decide, by decide⟩ (by
      rintro i d env hd ⟨mx, o, rfl, m1, m2⟩
      rw [List.getElem?_map] at hd
      cases z : cs[i]? with
      | none => rw [z] at hd; cases hd
      | some v =>
        rw [z] at hd; cases hd
        simp_arith [forStep, L__law_bag_1]
        refine ⟨_, rfl, _, _, rfl, (emod_bd ?_).1, Int.lt_trans (emod_bd ?_).2 ?_⟩ <;> decide)
  subst h2
  unfold D__law_bag S__law_bag
  simp_arith [slF_fls, hcs, h1]
  exact ⟨_, rfl, cs, _, _, _, _, rfl, by decide, by decide, h3, h4⟩
theorem of_ok {bag xs : List D} (hb : BagOk bag) (hx : 0 < xs.length) (hx2 : xs.length < 1000) : ∃ x bag', D__law_of [.ol bag, .sh (.lst xs)] = .ok (.sh x) [.ol bag', .sh (.lst xs)] ∧ x ∈ xs ∧ BagOk bag' := by
  obtain ⟨d, bag', h1, h2, h3, h4⟩ := pull_ok (m := xs.length) hb (by omega) (by omega)
  have e : L2.atI xs d = some xs[d.toNat]! := by
    rw [atZ h2 h3]
    have : d.toNat < xs.length := by omega
    simp [this]
  refine ⟨xs[d.toNat]!, bag', ?_, ?_, h4⟩
  · unfold D__law_of S__law_of
    simp_arith [h1, e]
  · have : d.toNat < xs.length := by omega
    simp [this]
theorem prime_ok {bag : List D} (hb : BagOk bag) : ∃ p bag', D__law_prime [.ol bag] = .ok (.sh (.int p)) [.ol bag'] ∧ (p = 2 ∨ p = 3 ∨ p = 5 ∨ p = 7) ∧ BagOk bag' := by
  obtain ⟨x, bag', h1, h2, h3⟩ := of_ok (xs := [.int 2, .int 2, .int 3, .int 2, .int 3, .int 5, .int 7]) hb (by decide) (by decide)
  have : ∃ p : Int, x = .int p ∧ (p = 2 ∨ p = 3 ∨ p = 5 ∨ p = 7) := by
    simp only [List.mem_cons, List.not_mem_nil, or_false] at h2
    rcases h2 with rfl | rfl | rfl | rfl | rfl | rfl | rfl <;> exact ⟨_, rfl, by omega⟩
  obtain ⟨p, rfl, hp⟩ := this
  refine ⟨p, bag', ?_, hp, h3⟩
  unfold D__law_prime S__law_prime
  simp_arith [h1]
/-- numbers below m, so many -/
def Figs (m : Int) (n : Nat) (fs : List Int) : Prop := fs.length = n ∧ ∀ f ∈ fs, 0 ≤ f ∧ f < m
theorem rng1_int {j : Int} (h1 : -4611686018427387904 < j) (h2 : j < 4611686018427387904) : rng1F [.sh (.int j)] = some (rangeD 0 j.toNat) := by
  show (if in62 j = true then some (rangeD 0 j.toNat) else none) = _
  have h3 : in62 j = true := Nat.ble_eq_true_of_le (by omega)
  rw [if_pos h3]
end Y
namespace Y
open PySem Z
theorem foldl_range {α β : Type} [Inhabited α] (F : β → α → β) : ∀ (l : List α) (x : β), (List.range l.length).foldl (fun b i => F b l[i]!) x = l.foldl F x := by
  intro l
  induction l with
  | nil => intro x; rfl
  | cons a l ih =>
    intro x
    rw [List.length_cons, List.range_succ_eq_map, List.foldl_cons, List.foldl_map, List.foldl_cons, ← ih]
    rfl
theorem ints_at {cs : List Int} {k : Nat} (hk : k < cs.length) : L2.atI (cs.map D.int) (k : Int) = some (.int cs[k]!) := by
  have e : cs[k]! = cs[k] := by simp [hk]
  rw [e, atN (by rw [List.length_map]; exact hk), List.getElem?_map, List.getElem?_eq_getElem hk]; rfl
theorem ints_atZ {cs : List Int} {t : Int} (h0 : 0 ≤ t) (hk : t < cs.length) : L2.atI (cs.map D.int) t = some (.int (cs.getD t.toNat 0)) := by
  rw [atZ h0 (by rw [List.length_map]; exact hk), List.getElem?_map, List.getD_eq_getElem?_getD, List.getElem?_eq_getElem (by omega)]; rfl
theorem map_range {α β : Type} [Inhabited α] (F : α → β) : ∀ (l : List α), (List.range l.length).map (fun i => F l[i]!) = l.map F := by
  intro l
  induction l with
  | nil => rfl
  | cons a l ih =>
    rw [List.length_cons, List.range_succ_eq_map, List.map_cons, List.map_map, List.map_cons, ← ih]
    rfl
end Y
namespace Y
open PySem Z
theorem at_last {α : Type} {l : List α} (h : 0 < l.length) : L2.atI l (-1) = l[l.length - 1]? := by
  unfold L2.atI L2.ixN
  rw [if_neg (by omega), if_pos (by omega)]
  rw [show (-1 + (l.length : Int)).toNat = l.length - 1 from by omega]
  rfl
end Y
namespace Y
open PySem Z
theorem figures_ok {bag : List D} {m : Int} {n : Nat} (hb : BagOk bag) (hm : 0 < m) (hm2 : m < 1000) (hn : n < 1000) : ∃ fs bag', D__law_figures [.ol bag, .sh (.int m), .sh (.int n)] = .ok (.sh (.tup (fs.map D.int))) [.ol bag', .sh (.int m), .sh (.int n)] ∧ Figs m n fs ∧ BagOk bag' := by
  obtain ⟨acc, env', h1, ⟨fs, bag', o, rfl, rfl, h4, h5⟩, h6⟩ := lcGo_ok (pn := [0]) (vs := [3]) (t := .name 3) (me := E__law_figures_1 [0]) (ds := rangeD 0 n) (acc := []) (env := [some (.ol bag), some (.sh (.int m)), some (.sh (.int n)), none])
    (fun acc env => ∃ (fs : List Int) (bag' : List D) (o : Option RV), acc = fs.map D.int ∧ env = [some (.ol bag'), some (.sh (.int m)), some (.sh (.int n)), o] ∧ (∀ f ∈ fs, 0 ≤ f ∧ f < m) ∧ BagOk bag')
    ⟨[], bag, none, rfl, rfl, by simp, hb⟩ (by simp [rangeD]; omega) (by
      rintro acc d env hd ⟨fs, bag1, o, rfl, rfl, h4, h5⟩
      obtain ⟨v, bag2, g1, g2, g3, g4⟩ := pull_ok h5 hm (by omega)
      · simp_arith [lcStep, E__law_figures_1, g1]
        refine ⟨_, _, rfl, fs ++ [v], bag2, _, by simp, rfl, fun f hf => ?_, g4⟩
        rcases List.mem_append.mp hf with hf | hf
        · exact h4 f hf
        · simp at hf; subst hf; exact ⟨g2, g3⟩)
  refine ⟨fs, bag', ?_, ⟨by simpa [rangeD] using h6, h4⟩, h5⟩
  have hr : rng1F [.sh (.int n)] = some (rangeD 0 n) := by
    rw [rng1_int (by omega) (by omega), Int.toNat_natCast]
  have hi : I__law_figures_1 [0] [some (.ol bag), some (.sh (.int m)), some (.sh (.int n)), none] = .ok (rangeD 0 n) [some (.ol bag), some (.sh (.int m)), some (.sh (.int n)), none] := by
    unfold I__law_figures_1; simp_arith [hr]
  have hl := lcM_eq hi (by decide) h1
  unfold D__law_figures S__law_figures
  simp_arith [hl, wipeD]
end Y
namespace Y
open PySem Z
/-- the rows of a machine: turn, targets -/
def rowD (r : Int × List Int) : D := .tup [.int r.1, .tup (r.2.map D.int)]
def RowOk (p k : Int) (r : Int × List Int) : Prop := (0 ≤ r.1 ∧ r.1 < p) ∧ Figs k p.toNat r.2
def MachOk (p : Int) (rows : List (Int × List Int)) (s : Int) : Prop := (p = 2 ∨ p = 3 ∨ p = 5 ∨ p = 7) ∧ 1 ≤ rows.length ∧ rows.length ≤ 240 ∧ (∀ r ∈ rows, RowOk p rows.length r) ∧ 0 ≤ s ∧ s < rows.length
theorem plain_ok {bag : List D} {p top : Int} (hb : BagOk bag) (hp : p = 2 ∨ p = 3 ∨ p = 5 ∨ p = 7) (ht : 1 ≤ top) (ht2 : top ≤ 100) : ∃ rows s bag', D__law_plain [.ol bag, .sh (.int p), .sh (.int top)] = .ok (.sh (.tup [.int p, .lst (rows.map rowD), .int s])) [.ol bag', .sh (.int p), .sh (.int top)] ∧ MachOk p rows s ∧ BagOk bag' ∧ (rows.length : Int) ≤ top := by
  obtain ⟨d, bag1, h1, h2, h3, h4⟩ := pull_ok (m := top) hb (by omega) (by omega)
  obtain ⟨n, hn⟩ : ∃ n : Nat, 1 + d = n := ⟨(1 + d).toNat, by omega⟩
  have hp0 : 0 < p ∧ p < 10 := by omega
  obtain ⟨pn, hpn⟩ : ∃ pn : Nat, p = pn := ⟨p.toNat, by omega⟩
  obtain ⟨env', g1, rows, bag2, o, g2, g3, g4, g5⟩ := forM_nx (pn := [0]) (t := .name 5) (s := L__law_plain_1 [0]) (ds := rangeD 0 n) (n := 0) (env := [some (.ol bag1), some (.sh (.int p)), some (.sh (.int top)), some (.sh (.int n)), some (.ol []), none])
    (fun i env => ∃ (rows : List (Int × List Int)) (bag2 : List D) (o : Option RV), env = [some (.ol bag2), some (.sh (.int p)), some (.sh (.int top)), some (.sh (.int n)), some (.ol (rows.map rowD)), o] ∧ rows.length = i ∧ (∀ r ∈ rows, RowOk p n r) ∧ BagOk bag2)
    ⟨[], bag1, none, rfl, rfl, by simp, h4⟩ (by
      rintro i x env hx ⟨rows, bag2, o, rfl, g3, g4, g5⟩
      have hi : i < n := by
        have := (List.getElem?_eq_some_iff.mp hx).1
        simpa [rangeD] using this
      obtain ⟨v, bag3, k1, k2, k3, k4⟩ := pull_ok g5 hp0.1 (by omega)
      obtain ⟨y, bag4, k5, k6, k7⟩ := of_ok (xs := [.int 0, .int 0, .int 1, .int (p - 1), .int v]) k4 (by simp) (by simp)
      obtain ⟨t, rfl, ht0, ht1⟩ : ∃ t : Int, y = .int t ∧ 0 ≤ t ∧ t < p := by
        simp only [List.mem_cons, List.not_mem_nil, or_false] at k6
        rcases k6 with rfl | rfl | rfl | rfl | rfl <;> exact ⟨_, rfl, by omega, by omega⟩
      obtain ⟨fs, bag5, k8, k9, k10⟩ := figures_ok (m := n) (n := pn) k7 (by omega) (by omega) (by omega)
      rw [← hpn] at k8
      have hlen : (rows.map rowD).length < 16777216 := by rw [List.length_map]; omega
      simp_arith [forStep, L__law_plain_1, k1, k5, k8, hlen]
      refine ⟨_, rfl, rows ++ [(t, fs)], bag5, some (.sh x), by simp [rowD], by simp [g3], fun r hr => ?_, k10⟩
      rcases List.mem_append.mp hr with hr | hr
      · exact g4 r hr
      · simp at hr; subst hr
        exact ⟨⟨ht0, ht1⟩, by rw [hpn]; simpa using k9.1, k9.2⟩)
  subst g2
  have hl : rows.length = n := by simpa [rangeD] using g3
  obtain ⟨s, bag3, k1, k2, k3, k4⟩ := pull_ok (m := n) g5 (by omega) (by omega)
  have hr : rng1F [.sh (.int n)] = some (rangeD 0 n) := by
    rw [rng1_int (by omega) (by omega), Int.toNat_natCast]
  refine ⟨rows, s, bag3, ?_, ⟨hp, by omega, by omega, by rw [hl]; exact g4, k2, by rw [hl]; exact k3⟩, k4, by omega⟩
  unfold D__law_plain S__law_plain
  simp_arith [h1, hn, hr, g1, k1]
end Y
namespace Y
open PySem Z
theorem number_ok {i : Int} : D_is_number [.sh (.int i)] = .ok (.sh (.bl true)) [.sh (.int i)] := by
  unfold D_is_number S_is_number
  simp_arith
theorem need_prime_ok {p : Int} (hp : p = 2 ∨ p = 3 ∨ p = 5 ∨ p = 7) : D_need_prime [.sh (.int p)] = .ok (.sh .non) [.sh (.int p)] := by
  rcases hp with rfl | rfl | rfl | rfl <;> rfl
theorem within_ok {v lo hi : Int} (h1 : lo ≤ v) (h2 : v ≤ hi) : D_is_within [.sh (.int v), .sh (.int lo), .sh (.int hi)] = .ok (.sh (.bl true)) [.sh (.int v), .sh (.int lo), .sh (.int hi)] := by
  unfold D_is_within S_is_within
  simp_arith [number_ok, h1, h2]
theorem figure_ok {p v : Int} (h1 : 0 ≤ v) (h2 : v < p) : D_is_figure [.sh (.int p), .sh (.int v)] = .ok (.sh (.bl true)) [.sh (.int p), .sh (.int v)] := by
  have h := within_ok (v := v) (lo := 0) (hi := p - 1) h1 (by omega)
  unfold D_is_figure S_is_figure
  simp_arith [h]
theorem bools_true : ∀ n : Nat, boolsOf (List.replicate n (D.bl true)) = some (List.replicate n true)
  | 0 => rfl
  | n + 1 => by simp [List.replicate_succ, boolsOf, bools_true n]
theorem allF_true {n : Nat} : allF [.sh (.lst (List.replicate n (D.bl true)))] = some (.sh (.bl true)) := by
  show Option.map _ (Option.bind (some _) boolsOf) = _
  rw [Option.bind_some, bools_true]
  simp
theorem state_ok {p : Int} {k : Int} {r : Int × List Int} (hp : p = 2 ∨ p = 3 ∨ p = 5 ∨ p = 7) (h : RowOk p k r) : D_is_state [.sh (.int p), .sh (rowD r), .sh (.int k)] = .ok (.sh (.bl true)) [.sh (.int p), .sh (rowD r), .sh (.int k)] := by
  obtain ⟨t, g⟩ := r
  obtain ⟨⟨h1, h2⟩, h3, h4⟩ := h
  simp only at h1 h2 h3 h4
  have hf := figure_ok h1 h2
  have hlen : ((g.map D.int).length : Int) = p := by rw [List.length_map, h3]; omega
  obtain ⟨acc, env', g1, ⟨n, o, rfl, rfl⟩, g3⟩ := lcGo_ok (pn := []) (vs := [4]) (t := .name 4) (me := E_is_state_1 []) (ds := g.map D.int) (acc := []) (env := [some (.sh (.int p)), some (.sh (.tup [.int t, .tup (g.map D.int)])), some (.sh (.int k)), some (.sh (.tup (g.map D.int))), none])
    (fun acc env => ∃ (n : Nat) (o : Option RV), acc = List.replicate n (D.bl true) ∧ env = [some (.sh (.int p)), some (.sh (.tup [.int t, .tup (g.map D.int)])), some (.sh (.int k)), some (.sh (.tup (g.map D.int))), o])
    ⟨0, none, rfl, rfl⟩ (by simp [h3]; omega) (by
      rintro acc d env hd ⟨n, o, rfl, rfl⟩
      obtain ⟨v, hv, rfl⟩ := List.mem_map.mp hd
      have hw := within_ok (v := v) (lo := 0) (hi := k - 1) (h4 v hv).1 (by have := (h4 v hv).2; omega)
      simp_arith [lcStep, E_is_state_1, hw]
      exact ⟨_, _, rfl, n + 1, none, by rw [← List.replicate_succ'], rfl⟩)
  have hi : I_is_state_1 [] [some (.sh (.int p)), some (.sh (.tup [.int t, .tup (g.map D.int)])), some (.sh (.int k)), some (.sh (.tup (g.map D.int))), none] = .ok (g.map D.int) [some (.sh (.int p)), some (.sh (.tup [.int t, .tup (g.map D.int)])), some (.sh (.int k)), some (.sh (.tup (g.map D.int))), none] := by
    unfold I_is_state_1; simp_arith
  have hl := lcM_eq hi (by decide) g1
  unfold D_is_state S_is_state rowD
  simp_arith [hf, hlen, hl, wipeD, allF_true]
def turnerD (p : Int) (rows : List (Int × List Int)) (s : Int) : D := .obj "Turner" [("own_prime", .int p), ("own_states", .lst (rows.map rowD)), ("own_start", .int s)]
theorem init_loop {p s : Int} {rows : List (Int × List Int)} {pn : List Nat} (hpn : pn = [0] ∨ pn = [0, 2]) (h : MachOk p rows s) : ∃ o1 o2, forM pn (.tup [.name 4, .name 5]) (L_Turner___init___1 pn) (enumFrom 0 (rows.map rowD)) [some (.oo "Turner" []), some (.sh (.int p)), some (.sh (.lst (rows.map rowD))), some (.sh (.int s)), none, none] = .nx [some (.oo "Turner" []), some (.sh (.int p)), some (.sh (.lst (rows.map rowD))), some (.sh (.int s)), o1, o2] := by
  obtain ⟨hp, h1, h2, h3, h4, h5⟩ := h
  have hlen : ((rows.map rowD).length : Int) = rows.length := by rw [List.length_map]
  obtain ⟨env', g1, o1, o2, rfl⟩ := forM_nx (pn := pn) (t := .tup [.name 4, .name 5]) (s := L_Turner___init___1 pn) (ds := enumFrom 0 (rows.map rowD)) (n := 0) (env := [some (.oo "Turner" []), some (.sh (.int p)), some (.sh (.lst (rows.map rowD))), some (.sh (.int s)), none, none])
    (fun i env => ∃ (o1 o2 : Option RV), env = [some (.oo "Turner" []), some (.sh (.int p)), some (.sh (.lst (rows.map rowD))), some (.sh (.int s)), o1, o2]) ⟨none, none, rfl⟩ (by
      rintro i x env hx ⟨o1, o2, rfl⟩
      rw [enumFrom_get, List.getElem?_map] at hx
      cases z : rows[i]? with
      | none => rw [z] at hx; cases hx
      | some r =>
        rw [z] at hx; cases hx
        have hi := (List.getElem?_eq_some_iff.mp z).1
        have hs := state_ok hp (h3 r (List.mem_of_getElem? z))
        have h240 : ¬ (i : Int) = 240 := by omega
        rcases hpn with rfl | rfl
        · simp_arith [forStep, L_Turner___init___1, h240, hlen, hs]
          exact ⟨_, rfl, _, _, rfl⟩
        · simp_arith [forStep, L_Turner___init___1, h240, hlen, hs]
          exact ⟨_, rfl, _, _, rfl⟩)
  exact ⟨o1, o2, g1⟩
theorem init_ok {p s : Int} {rows : List (Int × List Int)} (h : MachOk p rows s) : D_Turner___init__ [.oo "Turner" [], .sh (.int p), .sh (.lst (rows.map rowD)), .sh (.int s)] = .ok (.sh .non) [.oo "Turner" [("own_prime", .int p), ("own_states", .lst (rows.map rowD)), ("own_start", .int s)], .sh (.int p), .sh (.lst (rows.map rowD)), .sh (.int s)] := by
  obtain ⟨o1, o2, g1⟩ := init_loop (.inl rfl) h
  obtain ⟨hp, h1, h2, h3, h4, h5⟩ := h
  have hn := need_prime_ok hp
  have hlen : ((rows.map rowD).length : Int) = rows.length := by rw [List.length_map]
  have hw := within_ok (v := s) (lo := 0) (hi := (rows.length : Int) - 1) h4 (by omega)
  have h0 : ¬ (rows.length : Int) = 0 := by omega
  unfold D_Turner___init__ S_Turner___init__
  simp_arith [hn, g1, hlen, h0, hw]
  rfl
/-- the list is the caller's own: it is shared from then on -/
theorem init_own {p s : Int} {rows : List (Int × List Int)} (h : MachOk p rows s) : D_Turner___init__ [.oo "Turner" [], .sh (.int p), .ol (rows.map rowD), .sh (.int s)] = .ok (.sh .non) [.oo "Turner" [("own_prime", .int p), ("own_states", .lst (rows.map rowD)), ("own_start", .int s)], .sh (.int p), .sh (.lst (rows.map rowD)), .sh (.int s)] := by
  obtain ⟨o1, o2, g1⟩ := init_loop (.inr rfl) h
  obtain ⟨hp, h1, h2, h3, h4, h5⟩ := h
  have hn := need_prime_ok hp
  have hlen : ((rows.map rowD).length : Int) = rows.length := by rw [List.length_map]
  have hw := within_ok (v := s) (lo := 0) (hi := (rows.length : Int) - 1) h4 (by omega)
  have h0 : ¬ (rows.length : Int) = 0 := by omega
  unfold D_Turner___init__ S_Turner___init__
  simp_arith [hn, g1, hlen, h0, hw]
  rfl
theorem made_ok {p s : Int} {rows : List (Int × List Int)} (h : MachOk p rows s) : D__law_made [.sh (.tup [.int p, .lst (rows.map rowD), .int s])] = .ok (.sh (turnerD p rows s)) [.sh (.tup [.int p, .lst (rows.map rowD), .int s])] := by
  have hi := init_ok h
  unfold D__law_made S__law_made
  simp_arith [hi, isNon, turnerD]
end Y
namespace Y
open PySem Z
def Good : Nat → D → Prop
  | n + 1, .int _ => True
  | n + 1, .bl _ => True
  | n + 1, .non => True
  | n + 1, .str x => PyData.strOk x = true
  | n + 1, .lst xs => (∀ x ∈ xs, Good n x) ∧ xs.length ≤ 100000
  | n + 1, .tup xs => (∀ x ∈ xs, Good n x) ∧ xs.length ≤ 100000
  | _, _ => False
theorem zip_mem : ∀ {xs : List D} {d : D}, d ∈ zipD xs xs → ∃ x ∈ xs, d = .tup [x, x]
  | [], d, h => by simp [zipD] at h
  | y :: ys, d, h => by
    rw [zipD] at h
    rcases List.mem_cons.mp h with h | h
    · exact ⟨y, List.mem_cons_self, h⟩
    · obtain ⟨x, h1, h2⟩ := zip_mem h
      exact ⟨x, List.mem_cons_of_mem _ h1, h2⟩
theorem zip_length : ∀ {xs : List D}, (zipD xs xs).length = xs.length
  | [] => rfl
  | y :: ys => by rw [zipD, List.length_cons, List.length_cons, zip_length]
theorem same_seq {f : FnD} {d : D} {xs : List D} (hd : d = .lst xs ∨ d = .tup xs) (hl : xs.length ≤ 100000) (hf : ∀ x ∈ xs, f [.sh x, .sh x] = .ok (.sh (.bl true)) [.sh x, .sh x]) : runD 4 (S__law_same f) [.sh d, .sh d] = .ok (.sh (.bl true)) [.sh d, .sh d] := by
  obtain ⟨acc, env', g1, ⟨n, o1, o2, rfl, rfl⟩, g3⟩ := lcGo_ok (pn := []) (vs := [2, 3]) (t := .tup [.name 2, .name 3]) (me := E__law_same_1 f []) (ds := zipD xs xs) (acc := []) (env := [some (.sh d), some (.sh d), none, none])
    (fun acc env => ∃ (n : Nat) (o1 o2 : Option RV), acc = List.replicate n (D.bl true) ∧ env = [some (.sh d), some (.sh d), o1, o2])
    ⟨0, none, none, rfl, rfl⟩ (by rw [zip_length]; simp; omega) (by
      rintro acc y env hy ⟨n, o1, o2, rfl, rfl⟩
      obtain ⟨x, hx, rfl⟩ := zip_mem hy
      simp_arith [lcStep, E__law_same_1, hf x hx]
      exact ⟨_, _, rfl, n + 1, none, none, by rw [← List.replicate_succ'], rfl⟩)
  rcases hd with rfl | rfl
  · have hi : I__law_same_1 f [] [some (.sh (.lst xs)), some (.sh (.lst xs)), none, none] = .ok (zipD xs xs) [some (.sh (.lst xs)), some (.sh (.lst xs)), none, none] := by
      unfold I__law_same_1; simp_arith
    have hm := lcM_eq hi (by decide) g1
    unfold S__law_same
    simp_arith [hm, wipeD, allF_true, List.any_cons, List.any_nil, Bool.or_self, Bool.true_or, Bool.false_or, bne_self_eq_false]
  · have hi : I__law_same_1 f [] [some (.sh (.tup xs)), some (.sh (.tup xs)), none, none] = .ok (zipD xs xs) [some (.sh (.tup xs)), some (.sh (.tup xs)), none, none] := by
      unfold I__law_same_1; simp_arith
    have hm := lcM_eq hi (by decide) g1
    unfold S__law_same
    simp_arith [hm, wipeD, allF_true, List.any_cons, List.any_nil, Bool.or_self, Bool.true_or, Bool.false_or, bne_self_eq_false]
theorem same_ok : ∀ (n : Nat) (d : D), Good n d → D__law_same n [.sh d, .sh d] = .ok (.sh (.bl true)) [.sh d, .sh d]
  | 0, d, h => by cases d <;> exact h.elim
  | n + 1, d, h => by
    show runD 4 (S__law_same (D__law_same n)) [.sh d, .sh d] = _
    cases d with
    | int i =>
      unfold S__law_same
      simp_arith [List.any_cons, List.any_nil, Bool.or_self, Bool.true_or, Bool.false_or, bne_self_eq_false, isF, isNon, beq_self_eq_true]
    | bl b =>
      unfold S__law_same
      simp_arith [List.any_cons, List.any_nil, Bool.or_self, Bool.true_or, Bool.false_or, bne_self_eq_false, isF, isNon, beq_self_eq_true]
    | str x =>
      have e := eqF_same (n := 1) (a := .sh (.str x)) (b := .sh (.str x)) (by decide) h rfl
      unfold S__law_same
      simp_arith [List.any_cons, List.any_nil, Bool.or_self, Bool.true_or, Bool.false_or, bne_self_eq_false, isF, isNon, beq_self_eq_true, e]
    | non =>
      unfold S__law_same
      simp_arith [List.any_cons, List.any_nil, Bool.or_self, Bool.true_or, Bool.false_or, bne_self_eq_false, isF, isNon, beq_self_eq_true]
    | lst xs => exact same_seq (.inl rfl) h.2 fun x hx => same_ok n x (h.1 x hx)
    | tup xs => exact same_seq (.inr rfl) h.2 fun x hx => same_ok n x (h.1 x hx)
    | _ => exact h.elim
theorem good_ints {n : Nat} {l : List Int} : ∀ x ∈ l.map D.int, Good (n + 1) x := fun x hx => by
  obtain ⟨i, _, rfl⟩ := List.mem_map.mp hx
  trivial
theorem good_rows {n : Nat} {p s : Int} {rows : List (Int × List Int)} (h : MachOk p rows s) : Good (n + 4) (.lst (rows.map rowD)) := by
  obtain ⟨hp, h1, h2, h3, h4, h5⟩ := h
  refine ⟨fun x hx => ?_, by rw [List.length_map]; omega⟩
  obtain ⟨r, hr, rfl⟩ := List.mem_map.mp hx
  obtain ⟨_, k1, _⟩ := h3 r hr
  refine ⟨fun y hy => ?_, by simp⟩
  simp only [List.mem_cons, List.not_mem_nil, or_false] at hy
  rcases hy with rfl | rfl
  · trivial
  · exact ⟨good_ints, by rw [List.length_map, k1]; omega⟩
end Y
namespace Y
open PySem Z
/-! the turner's parts -/
theorem T_cls {p s : Int} {rows : List (Int × List Int)} : clsR (.sh (turnerD p rows s)) = some (("Turner" : Str), [(("own_prime" : Str), D.int p), (("own_states" : Str), D.lst (rows.map rowD)), (("own_start" : Str), D.int s)]) := rfl
theorem fld_prime {p s : Int} {rows : List (Int × List Int)} : fldF ["Turner"] "own_prime" (.sh (turnerD p rows s)) = some (.sh (.int p)) := by
  unfold fldF; rw [T_cls]; simp only [List.mem_singleton, if_true]; rfl
theorem fld_states {p s : Int} {rows : List (Int × List Int)} : fldF ["Turner"] "own_states" (.sh (turnerD p rows s)) = some (.sh (.lst (rows.map rowD))) := by
  unfold fldF; rw [T_cls]; simp only [List.mem_singleton, if_true]; rfl
theorem fld_start {p s : Int} {rows : List (Int × List Int)} : fldF ["Turner"] "own_start" (.sh (turnerD p rows s)) = some (.sh (.int s)) := by
  unfold fldF; rw [T_cls]; simp only [List.mem_singleton, if_true]; rfl
end Y
namespace Y
open PySem Z
theorem start_p {p s : Int} {rows : List (Int × List Int)} : D_Turner_start [.sh (turnerD p rows s)] = .ok (.sh (.int s)) [.sh (turnerD p rows s)] := by
  unfold D_Turner_start S_Turner_start; simp_all_arith [fld_start]
end Y
namespace Y
open PySem Z
theorem states_p {p s : Int} {rows : List (Int × List Int)} : D_Turner_states [.sh (turnerD p rows s)] = .ok (.ol (rows.map rowD)) [.sh (turnerD p rows s)] := by
  unfold D_Turner_states S_Turner_states; simp_all_arith [fld_states]
theorem look_states {p s : Int} {rows : List (Int × List Int)} : List.lookup ("states" : Str) [(("own_prime" : Str), D.int p), (("own_states" : Str), D.lst (rows.map rowD)), (("own_start" : Str), D.int s)] = none := rfl
end Y
namespace Y
open PySem Z
theorem len_p {p s : Int} {rows : List (Int × List Int)} : D_Turner___len__ [.sh (turnerD p rows s)] = .ok (.sh (.int rows.length)) [.sh (turnerD p rows s)] := by
  unfold D_Turner___len__ S_Turner___len__; simp_all_arith [fld_states, List.length_map]
end Y
namespace Y
open PySem Z
abbrev Rows := List (Int × List Int)
abbrev machD (p : Int) (rows : Rows) (s : Int) : D := .tup [.int p, .lst (rows.map rowD), .int s]
instance : Inhabited (Int × List Int) := ⟨(0, [])⟩
theorem rows_at {p s : Int} {rows : Rows} {k : Nat} (h : MachOk p rows s) (hk : k < rows.length) : L2.atI (rows.map rowD) (k : Int) = some (rowD rows[k]!) ∧ RowOk p rows.length rows[k]! := by
  have e : rows[k]! = rows[k] := by simp [hk]
  rw [e]
  exact ⟨by rw [atN (by rw [List.length_map]; exact hk), List.getElem?_map, List.getElem?_eq_getElem hk]; rfl, h.2.2.2.1 _ (List.getElem_mem hk)⟩
end Y
namespace Y
open PySem Z
abbrev tupI (l : List Int) : D := .tup (l.map D.int)
end Y
namespace Y
open PySem Z
/-! the path, and what is behind a turner -/
def turnOf (rows : Rows) (st : Int) : Int := (rows[st.toNat]!).1
def goal (rows : Rows) (st x : Int) : Int := (rows[st.toNat]!).2.getD x.toNat 0
def wayF (rows : Rows) : Int → List Int → List Int
  | _, [] => []
  | st, x :: xs => st :: wayF rows (goal rows st x) xs
def behindF (p : Int) (rows : Rows) (st : Int) (row : List Int) : List Int := ((wayF rows st row).zip row).map fun sx => (sx.2 + turnOf rows sx.1) % p
def SetOk (p : Int) (row : List Int) : Prop := ∀ f ∈ row, 0 ≤ f ∧ f < p
theorem row_at {p s : Int} {rows : Rows} {st : Int} (h : MachOk p rows s) (h0 : 0 ≤ st) (h1 : st < rows.length) : L2.atI (rows.map rowD) st = some (.tup [.int (turnOf rows st), .tup ((rows[st.toNat]!).2.map D.int)]) ∧ RowOk p rows.length rows[st.toNat]! := by
  have hk : st.toNat < rows.length := by omega
  have e : rows[st.toNat]! = rows[st.toNat] := by simp [hk]
  unfold turnOf
  rw [e]
  exact ⟨by rw [atZ h0 (by rw [List.length_map]; exact h1), List.getElem?_map, List.getElem?_eq_getElem hk]; rfl, h.2.2.2.1 _ (List.getElem_mem hk)⟩
theorem goal_at {p s : Int} {rows : Rows} {st x : Int} (h : MachOk p rows s) (h0 : 0 ≤ st) (h1 : st < rows.length) (hx : 0 ≤ x) (hx1 : x < p) : L2.atI ((rows[st.toNat]!).2.map D.int) x = some (.int (goal rows st x)) ∧ 0 ≤ goal rows st x ∧ goal rows st x < rows.length := by
  obtain ⟨_, r⟩ := row_at h h0 h1
  obtain ⟨_, r1, r2⟩ := r
  have hk : x.toNat < (rows[st.toNat]!).2.length := by rw [r1]; omega
  have e : goal rows st x = (rows[st.toNat]!).2[x.toNat] := by
    unfold goal; rw [List.getD_eq_getElem?_getD, List.getElem?_eq_getElem hk]; rfl
  rw [e]
  exact ⟨by rw [atZ hx (by rw [List.length_map]; omega), List.getElem?_map, List.getElem?_eq_getElem hk]; rfl, r2 _ (List.getElem_mem hk)⟩
theorem way_len {rows : Rows} : ∀ {row : List Int} {st : Int}, (wayF rows st row).length = row.length
  | [], st => rfl
  | x :: xs, st => by simp [wayF, way_len]
theorem way_ok {p s : Int} {rows : Rows} (h : MachOk p rows s) : ∀ {row : List Int} {st : Int}, SetOk p row → 0 ≤ st → st < rows.length → ∀ y ∈ wayF rows st row, 0 ≤ y ∧ y < rows.length
  | [], st, _, _, _, y, hy => by simp [wayF] at hy
  | x :: xs, st, hs, h0, h1, y, hy => by
    have hx := hs x List.mem_cons_self
    obtain ⟨_, g1, g2⟩ := goal_at h h0 h1 hx.1 hx.2
    rcases List.mem_cons.mp hy with rfl | hy
    · exact ⟨h0, h1⟩
    · exact way_ok h (fun f hf => hs f (List.mem_cons_of_mem _ hf)) g1 g2 y hy
def stepW (rows : Rows) (a : List Int × Int) (x : Int) : List Int × Int := (a.1 ++ [a.2], goal rows a.2 x)
theorem foldW {rows : Rows} : ∀ {row acc : List Int} {st : Int}, (row.foldl (stepW rows) (acc, st)).1 = acc ++ wayF rows st row
  | [], acc, st => by simp [wayF]
  | x :: xs, acc, st => by rw [List.foldl_cons, stepW, foldW]; simp [wayF]
theorem behind_len {p : Int} {rows : Rows} {st : Int} {row : List Int} : (behindF p rows st row).length = row.length := by simp [behindF, way_len]
theorem behind_ok {p : Int} {rows : Rows} {st : Int} {row : List Int} (hp : 0 < p) : SetOk p (behindF p rows st row) := fun y hy => by
  obtain ⟨z, _, rfl⟩ := List.mem_map.mp hy
  exact emod_bd hp
end Y
namespace Y
open PySem Z
theorem law_way_p {p s : Int} {rows : Rows} {row : List Int} (h : MachOk p rows s) (hr : SetOk p row) (hl : row.length ≤ 1000) : D__law_way [.sh (machD p rows s), .sh (tupI row)] = .ok (.ol ((wayF rows s row).map D.int)) [.sh (machD p rows s), .sh (tupI row)] := by
  obtain ⟨env', g1, ⟨o, rfl⟩, g3⟩ := forM_exi (pn := []) (t := .name 4) (s := L__law_way_1 []) (fun i (a : List Int × Int) env => (∃ o : Option RV, env = [some (.sh (machD p rows s)), some (.sh (tupI row)), some (.ol (a.1.map D.int)), some (.sh (.int a.2)), o]) ∧ 0 ≤ a.2 ∧ a.2 < rows.length ∧ a.1.length = i)
    (stepW rows) D.int (xs := row) (n := 0) (x0 := ([], s)) (env := [some (.sh (machD p rows s)), some (.sh (tupI row)), some (.ol []), some (.sh (.int s)), none]) ⟨⟨none, rfl⟩, h.2.2.2.2.1, h.2.2.2.2.2, rfl⟩ (by
      rintro i ⟨acc, st⟩ x env hm ⟨⟨o, rfl⟩, h0, h1, h2⟩
      simp only at h0 h1 h2
      have hi := (List.getElem?_eq_some_iff.mp hm).1
      have hx := hr x (List.mem_of_getElem? hm)
      obtain ⟨e1, _⟩ := row_at h h0 h1
      obtain ⟨e2, b1, b2⟩ := goal_at h h0 h1 hx.1 hx.2
      have hlen : (acc.map D.int).length < 16777216 := by rw [List.length_map]; omega
      simp_all_arith [forStep, L__law_way_1, e1, e2, hlen]
      exact ⟨_, rfl, ⟨some (.sh (.int x)), by simp [stepW]⟩, b1, b2, by simp [stepW, h2]⟩)
  rw [foldW] at g1
  unfold D__law_way S__law_way
  simp_all_arith [g1]
theorem law_behind_p {p s : Int} {rows : Rows} {row : List Int} (h : MachOk p rows s) (hr : SetOk p row) (hl : row.length ≤ 1000) : D__law_behind [.sh (machD p rows s), .sh (tupI row)] = .ok (.sh (tupI (behindF p rows s row))) [.sh (machD p rows s), .sh (tupI row)] := by
  have hw := law_way_p h hr hl
  have hwo := way_ok h hr h.2.2.2.2.1 h.2.2.2.2.2
  have hwl := way_len (rows := rows) (row := row) (st := s)
  generalize hW : wayF rows s row = way at *
  have hp0 : 0 < p := by have := h.1; omega
  have hrg : rng1F [.sh (.int (row.length : Int))] = some ((List.range row.length).map fun (i : Nat) => D.int (i : Int)) := by
    rw [rng1_int (by omega) (by omega), Int.toNat_natCast, rangeD_map]
  have hI : I__law_behind_1 [] [some (.sh (machD p rows s)), some (.sh (tupI row)), some (.ol (way.map D.int)), none] = .ok ((List.range row.length).map fun (i : Nat) => D.int (i : Int)) [some (.sh (machD p rows s)), some (.sh (tupI row)), some (.ol (way.map D.int)), none] := by
    unfold I__law_behind_1
    simp_all_arith [hrg, List.length_map]
  have hz : (way.zip row).length = row.length := by rw [List.length_zip]; omega
  have hm := lcM_map (pn := []) (me := E__law_behind_1 []) (vs := [3]) (t := .name 3) (g := fun (k : Nat) => D.int (((way.zip row)[k]!.2 + turnOf rows (way.zip row)[k]!.1) % p)) hI (by decide) rfl (by rw [List.length_range]; omega) fun k hx => by
    have hk : k < row.length := List.mem_range.mp hx
    have e1 := ints_at (cs := row) hk
    have e2 := ints_at (cs := way) (k := k) (by omega)
    have ez : (way.zip row)[k]! = (way[k]!, row[k]!) := by
      have a1 : k < way.length := by omega
      simp [hk, a1, hz]
    have hb : 0 ≤ way[k]! ∧ way[k]! < rows.length := by
      have a1 : k < way.length := by omega
      have : way[k]! = way[k] := by simp [a1]
      rw [this]; exact hwo _ (List.getElem_mem a1)
    obtain ⟨e3, _⟩ := row_at h hb.1 hb.2
    rw [ez]
    generalize way[k]! = w at *
    simp_all_arith [lcStep, E__law_behind_1, e1, e2, e3, hp0]
    exact ⟨_, rfl, rfl⟩
  have e3 : (List.range row.length).map (fun (k : Nat) => D.int (((way.zip row)[k]!.2 + turnOf rows (way.zip row)[k]!.1) % p)) = (behindF p rows s row).map D.int := by
    rw [← hz, map_range (fun sx : Int × Int => D.int ((sx.2 + turnOf rows sx.1) % p)) (way.zip row)]
    unfold behindF
    rw [hW, List.map_map]; rfl
  rw [e3] at hm
  unfold D__law_behind S__law_behind
  simp_all_arith [hw, hm]
end Y
namespace Y
theorem fold_app {α β : Type} (F : α → β) : ∀ (l : List α) (acc : List β), l.foldl (fun a x => a ++ [F x]) acc = acc ++ l.map F
  | [], acc => by simp
  | x :: l, acc => by rw [List.foldl_cons, fold_app]; simp
end Y
namespace Y
open PySem Z
theorem intF_bl {b : Bool} : intF [.sh (.bl b)] = some (.sh (.int (if b then 1 else 0))) := by cases b <;> rfl
/-- a turner with some turns replaced by 0 -/
theorem calm_ok {bag : List D} {p s : Int} {rows : Rows} (hb : BagOk bag) (h : MachOk p rows s) : ∃ rows' bag', D__law_calm [.ol bag, .sh (machD p rows s)] = .ok (.sh (machD p rows' s)) [.ol bag', .sh (machD p rows s)] ∧ MachOk p rows' s ∧ rows'.length = rows.length ∧ BagOk bag' := by
  obtain ⟨hp, h1, h2, h3, h4, h5⟩ := h
  obtain ⟨acc, env', g1, ⟨rows', bag', o1, o2, rfl, rfl, g4, g5⟩, g6⟩ := lcGo_ok (pn := [0]) (vs := [2, 3]) (t := .tup [.name 2, .name 3]) (me := E__law_calm_1 [0]) (ds := rows.map rowD) (acc := []) (env := [some (.ol bag), some (.sh (machD p rows s)), none, none])
    (fun acc env => ∃ (rows' : Rows) (bag' : List D) (o1 o2 : Option RV), acc = rows'.map rowD ∧ env = [some (.ol bag'), some (.sh (machD p rows s)), o1, o2] ∧ (∀ r ∈ rows', RowOk p rows.length r) ∧ BagOk bag')
    ⟨[], bag, none, none, rfl, rfl, by simp, hb⟩ (by rw [List.length_map, List.length_nil]; omega) (by
      rintro acc d env hd ⟨rows', bag1, o1, o2, rfl, rfl, g4, g5⟩
      obtain ⟨r, hr, rfl⟩ := List.mem_map.mp hd
      obtain ⟨v, bag2, k1, k2, k3, k4⟩ := pull_ok (m := 3) g5 (by decide) (by decide)
      obtain ⟨⟨r1, r2⟩, r3, r4⟩ := h3 r hr
      by_cases hv : v = 0
      · simp_all_arith [lcStep, E__law_calm_1, rowD, k1, hv, intF_bl]
        refine ⟨_, _, rfl, rows' ++ [r], bag2, none, none, by simp [rowD], rfl, fun x hx => ?_, k4⟩
        rcases List.mem_append.mp hx with hx | hx
        · exact g4 x hx
        · obtain rfl := List.mem_singleton.mp hx; exact ⟨⟨r1, r2⟩, r3, r4⟩
      · simp_all_arith [lcStep, E__law_calm_1, rowD, k1, hv, intF_bl]
        refine ⟨_, _, rfl, rows' ++ [(0, r.2)], bag2, none, none, by simp [rowD], rfl, fun x hx => ?_, k4⟩
        rcases List.mem_append.mp hx with hx | hx
        · exact g4 x hx
        · obtain rfl := List.mem_singleton.mp hx; exact ⟨⟨Int.le_refl 0, by show (0 : Int) < p; omega⟩, r3, r4⟩)
  have hl : rows'.length = rows.length := by simpa using g6
  refine ⟨rows', bag', ?_, ⟨hp, by omega, by omega, by rw [hl]; exact g4, h4, by rw [hl]; exact h5⟩, hl, g5⟩
  have hi : I__law_calm_1 [0] [some (.ol bag), some (.sh (machD p rows s)), none, none] = .ok (rows.map rowD) [some (.ol bag), some (.sh (machD p rows s)), none, none] := by
    unfold I__law_calm_1; simp_all_arith
  have hm := lcM_eq hi (by decide) g1
  unfold D__law_calm S__law_calm
  simp_all_arith [hm, wipeD]
end Y
namespace Y
open PySem Z
/-! settings that stay: how many, by dials that are left -/
def levN (rows : Rows) (l : List Int) : List Int := rows.map fun r => if r.1 = 0 then (r.2.map fun g => l.getD g.toNat 0).sum else 0
def levF (rows : Rows) : Nat → List Int
  | 0 => rows.map fun _ => 1
  | k + 1 => levN rows (levF rows k)
theorem lev_len {rows : Rows} : ∀ {k : Nat}, (levF rows k).length = rows.length
  | 0 => by simp [levF]
  | k + 1 => by simp [levF, levN]
theorem goals_at {p s : Int} {rows : Rows} {r : Int × List Int} {l : List Int} (h : MachOk p rows s) (hr : r ∈ rows) (hl : l.length = rows.length) {g : Int} (hg : g ∈ r.2) : L2.atI (l.map D.int) g = some (.int (l.getD g.toNat 0)) := by
  obtain ⟨_, _, h4⟩ := h.2.2.2.1 r hr
  have := h4 g hg
  exact ints_atZ this.1 (by rw [hl]; exact this.2)
theorem rep_one {n : Nat} : List.replicate n (D.int 1) = ((List.replicate n (1 : Int)).map D.int) := by rw [List.map_replicate]
theorem map_one {rows : Rows} : (rows.map fun _ => (1 : Int)) = List.replicate rows.length 1 := by
  induction rows with
  | nil => rfl
  | cons r rs ih => rw [List.map_cons, ih, List.length_cons, List.replicate_succ]
theorem need_dials_ok {n : Nat} (hn : n ≤ 200) : D_need_dials [.sh (.int n)] = .ok (.sh .non) [.sh (.int n)] := by
  have hw := within_ok (v := n) (lo := 0) (hi := 200) (by omega) (by omega)
  unfold D_need_dials S_need_dials
  simp_all_arith [hw]
theorem still_p {p s : Int} {rows : Rows} {n : Nat} (h : MachOk p rows s) (hn : n ≤ 200) : D_still_count [.sh (turnerD p rows s), .sh (.int n)] = .ok (.sh (.int ((levF rows n).getD s.toNat 0))) [.sh (turnerD p rows s), .sh (.int n)] := by
  have hrl : rows.length ≤ 240 := h.2.2.1
  obtain ⟨env', g1, o1, g2⟩ := forM_nx (pn := []) (t := .name 4) (s := L_still_count_1 []) (ds := rangeD 0 n) (n := 0) (env := [some (.sh (turnerD p rows s)), some (.sh (.int n)), some (.ol (rows.map rowD)), some (.ol (List.replicate rows.length (D.int 1))), none, none, none, none])
    (fun i env => ∃ o1 : Option RV, env = [some (.sh (turnerD p rows s)), some (.sh (.int n)), (if i = 0 then some (.ol (rows.map rowD)) else some (.sh (.lst (rows.map rowD)))), some (.ol ((levF rows i).map D.int)), o1, none, none, none])
    ⟨none, by rw [levF, map_one, rep_one]; rfl⟩ (by
      rintro i x env hx ⟨o1, rfl⟩
      rw [Nat.zero_add]
      have hrows : ∀ sl : Option RV, (sl = some (.ol (rows.map rowD)) ∨ sl = some (.sh (.lst (rows.map rowD)))) → lcM [] [5, 6] (.tup [.name 5, .name 6]) (I_still_count_2 []) yesM (E_still_count_2 []) [some (.sh (turnerD p rows s)), some (.sh (.int n)), sl, some (.ol ((levF rows i).map D.int)), some (.sh x), none, none, none] = .ok (.ol ((levF rows (i + 1)).map D.int)) [some (.sh (turnerD p rows s)), some (.sh (.int n)), some (.sh (.lst (rows.map rowD))), some (.ol ((levF rows i).map D.int)), some (.sh x), none, none, none] := by
        intro sl hsl
        have hI : I_still_count_2 [] [some (.sh (turnerD p rows s)), some (.sh (.int n)), sl, some (.ol ((levF rows i).map D.int)), some (.sh x), none, none, none] = .ok (rows.map rowD) [some (.sh (turnerD p rows s)), some (.sh (.int n)), some (.sh (.lst (rows.map rowD))), some (.ol ((levF rows i).map D.int)), some (.sh x), none, none, none] := by
          unfold I_still_count_2
          rcases hsl with rfl | rfl <;> simp_all_arith
        have hm := lcM_map1 (pn := []) (me := E_still_count_2 []) (vs := [5, 6]) (t := .tup [.name 5, .name 6]) (enc := rowD) (g := fun r => D.int (if r.1 = 0 then (r.2.map fun g => (levF rows i).getD g.toNat 0).sum else 0)) hI (by decide) rfl (by omega) fun r hr => by
          obtain ⟨t, gs⟩ := r
          by_cases ht : t = 0
          · subst ht
            have hI2 : I_still_count_1 [] [some (.sh (turnerD p rows s)), some (.sh (.int n)), some (.sh (.lst (rows.map rowD))), some (.ol ((levF rows i).map D.int)), some (.sh x), some (.sh (.int 0)), some (.sh (.tup (gs.map D.int))), none] = .ok (gs.map D.int) [some (.sh (turnerD p rows s)), some (.sh (.int n)), some (.sh (.lst (rows.map rowD))), some (.ol ((levF rows i).map D.int)), some (.sh x), some (.sh (.int 0)), some (.sh (.tup (gs.map D.int))), none] := by
              unfold I_still_count_1; simp_all_arith
            have hrl2 : gs.length ≤ 1000 := by have := (h.2.2.2.1 _ hr).2.1; have := h.1; simp only at *; omega
            have hm2 := lcM_map (pn := []) (me := E_still_count_1 []) (vs := [7]) (t := .name 7) (enc := D.int) (g := fun g => D.int ((levF rows i).getD g.toNat 0)) hI2 (by decide) rfl (by omega) fun g hg => by
              have hat := goals_at h hr (l := levF rows i) lev_len hg
              simp_all_arith [lcStep, E_still_count_1, hat]
              exact ⟨_, rfl, rfl⟩
            have hsum := sumF_ints (l := gs.map fun g => (levF rows i).getD g.toNat 0)
            rw [List.map_map] at hsum
            have e2 : (gs.map fun g => D.int ((levF rows i).getD g.toNat 0)) = gs.map (D.int ∘ fun g => (levF rows i).getD g.toNat 0) := rfl
            rw [e2] at hm2
            simp_all_arith [lcStep, E_still_count_2, rowD, hm2, hsum]
            exact ⟨_, rfl, rfl⟩
          · simp_all_arith [lcStep, E_still_count_2, rowD, ht]
            exact ⟨_, rfl, rfl⟩
        rw [hm, levF, levN, List.map_map]; rfl
      have hrows2 := hrows (if i = 0 then some (.ol (rows.map rowD)) else some (.sh (.lst (rows.map rowD)))) (by split <;> simp)
      generalize hsl : (if i = 0 then some (RV.ol (rows.map rowD)) else some (RV.sh (.lst (rows.map rowD)))) = sl at *
      simp_all_arith [forStep, L_still_count_1, hrows2]
      refine ⟨_, rfl, some (.sh x), ?_⟩
      rfl)
  have hl : (rangeD 0 n).length = n := by rw [rangeD_map, List.length_map, List.length_range]
  rw [hl, Nat.zero_add] at g2
  have hr : rng1F [.sh (.int n)] = some (rangeD 0 n) := by rw [rng1_int (by omega) (by omega), Int.toNat_natCast]
  have hmr := mulD_rep (d := .int 1) (n := rows.length) (by omega)
  have hat := ints_atZ (cs := levF rows n) (t := s) h.2.2.2.2.1 (by rw [lev_len]; exact h.2.2.2.2.2)
  subst g2
  unfold D_still_count S_still_count
  generalize (if n = 0 then some (RV.ol (rows.map rowD)) else some (RV.sh (.lst (rows.map rowD)))) = sl at *
  simp_all_arith [need_dials_ok hn, T_cls, look_states, states_p, List.length_map, hmr, hr, g1, start_p, hat]
end Y
namespace Y
open PySem Z
/-! states from which a setting of so many dials stays -/
def aliN (rows : Rows) (l : List Bool) : List Bool := rows.map fun r => decide (r.1 = 0) && (r.2.map fun g => l.getD g.toNat false).any id
def aliF (rows : Rows) : Nat → List Bool
  | 0 => rows.map fun _ => true
  | k + 1 => aliN rows (aliF rows k)
theorem ali_len {rows : Rows} : ∀ {k : Nat}, (aliF rows k).length = rows.length
  | 0 => by simp [aliF]
  | k + 1 => by simp [aliF, aliN]
theorem bools_atZ {cs : List Bool} {t : Int} (h0 : 0 ≤ t) (hk : t < cs.length) : L2.atI (cs.map D.bl) t = some (.bl (cs.getD t.toNat false)) := by
  rw [atZ h0 (by rw [List.length_map]; exact hk), List.getElem?_map, List.getD_eq_getElem?_getD, List.getElem?_eq_getElem (by omega)]; rfl
theorem next_alive_p {p s : Int} {rows : Rows} {l : List Bool} (h : MachOk p rows s) (hl : l.length = rows.length) : D_next_alive [.sh (turnerD p rows s), .sh (.lst (l.map D.bl))] = .ok (.ol ((aliN rows l).map D.bl)) [.sh (turnerD p rows s), .sh (.lst (l.map D.bl))] := by
  have hrl : rows.length ≤ 240 := h.2.2.1
  obtain ⟨env', g1, ⟨o1, o2, rfl⟩, g3⟩ := forM_exi (pn := []) (t := .tup [.name 3, .name 4]) (s := L_next_alive_1 []) (fun i (a : List Bool) env => (∃ o1 o2 : Option RV, env = [some (.sh (turnerD p rows s)), some (.sh (.lst (l.map D.bl))), some (.ol (a.map D.bl)), o1, o2, none]) ∧ a.length = i)
    (fun (a : List Bool) (r : Int × List Int) => a ++ [decide (r.1 = 0) && (r.2.map fun g => l.getD g.toNat false).any id]) rowD (xs := rows) (n := 0) (x0 := []) (env := [some (.sh (turnerD p rows s)), some (.sh (.lst (l.map D.bl))), some (.ol []), none, none, none]) ⟨⟨none, none, rfl⟩, rfl⟩ (by
      rintro i acc ⟨t, gs⟩ env hm ⟨⟨o1, o2, rfl⟩, h2⟩
      have hi := (List.getElem?_eq_some_iff.mp hm).1
      have hr := List.mem_of_getElem? hm
      have hlen : (acc.map D.bl).length < 16777216 := by rw [List.length_map]; omega
      obtain ⟨_, hgl, hgo⟩ := h.2.2.2.1 _ hr
      simp only at hgl hgo
      by_cases ht : t = 0
      · subst ht
        have hI2 : I_next_alive_1 [] [some (.sh (turnerD p rows s)), some (.sh (.lst (l.map D.bl))), some (.ol (acc.map D.bl)), some (.sh (.int 0)), some (.sh (.tup (gs.map D.int))), none] = .ok (gs.map D.int) [some (.sh (turnerD p rows s)), some (.sh (.lst (l.map D.bl))), some (.ol (acc.map D.bl)), some (.sh (.int 0)), some (.sh (.tup (gs.map D.int))), none] := by
          unfold I_next_alive_1; simp_all_arith
        have hrl2 : gs.length ≤ 1000 := by have := h.1; omega
        have hm2 := lcM_map (pn := []) (me := E_next_alive_1 []) (vs := [5]) (t := .name 5) (enc := D.int) (g := fun g => D.bl (l.getD g.toNat false)) hI2 (by decide) rfl (by omega) fun g hg => by
          have hat := bools_atZ (cs := l) (t := g) (hgo g hg).1 (by rw [hl]; exact (hgo g hg).2)
          simp_all_arith [lcStep, E_next_alive_1, hat]
          exact ⟨_, rfl, rfl⟩
        have hany := anyF_bools (l := gs.map fun g => l.getD g.toNat false)
        rw [List.map_map] at hany
        have e2 : (gs.map fun g => D.bl (l.getD g.toNat false)) = gs.map (D.bl ∘ fun g => l.getD g.toNat false) := rfl
        rw [e2] at hm2
        simp_all_arith [forStep, L_next_alive_1, rowD, hm2, hany, hlen]
        exact ⟨_, rfl, ⟨some (.sh (.int 0)), some (.sh (.tup (gs.map D.int))), by simp⟩, by simp [h2]⟩
      · simp_all_arith [forStep, L_next_alive_1, rowD, ht, hlen]
        exact ⟨_, rfl, ⟨some (.sh (.int t)), some (.sh (.tup (gs.map D.int))), by simp [ht]⟩, by simp [h2]⟩)
  have hB : rows.foldl (fun (a : List Bool) (r : Int × List Int) => a ++ [decide (r.1 = 0) && (r.2.map fun g => l.getD g.toNat false).any id]) [] = aliN rows l := by
    rw [fold_app (fun r : Int × List Int => decide (r.1 = 0) && (r.2.map fun g => l.getD g.toNat false).any id), List.nil_append]; rfl
  rw [hB] at g1
  unfold D_next_alive S_next_alive
  simp_all_arith [T_cls, look_states, states_p, g1]
/-- all levels, the one of no dials first -/
def levels (rows : Rows) (n : Nat) : List D := (List.range (n + 1)).map fun i => .lst ((aliF rows i).map D.bl)
theorem levels_succ {rows : Rows} {n : Nat} : levels rows (n + 1) = levels rows n ++ [.lst ((aliF rows (n + 1)).map D.bl)] := by
  unfold levels; rw [List.range_succ, List.map_append]; rfl
theorem levels_len {rows : Rows} {n : Nat} : (levels rows n).length = n + 1 := by simp [levels]
theorem levels_last {rows : Rows} {n : Nat} : L2.atI (levels rows n) (-1) = some (.lst ((aliF rows n).map D.bl)) := by
  rw [at_last (by rw [levels_len]; omega), levels_len]
  unfold levels
  rw [List.getElem?_map, List.getElem?_range (by omega)]; rfl
theorem map_true {rows : Rows} : (rows.map fun _ => true) = List.replicate rows.length true := by
  induction rows with
  | nil => rfl
  | cons r rs ih => rw [List.map_cons, ih, List.length_cons, List.replicate_succ]
theorem enum_ints : ∀ {gs : List Int} {n : Nat}, enumFrom n (gs.map D.int) = (gs.zipIdx n).map fun gi => .tup [.int gi.2, .int gi.1]
  | [], n => rfl
  | g :: gs, n => by rw [List.map_cons, enumFrom, enum_ints, List.zipIdx_cons, List.map_cons]
/-- the places of targets that are alive -/
def spots (l : List Bool) (gs : List Int) : List Int := (gs.zipIdx.filter fun gi => l.getD gi.1.toNat false).map fun gi => (gi.2 : Int)
def spot (l : List Bool) (gs : List Int) : Int := (spots l gs).headD 0
def pickF (rows : Rows) : Nat → Int → List Int
  | 0, _ => []
  | k + 1, st => spot (aliF rows k) (rows[st.toNat]!).2 :: pickF rows k (goal rows st (spot (aliF rows k) (rows[st.toNat]!).2))
theorem zip_idx_mem : ∀ {gs : List Int} {n : Nat} {g : Int} {i : Nat}, (g, i) ∈ gs.zipIdx n → n ≤ i ∧ gs[i - n]? = some g
  | [], n, g, i, h => by simp at h
  | a :: gs, n, g, i, h => by
    rw [List.zipIdx_cons] at h
    rcases List.mem_cons.mp h with h | h
    · cases h; exact ⟨Nat.le_refl _, by simp⟩
    · obtain ⟨h1, h2⟩ := zip_idx_mem h
      refine ⟨by omega, ?_⟩
      rw [show i - n = (i - (n + 1)) + 1 by omega, List.getElem?_cons_succ]; exact h2
/-- the first place that is alive, and none below it -/
theorem first_spot : ∀ {gs : List Int} {l : List Bool} {n : Nat}, (gs.map fun g => l.getD g.toNat false).any id = true →
    ∃ x rest, ((gs.zipIdx n).filter fun gi => l.getD gi.1.toNat false).map (fun gi => (gi.2 : Int)) = ((n + x : Nat) : Int) :: rest ∧ x < gs.length ∧ l.getD (gs.getD x 0).toNat false = true ∧ ∀ y, y < x → l.getD (gs.getD y 0).toNat false = false
  | [], l, n, h => by simp at h
  | g :: gs, l, n, h => by
    rw [List.zipIdx_cons]
    cases hg : l.getD g.toNat false with
    | true =>
      rw [List.filter_cons_of_pos (p := fun gi : Int × Nat => l.getD gi.1.toNat false) hg]
      exact ⟨0, _, rfl, by simp, by simpa using hg, fun y hy => by omega⟩
    | false =>
      rw [List.map_cons, List.any_cons] at h
      simp only [id, hg, Bool.false_or] at h
      obtain ⟨x, rest, e, h1, h2, h3⟩ := first_spot (n := n + 1) h
      rw [List.filter_cons_of_neg (p := fun gi : Int × Nat => l.getD gi.1.toNat false) (by show ¬ l.getD g.toNat false = true; rw [hg]; simp)]
      refine ⟨x + 1, rest, by rw [e, show n + 1 + x = n + (x + 1) by omega], by simp; omega, by simpa using h2, fun y hy => ?_⟩
      cases y with
      | zero => simpa using hg
      | succ y => simpa using h3 y (by omega)
theorem spot_ok {gs : List Int} {l : List Bool} (h : (gs.map fun g => l.getD g.toNat false).any id = true) :
    ∃ (x : Nat) (rest : List Int), spots l gs = (x : Int) :: rest ∧ spot l gs = x ∧ x < gs.length ∧ l.getD (gs.getD x 0).toNat false = true ∧ ∀ y, y < x → l.getD (gs.getD y 0).toNat false = false := by
  obtain ⟨x, rest, e, h1, h2, h3⟩ := first_spot (n := 0) h
  rw [Nat.zero_add] at e
  refine ⟨x, rest, e, ?_, h1, h2, h3⟩
  unfold spot
  rw [show spots l gs = _ from e]; rfl
end Y
namespace Y
open PySem Z
theorem lev_pos {p s : Int} {rows : Rows} (h : MachOk p rows s) : ∀ (k : Nat) (i : Nat), 0 ≤ (levF rows k).getD i 0 ∧ ((aliF rows k).getD i false = true ↔ 0 < (levF rows k).getD i 0)
  | 0, i => by
    unfold levF aliF
    rw [List.getD_eq_getElem?_getD, List.getD_eq_getElem?_getD, List.getElem?_map, List.getElem?_map]
    cases rows[i]? <;> simp
  | k + 1, i => by
    have ih := lev_pos h k
    unfold levF aliF levN aliN
    rw [List.getD_eq_getElem?_getD, List.getD_eq_getElem?_getD, List.getElem?_map, List.getElem?_map]
    cases hr : rows[i]? with
    | none => simp
    | some r =>
      obtain ⟨t, gs⟩ := r
      simp only [Option.map_some, Option.getD_some]
      by_cases ht : t = 0
      · simp only [ht, if_true, decide_true, Bool.true_and]
        clear hr
        induction gs with
        | nil => simp
        | cons g gs ih2 =>
          obtain ⟨a1, a2⟩ := ih g.toNat
          rw [List.map_cons, List.map_cons, List.sum_cons, List.any_cons]
          refine ⟨by omega, ?_⟩
          simp only [id, Bool.or_eq_true]
          rw [a2]
          have e := ih2.2
          constructor
          · rintro (h1 | h1)
            · have := ih2.1; omega
            · have := e.mp h1; omega
          · intro h1
            by_cases h2 : 0 < (levF rows k).getD g.toNat 0
            · exact .inl h2
            · exact .inr (e.mpr (by omega))
      · simp [ht]
theorem ali_succ {rows : Rows} {k : Nat} {st : Int} (h0 : 0 ≤ st) (h1 : st < rows.length) (h : (aliF rows (k + 1)).getD st.toNat false = true) : turnOf rows st = 0 ∧ ((rows[st.toNat]!).2.map fun g => (aliF rows k).getD g.toNat false).any id = true := by
  have hk : st.toNat < rows.length := by omega
  have e : rows[st.toNat]! = rows[st.toNat] := by simp [hk]
  unfold aliF aliN at h
  rw [List.getD_eq_getElem?_getD, List.getElem?_map, List.getElem?_eq_getElem hk] at h
  simp only [Option.map_some, Option.getD_some, Bool.and_eq_true, decide_eq_true_eq] at h
  unfold turnOf
  rw [e]
  exact h
/-- the first still setting: figures, and what is told of it -/
theorem pick_ok {p s : Int} {rows : Rows} (h : MachOk p rows s) : ∀ {k : Nat} {st : Int}, 0 ≤ st → st < rows.length → (aliF rows k).getD st.toNat false = true →
    (pickF rows k st).length = k ∧ SetOk p (pickF rows k st) ∧ (∀ y ∈ wayF rows st (pickF rows k st), turnOf rows y = 0) ∧
    ∀ (i : Nat) (w y : Int), (wayF rows st (pickF rows k st))[i]? = some w → (pickF rows k st)[i]? = some y → (0 ≤ w ∧ w < rows.length) ∧ ∀ x : Nat, (x : Int) < y → (aliF rows (k - i - 1)).getD ((rows[w.toNat]!).2.getD x 0).toNat false = false
  | 0, st, h0, h1, _ => ⟨rfl, fun f hf => by simp [pickF] at hf, fun y hy => by simp [pickF, wayF] at hy, fun i w y hw => by simp [pickF, wayF] at hw⟩
  | k + 1, st, h0, h1, ha => by
    obtain ⟨t0, t1⟩ := ali_succ h0 h1 ha
    obtain ⟨x, rest, e1, e2, e3, e4, e5⟩ := spot_ok t1
    obtain ⟨_, r⟩ := row_at h h0 h1
    have hxl : (x : Int) < p := by have := r.2.1; have := h.1; omega
    obtain ⟨_, b1, b2⟩ := goal_at h h0 h1 (x := (x : Int)) (by omega) hxl
    have eg : goal rows st (x : Int) = (rows[st.toNat]!).2.getD x 0 := by unfold goal; rw [Int.toNat_natCast]
    rw [← eg] at e4
    obtain ⟨i1, i2, i3, i4⟩ := pick_ok h (k := k) b1 b2 e4
    have ep : pickF rows (k + 1) st = (x : Int) :: pickF rows k (goal rows st x) := by rw [pickF, e2]
    rw [ep]
    refine ⟨by rw [List.length_cons, i1], fun f hf => ?_, fun y hy => ?_, fun i w y hw hy => ?_⟩
    · rcases List.mem_cons.mp hf with rfl | hf
      · exact ⟨by omega, hxl⟩
      · exact i2 f hf
    · rw [wayF] at hy
      rcases List.mem_cons.mp hy with rfl | hy
      · exact t0
      · exact i3 y hy
    · rw [wayF] at hw
      cases i with
      | zero =>
        simp only [List.getElem?_cons_zero, Option.some.injEq] at hw hy
        subst hw hy
        exact ⟨⟨h0, h1⟩, fun z hz => by rw [show k + 1 - 0 - 1 = k by omega]; exact e5 z (by omega)⟩
      | succ i =>
        rw [List.getElem?_cons_succ] at hw hy
        obtain ⟨j1, j2⟩ := i4 i w y hw hy
        exact ⟨j1, fun z hz => by rw [show k + 1 - (i + 1) - 1 = k - i - 1 by omega]; exact j2 z hz⟩
theorem behind_still {p : Int} {rows : Rows} : ∀ {row : List Int} {st : Int}, SetOk p row → (∀ y ∈ wayF rows st row, turnOf rows y = 0) → behindF p rows st row = row
  | [], st, _, _ => rfl
  | x :: xs, st, hs, ht => by
    have ih := behind_still (p := p) (rows := rows) (row := xs) (st := goal rows st x) (fun f hf => hs f (List.mem_cons_of_mem _ hf)) fun y hy => ht y (by rw [wayF]; exact List.mem_cons_of_mem _ hy)
    unfold behindF at ih ⊢
    rw [wayF, List.zip_cons_cons, List.map_cons, ih, ht st (by rw [wayF]; exact List.mem_cons_self), Int.add_zero]
    have := hs x List.mem_cons_self
    rw [Int.emod_eq_of_lt this.1 this.2]
theorem spots_p {p s : Int} {rows : Rows} {k : Nat} {st : Int} {A B C E F : Option RV} (h : MachOk p rows s) (h0 : 0 ≤ st) (h1 : st < rows.length) {Z6 : RV} (hz : Z6 = .sh (.lst ((aliF rows k).map D.bl))) :
    lcM [] [9, 10] (.tup [.name 9, .name 10]) (I_first_still_1 []) (truM (shareM (opM ixF (nameO 6) (nameO 10)))) (E_first_still_1 []) [some (.sh (turnerD p rows s)), A, B, C, E, some (.sh (.int st)), some Z6, some (.sh (.tup ((rows[st.toNat]!).2.map D.int))), F, none, none] = .ok (.ol ((spots (aliF rows k) (rows[st.toNat]!).2).map D.int)) [some (.sh (turnerD p rows s)), A, B, C, E, some (.sh (.int st)), some Z6, some (.sh (.tup ((rows[st.toNat]!).2.map D.int))), F, none, none] := by
  subst hz
  obtain ⟨_, r⟩ := row_at h h0 h1
  have hgl := r.2.1
  have hgo := r.2.2
  generalize (rows[st.toNat]!).2 = gs at *
  have hI : I_first_still_1 [] [some (.sh (turnerD p rows s)), A, B, C, E, some (.sh (.int st)), some (.sh (.lst ((aliF rows k).map D.bl))), some (.sh (.tup (gs.map D.int))), F, none, none] = .ok (gs.zipIdx.map fun gi => .tup [.int gi.2, .int gi.1]) [some (.sh (turnerD p rows s)), A, B, C, E, some (.sh (.int st)), some (.sh (.lst ((aliF rows k).map D.bl))), some (.sh (.tup (gs.map D.int))), F, none, none] := by
    unfold I_first_still_1
    rw [← enum_ints]
    simp_all_arith
  have hm := lcM_filt (pn := []) (vs := [9, 10]) (t := .tup [.name 9, .name 10]) (mt := truM (shareM (opM ixF (nameO 6) (nameO 10)))) (me := E_first_still_1 []) (enc := fun gi : Int × Nat => .tup [.int gi.2, .int gi.1]) (g := fun gi : Int × Nat => D.int gi.2) (b := fun gi => (aliF rows k).getD gi.1.toNat false) hI (by decide) rfl (by have := h.1; simp; omega) fun gi hgi => by
    obtain ⟨g, i⟩ := gi
    obtain ⟨_, hg2⟩ := zip_idx_mem hgi
    have hg := hgo g (List.mem_of_getElem? hg2)
    have hat := bools_atZ (cs := aliF rows k) (t := g) hg.1 (by rw [ali_len]; exact hg.2)
    cases hb : (aliF rows k).getD g.toNat false with
    | true =>
      rw [hb] at hat
      simp_all_arith [lcT, E_first_still_1, hat]
      exact ⟨_, rfl, rfl⟩
    | false =>
      rw [hb] at hat
      simp_all_arith [lcT, E_first_still_1, hat]
      exact ⟨_, rfl, rfl⟩
  rw [hm]
  unfold spots
  rw [List.map_map]; rfl
theorem first_loop {p s : Int} {rows : Rows} {A B : Option RV} (h : MachOk p rows s) : ∀ (k : Nat) (st : Int) (acc : List Int) (C o6 o7 o8 : Option RV), k ≤ 200 → acc.length + k ≤ 1000 → 0 ≤ st → st < rows.length → (aliF rows k).getD st.toNat false = true →
    ∃ st' o6' o7' o8', forM [] (.name 6) (L_first_still_2 []) ((List.range k).reverse.map fun i => .lst ((aliF rows i).map D.bl)) [some (.sh (turnerD p rows s)), A, B, C, some (.ol (acc.map D.int)), some (.sh (.int st)), o6, o7, o8, none, none] = .nx [some (.sh (turnerD p rows s)), A, B, C, some (.ol ((acc ++ pickF rows k st).map D.int)), some (.sh (.int st')), o6', o7', o8', none, none]
  | 0, st, acc, C, o6, o7, o8, _, _, h0, h1, ha => ⟨st, o6, o7, o8, by simp [pickF, Z.forM]⟩
  | k + 1, st, acc, C, o6, o7, o8, hk, hl, h0, h1, ha => by
    obtain ⟨t0, t1⟩ := ali_succ h0 h1 ha
    obtain ⟨x, rest, e1, e2, e3, e4, e5⟩ := spot_ok t1
    obtain ⟨hrow, r⟩ := row_at h h0 h1
    have hxl : (x : Int) < p := by have := r.2.1; have := h.1; omega
    obtain ⟨hga, b1, b2⟩ := goal_at h h0 h1 (x := (x : Int)) (by omega) hxl
    have eg : goal rows st (x : Int) = (rows[st.toNat]!).2.getD x 0 := by unfold goal; rw [Int.toNat_natCast]
    rw [← eg] at e4
    obtain ⟨st', o6', o7', o8', ih⟩ := first_loop (A := A) (B := B) h k (goal rows st x) (acc ++ [(x : Int)]) C (some (.sh (.lst ((aliF rows k).map D.bl)))) (some (.sh (.tup ((rows[st.toNat]!).2.map D.int)))) (some (.sh (.int x))) (by omega) (by simp; omega) b1 b2 e4
    refine ⟨st', o6', o7', o8', ?_⟩
    have ep : pickF rows (k + 1) st = (x : Int) :: pickF rows k (goal rows st x) := by rw [pickF, e2]
    rw [List.range_succ, List.reverse_append, List.reverse_singleton, List.singleton_append, List.map_cons, ep]
    have sp := fun A B C E F => spots_p (k := k) (A := A) (B := B) (C := C) (E := E) (F := F) h h0 h1 (Z6 := .sh (.lst ((aliF rows k).map D.bl))) rfl
    rw [e1] at sp
    simp only [List.map_cons] at sp
    have hlen : (acc.map D.int).length < 16777216 := by rw [List.length_map]; omega
    unfold Z.forM
    simp_all_arith [L_first_still_2, T_cls, look_states, states_p, hrow, sp, hlen, hga]
    rw [List.append_assoc, List.singleton_append] at ih
    rw [List.map_append] at ih
    exact ih
theorem levels_back {rows : Rows} {n : Nat} : (levels rows n).dropLast.reverse = (List.range n).reverse.map fun i => .lst ((aliF rows i).map D.bl) := by
  unfold levels
  rw [List.range_succ, List.map_append, List.map_cons, List.map_nil, List.dropLast_concat, List.map_reverse]
theorem first_p {p s : Int} {rows : Rows} {n : Nat} (h : MachOk p rows s) (hn : n ≤ 200) : D_first_still [.sh (turnerD p rows s), .sh (.int n)] = .ok (.sh (if (aliF rows n).getD s.toNat false = true then tupI (pickF rows n s) else .non)) [.sh (turnerD p rows s), .sh (.int n)] := by
  have hrl : rows.length ≤ 240 := h.2.2.1
  have hs0 := h.2.2.2.2.1
  have hs1 := h.2.2.2.2.2
  obtain ⟨env', g1, o1, g2⟩ := forM_nx (pn := []) (t := .name 3) (s := L_first_still_1 []) (ds := rangeD 0 n) (n := 0) (env := [some (.sh (turnerD p rows s)), some (.sh (.int n)), some (.ol [.lst (List.replicate rows.length (D.bl true))]), none, none, none, none, none, none, none, none])
    (fun i env => ∃ o1 : Option RV, env = [some (.sh (turnerD p rows s)), some (.sh (.int n)), some (.ol (levels rows i)), o1, none, none, none, none, none, none, none])
    ⟨none, by simp only [levels, List.range_one, List.map_cons, List.map_nil, Nat.zero_add, aliF, map_true, List.map_replicate]⟩ (by
      rintro i x env hx ⟨o1, rfl⟩
      rw [Nat.zero_add]
      have hi : i < n := by have := (List.getElem?_eq_some_iff.mp hx).1; simpa [rangeD] using this
      have hla := levels_last (rows := rows) (n := i)
      have hna := next_alive_p (l := aliF rows i) h ali_len
      have hlen : (levels rows i).length < 16777216 := by rw [levels_len]; omega
      simp_all_arith [forStep, L_first_still_1, hla, hna, hlen]
      exact ⟨_, rfl, some (.sh x), by rw [levels_succ]; rfl⟩)
  have hl : (rangeD 0 n).length = n := by rw [rangeD_map, List.length_map, List.length_range]
  rw [hl, Nat.zero_add] at g2
  subst g2
  have hr : rng1F [.sh (.int n)] = some (rangeD 0 n) := by rw [rng1_int (by omega) (by omega), Int.toNat_natCast]
  have hmr := mulD_rep (d := .bl true) (n := rows.length) (by omega)
  have hla := levels_last (rows := rows) (n := n)
  have hat := bools_atZ (cs := aliF rows n) (t := s) hs0 (by rw [ali_len]; exact hs1)
  have hb2 : back2F (.ol (levels rows n)) = some (.ol ((List.range n).reverse.map fun i => .lst ((aliF rows i).map D.bl))) := by rw [← levels_back]; rfl
  by_cases ha : (aliF rows n).getD s.toNat false = true
  · rw [if_pos ha]
    rw [ha] at hat
    obtain ⟨st', o6', o7', o8', fl⟩ := first_loop (A := some (.sh (.int n))) (B := some (.ol (levels rows n))) h n s [] o1 none none none hn (by simp; omega) hs0 hs1 ha
    simp only [List.map_nil, List.nil_append] at fl
    unfold D_first_still S_first_still
    simp_all_arith [need_dials_ok hn, T_cls, len_p, hmr, hr, g1, hla, start_p, hat, hb2, fl]
  · rw [if_neg ha]
    have ha' : (aliF rows n).getD s.toNat false = false := by simpa using ha
    rw [ha'] at hat
    unfold D_first_still S_first_still
    simp_all_arith [need_dials_ok hn, T_cls, len_p, hmr, hr, g1, hla, start_p, hat]
end Y
namespace Y
open PySem Z
/-! all rows of so many dials, as the law makes them -/
def allR (p : Int) : Nat → List (List Int)
  | 0 => [[]]
  | n + 1 => (List.range p.toNat).flatMap fun (x : Nat) => (allR p n).map fun r => r ++ [(x : Int)]
theorem allR_len (p : Int) : ∀ n : Nat, (allR p n).length = p.toNat ^ n
  | 0 => rfl
  | n + 1 => by
    have h : ∀ m : Nat, ((List.range m).flatMap fun (x : Nat) => (allR p n).map fun r => r ++ [(x : Int)]).length = m * (allR p n).length := by
      intro m
      induction m with
      | zero => simp
      | succ m ih => rw [List.range_succ, List.flatMap_append, List.length_append, ih]; simp [Nat.succ_mul]
    rw [allR, h, allR_len p n, Nat.pow_succ, Nat.mul_comm]
theorem allR_ok {p : Int} : ∀ {n : Nat} {r : List Int}, r ∈ allR p n → r.length = n ∧ SetOk p r
  | 0, r, h => by
    simp [allR] at h; subst h
    exact ⟨rfl, fun f hf => by simp at hf⟩
  | n + 1, r, h => by
    simp only [allR, List.mem_flatMap, List.mem_range, List.mem_map] at h
    obtain ⟨x, hx, q, hq, rfl⟩ := h
    obtain ⟨h1, h2⟩ := allR_ok hq
    refine ⟨by simp [h1], fun f hf => ?_⟩
    rcases List.mem_append.mp hf with hf | hf
    · exact h2 f hf
    · simp at hf; subst hf; omega
def stepR (L : List (List Int)) (acc : List (List Int)) (x : Nat) : List (List Int) := acc ++ L.map fun r => r ++ [(x : Int)]
theorem stepR_fold (L : List (List Int)) : ∀ (xs : List Nat) (acc : List (List Int)), xs.foldl (stepR L) acc = acc ++ xs.flatMap fun (x : Nat) => L.map fun r => r ++ [(x : Int)]
  | [], acc => by simp
  | x :: xs, acc => by rw [List.foldl_cons, stepR_fold L xs, stepR]; simp
theorem stepR_len (L : List (List Int)) (xs : List Nat) : (xs.flatMap fun (x : Nat) => L.map fun r => r ++ [(x : Int)]).length = xs.length * L.length := by
  induction xs with
  | nil => simp
  | cons x xs ih => rw [List.flatMap_cons, List.length_append, ih, List.length_map, List.length_cons, Nat.succ_mul]; omega
theorem allrows_in {p many : RV} {o3 a6 : Option RV} {fn : RV} {L : List (List Int)} {q : Nat} (hf : fn = .ol (L.map tupI) ∨ fn = .sh (.lst (L.map tupI))) (hL : q * L.length ≤ 50000) (hr : ∀ r ∈ L, r.length ≤ 1000) {a5 : Option RV} :
    ∃ fn' o5 o6 lt, (fn' = .ol (L.map tupI) ∨ fn' = .sh (.lst (L.map tupI))) ∧ lt = .ol ((((List.range q).flatMap fun (x : Nat) => L.map fun r => r ++ [(x : Int)])).map tupI) ∧
      forM [] (.name 5) (L__law_all_rows_1 []) ((List.range q).map fun (i : Nat) => D.int (i : Int)) [some p, some many, some fn, o3, some (.ol []), a5, a6] = .nx [some p, some many, some fn', o3, some lt, o5, o6] := by
  obtain ⟨env', g1, ⟨fn', o5', o6', hfn, rfl⟩, g3⟩ := forM_exi (pn := []) (t := .name 5) (s := L__law_all_rows_1 [])
    (fun i (acc : List (List Int)) env => (∃ fn' o5 o6, (fn' = .ol (L.map tupI) ∨ fn' = .sh (.lst (L.map tupI))) ∧ env = [some p, some many, some fn', o3, some (.ol (acc.map tupI)), o5, o6]) ∧ acc.length = i * L.length)
    (stepR L) (fun (i : Nat) => D.int (i : Int)) (xs := List.range q) (n := 0) (x0 := []) (env := [some p, some many, some fn, o3, some (.ol []), a5, a6]) ⟨⟨fn, a5, a6, hf, rfl⟩, by simp⟩ (by
      rintro i acc x env hm ⟨⟨fn', o5, o6, hfn, rfl⟩, hl⟩
      obtain ⟨hi1, hi2⟩ := List.getElem?_eq_some_iff.mp hm
      rw [List.length_range] at hi1
      rw [List.getElem_range] at hi2
      subst hi2
      rw [Nat.zero_add] at hl
      have hb : (i + 1) * L.length ≤ q * L.length := Nat.mul_le_mul_right _ hi1
      rw [Nat.succ_mul] at hb
      have hI : I__law_all_rows_1 [] [some p, some many, some fn', o3, some (.ol (acc.map tupI)), some (.sh (.int (i : Int))), o6] = .ok (L.map tupI) [some p, some many, some (.sh (.lst (L.map tupI))), o3, some (.ol (acc.map tupI)), some (.sh (.int (i : Int))), o6] := by
        unfold I__law_all_rows_1
        rcases hfn with rfl | rfl
        · simp_all_arith
        · simp_all_arith
      have hw : ∀ o : Option RV, lcM [] [6] (.name 6) (I__law_all_rows_1 []) yesM (E__law_all_rows_1 []) [some p, some many, some fn', o3, some (.ol (acc.map tupI)), some (.sh (.int (i : Int))), o] = .ok (.ol ((L.map fun r => tupI (r ++ [(i : Int)])))) [some p, some many, some (.sh (.lst (L.map tupI))), o3, some (.ol (acc.map tupI)), some (.sh (.int (i : Int))), none] := fun o => by
        have hI2 : I__law_all_rows_1 [] [some p, some many, some fn', o3, some (.ol (acc.map tupI)), some (.sh (.int (i : Int))), o] = .ok (L.map tupI) [some p, some many, some (.sh (.lst (L.map tupI))), o3, some (.ol (acc.map tupI)), some (.sh (.int (i : Int))), o] := by
          unfold I__law_all_rows_1
          rcases hfn with rfl | rfl
          · simp_all_arith
          · simp_all_arith
        have hg := lcGo_map (pn := []) (vs := [6]) (t := .name 6) (me := E__law_all_rows_1 []) (enc := tupI) (g := fun r => tupI (r ++ [(i : Int)])) (env := [some p, some many, some (.sh (.lst (L.map tupI))), o3, some (.ol (acc.map tupI)), some (.sh (.int (i : Int))), none]) (xs := L) (acc := []) (by simp; omega) fun r hrm => by
          have hlr := hr r hrm
          have ha := addD_tup (xs := r.map D.int) (ys := [.int (i : Int)]) (by simp; omega)
          have e : r.map D.int ++ [.int (i : Int)] = (r ++ [(i : Int)]).map D.int := by simp
          rw [e] at ha
          simp_all_arith [lcStep, E__law_all_rows_1, ha]
          exact ⟨_, rfl, rfl⟩
        exact lcM_eq (mt := yesM) hI2 (by decide) hg
      have ha := addD_lst (a := .ol (acc.map tupI)) (b := .sh (.lst (L.map fun r => tupI (r ++ [(i : Int)])))) (xs := acc.map tupI) (ys := L.map fun r => tupI (r ++ [(i : Int)])) rfl rfl (by simp; omega)
      have e : acc.map tupI ++ (L.map fun r => tupI (r ++ [(i : Int)])) = (stepR L acc i).map tupI := by simp [stepR]
      rw [e] at ha
      simp_all_arith [forStep, L__law_all_rows_1, hw, ha]
      exact ⟨_, rfl, ⟨_, _, _, .inr rfl, rfl⟩, by rw [stepR, List.length_append, List.length_map, hl]; rw [Nat.add_mul, Nat.one_mul]⟩)
  rw [stepR_fold, List.nil_append] at g1
  exact ⟨fn', o5', o6', _, hfn, rfl, g1⟩
theorem allrows_p {p : Int} {n : Nat} (hp : 0 < p) (hp2 : p < 100) (hn : n ≤ 100) (hb : p.toNat ^ n ≤ 50000) : D__law_all_rows [.sh (.int p), .sh (.int n)] = .ok (if n = 0 then .ol ((allR p n).map tupI) else .sh (.lst ((allR p n).map tupI))) [.sh (.int p), .sh (.int n)] := by
  have hr := rng1_int (j := p) (by omega) (by omega)
  rw [rangeD_map] at hr
  have hr2 := rng1_int (j := (n : Int)) (by omega) (by omega)
  rw [Int.toNat_natCast] at hr2
  obtain ⟨env', g1, ⟨o3, o4, o5, o6, rfl⟩⟩ := forM_nx (pn := []) (t := .name 3) (s := L__law_all_rows_2 []) (ds := rangeD 0 n) (n := 0) (env := [some (.sh (.int p)), some (.sh (.int n)), some (.ol [.tup []]), none, none, none, none])
    (fun i env => ∃ (o3 o4 o5 o6 : Option RV), env = [some (.sh (.int p)), some (.sh (.int n)), some (if i = 0 then .ol ((allR p i).map tupI) else .sh (.lst ((allR p i).map tupI))), o3, o4, o5, o6]) ⟨none, none, none, none, rfl⟩ (by
      rintro i y env hy ⟨o3, o4, o5, o6, rfl⟩
      have hi : i < n := by
        have := (List.getElem?_eq_some_iff.mp hy).1
        simpa [rangeD] using this
      rw [Nat.zero_add]
      have hpow : p.toNat * (allR p i).length ≤ 50000 := by
        rw [allR_len, ← Nat.pow_succ']
        exact Nat.le_trans (Nat.pow_le_pow_right (by omega) (by omega)) hb
      have hbd : ∀ r ∈ allR p i, r.length ≤ 1000 := fun r hr => by have := (allR_ok hr).1; omega
      have hfn : (if i = 0 then RV.ol ((allR p i).map tupI) else .sh (.lst ((allR p i).map tupI))) = .ol ((allR p i).map tupI) ∨ (if i = 0 then RV.ol ((allR p i).map tupI) else .sh (.lst ((allR p i).map tupI))) = .sh (.lst ((allR p i).map tupI)) := by
        split
        · exact .inl rfl
        · exact .inr rfl
      obtain ⟨fn', q5, q6, lt, h1, rfl, h2⟩ := allrows_in (p := .sh (.int p)) (many := .sh (.int n)) (o3 := some (.sh y)) (a6 := o6) (a5 := o5) hfn hpow hbd
      generalize (if i = 0 then RV.ol ((allR p i).map tupI) else .sh (.lst ((allR p i).map tupI))) = fn at *
      have e : ((List.range p.toNat).flatMap fun (x : Nat) => (allR p i).map fun r => r ++ [(x : Int)]) = allR p (i + 1) := rfl
      rw [e] at h2
      simp_all_arith [forStep, L__law_all_rows_2, hr, h2]
      exact ⟨_, rfl, _, _, _, _, rfl⟩)
  have hl : 0 + (rangeD 0 n).length = n := by simp [rangeD]
  rw [hl] at g1
  unfold D__law_all_rows S__law_all_rows
  by_cases h0 : n = 0
  · rw [if_pos h0] at g1 ⊢
    simp_all_arith [hr2, g1]
  · rw [if_neg h0] at g1 ⊢
    simp_all_arith [hr2, g1]
end Y
namespace Y
open PySem Z
/-! tuples of ints as data -/
def pdI (l : List Int) : PyData := .tuple (l.map PyData.int)
theorem toPs_ints : ∀ l : List Int, toPs (l.map D.int) = some (l.map PyData.int)
  | [] => rfl
  | a :: l => by simp [toPs, toP, toPs_ints l]
theorem eqv_ints : ∀ a b : List Int, PyData.eqvAll (a.map PyData.int) (b.map PyData.int) = decide (a = b)
  | [], [] => rfl
  | a :: l, [] => by simp [PyData.eqvAll]
  | [], b :: m => by simp [PyData.eqvAll]
  | a :: l, b :: m => by
    rw [List.map_cons, List.map_cons, PyData.eqvAll, eqv_ints l m, PyData.eqv]
    by_cases h1 : a = b <;> by_cases h2 : l = m <;> simp [h1, h2]
theorem lay_ints : ∀ l : List Int, PyData.canLayAll0 (l.map PyData.int) = true ∧ PyData.depthAll (l.map PyData.int) = 0
  | [] => ⟨rfl, rfl⟩
  | a :: l => by
    obtain ⟨h1, h2⟩ := lay_ints l
    exact ⟨by simp [PyData.canLayAll0, PyData.canLay0, h1], by simp [PyData.depthAll, PyData.depth, h2]⟩
theorem shaped_ints (l : List Int) : SeqAt.shaped (pdI l) = true := by
  obtain ⟨h1, h2⟩ := lay_ints l
  unfold SeqAt.shaped pdI
  simp [PyData.canLay0, PyData.depth, h1, h2]
theorem ne_tupI (a b : List Int) : neF (.sh (tupI a)) (.sh (tupI b)) = some (.sh (.bl (decide (¬ a = b)))) := by
  unfold neF eqP
  have e1 : toP (RV.sh (tupI a)).d = some (pdI a) := by
    show toP (.tup (a.map D.int)) = _
    rw [toP, toPs_ints]; rfl
  have e2 : toP (RV.sh (tupI b)).d = some (pdI b) := by
    show toP (.tup (b.map D.int)) = _
    rw [toP, toPs_ints]; rfl
  rw [e1, e2]
  simp only [shaped_ints, Bool.and_self, if_true]
  have : PyData.eqv (pdI a) (pdI b) = decide (a = b) := by unfold pdI; rw [PyData.eqv, eqv_ints]
  rw [this]
  by_cases h : a = b <;> simp [h]
theorem toPs_tups : ∀ L : List (List Int), toPs (L.map tupI) = some (L.map pdI)
  | [] => rfl
  | x :: L => by
    have e : toP (tupI x) = some (pdI x) := by
      show toP (.tup (x.map D.int)) = _
      rw [toP, toPs_ints]; rfl
    rw [List.map_cons, toPs, e, toPs_tups L]; rfl
theorem eq_tupI (a b : List Int) : eqF (.sh (tupI a)) (.sh (tupI b)) = some (.sh (.bl (decide (a = b)))) := by
  unfold eqF eqP
  have e1 : toP (RV.sh (tupI a)).d = some (pdI a) := by
    show toP (.tup (a.map D.int)) = _
    rw [toP, toPs_ints]; rfl
  have e2 : toP (RV.sh (tupI b)).d = some (pdI b) := by
    show toP (.tup (b.map D.int)) = _
    rw [toP, toPs_ints]; rfl
  rw [e1, e2]
  simp only [shaped_ints, Bool.and_self, if_true]
  have : PyData.eqv (pdI a) (pdI b) = decide (a = b) := by unfold pdI; rw [PyData.eqv, eqv_ints]
  rw [this]; rfl
theorem lay_tups : ∀ L : List (List Int), PyData.canLayAll0 (L.map pdI) = true ∧ PyData.depthAll (L.map pdI) ≤ 1
  | [] => ⟨rfl, Nat.zero_le _⟩
  | x :: L => by
    obtain ⟨h1, h2⟩ := lay_tups L
    obtain ⟨h3, h4⟩ := lay_ints x
    refine ⟨by simp [PyData.canLayAll0, pdI, PyData.canLay0, h1, h3], ?_⟩
    rw [List.map_cons, PyData.depthAll]
    have : (pdI x).depth = 1 := by unfold pdI; rw [PyData.depth, h4]
    omega
theorem shaped_tups (L : List (List Int)) : SeqAt.shaped (.list (L.map pdI)) = true := by
  obtain ⟨h1, h2⟩ := lay_tups L
  unfold SeqAt.shaped
  simp [PyData.canLay0, PyData.depth, h1]; omega
theorem ne_nilT (L : List (List Int)) : neF (.ol (L.map tupI)) (.sh (.lst [])) = some (.sh (.bl (decide (¬ L = [])))) := by
  unfold neF eqP
  have e1 : toP (RV.ol (L.map tupI)).d = some (.list (L.map pdI)) := by
    show toP (.lst (L.map tupI)) = _
    rw [toP, toPs_tups]; rfl
  have e2 : toP (RV.sh (.lst [])).d = some (.list []) := rfl
  rw [e1, e2]
  have e3 : SeqAt.shaped (.list []) = true := shaped_tups []
  simp only [shaped_tups, e3, Bool.and_self, if_true]
  cases L with
  | nil => rfl
  | cons x L => rfl
end Y
namespace Y
open PySem Z
/-! rows in the tuples' order -/
def lexI : List Int → List Int → Bool
  | x :: xs, y :: ys => if x = y then lexI xs ys else decide (x < y)
  | _, _ => false
theorem lexI_asym : ∀ {a b : List Int}, lexI a b = true → lexI b a = false
  | [], b, h => by cases b <;> cases h
  | x :: a, [], h => by cases h
  | x :: a, y :: b, h => by
    rw [lexI] at h ⊢
    by_cases e : x = y
    · subst e
      rw [if_pos rfl] at h ⊢
      exact lexI_asym h
    · rw [if_neg e] at h
      rw [if_neg fun z => e z.symm]
      simp only [decide_eq_true_eq] at h
      exact decide_eq_false (by omega)
theorem lexI_tri : ∀ {a b : List Int}, a.length = b.length → lexI a b = false → lexI b a = false → a = b
  | [], [], _, _, _ => rfl
  | [], y :: b, h, _, _ => by cases h
  | x :: a, [], h, _, _ => by cases h
  | x :: a, y :: b, h, h1, h2 => by
    rw [lexI] at h1 h2
    by_cases e : x = y
    · subst e
      rw [if_pos rfl] at h1 h2
      rw [lexI_tri (by simpa using h) h1 h2]
    · rw [if_neg e] at h1
      rw [if_neg fun z => e z.symm] at h2
      simp only [decide_eq_false_iff_not] at h1 h2
      omega
theorem alike_ints : ∀ xs ys : List Int, PySem.W.alikeAll (xs.map PyData.int) (ys.map PyData.int) = true
  | [], ys => by simp [PySem.W.alikeAll]
  | x :: xs, [] => by simp [PySem.W.alikeAll]
  | x :: xs, y :: ys => by simp [PySem.W.alikeAll, PySem.W.alike, alike_ints xs ys]
theorem lex_ints : ∀ xs ys : List Int, xs.length = ys.length → PyProof.Rows.lexLt PyProof.Rows.itemOrd (PySem.W.keyToksAll (xs.map PyData.int)) (PySem.W.keyToksAll (ys.map PyData.int)) = lexI xs ys
  | [], [], _ => by rfl
  | [], y :: ys, h => by cases h
  | x :: xs, [], h => by cases h
  | x :: xs, y :: ys, h => by
    rw [List.map_cons, List.map_cons, lexI]
    by_cases e : x = y
    · subst e
      rw [PySem.W.dataLt_all_yes rfl (by simp [PyData.eqv]), lex_ints xs ys (by simpa using h), if_pos rfl]
    · rw [PySem.W.dataLt_all_no rfl (by simp [PyData.eqv, e]), PySem.W.dataLt_int, if_neg e]
theorem data_ints {xs ys : List Int} (h : xs.length = ys.length) : PySem.W.dataLt (pdI xs) (pdI ys) = lexI xs ys := (PySem.W.dataLt_tuple _ _).trans (lex_ints xs ys h)
theorem eq_sorted {α : Type} {le : α → α → Prop} : ∀ {l m : List α}, l.Perm m → l.Pairwise le → m.Pairwise le → (∀ a ∈ m, ∀ b ∈ m, le a b → le b a → a = b) → l = m
  | [], m, p, _, _, _ => p.nil_eq
  | a :: l, [], p, _, _, _ => by have := p.length_eq; simp at this
  | a :: l, b :: m, p, h1, h2, an => by
    rw [List.pairwise_cons] at h1 h2
    have e : a = b := by
      have i1 : a ∈ b :: m := p.mem_iff.mp List.mem_cons_self
      have i2 : b ∈ a :: l := p.mem_iff.mpr List.mem_cons_self
      rcases List.mem_cons.mp i1 with q | q
      · exact q
      · rcases List.mem_cons.mp i2 with z | z
        · exact z.symm
        · exact an a i1 b List.mem_cons_self (h1.1 b z) (h2.1 a q)
    subst e
    rw [eq_sorted p.cons_inv h1.2 h2.2 fun x hx y hy => an x (List.mem_cons_of_mem _ hx) y (List.mem_cons_of_mem _ hy)]
theorem sortOk_tups {L : List (List Int)} {n : Nat} (h : ∀ x ∈ L, x.length = n) (h0 : n = 0 → L.length ≤ 1) : sortOk (L.map pdI) = true := by
  unfold sortOk
  rw [Bool.and_eq_true]
  refine ⟨?_, ?_⟩
  · by_cases z : n = 0
    · have := h0 z
      simp [this]
    · rw [Bool.or_eq_true, Bool.or_eq_true]
      refine .inl (.inr (List.all_eq_true.mpr fun q hq => ?_))
      obtain ⟨x, hx, rfl⟩ := List.mem_map.mp hq
      have := h x hx
      cases x with
      | nil => simp at this; omega
      | cons a x => rfl
  · rw [List.all_eq_true]
    intro q hq
    obtain ⟨x, hx, rfl⟩ := List.mem_map.mp hq
    have : (pdI x).depth = 1 := by unfold pdI; rw [PyData.depth, (lay_ints x).2]
    rw [this]
    have : ((L.map pdI).all fun q => PySem.W.alike (pdI x) q) = true := by
      rw [List.all_eq_true]
      intro r hr
      obtain ⟨y, _, rfl⟩ := List.mem_map.mp hr
      unfold pdI
      rw [PySem.W.alike, alike_ints]
    rw [this]; rfl
theorem sort_tups {L M : List (List Int)} {n : Nat} (h : ∀ x ∈ L, x.length = n) (h0 : n = 0 → L.length ≤ 1) (hp : M.Perm L) (hM : M.Pairwise fun a b => lexI a b = true) : sortF [.sh (.lst (L.map tupI))] = some (.ol (M.map tupI)) := by
  have e1 : listOf (.sh (.lst (L.map tupI))) = some (L.map tupI) := rfl
  have hT := PySem.W.sortLe_total (PyProof.Rows.listOrd PyProof.Rows.itemOrd) false (fun x : List Int => PySem.W.keyToks (pdI x))
  have hs : L.mergeSort (fun a b => leD (tupI a, pdI a) (tupI b, pdI b)) = M := by
    have p1 := PySem.W.sort_pairwise hT L
    refine eq_sorted (le := fun a b => leD (tupI a, pdI a) (tupI b, pdI b) = true) ((List.mergeSort_perm L _).trans hp.symm) p1 ?_ ?_
    · refine (List.Pairwise.and_mem.mp hM).imp ?_
      rintro a b ⟨ha, hb, hab⟩
      have la := h a (hp.mem_iff.mp ha)
      have lb := h b (hp.mem_iff.mp hb)
      unfold leD
      rw [data_ints (by rw [la, lb]), lexI_asym hab]; rfl
    · intro a ha b hb q1 q2
      have la := h a (hp.mem_iff.mp ha)
      have lb := h b (hp.mem_iff.mp hb)
      unfold leD at q1 q2
      rw [data_ints (by rw [la, lb])] at q1 q2
      exact lexI_tri (by rw [la, lb]) (by simpa using q2) (by simpa using q1)
  have hz : (L.map tupI).zip (L.map pdI) = L.map fun x => (tupI x, pdI x) := by
    induction L with
    | nil => rfl
    | cons x L ih => simp [List.zip_map']
  unfold sortF
  simp only [e1, toPs_tups, sortOk_tups h h0, if_true]
  rw [hz, ← PySem.W.sort_maps (r := fun a b => leD (tupI a, pdI a) (tupI b, pdI b)) (fun x : List Int => (tupI x, pdI x)) (fun _ _ _ _ => rfl), hs, List.map_map]
  rfl
theorem permOf {α : Type} [DecidableEq α] : ∀ {l m : List α}, l.Nodup → (∀ x ∈ l, x ∈ m) → m.length ≤ l.length → l.Perm m
  | [], m, _, _, hl => by
    have : m = [] := List.length_eq_zero_iff.mp (by simpa using hl)
    subst this; exact .nil
  | a :: l, m, hn, hs, hl => by
    have ha := hs a List.mem_cons_self
    rw [List.nodup_cons] at hn
    have ih := permOf (l := l) (m := m.erase a) hn.2 (fun x hx => (List.mem_erase_of_ne fun e => hn.1 (by rw [← e]; exact hx)).mpr (hs x (List.mem_cons_of_mem _ hx))) (by
      rw [List.length_erase_of_mem ha]
      rw [List.length_cons] at hl; omega)
    exact (ih.cons a).trans (List.perm_cons_erase ha).symm
theorem memAll {p : Int} : ∀ {n : Nat} {x : List Int}, SetOk p x → x.length = n → x ∈ allR p n
  | 0, x, _, hl => by
    have : x = [] := List.length_eq_zero_iff.mp hl
    subst this; simp [allR]
  | n + 1, x, hx, hl => by
    have hne : x ≠ [] := fun e => by subst e; cases hl
    have e := List.dropLast_concat_getLast hne
    have hb := hx _ (List.getLast_mem hne)
    simp only [allR, List.mem_flatMap, List.mem_range, List.mem_map]
    refine ⟨(x.getLast hne).toNat, by omega, x.dropLast, memAll (fun f hf => hx f (List.dropLast_subset x hf)) (by simp [hl]), ?_⟩
    rw [show (((x.getLast hne).toNat : Nat) : Int) = x.getLast hne by omega]
    exact e
def conR (p : Int) : Nat → List (List Int)
  | 0 => [[]]
  | n + 1 => (List.range p.toNat).flatMap fun (x : Nat) => (conR p n).map fun r => (x : Int) :: r
theorem conR_len (p : Int) : ∀ n : Nat, (conR p n).length = p.toNat ^ n
  | 0 => rfl
  | n + 1 => by
    have h : ∀ m : Nat, ((List.range m).flatMap fun (x : Nat) => (conR p n).map fun r => (x : Int) :: r).length = m * (conR p n).length := by
      intro m
      induction m with
      | zero => simp
      | succ m ih => rw [List.range_succ, List.flatMap_append, List.length_append, ih]; simp [Nat.succ_mul]
    rw [conR, h, conR_len p n, Nat.pow_succ, Nat.mul_comm]
theorem conR_ok {p : Int} : ∀ {n : Nat} {r : List Int}, r ∈ conR p n → r.length = n ∧ SetOk p r
  | 0, r, h => by
    simp [conR] at h; subst h
    exact ⟨rfl, fun f hf => by simp at hf⟩
  | n + 1, r, h => by
    simp only [conR, List.mem_flatMap, List.mem_range, List.mem_map] at h
    obtain ⟨x, hx, q, hq, rfl⟩ := h
    obtain ⟨h1, h2⟩ := conR_ok hq
    refine ⟨by simp [h1], fun f hf => ?_⟩
    rcases List.mem_cons.mp hf with hf | hf
    · subst hf; omega
    · exact h2 f hf
theorem conR_lex (p : Int) : ∀ n : Nat, (conR p n).Pairwise fun a b => lexI a b = true
  | 0 => by simp [conR]
  | n + 1 => by
    rw [conR, List.pairwise_flatMap]
    refine ⟨fun x _ => ?_, ?_⟩
    · rw [List.pairwise_map]
      exact (conR_lex p n).imp fun h => by rw [lexI, if_pos rfl]; exact h
    · refine List.pairwise_lt_range.imp fun {x y} hxy a ha b hb => ?_
      obtain ⟨r, _, rfl⟩ := List.mem_map.mp ha
      obtain ⟨q, _, rfl⟩ := List.mem_map.mp hb
      rw [lexI, if_neg (by omega)]
      exact decide_eq_true (by omega)
theorem conR_perm (p : Int) (n : Nat) : (conR p n).Perm (allR p n) := by
  refine permOf ?_ ?_ ?_
  · refine (conR_lex p n).imp fun {a b} h e => ?_
    subst e
    have := lexI_asym h
    rw [h] at this; cases this
  · intro x hx
    obtain ⟨h1, h2⟩ := conR_ok hx
    exact memAll h2 h1
  · rw [allR_len, conR_len]; exact Nat.le_refl _
end Y
namespace Y
open PySem Z
/-! settings that stay, in the tuples' order -/
section
variable {p s : Int} {rows : Rows}
def stl (p : Int) (rows : Rows) (st : Int) (r : List Int) : Bool := decide (behindF p rows st r = r)
theorem behind_c {st x : Int} {xs : List Int} : behindF p rows st (x :: xs) = (x + turnOf rows st) % p :: behindF p rows (goal rows st x) xs := by
  unfold behindF
  rw [wayF]; rfl
theorem turn_bd (h : MachOk p rows s) {st : Int} (h0 : 0 ≤ st) (h1 : st < rows.length) : 0 ≤ turnOf rows st ∧ turnOf rows st < p := (row_at h h0 h1).2.1
theorem stl_cons (h : MachOk p rows s) {st x : Int} {r : List Int} (h0 : 0 ≤ st) (h1 : st < rows.length) (x0 : 0 ≤ x) (x1 : x < p) : stl p rows st (x :: r) = (decide (turnOf rows st = 0) && stl p rows (goal rows st x) r) := by
  obtain ⟨t0, t1⟩ := turn_bd h h0 h1
  have e : (x + turnOf rows st) % p = x ↔ turnOf rows st = 0 := by
    constructor
    · intro q
      by_cases z : x + turnOf rows st < p
      · rw [Int.emod_eq_of_lt (by omega) z] at q; omega
      · have := Int.emod_eq_of_lt (a := x + turnOf rows st - p) (b := p) (by omega) (by omega)
        rw [Int.sub_emod_right] at this
        omega
    · intro q
      rw [q, Int.add_zero, Int.emod_eq_of_lt x0 x1]
  unfold stl
  rw [behind_c, ← Bool.decide_and]
  congr 1
  rw [List.cons.injEq, e]
def conS (p : Int) (rows : Rows) (n : Nat) (st : Int) : List (List Int) := (conR p n).filter (stl p rows st)
theorem fm_congr {α β : Type} {f g : α → List β} : ∀ {l : List α}, (∀ x ∈ l, f x = g x) → l.flatMap f = l.flatMap g
  | [], _ => rfl
  | a :: l, h => by rw [List.flatMap_cons, List.flatMap_cons, h a List.mem_cons_self, fm_congr fun x hx => h x (List.mem_cons_of_mem _ hx)]
theorem conS_succ (h : MachOk p rows s) {n : Nat} {st : Int} (h0 : 0 ≤ st) (h1 : st < rows.length) : conS p rows (n + 1) st = if turnOf rows st = 0 then (List.range p.toNat).flatMap fun (x : Nat) => (conS p rows n (goal rows st (x : Int))).map fun r => (x : Int) :: r else [] := by
  unfold conS
  rw [conR, List.filter_flatMap]
  have e : ∀ x ∈ List.range p.toNat, ((conR p n).map fun r => (x : Int) :: r).filter (stl p rows st) = if turnOf rows st = 0 then ((conR p n).filter (stl p rows (goal rows st (x : Int)))).map fun r => (x : Int) :: r else [] := fun x hx => by
    have hx := List.mem_range.mp hx
    rw [List.filter_map]
    have e2 : (stl p rows st ∘ fun r => (x : Int) :: r) = fun r => (decide (turnOf rows st = 0) && stl p rows (goal rows st (x : Int)) r) := funext fun r => stl_cons h h0 h1 (by omega) (by omega)
    rw [e2]
    by_cases ht : turnOf rows st = 0
    · rw [if_pos ht]; simp [ht]
    · rw [if_neg ht]; simp [ht]
  rw [fm_congr e]
  by_cases ht : turnOf rows st = 0
  · simp [ht]
  · simp [ht]
theorem goals_rng {gs : List Int} {β : Type} {F : Int → β} : (List.range gs.length).map (fun (x : Nat) => F (gs.getD x 0)) = gs.map F := by
  apply List.ext_getElem
  · simp
  · intro i h1 h2
    have : i < gs.length := by simpa using h2
    simp [List.getD_eq_getElem?_getD, this]
theorem row_of (h : MachOk p rows s) {st : Int} (h0 : 0 ≤ st) (h1 : st < rows.length) : rows[st.toNat]? = some rows[st.toNat]! := by
  have hk : st.toNat < rows.length := by omega
  rw [List.getElem!_eq_getElem?_getD, List.getElem?_eq_getElem hk]; rfl
theorem conS_len (h : MachOk p rows s) : ∀ (n : Nat) {st : Int}, 0 ≤ st → st < rows.length → ((conS p rows n st).length : Int) = (levF rows n).getD st.toNat 0
  | 0, st, h0, h1 => by
    have hk : st.toNat < rows.length := by omega
    have : conS p rows 0 st = [[]] := by
      unfold conS conR stl
      simp [behindF, wayF]
    rw [this, levF, List.getD_eq_getElem?_getD, List.getElem?_map, List.getElem?_eq_getElem hk]; rfl
  | n + 1, st, h0, h1 => by
    have r := (row_at h h0 h1).2
    have e1 : (levF rows (n + 1)).getD st.toNat 0 = if turnOf rows st = 0 then ((rows[st.toNat]!).2.map fun g => (levF rows n).getD g.toNat 0).sum else 0 := by
      rw [levF, levN, List.getD_eq_getElem?_getD, List.getElem?_map, row_of h h0 h1]; rfl
    rw [conS_succ h h0 h1, e1]
    by_cases ht : turnOf rows st = 0
    · rw [if_pos ht, if_pos ht, List.length_flatMap]
      have hl : (rows[st.toNat]!).2.length = p.toNat := by have := r.2.1; have := h.1; omega
      rw [← goals_rng (F := fun g => (levF rows n).getD g.toNat 0), hl]
      have hx : ∀ m : Nat, m ≤ p.toNat → (((List.range m).map fun (x : Nat) => ((conS p rows n (goal rows st (x : Int))).map fun r => (x : Int) :: r).length).sum : Int) = ((List.range m).map fun (x : Nat) => (levF rows n).getD ((rows[st.toNat]!).2.getD x 0).toNat 0).sum := by
        intro m
        induction m with
        | zero => intro _; rfl
        | succ m ih =>
          intro hm
          obtain ⟨_, b1, b2⟩ := goal_at h h0 h1 (x := (m : Int)) (by omega) (by omega)
          have eg : goal rows st (m : Int) = (rows[st.toNat]!).2.getD m 0 := by unfold goal; rw [Int.toNat_natCast]
          have := conS_len h n b1 b2
          rw [eg] at this
          rw [List.range_succ, List.map_append, List.map_append, List.sum_append, List.sum_append, Int.natCast_add, ih (by omega)]
          simp only [List.map_cons, List.map_nil, List.sum_cons, List.sum_nil, List.length_map, eg, Nat.add_zero, Int.add_zero, this]
      exact hx _ (Nat.le_refl _)
    · rw [if_neg ht, if_neg ht]; rfl
theorem fs_range {β : Type} {f : Nat → Option β} {x : Nat} {b : β} (hb : f x = some b) (hn : ∀ y, y < x → f y = none) : ∀ {m : Nat}, x < m → (List.range m).findSome? f = some b
  | 0, h => by omega
  | m + 1, h => by
    rw [List.range_succ, List.findSome?_append]
    by_cases e : x = m
    · subst e
      have : (List.range x).findSome? f = none := by
        rw [List.findSome?_eq_none_iff]
        intro y hy
        exact hn y (List.mem_range.mp hy)
      rw [this]
      simp [hb]
    · rw [fs_range hb hn (by omega)]; rfl
theorem conS_head (h : MachOk p rows s) : ∀ (n : Nat) {st : Int}, 0 ≤ st → st < rows.length → (conS p rows n st).head? = if (aliF rows n).getD st.toNat false = true then some (pickF rows n st) else none
  | 0, st, h0, h1 => by
    have hk : st.toNat < rows.length := by omega
    have : conS p rows 0 st = [[]] := by
      unfold conS conR stl
      simp [behindF, wayF]
    rw [this, aliF, List.getD_eq_getElem?_getD, List.getElem?_map, List.getElem?_eq_getElem hk]; rfl
  | n + 1, st, h0, h1 => by
    have r := (row_at h h0 h1).2
    have hl : (rows[st.toNat]!).2.length = p.toNat := by have := r.2.1; have := h.1; omega
    have ea : (aliF rows (n + 1)).getD st.toNat false = (decide (turnOf rows st = 0) && ((rows[st.toNat]!).2.map fun g => (aliF rows n).getD g.toNat false).any id) := by
      rw [aliF, aliN, List.getD_eq_getElem?_getD, List.getElem?_map, row_of h h0 h1]; rfl
    rw [conS_succ h h0 h1, ea]
    by_cases ht : turnOf rows st = 0
    · rw [if_pos ht, List.head?_flatMap]
      have hf : ∀ x : Nat, x < p.toNat → ((conS p rows n (goal rows st (x : Int))).map fun r => (x : Int) :: r).head? = if (aliF rows n).getD ((rows[st.toNat]!).2.getD x 0).toNat false = true then some ((x : Int) :: pickF rows n (goal rows st (x : Int))) else none := fun x hx => by
        obtain ⟨_, b1, b2⟩ := goal_at h h0 h1 (x := (x : Int)) (by omega) (by omega)
        have eg : goal rows st (x : Int) = (rows[st.toNat]!).2.getD x 0 := by unfold goal; rw [Int.toNat_natCast]
        rw [List.head?_map, conS_head h n b1 b2, eg]
        split <;> rfl
      by_cases ha : ((rows[st.toNat]!).2.map fun g => (aliF rows n).getD g.toNat false).any id = true
      · obtain ⟨x, rest, e1, e2, e3, e4, e5⟩ := spot_ok ha
        have hx : x < p.toNat := by omega
        rw [fs_range (x := x) (by rw [hf x hx, if_pos e4]) (fun y hy => by rw [hf y (by omega), e5 y hy]; rfl) hx]
        have ep : pickF rows (n + 1) st = (x : Int) :: pickF rows n (goal rows st x) := by rw [pickF, e2]
        rw [ep, ha]; simp [ht]
      · have hn : (List.range p.toNat).findSome? (fun (x : Nat) => ((conS p rows n (goal rows st (x : Int))).map fun r => (x : Int) :: r).head?) = none := by
          rw [List.findSome?_eq_none_iff]
          intro x hx
          have hx := List.mem_range.mp hx
          rw [hf x hx, if_neg]
          intro q
          refine ha (List.any_eq_true.mpr ⟨true, ?_, rfl⟩)
          refine List.mem_map.mpr ⟨(rows[st.toNat]!).2.getD x 0, ?_, q⟩
          rw [List.getD_eq_getElem?_getD, List.getElem?_eq_getElem (by omega)]
          exact List.getElem_mem _
        rw [hn]
        have ha : ((rows[st.toNat]!).2.map fun g => (aliF rows n).getD g.toNat false).any id = false := by simpa using ha
        rw [ha]; simp
    · rw [if_neg ht]; simp [ht]
end
end Y
namespace Y
open PySem Z
theorem few43 {p : Int} (hp : p = 2 ∨ p = 3 ∨ p = 5 ∨ p = 7) : ∃ fw : Nat, D__law_few [.sh (.int p)] = .ok (.sh (.int fw)) [.sh (.int p)] ∧ 1 ≤ fw ∧ fw ≤ 8 ∧ ∀ n, n ≤ fw → p.toNat ^ n ≤ 400 := by
  rcases hp with rfl | rfl | rfl | rfl
  · exact ⟨8, rfl, by decide, by decide, by decide⟩
  · exact ⟨5, rfl, by decide, by decide, by decide⟩
  · exact ⟨3, rfl, by decide, by decide, by decide⟩
  · exact ⟨3, rfl, by decide, by decide, by decide⟩
theorem step43 {p s : Int} {rows : Rows} (h : MachOk p rows s) {n : Nat} (hn : n ≤ 8) (hb : p.toNat ^ n ≤ 400) {e0 e1 e2 e7 : Option RV} :
    ∃ o7, L_law_1 [] [e0, e1, e2, some (.sh (.int p)), some (.sh (machD p rows s)), some (.sh (turnerD p rows s)), some (.sh (.int (n : Int))), e7, none] =
      .nx [e0, e1, e2, some (.sh (.int p)), some (.sh (machD p rows s)), some (.sh (turnerD p rows s)), some (.sh (.int (n : Int))), o7, none] := by
  have hp := h.1
  have hp0 : 0 < p := by omega
  have hs0 := h.2.2.2.2.1
  have hs1 := h.2.2.2.2.2
  have al := allrows_p (n := n) hp0 (by omega) (by omega) (by omega)
  have hI : I_law_1 [] [e0, e1, e2, some (.sh (.int p)), some (.sh (machD p rows s)), some (.sh (turnerD p rows s)), some (.sh (.int (n : Int))), e7, none] = .ok ((allR p n).map tupI) [e0, e1, e2, some (.sh (.int p)), some (.sh (machD p rows s)), some (.sh (turnerD p rows s)), some (.sh (.int (n : Int))), e7, none] := by
    unfold I_law_1
    by_cases z : n = 0
    · rw [if_pos z] at al; simp_all_arith [al]
    · rw [if_neg z] at al; simp_all_arith [al]
  have hm := lcM_filt (pn := []) (vs := [8]) (t := .name 8) (mt := boM (opM eqF (shareM (fnA (pureF D__law_behind) [.inl 0, .inl 1] (consO (nameO 4) (consO (nameO 8) nilO)) nilO)) (nameO 8))) (me := E_law_1 []) (enc := tupI) (g := tupI) (b := stl p rows s) hI (by decide) rfl (by rw [allR_len]; omega) fun x hx => by
    obtain ⟨x1, x2⟩ := allR_ok hx
    have hbh := law_behind_p (row := x) h x2 (by omega)
    have q := eq_tupI (behindF p rows s x) x
    cases hst : stl p rows s x with
    | true =>
      rw [show decide (behindF p rows s x = x) = true from hst] at q
      simp_all_arith [lcT, E_law_1, hbh, q]
      exact ⟨_, rfl, rfl⟩
    | false =>
      rw [show decide (behindF p rows s x = x) = false from hst] at q
      simp_all_arith [lcT, E_law_1, hbh, q]
      exact ⟨_, rfl, rfl⟩
  have so := sort_tups (L := (allR p n).filter (stl p rows s)) (M := conS p rows n s) (n := n) (fun x hx => (allR_ok (List.mem_filter.mp hx).1).1) (fun z => by
    subst z
    exact Nat.le_trans (List.length_filter_le _ _) (by simp [allR])) ((conR_perm p n).filter _) ((conR_lex p n).filter _)
  have st := still_p (n := n) h (by omega)
  have fi := first_p (n := n) h (by omega)
  have cl := conS_len h n hs0 hs1
  have ch := conS_head h n hs0 hs1
  have cok : ∀ x ∈ conS p rows n s, x.length = n := fun x hx => (conR_ok (List.mem_filter.mp hx).1).1
  have ne := ne_nilT (conS p rows n s)
  rw [← cl] at st
  generalize conS p rows n s = M at *
  generalize (allR p n).filter (stl p rows s) = L at *
  cases M with
  | nil =>
    have ha : ¬ (aliF rows n).getD s.toNat false = true := fun z => by rw [if_pos z] at ch; cases ch
    rw [if_neg ha] at fi
    rw [decide_eq_false (fun z => z rfl)] at ne
    have sm := same_ok 8 (.lst [.int ((0 : Nat) : Int), .non]) ⟨fun y hy => by
      simp only [List.mem_cons, List.not_mem_nil, or_false] at hy
      rcases hy with rfl | rfl <;> trivial, by simp⟩
    simp only [List.map_nil, List.length_nil] at so st ne sm
    unfold L_law_1
    simp_all_arith [hm, so, st, fi, ne, sm]
    exact ⟨_, rfl⟩
  | cons m M =>
    have ha : (aliF rows n).getD s.toNat false = true := by
      by_cases z : (aliF rows n).getD s.toNat false = true
      · exact z
      · rw [if_neg z] at ch; cases ch
    rw [if_pos ha] at fi ch
    have em : m = pickF rows n s := by simpa using ch
    rw [← em] at fi
    rw [decide_eq_true (by simp)] at ne
    have ml := cok m List.mem_cons_self
    have sm := same_ok 8 (.lst [.int (((m :: M).length : Nat) : Int), tupI m]) ⟨fun y hy => by
      simp only [List.mem_cons, List.not_mem_nil, or_false] at hy
      rcases hy with rfl | rfl
      · trivial
      · exact ⟨good_ints, by rw [List.length_map]; omega⟩, by simp⟩
    simp only [List.map_cons, List.length_cons] at so st ne sm
    unfold L_law_1
    simp_all_arith [hm, so, st, fi, ne, sm, List.length_map]
    exact ⟨_, rfl⟩
def Env43 (sc : RV) (env : DEnv) : Prop := ∃ (bag : List D) (o2 o3 o4 o5 o6 o7 : Option RV), env = [some sc, some (.ol bag), o2, o3, o4, o5, o6, o7, none] ∧ BagOk bag
theorem body43 {sc : RV} {env : DEnv} (he : Env43 sc env) : ∃ env', L_law_2 [] env = .nx env' ∧ Env43 sc env' := by
  obtain ⟨bag, o2, o3, o4, o5, o6, o7, rfl, hb⟩ := he
  obtain ⟨p, bag1, h1, hp, hb1⟩ := prime_ok hb
  obtain ⟨r0, s, bag2, h2, m0, hb2, _⟩ := plain_ok (top := 5) hb1 hp (by decide) (by decide)
  obtain ⟨rows, bag3, h3, hm, _, hb3⟩ := calm_ok hb2 m0
  unfold machD at h3
  have hmk := made_ok hm
  obtain ⟨fw, f1, f2, f3, f4⟩ := few43 hp
  have hr : rng1F [.sh (.int ((fw : Int) + 1))] = some (rangeD 0 (fw + 1)) := by
    rw [rng1_int (by omega) (by omega)]; congr 1
  obtain ⟨env', g1, o6', o7', rfl⟩ := forM_nx (pn := []) (t := .name 6) (s := L_law_1 []) (ds := rangeD 0 (fw + 1)) (n := 0) (env := [some sc, some (.ol bag3), o2, some (.sh (.int p)), some (.sh (machD p rows s)), some (.sh (turnerD p rows s)), o6, o7, none])
    (fun _ env => ∃ o6 o7 : Option RV, env = [some sc, some (.ol bag3), o2, some (.sh (.int p)), some (.sh (machD p rows s)), some (.sh (turnerD p rows s)), o6, o7, none]) ⟨_, _, rfl⟩ (by
      rintro i y env hy ⟨o6, o7, rfl⟩
      rw [rangeD_map] at hy
      rw [List.getElem?_map] at hy
      cases hq : (List.range (fw + 1))[i]? with
      | none => rw [hq] at hy; cases hy
      | some k =>
        rw [hq] at hy
        cases hy
        have hk := List.mem_range.mp (List.mem_of_getElem? hq)
        obtain ⟨o7', e⟩ := step43 hm (n := k) (by omega) (f4 k (by omega)) (e0 := some sc) (e1 := some (.ol bag3)) (e2 := o2) (e7 := o7)
        simp_arith [forStep]
        exact ⟨_, e, _, _, rfl⟩)
  have st := still_p (n := 2) hm (by decide)
  have fi := first_p (n := 0) hm (by decide)
  have ha : (aliF rows 0).getD s.toNat false = true := by
    have hk : s.toNat < rows.length := by have := hm.2.2.2.2; omega
    rw [aliF, List.getD_eq_getElem?_getD, List.getElem?_map, List.getElem?_eq_getElem hk]; rfl
  rw [if_pos ha] at fi
  have st : D_still_count [.sh (turnerD p rows s), .sh (.int 2)] = .ok (.sh (.int ((levF rows 2).getD s.toNat 0))) [.sh (turnerD p rows s), .sh (.int 2)] := st
  have fi : D_first_still [.sh (turnerD p rows s), .sh (.int 0)] = .ok (.sh (.tup [])) [.sh (turnerD p rows s), .sh (.int 0)] := fi
  have ne : neF (.sh (.tup [])) (.sh (.tup [])) = some (.sh (.bl false)) := ne_tupI [] []
  unfold machD at g1
  unfold L_law_2
  simp_all_arith [h1, h2, h3, hmk, f1, hr, g1, st, fi, ne]
  exact ⟨_, rfl, bag3, _, _, _, _, _, _, rfl, hb3⟩
theorem plain (ns : List Int) (hn : ns.length ≤ 63) : ∃ rs, D_law [.sh (.fls (ns.map D.int))] = .ok (.sh (.bl true)) rs := by
  obtain ⟨bag, h1, hb⟩ := bag_ok ns
  obtain ⟨env', g1, bag', o2, o3, o4, o5, o6, o7, rfl, hb'⟩ := forM_nx (pn := []) (t := .name 2) (s := L_law_2 []) (ds := rangeD 0 5) (n := 0) (env := [some (.sh (.fls (ns.map D.int))), some (.ol bag), none, none, none, none, none, none, none])
    (fun _ env => Env43 (.sh (.fls (ns.map D.int))) env) ⟨bag, none, none, none, none, none, none, rfl, hb⟩ (by
      rintro i y env hy ⟨bag, o2, o3, o4, o5, o6, o7, rfl, hb⟩
      simp_arith [forStep]
      exact body43 ⟨bag, _, _, _, _, _, _, rfl, hb⟩)
  have hr : rng1F [.sh (.int 5)] = some (rangeD 0 5) := rng1_int (by decide) (by decide)
  unfold D_law S_law
  simp_all_arith [h1, hr, g1]
  exact ⟨_, rfl⟩
end Y
open PySem PySem.W PySem.Calls PyProof.Rows in
theorem PySem.Challenge.cw_lowturns_k43_whole_settings_that_stay_holds : PySem.Challenge.rw_lowturns_k43_whole_settings_that_stay.Holds := by
  w_on; o_law
  refine HandSHeadRun.head_any (r := OpenLaw.row PySem.Challenge.rw_lowturns_k43_whole_settings_that_stay) (q := view (OpenLaw.row PySem.Challenge.rw_lowturns_k43_whole_settings_that_stay).prog [52]) (H := Y.hk) (ob := Y.ob) (M := 20000) (loose := Y.names) (d := HandSHeadRun.topDef (OpenLaw.row PySem.Challenge.rw_lowturns_k43_whole_settings_that_stay).prog 52) (kwd := []) Y.ob_eq
    (by kernel_rfl) (fun s => by kernel_rfl) Y.run (by kernel_rfl) (by kernel_rfl) (by kernel_rfl) (by rfl) (by first | assumption | decide +kernel) (by decide +kernel) ⟨rfl, rfl, rfl, rfl, rfl, by decide +kernel⟩ ?hw ?hc
  case hw => w_witness2
  case hc =>
    refine Z.walk_ofZ (l := PySem.Challenge.rw_lowturns_k43_whole_settings_that_stay) (n := 63) (k := 10) (x := "_law_script") (f := Y.D_law) rfl (by decide) (by kernel_rfl) ⟨rfl, by decide, by decide⟩ Y.plain ?F
    intro w mg fa h Y G hmg0
    obtain ⟨K, KX, c⟩ := Y
    have T := Y.txt_of KX G c
    have hmg : mg ("law" : PySem.Str) = some (.ref fa) := by
      have e : (HandSHeadRun.topDef (OpenLaw.row PySem.Challenge.rw_lowturns_k43_whole_settings_that_stay).prog 52).name = ("law" : PySem.Str) := by kernel_rfl
      rw [← e]; exact hmg0
    have e := hmg.symm.trans T.g_law
    cases e
    obtain ⟨fd, F⟩ := T.f_law
    have b := L2.FunD.bindsA (ps := ["_law_script"]) F fun _ _ _ _ _ _ us hl => match us, hl with | [_], _ => rfl
    exact ⟨K, fd, KX, fun s v => b s [v] rfl, fun base _ _ => Y.ok_law T F⟩
