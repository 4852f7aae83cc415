import PyProof.Rows.All
import Wide.All
import OpenK.AllK
import Wide.FinOn
import PySem.Challenge.RW_lowturns_k03_settings_yielded
import HandS.ForMost
import HandS.ForExc
import HandS.Lambda
import HandS.HeadHook4
import KE.KDictKeyed
import HandS.ExcInit
import HandS.TupAny
import HandS.TupMul
import HandS.TupLe
import HandS.IsInst
import HandS.FStr
import HandS.Conv
import HandS.Style
import HandS.Defaults
import HandS.Property
import HandS.MakeKwOnly
import HandS.Words
import HandS.WordsExc
import HandS.Head0
import HandS.Head1
import HandS.Head2
import HandS.HeadEnd
import HandS.HeadHook1
import HandS.HeadHook2
import HandS.HeadHook3
import HandS.ExcField
import KE.KExcSuper
import KE.KTryMore
import HandS.ClsMeth
import HandS.Zip
import HandS.Star
import HandS.HeadNt
import HandS.SlotsOwn
import HandS.Deep
import HandS.Dict
import HandS.EndTab
import OpenK.KWalk
import PyProof.StrHeap
import KE.GoesMore
import KE.KDictDisplayH
import KE.SortCalls
import HandS.TupSets
import HandS.Iter
import KE.KAssignIn
import HandS.Records
import HandS.SetFor
import HandS.Strs
import HandS.RaiseMore
import HandS.DictComp
import KE.KWithOwn
import HandS.HotCalls
import HandS.Finally
import HandS.TupLen
import KE.KUnpackStar
import KE.DataMinMax
import HandS.Replace
import HandS.OwnEq
import KE.KDictItemsList
import HandS.DictTup
import HandS.GenList
import HandS.Codes
import Open.SpecLaws
set_option Elab.async false
set_option linter.all false
set_option maxRecDepth 100000
set_option maxHeartbeats 0
open PySem PySem.W PySem.Calls PyProof.Rows in
theorem Y.opened (h : (OpenLaw.row PySem.Challenge.rw_lowturns_k03_settings_yielded).wellSaid = true → (OpenLaw.row PySem.Challenge.rw_lowturns_k03_settings_yielded).Holds) : PySem.Challenge.rw_lowturns_k03_settings_yielded.Holds := by
 w_on; o_law; exact h (by assumption)
namespace ZTw
open PySem PySem.TablesWhole
theorem ap {α:Type} {A:Alg α} {top sc:Scope} {cx:TablesWhole.Ctx} (ha:∀ a b c:α,A.both (A.both a b) c=A.both a (A.both b c)) (hu:∀ a:α,A.both A.unit a=a):∀ l m:List Stmt,wSs A top cx sc (l++m)=A.both (wSs A top cx sc l) (wSs A top cx sc m)
 | [],m=>by rw [List.nil_append,wSs.eq_def A top cx sc [],hu]
 | s::l,m=>by
  rw [List.cons_append,wSs.eq_def A top cx sc (s::(l++m)),wSs.eq_def A top cx sc (s::l)]
  simp only
  rw [ap ha hu l m,ha]
theorem cu {top sc:Scope} {cx:TablesWhole.Ctx} {l:List Stmt} (n:Nat) (h1:wSs holds top cx sc (l.take n)=true) (h2:wSs holds top cx sc (l.drop n)=true):wSs holds top cx sc l=true:=by
 rw [← List.take_append_drop n l,ap (by intro a b c; exact Bool.and_assoc a b c) (by intro a; exact Bool.true_and a),h1,h2]; rfl
theorem cv {top sc:Scope} {cx:TablesWhole.Ctx} {l:List Stmt} (n:Nat) (h1:wSs gather top cx sc (l.take n)=[]) (h2:wSs gather top cx sc (l.drop n)=[]):wSs gather top cx sc l=[]:=by
 rw [← List.take_append_drop n l,ap (by intro a b c; exact List.append_assoc a b c) (by intro a; exact List.nil_append a),h1,h2]; rfl
theorem of {p:Program} (h1:p.modules=[]) (h2:p.parses=[]) (h3:p.harvested=[]) (ht:wSs gather p.main.scope ⟨p.main.scope,[],[],[],none⟩ p.main.scope p.main.body=[]) (h5:noTwice p.main.scope=true) (h6:wSs holds p.main.scope ⟨p.main.scope,[],[],[],none⟩ p.main.scope p.main.body=true):p.tablesWhole=true:=by
 unfold Program.tablesWhole wProgram wModule
 rw [h1,h2,h3]
 simp only [List.map_nil]
 rw [ht]
 simp only [Alg.all,List.foldr,holds] at h6 ⊢
 rw [h6,h5]
 rfl
open PySem.W PySem.Calls PyProof.Rows
abbrev P:=(OpenLaw.row PySem.Challenge.rw_lowturns_k03_settings_yielded).prog
abbrev S:=P.main.scope
abbrev B:=P.main.body
abbrev C:TablesWhole.Ctx:=⟨S,[],[],[],none⟩
theorem w0:wSs holds S C S B=true:=by kernel_rfl
theorem g0:wSs gather S C S B=[]:=by kernel_rfl
theorem nt:noTwice S=true:=by kernel_rfl
theorem tw:P.tablesWhole=true:=of rfl rfl rfl (g0) nt (w0)
end ZTw
namespace Z
open PySem PySem.Spec PyProof.Rows L2
/-- a lambda or a nested def as it is written: its names, its parameters, its body, its scope, the maker's names, its default, its other names -/
structure LamI where
  name : Str
  qual : Str
  params : Arguments
  body : FuncBody
  scope : Scope
  pnames : List (Str × NameKind)
  dfl : Option Int
  loc : List Str
/-- a datum, without addresses (but for the frame of a lambda's maker) -/
inductive D where
  | non
  | bl (b : Bool)
  | int (i : Int)
  | str (x : Str)
  | tup (xs : List D)
  | lst (xs : List D)
  | fls (xs : List D)
  | dct (kvs : List (NestedKey × D))
  | obj (c : Str) (fs : List (Str × D))
  | cls (c : Str)
  | lam (k : Nat) (I : LamI) (L : Nat) (ds : List D)
  | xob (c : Str) (fs : List (Str × D))
  | loc (i : Nat)
mutual
def nkD : NestedKey → D
  | .none => .non
  | .num i => .int i
  | .text x => .str x
  | .tup ks => .tup (nkDs ks)
def nkDs : List NestedKey → List D
  | [] => []
  | k :: ks => nkD k :: nkDs ks
end
def kN : Key → NestedKey
  | .inl i => .num i
  | .inr x => .text x
mutual
def txl : NestedKey → Bool
  | .text _ => false
  | .none => true
  | .num _ => true
  | .tup ks => txls ks
def txls : List NestedKey → Bool
  | [] => true
  | k :: ks => txl k && txls ks
end
/-- a key that is a tuple, without texts, not nested too deep -/
def tupKey : NestedKey → Bool
  | .tup ks => txls ks && Nat.ble ((NestedKey.tup ks).depth) 8
  | _ => false
def entN (w0 : World) (x : NestedKey × Addr × Value) : DictEntry := ⟨x.1.hash w0, .ref x.2.1, x.2.2⟩
/-- a dict whose keys are tuples: the keys, where they stand, the values -/
def DcN (a : Addr) (es : List (NestedKey × Addr × V)) : Heap → Prop := fun h =>
  es ≠ [] ∧ es.length ≤ sizeLine ∧ (a == sysModules) = false ∧ (∀ e ∈ es, tupKey e.1 = true) ∧ ∃ (w0 : World) (xs : List (NestedKey × Addr × Value)), Paired (fun p q => p.1 = q.1 ∧ p.2.1 = q.2.1 ∧ RelV p.2.2 q.2.2) es xs ∧
    ∃ o ents ep, h.get? a = some o ∧ o.ExactDict ∧ o.data = .dict ents ep ∧ ents.toList = xs.map (entN w0) ∧ (xs.map (·.1)).Nodup
def dcO (a : Addr) (es : List (NestedKey × Addr × V)) : HO := .ext (DcN a es)
theorem get_nf {h : Heap} {a : Addr} {o : Obj} (e : h.get? a = some o) : o.data ≠ .freed := fun z => by
  obtain ⟨c, d, dt, sl⟩ := o
  simp only at z
  subst z
  unfold Heap.get? at e
  split at e
  · cases e
  · rename_i n
    exact n _ _ _ e
theorem flat_get {o : Obj} (nf : o.data ≠ .freed) {n b : Nat} (h : b < n) : (Heap.mk (Array.replicate n o) {}).get? b = some o := by
  obtain ⟨c, d, dt, sl⟩ := o
  unfold Heap.get?
  rw [Array.getElem?_replicate, if_pos h]
  cases dt <;> first | rfl | exact absurd rfl nf
theorem dcO_ne {a b : Addr} {es : List (NestedKey × Addr × V)} {o : Obj} (nf : o.data ≠ .freed) : dcO a es ≠ .ext fun h => h.get? b = some o := fun e => by
  have e1 : DcN a es = fun h => h.get? b = some o := by unfold dcO at e; injection e
  have h0 : DcN a es (Heap.mk (Array.replicate (b + 1) o) {}) := by rw [e1]; exact flat_get nf (Nat.lt_succ_self b)
  obtain ⟨z0, z1, z2, z3, w0, xs, z4, o2, ents, ep, z5, z6, z7, z8, z9⟩ := h0
  have ha : a < b + 1 := by
    have := Heap.lt_size z5
    simpa using this
  rw [flat_get nf ha] at z5
  cases z5
  have nf2 : ({ o with data := .dict ents (ep + 1) } : Obj).data ≠ .freed := nofun
  have h1 : DcN a es (Heap.mk (Array.replicate (b + 1) { o with data := .dict ents (ep + 1) }) {}) := ⟨z0, z1, z2, z3, w0, xs, z4, _, ents, ep + 1, flat_get nf2 ha, z6, rfl, z8, z9⟩
  rw [e1] at h1
  have h2 := (flat_get nf2 (Nat.lt_succ_self b)).symm.trans h1
  have h3 := congrArg Obj.data (Option.some.inj h2)
  rw [z7] at h3
  injection h3 with _ h4
  omega
theorem dcN_code {c : Addr} {es : List (NestedKey × Addr × V)} {q : Str} : (fun h : Heap => ∃ (oc : Obj) (vs : Array Value) (t : Tok), h.get? c = some oc ∧ oc.data = .fields vs ∧ vs[1]? = some (.str q t)) ≠ DcN c es := fun e => by
  have h2 : DcN c es (Heap.mk (Array.replicate (c + 1) { cls := .none, data := .fields #[.none, .str q 0] }) {}) := by
    rw [← e]; exact ⟨_, _, 0, flat_get (o := { cls := .none, data := .fields #[.none, .str q 0] }) nofun (Nat.lt_succ_self c), rfl, rfl⟩
  obtain ⟨_, _, _, _, _, _, _, o2, ents, ep, z5, _, z7, _, _⟩ := h2
  rw [flat_get (o := { cls := .none, data := .fields #[.none, .str q 0] }) nofun (Nat.lt_succ_self c)] at z5
  cases z5
  cases z7
/-- the heap grows -/
def Ex (G H : Hp) : Prop := ∀ a o, G a = some o → H a = some o
theorem Ex.refl (H : Hp) : Ex H H := fun _ _ h => h
theorem Ex.trans {H H1 H2 : Hp} (a : Ex H H1) (b : Ex H1 H2) : Ex H H2 := fun x o h => b x o (a x o h)
theorem Ex.new {H : Hp} {p : Addr} {o : HO} (h : H p = none) : Ex H (upd H p o) := fun a u e => by
  rw [upd_ne (ne_of_none e h)]; exact e
theorem Ex.upd2 {G H : Hp} (e : Ex G H) (p : Addr) (o : HO) : Ex (upd G p o) (upd H p o) := fun a u h => by
  by_cases q : a = p
  · subst q; rw [upd_same] at h ⊢; exact h
  · rw [upd_ne q] at h ⊢; exact e a u h
theorem Ex.upd {G H : Hp} (e : Ex G H) {p : Addr} {o : HO} (h : G p = none) : Ex G (upd H p o) := fun a u q => by
  rw [upd_ne (ne_of_none q h)]; exact e a u q
theorem Ex.none {G H : Hp} (e : Ex G H) {p : Addr} (h : H p = none) : G p = none := by
  cases q : G p with
  | none => rfl
  | some o => rw [e p o q] at h; cases h
/-- the number of a tree of own objects: its mark stands at its root in the shared part -/
def mkO (i : Nat) : HO := .tbl #[.int (i : Int) 0]
theorem mkO_inj {i j : Nat} (h : mkO i = mkO j) : i = j := by
  unfold mkO at h
  injection h with h
  have h := congrArg Array.toList h
  injection h with h _
  injection h with h _
  exact Int.ofNat.inj h
/-- no table -/
def NoTb (o : HO) : Prop := ∀ ps, o ≠ .tbl ps
/-- the shared part of a heap: what is no mark stands there; at a mark's place stands an object -/
structure Gh (G H : Hp) : Prop where
  on : ∀ a o, G a = some o → (∀ ps, o ≠ .tbl ps) → H a = some o
  mks : ∀ a ps, G a = some (.tbl ps) → ∃ o, H a = some o ∧ NoTb o
theorem Gh.some {G H : Hp} (e : Gh G H) {a : Addr} {o : HO} (h : G a = Option.some o) : ∃ u, H a = Option.some u := by
  by_cases z : ∃ ps, o = .tbl ps
  · obtain ⟨ps, rfl⟩ := z
    obtain ⟨u, q, _⟩ := e.mks a ps h
    exact ⟨_, q⟩
  · exact ⟨o, e.on a o h fun ps q => z ⟨ps, q⟩⟩
theorem Gh.none {G H : Hp} (e : Gh G H) {p : Addr} (h : H p = Option.none) : G p = Option.none := by
  cases q : G p with
  | none => rfl
  | some o => obtain ⟨u, z⟩ := e.some q; rw [h] at z; cases z
theorem Gh.upd2 {G H : Hp} (e : Gh G H) (p : Addr) {o : HO} (n : ∀ ps, o ≠ .tbl ps) : Gh (upd G p o) (upd H p o) := by
  refine ⟨fun a u h m => ?_, fun a ps h => ?_⟩
  · by_cases q : a = p
    · subst q; rw [upd_same] at h ⊢; exact h
    · rw [upd_ne q] at h ⊢; exact e.on a u h m
  · by_cases q : a = p
    · subst q; rw [upd_same] at h; cases h; exact absurd rfl (n _)
    · rw [upd_ne q] at h ⊢; exact e.mks a ps h
theorem Gh.upd {G H : Hp} (e : Gh G H) {p : Addr} {o : HO} (h : G p = Option.none) : Gh G (upd H p o) :=
  ⟨fun a u q m => by rw [upd_ne (ne_of_none q h)]; exact e.on a u q m, fun a ps q => by rw [upd_ne (ne_of_none q h)]; exact e.mks a ps q⟩
theorem Ex.gh {G G1 H : Hp} (a : Ex G G1) (b : Gh G1 H) : Gh G H := ⟨fun x o h n => b.on x o (a x o h) n, fun x ps h => b.mks x ps (a x _ h)⟩
theorem Gh.take {G H : Hp} (e : Gh G H) {p : Addr} {o : HO} (h : H p = Option.some o) (hg : G p = Option.none) (n : ∀ ps, o ≠ .tbl ps) : Gh (L2.upd G p o) H := by
  refine ⟨fun a u q m => ?_, fun a ps q => ?_⟩
  · by_cases z : a = p
    · subst z; rw [upd_same] at q; cases q; exact h
    · rw [upd_ne z] at q; exact e.on a u q m
  · by_cases z : a = p
    · subst z; rw [upd_same] at q; cases q; exact absurd rfl (n _)
    · rw [upd_ne z] at q; exact e.mks a ps q
theorem Gh.rd {H H' : Hp} {a : Addr} {u : HO} (e : Gh H H') (n : ∀ ps, u ≠ .tbl ps) (h : Rd H a u) : Rd H' a u := by
  rcases h with h | ⟨o, h⟩
  · exact Or.inl (e.on a _ h n)
  · exact Or.inr ⟨o, e.on a _ h nofun⟩
theorem Gh.sqL {K : PySem.W.Frag} {H H' : Hp} {a : Addr} {xs : List V} (e : Gh H H') (h : SqL K H a xs) : SqL K H' a xs := by
  rcases h with h | h
  · exact Or.inl (e.rd nofun h)
  · exact Or.inr h
theorem Gh.sqT {K : PySem.W.Frag} {H H' : Hp} {a : Addr} {xs : List V} (e : Gh H H') (h : SqT K H a xs) : SqT K H' a xs := by
  rcases h with h | h
  · exact Or.inl (e.rd nofun h)
  · exact Or.inr h
theorem Ex.rd {H H' : Hp} {a : Addr} {u : HO} (e : Ex H H') (h : Rd H a u) : Rd H' a u := by
  rcases h with h | ⟨o, h⟩
  · exact Or.inl (e a _ h)
  · exact Or.inr ⟨o, e a _ h⟩
theorem Ex.sqL {K : PySem.W.Frag} {H H' : Hp} {a : Addr} {xs : List V} (e : Ex H H') (h : SqL K H a xs) : SqL K H' a xs := by
  rcases h with h | h
  · exact Or.inl (e.rd h)
  · exact Or.inr h
theorem Ex.sqT {K : PySem.W.Frag} {H H' : Hp} {a : Addr} {xs : List V} (e : Ex H H') (h : SqT K H a xs) : SqT K H' a xs := by
  rcases h with h | h
  · exact Or.inl (e.rd h)
  · exact Or.inr h
def cloOf (I : LamI) (L : Addr) : List (Str × Addr) := cloFrom (cellsFrom (L + 1) I.pnames []) I.scope.names []
abbrev lamFn (I : LamI) (L : Addr) (doc pm cdv ct dV : Value) : FuncData :=
  { name := I.name, qualname := I.qual, params := I.params, body := I.body, scope := I.scope, globals := mainGlobals, closure := cloOf I L, defaults := dV, kwdefaults := .none, doc := doc, pyModule := pm, annotations := none, code := cdv, closureTuple := ct, builtins := builtinsNs }
/-- the function object of the lambda I that was made in the frame at L -/
def lamO (f : Addr) (I : LamI) (L : Addr) (doc pm ct dV : Value) (c' : Addr) : HO := .ext fun h => h.get? f = some { cls := .type "function", data := .func (lamFn I L doc pm (.ref c') ct dV) }
def cellO (c : Addr) (o : Obj) : HO := .ext fun h => h.get? c = some o
/-- the captured names -/
def fre (I : LamI) : List Str := (I.scope.names.filter (·.2 == .free)).map (·.1)
def DflR (G : Hp) (I : LamI) (dV : Value) : Prop := match I.dfl with
  | none => dV = .none
  | some i => ∃ t : Addr, dV = .ref t ∧ G t = some (.tup [.int i])
structure LamR (G : Hp) (f : Addr) (I : LamI) (L : Addr) (vs : List V) : Prop where
  fn : ∃ (doc pm ct dV : Value) (c' : Addr) (q : Str), G f = some (lamO f I L doc pm ct dV c') ∧ G c' = some (LamX.CodeO c' q) ∧ DflR G I dV
  cells : ∀ (j : Nat) (v : V), vs[j]? = some v → ∃ (x : Str) (c : Addr) (o : Obj) (u : Value), (fre I)[j]? = some x ∧ (cloOf I L).lookup x = some c ∧ G c = some (cellO c o) ∧ o.data = .cell (some u) ∧ RelV v u
theorem DflR.mono {G H : Hp} (e : Ex G H) {I : LamI} {dV : Value} (h : DflR G I dV) : DflR H I dV := by
  unfold DflR at h ⊢
  split at h
  · exact h
  · obtain ⟨t, h1, h2⟩ := h; exact ⟨t, h1, e _ _ h2⟩
theorem LamR.mono {G H : Hp} (e : Ex G H) {f : Addr} {I : LamI} {L : Addr} {vs : List V} (h : LamR G f I L vs) : LamR H f I L vs := by
  obtain ⟨⟨doc, pm, ct, dV, c', q', h1, h2, h3⟩, hc⟩ := h
  refine ⟨⟨doc, pm, ct, dV, c', q', e _ _ h1, e _ _ h2, h3.mono e⟩, fun j v q => ?_⟩
  obtain ⟨x, c, o, u, k1, k2, k3, k4⟩ := hc j v q
  exact ⟨x, c, o, u, k1, k2, e _ _ k3, k4⟩
section
variable (K : PySem.W.Frag) (mg : Str → Option Value)
/-- v stands for d in the heap G -/
inductive Den (G : Hp) : V → D → Prop
  | non : Den G .non .non
  | bl (b : Bool) : Den G (.bl b) (.bl b)
  | int (i : Int) : Den G (.int i) (.int i)
  | str (x : Str) : Den G (.str x) (.str x)
  | tup {a : Addr} {xs : List V} {ds : List D} : SqT K G a xs → xs.length = ds.length → (∀ (i : Nat) (v : V) (d : D), xs[i]? = some v → ds[i]? = some d → Den G v d) → Den G (.ref a) (.tup ds)
  | lst {a : Addr} {xs : List V} {ds : List D} : G a = some (.lst xs) → xs.length = ds.length → (∀ (i : Nat) (v : V) (d : D), xs[i]? = some v → ds[i]? = some d → Den G v d) → Den G (.ref a) (.lst ds)
  | fls {a : Addr} {xs : List V} {ds : List D} : SqL K G a xs → xs.length = ds.length → (∀ (i : Nat) (v : V) (d : D), xs[i]? = some v → ds[i]? = some d → Den G v d) → Den G (.ref a) (.fls ds)
  | dct {a : Addr} {gs : List (Key × V)} {kvs : List (NestedKey × D)} : G a = some (.dK gs) → gs.map (fun p => kN p.1) = kvs.map (·.1) → (∀ (i : Nat) (p : Key × V) (q : NestedKey × D), gs[i]? = some p → kvs[i]? = some q → Den G p.2 q.2) → Den G (.ref a) (.dct kvs)
  | dcn {a : Addr} {es : List (NestedKey × Addr × V)} {kvs : List (NestedKey × D)} : G a = some (dcO a es) → es.map (·.1) = kvs.map (·.1) → (∀ (i : Nat) (p : NestedKey × Addr × V), es[i]? = some p → Den G (.ref p.2.1) (nkD p.1)) → (∀ (i : Nat) (p : NestedKey × Addr × V) (q : NestedKey × D), es[i]? = some p → kvs[i]? = some q → Den G p.2.2 q.2) → Den G (.ref a) (.dct kvs)
  | dcf {a : Addr} {o : Obj} {es : List (NestedKey × Addr × V)} {kvs : List (NestedKey × D)} : G a = some (.frz o (dcO a es)) → es.map (·.1) = kvs.map (·.1) → (∀ (i : Nat) (p : NestedKey × Addr × V), es[i]? = some p → Den G (.ref p.2.1) (nkD p.1)) → (∀ (i : Nat) (p : NestedKey × Addr × V) (q : NestedKey × D), es[i]? = some p → kvs[i]? = some q → Den G p.2.2 q.2) → Den G (.ref a) (.dct ((.none, .non) :: kvs))
  | dcg {a : Addr} {o : Obj} {gs : List (Key × V)} {kvs : List (NestedKey × D)} : G a = some (.frz o (.dK gs)) → gs.map (fun p => kN p.1) = kvs.map (·.1) → (∀ (i : Nat) (p : Key × V) (q : NestedKey × D), gs[i]? = some p → kvs[i]? = some q → Den G p.2 q.2) → Den G (.ref a) (.dct ((.none, .non) :: kvs))
  | obj {a : Addr} {c : Str} {C dx : Addr} {gs : List (Str × V)} {fs : List (Str × D)} : mg c = some (.ref C) → G a = some (.ins C dx gs) → gs.map (·.1) = fs.map (·.1) → (∀ (i : Nat) (p : Str × V) (q : Str × D), gs[i]? = some p → fs[i]? = some q → Den G p.2 q.2) → Den G (.ref a) (.obj c fs)
  | cls {c : Str} {C : Addr} : mg c = some (.ref C) → Den G (.ref C) (.cls c)
  | xob {a : Addr} {c : Str} {C dx : Addr} {gs : List (Str × V)} {fs : List (Str × D)} : mg c = some (.ref C) → G a = some (exo a C (some dx)) → G dx = some (exd dx gs) → gs.map (·.1) = fs.map (·.1) → (∀ (i : Nat) (p : Str × V) (q : Str × D), gs[i]? = some p → fs[i]? = some q → Den G p.2 q.2) → Den G (.ref a) (.xob c fs)
  | lam {f : Addr} {k : Nat} {I : LamI} {L : Nat} {vs : List V} {ds : List D} : LamR G f I L vs → vs.length = ds.length → (∀ (i : Nat) (v : V) (d : D), vs[i]? = some v → ds[i]? = some d → Den G v d) → Den G (.ref f) (.lam k I L ds)
  | loc {a : Addr} {i : Nat} : G a = some (mkO i) → Den G (.ref a) (.loc i)
def DenL (G : Hp) (xs : List V) (ds : List D) : Prop := xs.length = ds.length ∧ ∀ (i : Nat) (v : V) (d : D), xs[i]? = some v → ds[i]? = some d → Den K mg G v d
def DenK (G : Hp) (gs : List (Key × V)) (kvs : List (NestedKey × D)) : Prop := gs.map (fun p => kN p.1) = kvs.map (·.1) ∧ ∀ (i : Nat) (p : Key × V) (q : NestedKey × D), gs[i]? = some p → kvs[i]? = some q → Den K mg G p.2 q.2
def DenE (G : Hp) (es : List (NestedKey × Addr × V)) (kvs : List (NestedKey × D)) : Prop := es.map (·.1) = kvs.map (·.1) ∧ (∀ (i : Nat) (p : NestedKey × Addr × V), es[i]? = some p → Den K mg G (.ref p.2.1) (nkD p.1)) ∧ ∀ (i : Nat) (p : NestedKey × Addr × V) (q : NestedKey × D), es[i]? = some p → kvs[i]? = some q → Den K mg G p.2.2 q.2
def DenA {α : Type} (G : Hp) (gs : List (α × V)) (fs : List (α × D)) : Prop := gs.map (·.1) = fs.map (·.1) ∧ ∀ (i : Nat) (p : α × V) (q : α × D), gs[i]? = some p → fs[i]? = some q → Den K mg G p.2 q.2
end
section
variable {K : PySem.W.Frag} {mg : Str → Option Value} {G G' H H' : Hp}
theorem Den.mono (e : Ex G G') {v : V} {d : D} (h : Den K mg G v d) : Den K mg G' v d := by
  induction h with
  | non => exact .non
  | bl b => exact .bl b
  | int i => exact .int i
  | str x => exact .str x
  | tup h l _ ih => exact .tup (e.sqT h) l ih
  | lst h l _ ih => exact .lst (e _ _ h) l ih
  | fls h l _ ih => exact .fls (e.sqL h) l ih
  | dct h l _ ih => exact .dct (e _ _ h) l ih
  | dcn h l _ _ ik ih => exact .dcn (e _ _ h) l ik ih
  | dcf h l _ _ ik ih => exact .dcf (e _ _ h) l ik ih
  | dcg h l _ ih => exact .dcg (e _ _ h) l ih
  | obj m h l _ ih => exact .obj m (e _ _ h) l ih
  | cls m => exact .cls m
  | xob m h k l _ ih => exact .xob m (e _ _ h) (e _ _ k) l ih
  | lam h l _ ih => exact .lam (h.mono e) l ih
  | loc h => exact .loc (e _ _ h)
theorem DenL.mono (e : Ex G G') {xs : List V} {ds : List D} (h : DenL K mg G xs ds) : DenL K mg G' xs ds := ⟨h.1, fun i v d a b => (h.2 i v d a b).mono e⟩
theorem DenA.mono {α : Type} (e : Ex G G') {xs : List (α × V)} {ds : List (α × D)} (h : DenA K mg G xs ds) : DenA K mg G' xs ds := ⟨h.1, fun i v d a b => (h.2 i v d a b).mono e⟩
theorem DenK.mono (e : Ex G G') {xs : List (Key × V)} {ds : List (NestedKey × D)} (h : DenK K mg G xs ds) : DenK K mg G' xs ds := ⟨h.1, fun i v d a b => (h.2 i v d a b).mono e⟩
theorem DenE.mono (e : Ex G G') {xs : List (NestedKey × Addr × V)} {ds : List (NestedKey × D)} (h : DenE K mg G xs ds) : DenE K mg G' xs ds := ⟨h.1, fun i v a => (h.2.1 i v a).mono e, fun i v d a b => (h.2.2 i v d a b).mono e⟩
theorem Den.tupL {a : Addr} {xs : List V} {ds : List D} (h : SqT K G a xs) (l : DenL K mg G xs ds) : Den K mg G (.ref a) (.tup ds) := .tup h l.1 l.2
theorem Den.tup_inv {v : V} {ds : List D} (h : Den K mg G v (.tup ds)) : ∃ a xs, v = .ref a ∧ SqT K G a xs ∧ DenL K mg G xs ds := by
  cases h with
  | tup h l q => exact ⟨_, _, rfl, h, l, q⟩
theorem Den.lst_inv {v : V} {ds : List D} (h : Den K mg G v (.lst ds)) : ∃ a xs, v = .ref a ∧ G a = some (.lst xs) ∧ DenL K mg G xs ds := by
  cases h with
  | lst h l q => exact ⟨_, _, rfl, h, l, q⟩
theorem Den.int_inv {v : V} {i : Int} (h : Den K mg G v (.int i)) : v = .int i := by cases h; rfl
theorem Den.bl_inv {v : V} {i : Bool} (h : Den K mg G v (.bl i)) : v = .bl i := by cases h; rfl
theorem Den.str_inv {v : V} {i : Str} (h : Den K mg G v (.str i)) : v = .str i := by cases h; rfl
theorem Den.non_inv {v : V} (h : Den K mg G v .non) : v = .non := by cases h; rfl
theorem DenL.nil : DenL K mg G [] [] := ⟨rfl, fun i v d a => by simp at a⟩
theorem DenL.cons {v : V} {d : D} {xs : List V} {ds : List D} (h : Den K mg G v d) (t : DenL K mg G xs ds) : DenL K mg G (v :: xs) (d :: ds) := by
  refine ⟨by simp [t.1], fun i w e a b => ?_⟩
  cases i with
  | zero => simp at a b; subst a; subst b; exact h
  | succ i => simp at a b; exact t.2 i w e a b
theorem DenL.cons_inv {v : V} {d : D} {xs : List V} {ds : List D} (h : DenL K mg G (v :: xs) (d :: ds)) : Den K mg G v d ∧ DenL K mg G xs ds := by
  refine ⟨h.2 0 v d rfl rfl, by simpa using h.1, fun i w e a b => h.2 (i + 1) w e (by simpa using a) (by simpa using b)⟩
theorem DenL.nil_inv {xs : List V} (h : DenL K mg G xs []) : xs = [] := by
  have := h.1; simpa using this
theorem DenL.cons_ex {d : D} {xs : List V} {ds : List D} (h : DenL K mg G xs (d :: ds)) : ∃ v vs, xs = v :: vs ∧ Den K mg G v d ∧ DenL K mg G vs ds := by
  cases xs with
  | nil => have := h.1; simp at this
  | cons v vs => exact ⟨v, vs, rfl, h.cons_inv⟩
theorem DenL.app {xs ys : List V} {ds es : List D} (h : DenL K mg G xs ds) (t : DenL K mg G ys es) : DenL K mg G (xs ++ ys) (ds ++ es) := by
  induction ds generalizing xs with
  | nil => rw [h.nil_inv]; exact t
  | cons d ds ih =>
    obtain ⟨v, vs, rfl, h1, h2⟩ := h.cons_ex
    exact .cons h1 (ih h2)
theorem DenL.get {xs : List V} {ds : List D} {i : Nat} {d : D} (h : DenL K mg G xs ds) (e : ds[i]? = some d) : ∃ v, xs[i]? = some v ∧ Den K mg G v d := by
  have hi : i < ds.length := (List.getElem?_eq_some_iff.mp e).1
  have hx : i < xs.length := by rw [h.1]; exact hi
  exact ⟨xs[i], by simp [hx], h.2 i _ d (by simp [hx]) e⟩
theorem DenL.one {v : V} {d : D} (h : Den K mg G v d) : DenL K mg G [v] [d] := .cons h .nil
theorem DenL.take {xs : List V} {ds : List D} (n : Nat) (h : DenL K mg G xs ds) : DenL K mg G (xs.take n) (ds.take n) := by
  refine ⟨by simp [h.1], fun i v d a b => ?_⟩
  rw [List.getElem?_take] at a b
  split at a
  · rename_i q; rw [if_pos q] at b; exact h.2 i v d a b
  · cases a
theorem DenL.drop {xs : List V} {ds : List D} (n : Nat) (h : DenL K mg G xs ds) : DenL K mg G (xs.drop n) (ds.drop n) := by
  refine ⟨by simp [h.1], fun i v d a b => ?_⟩
  rw [List.getElem?_drop] at a b
  exact h.2 _ v d a b
theorem DenL.set {xs : List V} {ds : List D} {v : V} {d : D} (n : Nat) (h : DenL K mg G xs ds) (q : Den K mg G v d) : DenL K mg G (xs.set n v) (ds.set n d) := by
  refine ⟨by simp [h.1], fun i w e a b => ?_⟩
  rw [List.getElem?_set] at a b
  by_cases hn : n = i
  · rw [if_pos hn] at a b
    split at a
    · rename_i hl
      rw [if_pos (by rw [← h.1]; exact hl)] at b
      cases a; cases b; exact q
    · cases a
  · rw [if_neg hn] at a b; exact h.2 i w e a b
theorem DenL.flat (k : Nat) {xs : List V} {ds : List D} (h : DenL K mg G xs ds) : DenL K mg G (List.replicate k xs).flatten (List.replicate k ds).flatten := by
  induction k with
  | zero => exact .nil
  | succ k ih => rw [List.replicate_succ, List.replicate_succ, List.flatten_cons, List.flatten_cons]; exact h.app ih
theorem DenA.get {α : Type} [BEq α] [LawfulBEq α] {gs : List (α × V)} {fs : List (α × D)} (h : DenA K mg G gs fs) {k : α} {d : D} (e : fs.lookup k = some d) : ∃ v, gs.lookup k = some v ∧ Den K mg G v d := by
  obtain ⟨h1, h2⟩ := h
  induction fs generalizing gs with
  | nil => cases e
  | cons q fs ih =>
    cases gs with
    | nil => simp at h1
    | cons p gs =>
      simp only [List.map_cons, List.cons.injEq] at h1
      obtain ⟨e1, e2⟩ := h1
      obtain ⟨pk, pv⟩ := p
      obtain ⟨qk, qd⟩ := q
      simp only at e1; subst e1
      simp only [List.lookup_cons] at e ⊢
      cases hk : k == pk with
      | true => rw [hk] at e; simp only [Option.some.injEq] at e; subst e; exact ⟨pv, rfl, h2 0 (pk, pv) (pk, qd) rfl rfl⟩
      | false => rw [hk] at e; exact ih e e2 (fun i p q a b => h2 (i + 1) p q (by simpa using a) (by simpa using b))
theorem DenA.none {α : Type} [BEq α] {gs : List (α × V)} {fs : List (α × D)} (h : DenA K mg G gs fs) {k : α} (e : fs.lookup k = .none) : gs.lookup k = .none := by
  obtain ⟨h1, h2⟩ := h
  clear h2
  induction fs generalizing gs with
  | nil => cases gs with
    | nil => rfl
    | cons p gs => simp at h1
  | cons q fs ih =>
    cases gs with
    | nil => simp at h1
    | cons p gs =>
      simp only [List.map_cons, List.cons.injEq] at h1
      obtain ⟨e1, e2⟩ := h1
      obtain ⟨pk, pv⟩ := p
      obtain ⟨qk, qd⟩ := q
      simp only at e1; subst e1
      simp only [List.lookup_cons] at e ⊢
      cases hk : k == pk with
      | true => rw [hk] at e; cases e
      | false => rw [hk] at e; exact ih e e2
end
/-- what stands at a place of the store -/
inductive LO where
  | ls (ds : List D)
  | dk (kvs : List (NestedKey × D))
  | ob (c : Str) (fs : List (Str × D))
/-- shared data, or an object that this slot alone holds: a list, a dict, an instance; or the store -/
inductive RV where
  | sh (d : D)
  | ol (ds : List D)
  | od (kvs : List (NestedKey × D))
  | oo (c : Str) (fs : List (Str × D))
  | st (s : List LO)
def LO.rv : LO → RV
  | .ls ds => .ol ds
  | .dk kvs => .od kvs
  | .ob c fs => .oo c fs
mutual
def noLam : D → Bool
  | .tup xs => noLams xs
  | .lst xs => noLams xs
  | .fls xs => noLams xs
  | .dct kvs => noLamK kvs
  | .obj _ fs => noLamF fs
  | .xob _ _ => false
  | .loc _ => true
  | .lam _ _ _ _ => false
  | .non => true
  | .bl _ => true
  | .int _ => true
  | .str _ => true
  | .cls _ => true
def noLams : List D → Bool
  | [] => true
  | x :: xs => noLam x && noLams xs
def noLamK : List (NestedKey × D) → Bool
  | [] => true
  | (_, x) :: xs => noLam x && noLamK xs
def noLamF : List (Str × D) → Bool
  | [] => true
  | (_, x) :: xs => noLam x && noLamF xs
end
theorem noLams_get : ∀ {xs : List D} {i : Nat} {d : D}, noLams xs = true → xs[i]? = some d → noLam d = true
  | [], i, d, h, e => by simp at e
  | x :: xs, 0, d, h, e => by simp at e; subst e; rw [noLams] at h; exact (Bool.and_eq_true_iff.mp h).1
  | x :: xs, i + 1, d, h, e => noLams_get (i := i) (by rw [noLams] at h; exact (Bool.and_eq_true_iff.mp h).2) (by simpa using e)
theorem noLamK_get : ∀ {xs : List (NestedKey × D)} {i : Nat} {d : NestedKey × D}, noLamK xs = true → xs[i]? = some d → noLam d.2 = true
  | [], i, d, h, e => by simp at e
  | (k, x) :: xs, 0, d, h, e => by simp at e; subst e; rw [noLamK] at h; exact (Bool.and_eq_true_iff.mp h).1
  | (k, x) :: xs, i + 1, d, h, e => noLamK_get (i := i) (by rw [noLamK] at h; exact (Bool.and_eq_true_iff.mp h).2) (by simpa using e)
theorem noLamF_get : ∀ {xs : List (Str × D)} {i : Nat} {d : Str × D}, noLamF xs = true → xs[i]? = some d → noLam d.2 = true
  | [], i, d, h, e => by simp at e
  | (k, x) :: xs, 0, d, h, e => by simp at e; subst e; rw [noLamF] at h; exact (Bool.and_eq_true_iff.mp h).1
  | (k, x) :: xs, i + 1, d, h, e => noLamF_get (i := i) (by rw [noLamF] at h; exact (Bool.and_eq_true_iff.mp h).2) (by simpa using e)
def noLamR : RV → Bool
  | .sh d => noLam d
  | .ol ds => noLams ds
  | .od kvs => noLamK kvs
  | .oo _ fs => noLamF fs
  | .st _ => false
def RV.own : RV → Bool
  | .sh _ => false
  | .st _ => false
  | _ => true
def RV.d : RV → D
  | .sh d => d
  | .ol ds => .lst ds
  | .od kvs => .dct kvs
  | .oo c fs => .obj c fs
  | .st _ => .non
section
variable (K : PySem.W.Frag) (mg : Str → Option Value)
def ObjR (G : Hp) (a : Addr) : HO → RV → Prop
  | .lst xs, .ol ds => DenL K mg G xs ds
  | .dK gs, .od kvs => DenK K mg G gs kvs
  | .ext φ, .od kvs => ∃ es, φ = DcN a es ∧ DenE K mg G es kvs
  | .ins C _ gs, .oo c fs => mg c = some (.ref C) ∧ DenA K mg G gs fs
  | _, _ => False
def View (G H : Hp) (v : V) : RV → Prop
  | .sh d => Den K mg G v d
  | .st _ => False
  | r => ∃ a o, v = .ref a ∧ H a = some o ∧ G a = none ∧ ObjR K mg G a o r
/-- .. of one's own, or at a place of the store -/
def ViewW (G H : Hp) (v : V) : RV → Prop
  | .sh d => Den K mg G v d
  | .st _ => False
  | r => ∃ a o, v = .ref a ∧ H a = some o ∧ (G a = none ∨ ∃ ps, G a = some (.tbl ps)) ∧ ObjR K mg G a o r
end
section
variable {K : PySem.W.Frag} {mg : Str → Option Value} {G G' H H' : Hp}
theorem ObjR.mono (e : Ex G G') {a : Addr} {o : HO} {r : RV} (h : ObjR K mg G a o r) : ObjR K mg G' a o r := by
  cases o <;> cases r <;> first | exact h.elim | exact DenL.mono e h | exact DenK.mono e h | exact ⟨h.1, h.2.mono e⟩ | (obtain ⟨es, h1, h2⟩ := h; exact ⟨es, h1, h2.mono e⟩)
theorem ObjR.den {a : Addr} {o : HO} {r : RV} (h : ObjR K mg G a o r) (n : G a = none) : Den K mg (upd G a o) (.ref a) r.d := by
  have e : Ex G (upd G a o) := Ex.new n
  have h' := h.mono e
  cases o <;> cases r <;> first | exact h.elim | skip
  · exact .lst upd_same h'.1 h'.2
  · exact .dct upd_same h'.1 h'.2
  · exact .obj h'.1 upd_same h'.2.1 h'.2.2
  · obtain ⟨es, h1, h2⟩ := h'
    subst h1
    exact .dcn upd_same h2.1 h2.2.1 h2.2.2
theorem View.own_inv {v : V} {r : RV} (hr : r.own = true) (h : View K mg G H v r) : ∃ a o, v = .ref a ∧ H a = some o ∧ G a = none ∧ ObjR K mg G a o r := by
  cases r with
  | sh d => cases hr
  | st _ => cases hr
  | _ => exact h
theorem View.of_own {a : Addr} {o : HO} {r : RV} (h : H a = some o) (n : G a = none) (q : ObjR K mg G a o r) : View K mg G H (.ref a) r := by
  cases r with
  | sh d => cases o <;> exact q.elim
  | st _ => cases o <;> exact q.elim
  | _ => exact ⟨a, o, rfl, h, n, q⟩
theorem ObjR.nt {a : Addr} {o : HO} {r : RV} (h : ObjR K mg G a o r) : ∀ ps, o ≠ .tbl ps := fun ps z => by
  subst z; cases r <;> exact h
theorem ObjR.own {a : Addr} {o : HO} {r : RV} (h : ObjR K mg G a o r) : r.own = true := by
  cases o <;> cases r <;> first | exact h.elim | rfl
theorem View.w {v : V} {r : RV} (h : View K mg G H v r) : ViewW K mg G H v r := by
  cases r with
  | sh d => exact h
  | st _ => exact h.elim
  | _ => obtain ⟨a, o, e, h1, h2, h3⟩ := h; exact ⟨a, o, e, h1, .inl h2, h3⟩
theorem ViewW.of_own {a : Addr} {o : HO} {r : RV} (h : H a = some o) (n : G a = none ∨ ∃ ps, G a = some (.tbl ps)) (q : ObjR K mg G a o r) : ViewW K mg G H (.ref a) r := by
  cases r with
  | sh d => cases o <;> exact q.elim
  | st _ => cases o <;> exact q.elim
  | _ => exact ⟨a, o, rfl, h, n, q⟩
theorem ViewW.own_inv {v : V} {r : RV} (hr : r.own = true) (h : ViewW K mg G H v r) : ∃ a o, v = .ref a ∧ H a = some o ∧ (G a = none ∨ ∃ ps, G a = some (.tbl ps)) ∧ ObjR K mg G a o r := by
  cases r with
  | sh d => cases hr
  | st _ => cases hr
  | _ => exact h
theorem LO.own (lo : LO) : lo.rv.own = true := by cases lo <;> rfl
/-- a view stays where the shared part grows and the object itself stays -/
theorem View.keep {v : V} {r : RV} (h : View K mg G H v r) (e : Ex G G') (k : ∀ a o, v = .ref a → r.own = true → H a = some o → G a = none → H' a = some o ∧ G' a = none) : View K mg G' H' v r := by
  cases r with
  | sh d => exact Den.mono e h
  | st _ => exact h
  | ol _ => obtain ⟨a, o, rfl, h1, h2, h3⟩ := h; obtain ⟨k1, k2⟩ := k a o rfl rfl h1 h2; exact ⟨a, o, rfl, k1, k2, h3.mono e⟩
  | od _ => obtain ⟨a, o, rfl, h1, h2, h3⟩ := h; obtain ⟨k1, k2⟩ := k a o rfl rfl h1 h2; exact ⟨a, o, rfl, k1, k2, h3.mono e⟩
  | oo _ _ => obtain ⟨a, o, rfl, h1, h2, h3⟩ := h; obtain ⟨k1, k2⟩ := k a o rfl rfl h1 h2; exact ⟨a, o, rfl, k1, k2, h3.mono e⟩
end
inductive FO where
  | obj (o : HO)
  | tab (ps : Array Value)
  | mrk (ps : Array Value) (o : HO)
/-- what a frame has besides; opn: it may make trees -/
structure FHp where
  opn : Bool
  at_ : Addr → Option FO
instance : CoeFun FHp (fun _ => Addr → Option FO) := ⟨FHp.at_⟩
abbrev NT (o : HO) : Prop := NoTb o
def toFO : HO → FO
  | .tbl ps => .tab ps
  | o => .obj o
theorem nt_none {H : Hp} {p : Addr} (h : H p = Option.none) : ∀ ps, H p ≠ some (.tbl ps) := fun ps z => by rw [h] at z; cases z
theorem nt_some {H : Hp} {p : Addr} {o : HO} (h : H p = some o) (n : NT o) : ∀ ps, H p ≠ some (.tbl ps) := fun ps z => by rw [h] at z; exact n ps (Option.some.inj z)
def updF (F : FHp) (a : Addr) (o : HO) : FHp := ⟨F.opn, fun b => if b = a then some (.obj o) else F b⟩
theorem updF_same {F : FHp} {a : Addr} {o : HO} : updF F a o a = some (.obj o) := by unfold updF; exact if_pos rfl
theorem updF_ne {F : FHp} {a b : Addr} {o : HO} (h : b ≠ a) : updF F a o b = F b := by unfold updF; exact if_neg h
/-- the defs that make functions: their code objects, their tables -/
def tabsK (K : PySem.W.Frag) : List (Addr × Addr) := K.filterMap fun p => match p.2.data with
  | .func fd => if fd.scope.names.any (fun y => match y.2 with | .cell => true | _ => false) = true then (match fd.code with
    | .ref c => some (c, He.tabOf K c)
    | _ => none) else none
  | _ => none
theorem tabsK_mem {K : PySem.W.Frag} {f : Addr} {o : Obj} {fd : FuncData} {c : Addr} (h : K.lookup f = some o) (hd : o.data = .func fd) (hc : fd.code = .ref c) (hn : fd.scope.names.any (fun y => match y.2 with | .cell => true | _ => false) = true) : (c, He.tabOf K c) ∈ tabsK K := by
  unfold tabsK
  refine List.mem_filterMap.mpr ⟨(f, o), He.lookup_mem h, ?_⟩
  simp only [hd, if_pos hn, hc]
/-- what stands in the tables of code objects -/
structure TabInv (K : PySem.W.Frag) (G H : Hp) : Prop where
  uq : ∀ a b ps, G a = some (.tbl ps) → G b = some (.tbl ps) → a = b
  pres : ∀ p ∈ tabsK K, ∃ ps, H p.2 = some (.tbl ps)
  on : ∀ (P : Addr) (ps : Array Value), H P = some (.tbl ps) → TriplesOk ps.toList ∧ ∀ (pos : Pos) (cv : Value), codeAmong pos ps.toList = some cv → ∃ c q, cv = .ref c ∧ G c = some (LamX.CodeO c q)
/-- o stays; a table grows -/
def Grow : HO → Option HO → Prop
  | .tbl ps, x => ∃ more, x = some (.tbl (ps ++ more))
  | o, x => x = some o
theorem Grow.nt {o : HO} {x : Option HO} (n : NT o) (h : Grow o x) : x = some o := by
  cases o <;> first | exact h | exact absurd rfl (n _)
theorem Grow.self (o : HO) : Grow o (some o) := by
  cases o <;> first | rfl | exact ⟨#[], by simp⟩
theorem Grow.some {o : HO} {x : Option HO} (h : Grow o x) : ∃ u, x = some u := by
  cases o <;> first | exact ⟨_, h⟩ | (obtain ⟨m, e⟩ := h; exact ⟨_, e⟩)
def FhAt (x : Option HO) : FO → Prop
  | .obj o => x = some o
  | .tab ps => ∃ more, x = some (.tbl (ps ++ more))
  | .mrk _ o => x = some o
theorem FhAt.some {x : Option HO} {f : FO} (h : FhAt x f) : ∃ u, x = some u := by
  cases f with
  | obj o => exact ⟨o, h⟩
  | tab q => obtain ⟨m, e⟩ := h; exact ⟨_, e⟩
  | mrk q o => exact ⟨o, h⟩
theorem FhAt.grow {x y : Option HO} {f : FO} (h : FhAt x f) (g : ∀ u, x = Option.some u → (∀ o, f = .obj o → NT u) → Grow u y) (n : ∀ o, f = .obj o → NT o) (nm : ∀ ps o, f = .mrk ps o → y = x) : FhAt y f := by
  cases f with
  | obj o => exact (g o h fun o' e => by cases e; exact n o rfl).nt (n o rfl)
  | tab ps =>
    obtain ⟨m, e⟩ := h
    obtain ⟨m2, e2⟩ := g _ e fun o z => by cases z
    exact ⟨m ++ m2, by rw [e2, Array.append_assoc]⟩
  | mrk q o => exact (nm q o rfl).trans h
structure FhOk (K : PySem.W.Frag) (Fh : FHp) (G H : Hp) : Prop where
  on : ∀ a o, Fh a = some o → FhAt (H a) o
  nto : ∀ a o, Fh a = some (.obj o) → NT o
  cl : Fh.opn = false → ∀ a ps, G a = some (.tbl ps) → ∃ o, Fh a = some (.mrk ps o)
  mks : ∀ a ps o, Fh a = some (.mrk ps o) → G a = some (.tbl ps)
  tb : TabInv K G H
section
variable {K : PySem.W.Frag} {Fh : FHp} {G G' H H' : Hp} {p : Addr} {o : HO}
theorem TabInv.mono (h : TabInv K G H) (e : Ex G G') (n : ∀ a ps, G' a = some (.tbl ps) → G a = some (.tbl ps)) : TabInv K G' H := ⟨fun a b ps x y => h.uq a b ps (n a ps x) (n b ps y), h.pres, fun P ps q => ⟨(h.on P ps q).1, fun pos cv z => by
  obtain ⟨c, q', h1, h2⟩ := (h.on P ps q).2 pos cv z
  exact ⟨c, q', h1, e _ _ h2⟩⟩⟩
theorem TabInv.ntu (_ : TabInv K G H) (n : NT o) : ∀ a ps, L2.upd G p o a = some (.tbl ps) → G a = some (.tbl ps) := fun a ps q => by
  by_cases z : a = p
  · subst z; rw [upd_same] at q; cases q; exact absurd rfl (n _)
  · rw [upd_ne z] at q; exact q
theorem TabInv.upd (h : TabInv K G H) (hp : ∀ ps, H p ≠ some (.tbl ps)) (n : NT o) : TabInv K G (L2.upd H p o) := ⟨h.uq, fun t m => by
  obtain ⟨ps, z⟩ := h.pres t m
  exact ⟨ps, by rw [upd_ne (fun y => hp ps (by rw [← y]; exact z))]; exact z⟩, fun P ps q => by
  by_cases z : P = p
  · subst z; rw [upd_same] at q; cases q; exact absurd rfl (n _)
  · rw [upd_ne z] at q; exact h.on P ps q⟩
theorem FhOk.at (h : FhOk K Fh G H) (e : Fh p = some (.obj o)) : H p = some o := h.on p _ e
theorem FhOk.none (h : FhOk K Fh G H) (e : H p = Option.none) : Fh p = Option.none := by
  cases q : Fh p with
  | none => rfl
  | some x => obtain ⟨u, z⟩ := (h.on p x q).some; rw [e] at z; cases z
theorem FhOk.mono (h : FhOk K Fh G H) (e : Ex G G') (n : ∀ a ps, G' a = some (.tbl ps) → G a = some (.tbl ps)) : FhOk K Fh G' H := ⟨h.on, h.nto, fun c a ps q => h.cl c a ps (n a ps q), fun a ps o q => e _ _ (h.mks a ps o q), h.tb.mono e n⟩
theorem FhOk.upd (h : FhOk K Fh G H) (e : Fh p = Option.none) (hp : ∀ ps, H p ≠ some (.tbl ps)) (n : NT o) : FhOk K Fh G (L2.upd H p o) := ⟨fun a x q => by
  rw [upd_ne (fun y => by rw [y, e] at q; cases q)]; exact h.on a x q, h.nto, h.cl, h.mks, h.tb.upd hp n⟩
theorem FhOk.upd2 (h : FhOk K Fh G H) (p : Addr) (hg : G p = Option.none) (hp : ∀ ps, H p ≠ some (.tbl ps)) (n : NT o) : FhOk K (updF Fh p o) G (L2.upd H p o) := by
  refine ⟨fun a x q => ?_, fun a x q => ?_, fun c a ps q => ?_, fun a ps x q => ?_, h.tb.upd hp n⟩
  · by_cases z : a = p
    · subst z; rw [updF_same] at q; cases q; exact upd_same
    · rw [updF_ne z] at q; rw [upd_ne z]; exact h.on a x q
  · by_cases z : a = p
    · subst z; rw [updF_same] at q; cases q; exact n
    · rw [updF_ne z] at q; exact h.nto a x q
  · rw [updF_ne (ne_of_none q hg)]; exact h.cl c a ps q
  · by_cases z : a = p
    · subst z; rw [updF_same] at q; cases q
    · rw [updF_ne z] at q; exact h.mks a ps x q
end
abbrev DEnv := List (Option RV)
def RV.isT : RV → Bool
  | .st _ => true
  | _ => false
/-- what stands at the places of a store; each mark is a number of a place -/
def StoR (K : PySem.W.Frag) (mg : Str → Option Value) (G H : Hp) (s : List LO) : Prop :=
  (∀ a ps, G a = some (.tbl ps) → ∃ n, n < s.length ∧ ps = #[.int (n : Int) 0]) ∧ ∀ (i : Nat) (lo : LO), s[i]? = some lo → noLamR lo.rv = true ∧ ∃ a o, G a = some (mkO i) ∧ H a = some o ∧ ObjR K mg G a o lo.rv
theorem StoR.keep {K : PySem.W.Frag} {mg : Str → Option Value} {G G' H H' : Hp} {s : List LO} (h : StoR K mg G H s) (ex : Ex G G') (nm : ∀ a ps, G' a = some (.tbl ps) → G a = some (.tbl ps)) (k : ∀ a ps o, G a = some (.tbl ps) → H a = some o → H' a = some o) : StoR K mg G' H' s :=
  ⟨fun a ps q => h.1 a ps (nm a ps q), fun i lo e => by
    obtain ⟨nl, a, o, h1, h2, h3⟩ := h.2 i lo e
    exact ⟨nl, a, o, ex _ _ h1, k a _ _ h1 h2, h3.mono ex⟩⟩
/-- the store of a frame: one at most, none but where marks may be made -/
def TreOk (K : PySem.W.Frag) (mg : Str → Option Value) (Fh : FHp) (G H : Hp) (σ : L2.St) (env : DEnv) (T : List Addr) : Prop :=
  (∀ (j : Nat) (s : List LO), env[j]? = some (some (.st s)) → Fh.opn = true ∧ StoR K mg G H s ∧ ∀ a ps, G a = some (.tbl ps) → Fh a = none ∧ ∃ o, H a = some o ∧ NoTb o) ∧
  ∀ (j k : Nat) (s s' : List LO), env[j]? = some (some (.st s)) → env[k]? = some (some (.st s')) → j = k
theorem TreOk.keep {K : PySem.W.Frag} {mg : Str → Option Value} {Fh Fh' : FHp} {G G' H H' : Hp} {σ σ' : L2.St} {env env' : DEnv} {T T' : List Addr} (h : TreOk K mg Fh G H σ env T) (ex : Ex G G') (nm : ∀ a ps, G' a = some (.tbl ps) → G a = some (.tbl ps))
    (tr : ∀ (j : Nat) (r : RV), env'[j]? = some (some r) → r.isT = true → env[j]? = some (some r))
    (rk : ∀ a ps, G a = some (.tbl ps) → Fh a = none → (∃ o, H a = some o ∧ NoTb o) → H' a = H a ∧ Fh' a = none)
    (op : Fh.opn = true → Fh'.opn = true := by exact id) : TreOk K mg Fh' G' H' σ' env' T' := by
  obtain ⟨h1, h2⟩ := h
  refine ⟨fun j s e => ?_, fun j k s s' e e' => h2 j k s s' (tr _ _ e rfl) (tr _ _ e' rfl)⟩
  obtain ⟨k1, k2, k3⟩ := h1 j s (tr _ _ e rfl)
  refine ⟨op k1, k2.keep ex nm fun a ps o q z => ((rk a ps q (k3 a ps q).1 (k3 a ps q).2).1).trans z, fun a ps q => ?_⟩
  obtain ⟨f, o, z, n⟩ := k3 a ps (nm a ps q)
  have := rk a ps (nm a ps q) f ⟨o, z, n⟩
  exact ⟨this.2, o, this.1.trans z, n⟩
theorem RV.own_nt {r : RV} (h : r.own = true) : r.isT = false := by cases r <;> first | rfl | cases h
theorem View.nt {K : PySem.W.Frag} {mg : Str → Option Value} {G H : Hp} {v : V} {r : RV} (h : View K mg G H v r) : r.isT = false := by cases r <;> first | rfl | exact False.elim h
/-- a new object beside the store -/
theorem TreOk.fresh {K : PySem.W.Frag} {mg : Str → Option Value} {Fh : FHp} {G G' H H' : Hp} {σ : L2.St} {env : DEnv} {T T' : List Addr} {p : Addr} (h : TreOk K mg Fh G H σ env T) (ex : Ex G G') (hp : H p = none) (kH : ∀ b, b ≠ p → H' b = H b) (nm : ∀ a ps, G' a = some (.tbl ps) → G a = some (.tbl ps) := by exact fun _ _ q => q) : TreOk K mg Fh G' H' σ env T' :=
  h.keep ex nm (fun j r e _ => e) (fun a i _ f ⟨o, h1, _⟩ => ⟨kH a (ne_of_none h1 hp), f⟩)
/-- only the heaps change, and not at the store's places -/
theorem TreOk.heap {K : PySem.W.Frag} {mg : Str → Option Value} {Fh Fh' : FHp} {G G' H H' : Hp} {σ : L2.St} {env : DEnv} {T T' : List Addr} (h : TreOk K mg Fh G H σ env T) (ex : Ex G G') (nm : ∀ a ps, G' a = some (.tbl ps) → G a = some (.tbl ps))
    (rk : ∀ a ps, G a = some (.tbl ps) → Fh a = none → (∃ o, H a = some o ∧ NoTb o) → H' a = H a ∧ Fh' a = none)
    (_k : ∀ b, (∃ o, H b = some o ∧ NoTb o) → G b = none → Fh b = none → b ∉ T → (∀ (j : Nat) (r : RV), env[j]? = some (some r) → r.own = true → σ[j]? ≠ some (some (.ref b))) → (H' b = H b ∧ G' b = none) ∧ Fh' b = none ∧ b ∉ T')
    (op : Fh.opn = true → Fh'.opn = true := by exact id) : TreOk K mg Fh' G' H' σ env T' :=
  h.keep ex nm (fun j r e _ => e) rk op
/-- a slot gets another value, no store -/
theorem TreOk.put {K : PySem.W.Frag} {mg : Str → Option Value} {Fh : FHp} {G H : Hp} {σ : L2.St} {env : DEnv} {T T' : List Addr} {i : Nat} {x : Option RV} {u : Option V} (h : TreOk K mg Fh G H σ env T) (nt : ∀ r, x = some r → r.isT = false) (_ho : ∀ r b, x = some r → r.own = true → u = some (.ref b) → b ∈ T) (_hT : ∀ b ∈ T', b ∈ T) : TreOk K mg Fh G H (σ.set i u) (env.set i x) T' := by
  refine h.keep (Ex.refl _) (fun _ _ q => q) (fun j r e m => ?_) (fun a i _ f _ => ⟨rfl, f⟩)
  rw [List.getElem?_set] at e
  by_cases z : i = j
  · rw [if_pos z] at e
    split at e
    · have e' : x = some r := by simpa using e
      rw [nt _ e'] at m; cases m
    · cases e
  · rw [if_neg z] at e; exact e
theorem TreOk.setE {K : PySem.W.Frag} {mg : Str → Option Value} {Fh : FHp} {G H : Hp} {σ : L2.St} {env : DEnv} {T : List Addr} {i : Nat} {x : Option RV} (h : TreOk K mg Fh G H σ env T) (nt : ∀ r, x = some r → r.isT = false) (_ho : ∀ r, x = some r → r.own = true → ∃ r0, env[i]? = some (some r0) ∧ r0.own = true) : TreOk K mg Fh G H σ (env.set i x) T := by
  refine h.keep (Ex.refl _) (fun _ _ q => q) (fun j r e m => ?_) (fun a i _ f _ => ⟨rfl, f⟩)
  rw [List.getElem?_set] at e
  by_cases z : i = j
  · rw [if_pos z] at e
    split at e
    · have e' : x = some r := by simpa using e
      rw [nt _ e'] at m; cases m
    · cases e
  · rw [if_neg z] at e; exact e
/-- no store at all -/
theorem TreOk.no {K : PySem.W.Frag} {mg : Str → Option Value} {Fh : FHp} {G H : Hp} {σ : L2.St} {env : DEnv} {T : List Addr} (h : ∀ (i : Nat) (r : RV), env[i]? = some (some r) → r.isT = false) : TreOk K mg Fh G H σ env T :=
  ⟨fun j s e => False.elim (by have := h _ _ e; cases this), fun j k s s' e _ => False.elim (by have := h _ _ e; cases this)⟩
structure SRel (K : PySem.W.Frag) (mg : Str → Option Value) (Fh : FHp) (P : List (Nat × V)) (G H : Hp) (σ : L2.St) (env : DEnv) (T : List Addr) : Prop where
  gh : Gh G H
  fh : FhOk K Fh G H
  dj : ∀ b o, Fh b = some o → G b = none ∨ ∃ ps u, o = .mrk ps u
  pin : ∀ p ∈ P, σ[p.1]? = some (some p.2)
  len : σ.length = env.length
  val : ∀ (i : Nat) (r : RV), env[i]? = some (some r) → r.isT = false → ∃ v, σ[i]? = some (some v) ∧ View K mg G H v r
  dis : ∀ (i j : Nat) (r r' : RV) (a : Addr), env[i]? = some (some r) → env[j]? = some (some r') → r.own = true → r'.own = true → σ[i]? = some (some (.ref a)) → σ[j]? = some (some (.ref a)) → i = j
  nof : ∀ (i : Nat) (r : RV) (a : Addr), env[i]? = some (some r) → r.own = true → σ[i]? = some (some (.ref a)) → Fh a = none ∧ a ∉ T
  tmp : ∀ a ∈ T, Fh a = none ∧ G a = none ∧ ∃ o, H a = some o
  tre : TreOk K mg Fh G H σ env T
theorem SRel.djo {K : PySem.W.Frag} {mg : Str → Option Value} {Fh : FHp} {P : List (Nat × V)} {G H : Hp} {σ : L2.St} {env : DEnv} {T : List Addr} {b : Addr} {o : HO} (S : SRel K mg Fh P G H σ env T) (e : Fh b = some (.obj o)) : G b = none := (S.dj b _ e).resolve_right fun ⟨_, _, z⟩ => by cases z
section
variable {K : PySem.W.Frag} {mg : Str → Option Value} {Fh : FHp} {P : List (Nat × V)} {G G' H H' : Hp} {σ : L2.St} {env : DEnv} {T : List Addr}
/-- what an operation does to the heaps: nothing, a new shared object, a new owned one -/
inductive Step (G H : Hp) : Hp → Hp → List Addr → Prop
  | same : Step G H G H []
  | shr {p : Addr} {o : HO} (h : H p = none) (n : NT o := by exact nofun) : Step G H (upd G p o) (upd H p o) []
  | own {p : Addr} {o : HO} (h : H p = none) (n : NT o := by exact nofun) : Step G H G (upd H p o) [p]
theorem Step.ex (gh : Gh G H) (s : Step G H G' H' T) : Ex G G' := by
  cases s with
  | same => exact Ex.refl _
  | shr h => exact Ex.new (gh.none h)
  | own h => exact Ex.refl _
/-- one step of allocation keeps the frame's state -/
theorem SRel.step (S : SRel K mg Fh P G H σ env []) (s : Step G H G' H' T) : SRel K mg Fh P G' H' σ env T := by
  have ex := s.ex S.gh
  cases s with
  | same => exact S
  | @shr p o h n =>
    have hG := S.gh.none h
    have hF := S.fh.none h
    refine ⟨S.gh.upd2 p n, (S.fh.mono ex (S.fh.tb.ntu n)).upd hF (nt_none h) n, fun b u e => ?_, S.pin, S.len, fun i r e nt => ?_, S.dis, S.nof, fun a m => absurd m List.not_mem_nil, S.tre.fresh ex h (fun b n => upd_ne n) (S.fh.tb.ntu n)⟩
    · rw [upd_ne (fun y => by rw [y, hF] at e; cases e)]; exact S.dj b u e
    · obtain ⟨v, hv, w⟩ := S.val i r e nt
      refine ⟨v, hv, w.keep ex fun a o' ev hr h1 h2 => ?_⟩
      have ne := ne_of_none h1 h
      rw [upd_ne ne, upd_ne ne]; exact ⟨h1, h2⟩
  | @own p o h n =>
    have hG := S.gh.none h
    have hF := S.fh.none h
    refine ⟨S.gh.upd hG, S.fh.upd hF (nt_none h) n, S.dj, S.pin, S.len, fun i r e nt => ?_, S.dis, fun i r a e hr ha => ⟨(S.nof i r a e hr ha).1, fun m => ?_⟩, fun a m => ?_, S.tre.fresh ex h (fun b n => upd_ne n)⟩
    · obtain ⟨v, hv, w⟩ := S.val i r e nt
      refine ⟨v, hv, w.keep ex fun a o' ev hr h1 h2 => ?_⟩
      rw [upd_ne (ne_of_none h1 h)]; exact ⟨h1, h2⟩
    · have e2 : a = p := by simpa using m
      subst e2
      obtain ⟨v, hv, w⟩ := S.val i r e (RV.own_nt hr)
      rw [ha] at hv; cases hv
      obtain ⟨b, o', eb, h1, _⟩ := w.own_inv hr
      cases eb
      rw [h] at h1; cases h1
    · have e2 : a = p := by simpa using m
      subst e2
      exact ⟨hF, hG, o, upd_same⟩
end
end Z
namespace Z
open PySem PySem.Spec PyProof.Rows L2
structure Exn where
  c : Str
  fs : List (Str × D)
inductive Res (α : Type) where
  | ok (a : α) (e : DEnv)
  | err (x : Exn) (e : DEnv)
  | stk
abbrev M (α : Type) := DEnv → Res α
def bindM {α β : Type} (m : M α) (f : α → M β) : M β := fun env => match m env with
  | .ok a e => f a e
  | .err x e => .err x e
  | .stk => .stk
inductive Opd where
  | val (d : D)
  | slot (i : Nat)
def tmps (v : V) (r : RV) : List Addr := if r.own = true then (match v with | .ref a => [a] | _ => []) else []
section
variable (K : PySem.W.Frag) (mg : Str → Option Value)
def XR (G : Hp) (cls : Value) (d : Option Addr) (x : Exn) : Prop := ∃ C dd gs, cls = .ref C ∧ mg x.c = some (.ref C) ∧ d = some dd ∧ G dd = some (.xd gs) ∧ DenA K mg G gs x.fs
def OpdR (G : Hp) (σ : L2.St) (v : V) : Opd → Prop
  | .val d => Den K mg G v d
  | .slot i => σ[i]? = some (some v)
def OpdRs (G : Hp) (σ : L2.St) (vs : List V) (os : List Opd) : Prop := vs.length = os.length ∧ ∀ (i : Nat) (v : V) (o : Opd), vs[i]? = some v → os[i]? = some o → OpdR K mg G σ v o
variable (W : WX) (Fh : FHp) (P : List (Nat × V))
/-- what is wanted behind: of a value, an operand, a datum, operands, an error -/
def PErr (σ : L2.St) (G : Hp) (x : Exn) (e : DEnv) : Prop := ∀ cls d G' H', Ex G G' → XR K mg G' cls d x → SRel K mg Fh P G' H' σ e [] → W cls d σ H'
def PV (σ : L2.St) (G : Hp) (Q : VK) : Res RV → Prop
  | .ok r e => ∀ v G' H', Ex G G' → View K mg G' H' v r → SRel K mg Fh P G' H' σ e (tmps v r) → Q v H'
  | .err x e => PErr K mg W Fh P σ G x e
  | .stk => False
def PO (σ : L2.St) (G : Hp) (Q : VK) : Res Opd → Prop
  | .ok o e => ∀ v G' H', Ex G G' → OpdR K mg G' σ v o → SRel K mg Fh P G' H' σ e [] → Q v H'
  | .err x e => PErr K mg W Fh P σ G x e
  | .stk => False
def PD (σ : L2.St) (G : Hp) (Q : VK) : Res D → Prop
  | .ok d e => ∀ v G' H', Ex G G' → Den K mg G' v d → SRel K mg Fh P G' H' σ e [] → Q v H'
  | .err x e => PErr K mg W Fh P σ G x e
  | .stk => False
def POs (σ : L2.St) (G : Hp) (Q : List V → Hp → Prop) : Res (List Opd) → Prop
  | .ok os e => ∀ vs G' H', Ex G G' → OpdRs K mg G' σ vs os → SRel K mg Fh P G' H' σ e [] → Q vs H'
  | .err x e => PErr K mg W Fh P σ G x e
  | .stk => False
def PB (σ : L2.St) (G : Hp) (Q : Bool → Hp → Prop) : Res Bool → Prop
  | .ok b e => ∀ G' H', Ex G G' → SRel K mg Fh P G' H' σ e [] → Q b H'
  | .err x e => PErr K mg W Fh P σ G x e
  | .stk => False
def rdV (m : M RV) : TE := fun σ H Q => ∃ G env, SRel K mg Fh P G H σ env [] ∧ PV K mg W Fh P σ G Q (m env)
def rdO (m : M Opd) : TE := fun σ H Q => ∃ G env, SRel K mg Fh P G H σ env [] ∧ PO K mg W Fh P σ G Q (m env)
def rdOs (m : M (List Opd)) : TA := fun σ H Q => ∃ G env, SRel K mg Fh P G H σ env [] ∧ POs K mg W Fh P σ G Q (m env)
def rdB (m : M Bool) : TT := fun σ H Q => ∃ G env, SRel K mg Fh P G H σ env [] ∧ PB K mg W Fh P σ G Q (m env)
end
section
variable {K : PySem.W.Frag} {mg : Str → Option Value} {W : WX} {Fh : FHp} {P : List (Nat × V)} {G G' H H' : Hp} {σ : L2.St} {env : DEnv} {T : List Addr}
theorem PErr.mono (e : Ex G G') {x : Exn} {en : DEnv} (h : PErr K mg W Fh P σ G x en) : PErr K mg W Fh P σ G' x en := fun cls d G1 H1 e1 => h cls d G1 H1 (e.trans e1)
theorem PV.mono (e : Ex G G') {Q : VK} {r : Res RV} (h : PV K mg W Fh P σ G Q r) : PV K mg W Fh P σ G' Q r := by
  cases r with
  | ok r en => exact fun v G1 H1 e1 => h v G1 H1 (e.trans e1)
  | err x en => exact PErr.mono e h
  | stk => exact h
theorem PO.mono (e : Ex G G') {Q : VK} {r : Res Opd} (h : PO K mg W Fh P σ G Q r) : PO K mg W Fh P σ G' Q r := by
  cases r with
  | ok r en => exact fun v G1 H1 e1 => h v G1 H1 (e.trans e1)
  | err x en => exact PErr.mono e h
  | stk => exact h
theorem PD.mono (e : Ex G G') {Q : VK} {r : Res D} (h : PD K mg W Fh P σ G Q r) : PD K mg W Fh P σ G' Q r := by
  cases r with
  | ok r en => exact fun v G1 H1 e1 => h v G1 H1 (e.trans e1)
  | err x en => exact PErr.mono e h
  | stk => exact h
theorem POs.mono (e : Ex G G') {Q : List V → Hp → Prop} {r : Res (List Opd)} (h : POs K mg W Fh P σ G Q r) : POs K mg W Fh P σ G' Q r := by
  cases r with
  | ok r en => exact fun v G1 H1 e1 => h v G1 H1 (e.trans e1)
  | err x en => exact PErr.mono e h
  | stk => exact h
theorem PB.mono (e : Ex G G') {Q : Bool → Hp → Prop} {r : Res Bool} (h : PB K mg W Fh P σ G Q r) : PB K mg W Fh P σ G' Q r := by
  cases r with
  | ok r en => exact fun G1 H1 e1 => h G1 H1 (e.trans e1)
  | err x en => exact PErr.mono e h
  | stk => exact h
theorem OpdR.mono (e : Ex G G') {v : V} {o : Opd} (h : OpdR K mg G σ v o) : OpdR K mg G' σ v o := by
  cases o with
  | val d => exact Den.mono e h
  | slot i => exact h
theorem OpdRs.mono (e : Ex G G') {vs : List V} {os : List Opd} (h : OpdRs K mg G σ vs os) : OpdRs K mg G' σ vs os := ⟨h.1, fun i v o a b => (h.2 i v o a b).mono e⟩
theorem OpdRs.nil : OpdRs K mg G σ [] [] := ⟨rfl, fun i v d a => by simp at a⟩
theorem OpdRs.cons {v : V} {d : Opd} {xs : List V} {ds : List Opd} (h : OpdR K mg G σ v d) (t : OpdRs K mg G σ xs ds) : OpdRs K mg G σ (v :: xs) (d :: ds) := by
  refine ⟨by simp [t.1], fun i w e a b => ?_⟩
  cases i with
  | zero => simp at a b; subst a; subst b; exact h
  | succ i => simp at a b; exact t.2 i w e a b
theorem OpdRs.cons_ex {d : Opd} {xs : List V} {ds : List Opd} (h : OpdRs K mg G σ xs (d :: ds)) : ∃ v vs, xs = v :: vs ∧ OpdR K mg G σ v d ∧ OpdRs K mg G σ vs ds := by
  cases xs with
  | nil => have := h.1; simp at this
  | cons v vs => exact ⟨v, vs, rfl, h.2 0 v d rfl rfl, by simpa using h.1, fun i w e a b => h.2 (i + 1) w e (by simpa using a) (by simpa using b)⟩
theorem OpdRs.nil_inv {xs : List V} (h : OpdRs K mg G σ xs []) : xs = [] := by
  have := h.1; simpa using this
theorem tmps_own {a : Addr} {r : RV} (h : r.own = true) : tmps (.ref a) r = [a] := by unfold tmps; rw [if_pos h]
/-- an object in hand goes into the shared part -/
theorem SRel.share {v : V} {r : RV} (S : SRel K mg Fh P G H σ env (tmps v r)) (w : View K mg G H v r) : ∃ G', Ex G G' ∧ Den K mg G' v r.d ∧ SRel K mg Fh P G' H σ env [] := by
  cases hr : r.own with
  | false =>
    cases r with
    | sh d => exact ⟨G, Ex.refl _, w, S⟩
    | st _ => exact w.elim
    | _ => cases hr
  | true =>
    obtain ⟨a, o, rfl, ha, hg, q⟩ := w.own_inv hr
    rw [tmps_own hr] at S
    obtain ⟨hF, _, _⟩ := S.tmp a (List.mem_singleton.mpr rfl)
    have ex : Ex G (upd G a o) := Ex.new hg
    refine ⟨upd G a o, ex, q.den hg, S.gh.take ha hg q.nt, S.fh.mono ex (S.fh.tb.ntu q.nt), fun b u e => ?_, S.pin, S.len, fun i r' e nt => ?_, S.dis, fun i r' b e hr' hb => ⟨(S.nof i r' b e hr' hb).1, List.not_mem_nil⟩, fun b m => absurd m List.not_mem_nil, S.tre.keep ex (S.fh.tb.ntu q.nt) (fun j r e _ => e) (fun a i _ f _ => ⟨rfl, f⟩)⟩
    · rw [upd_ne (fun y => by rw [y, hF] at e; cases e)]; exact S.dj b u e
    · obtain ⟨v', hv, w'⟩ := S.val i r' e nt
      refine ⟨v', hv, w'.keep ex fun b u ev hr' h1 h2 => ⟨h1, ?_⟩⟩
      subst ev
      have ne : b ≠ a := fun z => (S.nof i r' b e hr' hv).2 (by rw [z]; exact List.mem_singleton.mpr rfl)
      rw [upd_ne ne]; exact h2
/-- a slot's object goes into the shared part -/
theorem SRel.shareSlot {i : Nat} {r : RV} {v : V} (S : SRel K mg Fh P G H σ env []) (e : env[i]? = some (some r)) (nt : r.isT = false) (hv : σ[i]? = some (some v)) :
    ∃ G', Ex G G' ∧ Den K mg G' v r.d ∧ SRel K mg Fh P G' H σ (env.set i (some (.sh r.d))) [] := by
  have hi : i < env.length := (List.getElem?_eq_some_iff.mp e).1
  obtain ⟨v', hv', w⟩ := S.val i r e nt
  rw [hv] at hv'; cases hv'
  have old : ∀ {j : Nat} {r' : RV}, (env.set i (some (.sh r.d)))[j]? = some (some r') → (j = i ∧ r' = .sh r.d) ∨ (j ≠ i ∧ env[j]? = some (some r')) := fun {j r'} h => by
    rw [List.getElem?_set] at h
    by_cases z : i = j
    · rw [if_pos z, if_pos hi] at h; exact .inl ⟨z.symm, by simpa using h.symm⟩
    · rw [if_neg z] at h; exact .inr ⟨Ne.symm z, h⟩
  cases hr : r.own with
  | false =>
    cases r with
    | sh d =>
      refine ⟨G, Ex.refl _, w, S.gh, S.fh, S.dj, S.pin, by rw [List.length_set]; exact S.len, fun j r' h nt' => ?_, fun j k r1 r2 a h1 h2 o1 o2 => ?_, fun j r' a h o1 => ?_, S.tmp, S.tre.setE (fun r' z => by cases z; rfl) fun r' z ho => by cases z; cases ho⟩
      · rcases old h with ⟨rfl, rfl⟩ | ⟨_, h⟩
        · exact ⟨v, hv, w⟩
        · exact S.val j r' h nt'
      · rcases old h1 with ⟨rfl, rfl⟩ | ⟨_, h1⟩
        · cases o1
        · rcases old h2 with ⟨rfl, rfl⟩ | ⟨_, h2⟩
          · cases o2
          · exact S.dis j k r1 r2 a h1 h2 o1 o2
      · rcases old h with ⟨rfl, rfl⟩ | ⟨_, h⟩
        · cases o1
        · exact S.nof j r' a h o1
    | st _ => exact w.elim
    | _ => cases hr
  | true =>
    obtain ⟨a, o, rfl, ha, hg, q⟩ := w.own_inv hr
    have hF := (S.nof i r a e hr hv).1
    have ex : Ex G (upd G a o) := Ex.new hg
    refine ⟨upd G a o, ex, q.den hg, S.gh.take ha hg q.nt, S.fh.mono ex (S.fh.tb.ntu q.nt), fun b u z => ?_, S.pin, by rw [List.length_set]; exact S.len, fun j r' h nt' => ?_, fun j k r1 r2 b h1 h2 o1 o2 => ?_, fun j r' b h o1 => ?_, fun b m => absurd m List.not_mem_nil, (S.tre.heap ex (S.fh.tb.ntu q.nt) (fun a i _ f _ => ⟨rfl, f⟩) fun b q1 q2 q3 q4 q5 => ⟨⟨rfl, (upd_ne (fun z => q5 i r e hr (by rw [z]; exact hv))).trans q2⟩, q3, q4⟩).setE (fun r' z => by cases z; rfl) fun r' z ho => by cases z; cases ho⟩
    · rw [upd_ne (fun y => by rw [y, hF] at z; cases z)]; exact S.dj b u z
    · rcases old h with ⟨rfl, rfl⟩ | ⟨ne, h⟩
      · exact ⟨_, hv, q.den hg⟩
      · obtain ⟨v', hv', w'⟩ := S.val j r' h nt'
        refine ⟨v', hv', w'.keep ex fun b u ev hr' h1 h2 => ⟨h1, ?_⟩⟩
        subst ev
        have nb : b ≠ a := fun z => ne (S.dis j i r' r a h e hr' hr (by rw [← z]; exact hv') hv)
        rw [upd_ne nb]; exact h2
    · rcases old h1 with ⟨rfl, rfl⟩ | ⟨_, h1⟩
      · cases o1
      · rcases old h2 with ⟨rfl, rfl⟩ | ⟨_, h2⟩
        · cases o2
        · exact S.dis j k r1 r2 b h1 h2 o1 o2
    · rcases old h with ⟨rfl, rfl⟩ | ⟨_, h⟩
      · cases o1
      · exact S.nof j r' b h o1
end
/-- a tree is not seen by the ordinary words -/
def hidT : Option RV → Option RV
  | some (.st _) => none
  | x => x
theorem hidT_some {x : Option RV} {r : RV} (h : hidT x = some r) : x = some r ∧ r.isT = false := by
  cases x with
  | none => cases h
  | some y => cases y <;> first | (cases h; done) | (cases h; exact ⟨rfl, rfl⟩)
def slotOf (env : DEnv) (i : Nat) : Option RV := hidT (env[i]?).join
theorem slotOf_both {env : DEnv} {i : Nat} {r : RV} (h : slotOf env i = some r) : env[i]? = some (some r) ∧ r.isT = false := by
  unfold slotOf at h
  obtain ⟨h1, h2⟩ := hidT_some h
  refine ⟨?_, h2⟩
  cases q : env[i]? with
  | none => rw [q] at h1; cases h1
  | some z => rw [q] at h1; cases z with
    | none => cases h1
    | some z => cases h1; rfl
theorem slotOf_some {env : DEnv} {i : Nat} {r : RV} (h : slotOf env i = some r) : env[i]? = some (some r) := (slotOf_both h).1
theorem SRel.sval {K : PySem.W.Frag} {mg : Str → Option Value} {Fh : FHp} {P : List (Nat × V)} {G H : Hp} {σ : L2.St} {env : DEnv} {T : List Addr} {i : Nat} {r : RV} (S : SRel K mg Fh P G H σ env T) (h : slotOf env i = some r) : ∃ v, σ[i]? = some (some v) ∧ View K mg G H v r := S.val i r (slotOf_both h).1 (slotOf_both h).2
def resolve (env : DEnv) : Opd → Option RV
  | .val d => some (.sh d)
  | .slot i => slotOf env i
def resolves (env : DEnv) : List Opd → Option (List RV)
  | [] => some []
  | o :: os => match resolve env o, resolves env os with
    | some r, some rs => some (r :: rs)
    | _, _ => none
/-- an operand is stored: it is shared from then on -/
def dOf (o : Opd) (env : DEnv) : Res D := match o with
  | .val d => .ok d env
  | .slot i => match slotOf env i with
    | some r => .ok r.d (env.set i (some (.sh r.d)))
    | none => .stk
def dsOf : List Opd → DEnv → Res (List D)
  | [], env => .ok [] env
  | o :: os, env => match dOf o env with
    | .ok d e => (match dsOf os e with
      | .ok ds e' => .ok (d :: ds) e'
      | .err x e' => .err x e'
      | .stk => .stk)
    | .err x e => .err x e
    | .stk => .stk
section
variable {K : PySem.W.Frag} {mg : Str → Option Value} {W : WX} {Fh : FHp} {P : List (Nat × V)} {G G' H H' : Hp} {σ : L2.St} {env env' : DEnv} {T : List Addr}
theorem SRel.resolve (S : SRel K mg Fh P G H σ env T) {v : V} {o : Opd} {r : RV} (h : OpdR K mg G σ v o) (e : resolve env o = some r) : View K mg G H v r := by
  cases o with
  | val d => cases e; exact h
  | slot i =>
    have h' : σ[i]? = some (some v) := h
    obtain ⟨v', hv, w⟩ := S.sval e
    rw [h'] at hv; cases hv
    exact w
theorem SRel.dOf (S : SRel K mg Fh P G H σ env []) {v : V} {o : Opd} {d : D} (h : OpdR K mg G σ v o) (e : dOf o env = .ok d env') : ∃ G', Ex G G' ∧ Den K mg G' v d ∧ SRel K mg Fh P G' H σ env' [] := by
  cases o with
  | val d' => cases e; exact ⟨G, Ex.refl _, h, S⟩
  | slot i =>
    unfold Z.dOf at e
    simp only at e
    split at e
    · rename_i r q
      cases e
      exact S.shareSlot (slotOf_some q) (slotOf_both q).2 h
    · cases e
theorem dOf_noerr {o : Opd} {x : Exn} (h : dOf o env = .err x env') : False := by
  cases o with
  | val d => cases h
  | slot i => unfold dOf at h; simp only at h; split at h <;> cases h
theorem dsOf_noerr : ∀ {os : List Opd} {env env' : DEnv} {x : Exn}, dsOf os env = .err x env' → False
  | [], env, env', x, h => by cases h
  | o :: os, env, env', x, h => by
    unfold dsOf at h
    split at h
    · split at h
      · cases h
      · rename_i q; exact dsOf_noerr q
      · cases h
    · rename_i q; exact dOf_noerr q
    · cases h
theorem SRel.dsOf : ∀ {os : List Opd} {vs : List V} {ds : List D} {G : Hp} {env : DEnv}, SRel K mg Fh P G H σ env [] → OpdRs K mg G σ vs os → dsOf os env = .ok ds env' → ∃ G', Ex G G' ∧ DenL K mg G' vs ds ∧ SRel K mg Fh P G' H σ env' []
  | [], vs, ds, G, env, S, h, e => by
    unfold Z.dsOf at e; cases e
    rw [h.nil_inv]
    exact ⟨G, Ex.refl _, .nil, S⟩
  | o :: os, vs, ds, G, env, S, h, e => by
    obtain ⟨v, vs, rfl, h1, h2⟩ := h.cons_ex
    unfold Z.dsOf at e
    split at e
    · rename_i d e1 q1
      split at e
      · rename_i ds' e2 q2
        cases e
        obtain ⟨G1, x1, d1, S1⟩ := S.dOf h1 q1
        obtain ⟨G2, x2, d2, S2⟩ := S1.dsOf (h2.mono x1) q2
        exact ⟨G2, x1.trans x2, .cons (d1.mono x2) d2, S2⟩
      · cases e
      · cases e
    · cases e
    · cases e
end
end Z
namespace Z
open PySem PySem.Spec PyProof.Rows L2
theorem PE.weak {X : Cx} {e : Expr} {t t' : TE} (h : PE X e t) (w : ∀ σ H Q, t' σ H Q → t σ H Q) : PE X e t' := ⟨fun pins s σ H Q I q => h.run pins s σ H Q I (w σ H Q q)⟩
theorem PT.weak {X : Cx} {e : Expr} {t t' : TT} (h : PT X e t) (w : ∀ σ H Q, t' σ H Q → t σ H Q) : PT X e t' := ⟨fun pins s σ H Q I q => h.run pins s σ H Q I (w σ H Q q)⟩
theorem PW.weak {X : Cx} {e : Expr} {t t' : TT} (h : PW X e t) (w : ∀ σ H Q, t' σ H Q → t σ H Q) : PW X e t' := ⟨fun wh pins s σ H Q I q => h.run wh pins s σ H Q I (w σ H Q q)⟩
theorem PA.weak {X : Cx} {e : List Expr} {t t' : TA} (h : PA X e t) (w : ∀ σ H Q, t' σ H Q → t σ H Q) : PA X e t' := ⟨fun pos pins s σ H Q I q => h.run pos pins s σ H Q I (w σ H Q q)⟩
theorem PS.weak {X : Cx} {e : Stmt} {t t' : TS} (h : PS X e t) (w : ∀ D σ H, t' D σ H → t D σ H) : PS X e t' := ⟨fun pins s σ H D I q => h.run pins s σ H D I (w D σ H q)⟩
theorem PSs.weak {X : Cx} {e : List Stmt} {t t' : TS} (h : PSs X e t) (w : ∀ D σ H, t' D σ H → t D σ H) : PSs X e t' := ⟨fun pins s σ H D I q => h.run pins s σ H D I (w D σ H q)⟩
def QV (X : Cx) (W : WX) (pn : List Nat) (e : Expr) (m : M RV) : Prop := ∀ Fh P, P.map (·.1) = pn → PE X e (rdV X.K X.mg W Fh P m)
def QO (X : Cx) (W : WX) (pn : List Nat) (e : Expr) (m : M Opd) : Prop := ∀ Fh P, P.map (·.1) = pn → PE X e (rdO X.K X.mg W Fh P m)
def QOs (X : Cx) (W : WX) (pn : List Nat) (es : List Expr) (m : M (List Opd)) : Prop := ∀ Fh P, P.map (·.1) = pn → PA X es (rdOs X.K X.mg W Fh P m)
def QT (X : Cx) (W : WX) (pn : List Nat) (e : Expr) (m : M Bool) : Prop := ∀ Fh P, P.map (·.1) = pn → PT X e (rdB X.K X.mg W Fh P m)
def QW (X : Cx) (W : WX) (pn : List Nat) (e : Expr) (m : M Bool) : Prop := ∀ Fh P, P.map (·.1) = pn → PW X e (rdB X.K X.mg W Fh P m)
section
variable {K : PySem.W.Frag} {mg : Str → Option Value} {W : WX} {Fh : FHp} {P : List (Nat × V)} {G G' H H' : Hp} {σ : L2.St} {env env' : DEnv} {T : List Addr}
theorem PO_V {Q R : VK} {m : M Opd} {k : Opd → M RV} (h : PV K mg W Fh P σ G Q (bindM m k env))
    (hk : ∀ o e v G' H', Ex G G' → OpdR K mg G' σ v o → SRel K mg Fh P G' H' σ e [] → PV K mg W Fh P σ G' Q (k o e) → R v H') : PO K mg W Fh P σ G R (m env) := by
  unfold bindM at h
  cases q : m env with
  | ok o e => rw [q] at h; exact fun v G1 H1 ex ho S => hk o e v G1 H1 ex ho S (PV.mono ex h)
  | err x e => rw [q] at h; exact h
  | stk => rw [q] at h; exact h
theorem PO_B {Q : Bool → Hp → Prop} {R : VK} {m : M Opd} {k : Opd → M Bool} (h : PB K mg W Fh P σ G Q (bindM m k env))
    (hk : ∀ o e v G' H', Ex G G' → OpdR K mg G' σ v o → SRel K mg Fh P G' H' σ e [] → PB K mg W Fh P σ G' Q (k o e) → R v H') : PO K mg W Fh P σ G R (m env) := by
  unfold bindM at h
  cases q : m env with
  | ok o e => rw [q] at h; exact fun v G1 H1 ex ho S => hk o e v G1 H1 ex ho S (PB.mono ex h)
  | err x e => rw [q] at h; exact h
  | stk => rw [q] at h; exact h
theorem PO_Os {Q : List V → Hp → Prop} {R : VK} {m : M Opd} {k : Opd → M (List Opd)} (h : POs K mg W Fh P σ G Q (bindM m k env))
    (hk : ∀ o e v G' H', Ex G G' → OpdR K mg G' σ v o → SRel K mg Fh P G' H' σ e [] → POs K mg W Fh P σ G' Q (k o e) → R v H') : PO K mg W Fh P σ G R (m env) := by
  unfold bindM at h
  cases q : m env with
  | ok o e => rw [q] at h; exact fun v G1 H1 ex ho S => hk o e v G1 H1 ex ho S (POs.mono ex h)
  | err x e => rw [q] at h; exact h
  | stk => rw [q] at h; exact h
theorem POs_Os {Q R : List V → Hp → Prop} {m : M (List Opd)} {k : List Opd → M (List Opd)} (h : POs K mg W Fh P σ G Q (bindM m k env))
    (hk : ∀ o e v G' H', Ex G G' → OpdRs K mg G' σ v o → SRel K mg Fh P G' H' σ e [] → POs K mg W Fh P σ G' Q (k o e) → R v H') : POs K mg W Fh P σ G R (m env) := by
  unfold bindM at h
  cases q : m env with
  | ok o e => rw [q] at h; exact fun v G1 H1 ex ho S => hk o e v G1 H1 ex ho S (POs.mono ex h)
  | err x e => rw [q] at h; exact h
  | stk => rw [q] at h; exact h
theorem POs_V {Q : VK} {R : List V → Hp → Prop} {m : M (List Opd)} {k : List Opd → M RV} (h : PV K mg W Fh P σ G Q (bindM m k env))
    (hk : ∀ o e v G' H', Ex G G' → OpdRs K mg G' σ v o → SRel K mg Fh P G' H' σ e [] → PV K mg W Fh P σ G' Q (k o e) → R v H') : POs K mg W Fh P σ G R (m env) := by
  unfold bindM at h
  cases q : m env with
  | ok o e => rw [q] at h; exact fun v G1 H1 ex ho S => hk o e v G1 H1 ex ho S (PV.mono ex h)
  | err x e => rw [q] at h; exact h
  | stk => rw [q] at h; exact h
theorem PB_B {Q R : Bool → Hp → Prop} {m : M Bool} {k : Bool → M Bool} (h : PB K mg W Fh P σ G Q (bindM m k env))
    (hk : ∀ b e G' H', Ex G G' → SRel K mg Fh P G' H' σ e [] → PB K mg W Fh P σ G' Q (k b e) → R b H') : PB K mg W Fh P σ G R (m env) := by
  unfold bindM at h
  cases q : m env with
  | ok o e => rw [q] at h; exact fun G1 H1 ex S => hk o e G1 H1 ex S (PB.mono ex h)
  | err x e => rw [q] at h; exact h
  | stk => rw [q] at h; exact h
theorem PV_O {Q R : VK} {m : M RV} {k : RV → M Opd} (h : PO K mg W Fh P σ G Q (bindM m k env))
    (hk : ∀ r e v G' H', Ex G G' → View K mg G' H' v r → SRel K mg Fh P G' H' σ e (tmps v r) → PO K mg W Fh P σ G' Q (k r e) → R v H') : PV K mg W Fh P σ G R (m env) := by
  unfold bindM at h
  cases q : m env with
  | ok o e => rw [q] at h; exact fun v G1 H1 ex ho S => hk o e v G1 H1 ex ho S (PO.mono ex h)
  | err x e => rw [q] at h; exact h
  | stk => rw [q] at h; exact h
end
def nameO (i : Nat) : M Opd := fun env => match slotOf env i with
  | some _ => .ok (.slot i) env
  | none => .stk
def shareM (m : M RV) : M Opd := bindM m fun r e => .ok (.val r.d) e
def takeM (m : M Opd) : M RV := bindM m fun o env => match dOf o env with
  | .ok d e => .ok (.sh d) e
  | .err x e => .err x e
  | .stk => .stk
section
variable {X : Cx} {W : WX} {pn : List Nat} {e a b c : Expr} {pos : Pos}
theorem qo_name {i : Nat} {x : Str} (hN : X.N[i]? = some x) (hv : Vis X.env.scope x) (hd : (x == ("__debug__" : Str)) = false) (hcd : (x == ("__classdict__" : Str)) = false) : QO X W pn (.Name x pos) (nameO i) := fun Fh P hp =>
  PE.weak (pe_var hN hv hd hcd) fun σ H Q ⟨G, env, S, h⟩ => by
    unfold nameO at h
    cases q : slotOf env i with
    | none => rw [q] at h; exact h.elim
    | some r =>
      rw [q] at h
      obtain ⟨v, hv, _⟩ := S.sval q
      exact ⟨v, hv, h v G H (Ex.refl _) hv S⟩
theorem qo_v {m : M RV} (h : QV X W pn e m) : QO X W pn e (shareM m) := fun Fh P hp => PE.weak (h Fh P hp) fun σ H Q ⟨G, env, S, q⟩ => by
  refine ⟨G, env, S, PV_O q fun r e' v G1 H1 ex w S1 hk => ?_⟩
  obtain ⟨G2, x2, d2, S2⟩ := S1.share w
  exact hk v G2 H1 x2 d2 S2
theorem qv_o {m : M Opd} (h : QO X W pn e m) : QV X W pn e (takeM m) := fun Fh P hp => PE.weak (h Fh P hp) fun σ H Q ⟨G, env, S, q⟩ => by
  refine ⟨G, env, S, PO_V q fun o e' v G1 H1 ex w S1 hk => ?_⟩
  cases z : dOf o e' with
  | ok d e2 =>
    rw [z] at hk
    obtain ⟨G2, x2, d2, S2⟩ := S1.dOf w z
    exact hk v G2 H1 x2 d2 S2
  | err x e2 => exact (dOf_noerr z).elim
  | stk => rw [z] at hk; exact hk.elim
def cM (d : D) : M RV := fun env => .ok (.sh d) env
theorem qv_c {d : D} {v : V} (h : PE X e (tC v)) (hd : ∀ G, Den X.K X.mg G v d) : QV X W pn e (cM d) := fun Fh P hp => PE.weak h fun σ H Q ⟨G, env, S, q⟩ => q v G H (Ex.refl _) (hd G) S
theorem qv_int {i : Int} {j : Nat} : QV X W pn (.Constant (.int i) j pos) (cM (.int i)) := qv_c pe_int fun _ => .int i
theorem qv_bl {i : Bool} {j : Nat} : QV X W pn (.Constant (.bool i) j pos) (cM (.bl i)) := qv_c pe_bl fun _ => .bl i
theorem qv_str {i : Str} {j : Nat} : QV X W pn (.Constant (.str i) j pos) (cM (.str i)) := qv_c pe_str fun _ => .str i
theorem qv_non {j : Nat} : QV X W pn (.Constant .none j pos) (cM .non) := qv_c pe_non fun _ => .non
def nilO : M (List Opd) := fun env => .ok [] env
def consO (m : M Opd) (ms : M (List Opd)) : M (List Opd) := bindM m fun o => bindM ms fun os env => .ok (o :: os) env
theorem qs_nil : QOs X W pn [] nilO := fun Fh P hp => PA.weak pa_nil fun σ H Q ⟨G, env, S, q⟩ => q [] G H (Ex.refl _) .nil S
theorem qs_cons {es : List Expr} {m : M Opd} {ms : M (List Opd)} (h : QO X W pn e m) (t : QOs X W pn es ms) (hs : starEach (e :: es) X.env = (false, eval e X.env) :: starEach es X.env) : QOs X W pn (e :: es) (consO m ms) := fun Fh P hp =>
  PA.weak (pa_cons (h Fh P hp) (t Fh P hp) hs) fun σ H Q ⟨G, env, S, q⟩ => by
    refine ⟨G, env, S, PO_Os q fun o e' v G1 H1 ex w S1 hk => ?_⟩
    refine ⟨G1, e', S1, POs_Os hk fun os e2 vs G2 H2 ex2 w2 S2 hk2 => ?_⟩
    exact hk2 (v :: vs) G2 H2 (Ex.refl _) (.cons (w.mono ex2) w2) S2
def tupM (m : M (List Opd)) : M RV := bindM m fun os env => match dsOf os env with
  | .ok ds e => if ds.length ≤ sizeLine then .ok (.sh (.tup ds)) e else .stk
  | .err x e => .err x e
  | .stk => .stk
def lstM (m : M (List Opd)) : M RV := bindM m fun os env => match dsOf os env with
  | .ok ds e => if ds.length ≤ sizeLine then .ok (.ol ds) e else .stk
  | .err x e => .err x e
  | .stk => .stk
theorem qv_tup {es : List Expr} {m : M (List Opd)} {k : Nat} (h : QOs X W pn es m) : QV X W pn (.Tuple es k pos) (tupM m) := fun Fh P hp => PE.weak (pe_tup (h Fh P hp)) fun σ H Q ⟨G, env, S, q⟩ => by
  refine ⟨G, env, S, POs_V q fun os e' vs G1 H1 ex w S1 hk => ?_⟩
  cases z : dsOf os e' with
  | ok ds e2 =>
    rw [z] at hk
    obtain ⟨G2, x2, d2, S2⟩ := S1.dsOf w z
    simp only at hk
    by_cases hl : ds.length ≤ sizeLine
    · rw [if_pos hl] at hk
      refine ⟨by rw [d2.1]; exact hl, fun p hp => ?_⟩
      have st : Step G2 H1 (upd G2 p (.tup vs)) (upd H1 p (.tup vs)) [] := .shr hp
      have x3 := st.ex S2.gh
      exact hk _ _ _ (x2.trans x3) (Den.tupL (SqT.of upd_same) (d2.mono x3)) (S2.step st)
    · rw [if_neg hl] at hk; exact hk.elim
  | err x e2 => exact (dsOf_noerr z).elim
  | stk => rw [z] at hk; exact hk.elim
theorem qv_lst {es : List Expr} {m : M (List Opd)} (h : QOs X W pn es m) : QV X W pn (.List es pos) (lstM m) := fun Fh P hp => PE.weak (pe_lst (h Fh P hp)) fun σ H Q ⟨G, env, S, q⟩ => by
  refine ⟨G, env, S, POs_V q fun os e' vs G1 H1 ex w S1 hk => ?_⟩
  cases z : dsOf os e' with
  | ok ds e2 =>
    rw [z] at hk
    obtain ⟨G2, x2, d2, S2⟩ := S1.dsOf w z
    simp only at hk
    by_cases hl : ds.length ≤ sizeLine
    · rw [if_pos hl] at hk
      refine ⟨by rw [d2.1]; exact hl, fun p hp => ?_⟩
      have st : Step G2 H1 G2 (upd H1 p (.lst vs)) [p] := .own hp
      exact hk (.ref p) G2 _ x2 ⟨p, .lst vs, rfl, upd_same, S2.gh.none hp, d2⟩ (S2.step st)
    · rw [if_neg hl] at hk; exact hk.elim
  | err x e2 => exact (dsOf_noerr z).elim
  | stk => rw [z] at hk; exact hk.elim
def OpS (K : PySem.W.Frag) (mg : Str → Option Value) (r : R2) (f : RV → RV → Option RV) : Prop := ∀ (G H : Hp) (x y : V) (a b c : RV) (Q : VK), Gh G H → ViewW K mg G H x a → ViewW K mg G H y b → f a b = some c →
  (∀ v G' H', Step G H G' H' (tmps v c) → View K mg G' H' v c → Q v H') → r x y H Q
def UnS (K : PySem.W.Frag) (mg : Str → Option Value) (r : V → Hp → VK → Prop) (f : RV → Option RV) : Prop := ∀ (G H : Hp) (x : V) (a c : RV) (Q : VK), Gh G H → ViewW K mg G H x a → f a = some c →
  (∀ v G' H', Step G H G' H' (tmps v c) → View K mg G' H' v c → Q v H') → r x H Q
def Views (K : PySem.W.Frag) (mg : Str → Option Value) (G H : Hp) (vs : List V) (rs : List RV) : Prop := vs.length = rs.length ∧ ∀ (i : Nat) (v : V) (r : RV), vs[i]? = some v → rs[i]? = some r → View K mg G H v r
def ViewsW (K : PySem.W.Frag) (mg : Str → Option Value) (G H : Hp) (vs : List V) (rs : List RV) : Prop := vs.length = rs.length ∧ ∀ (i : Nat) (v : V) (r : RV), vs[i]? = some v → rs[i]? = some r → ViewW K mg G H v r
theorem Views.w {K : PySem.W.Frag} {mg : Str → Option Value} {G H : Hp} {vs : List V} {rs : List RV} (h : Views K mg G H vs rs) : ViewsW K mg G H vs rs := ⟨h.1, fun i v r a b => (h.2 i v r a b).w⟩
def CallS (K : PySem.W.Frag) (mg : Str → Option Value) (r : List V → Hp → VK → Prop) (f : List RV → Option RV) : Prop := ∀ (G H : Hp) (xs : List V) (as : List RV) (c : RV) (Q : VK), Gh G H → ViewsW K mg G H xs as → f as = some c →
  (∀ v G' H', Step G H G' H' (tmps v c) → View K mg G' H' v c → Q v H') → r xs H Q
def fin2 (f : RV → RV → Option RV) (o1 o2 : Opd) (env : DEnv) : Res RV := match resolve env o1, resolve env o2 with
  | some a, some b => (match f a b with
    | some c => .ok c env
    | none => .stk)
  | _, _ => .stk
def fin1 (f : RV → Option RV) (o1 : Opd) (env : DEnv) : Res RV := match resolve env o1 with
  | some a => (match f a with
    | some c => .ok c env
    | none => .stk)
  | none => .stk
def finN (f : List RV → Option RV) (os : List Opd) (env : DEnv) : Res RV := match resolves env os with
  | some as => (match f as with
    | some c => .ok c env
    | none => .stk)
  | none => .stk
def opM (f : RV → RV → Option RV) (ma mb : M Opd) : M RV := bindM ma fun o1 => bindM mb fun o2 => fin2 f o1 o2
def unM (f : RV → Option RV) (ma : M Opd) : M RV := bindM ma fun o1 => fin1 f o1
def callM (f : List RV → Option RV) (ma : M (List Opd)) : M RV := bindM ma fun os => finN f os
theorem Views.nil {K : PySem.W.Frag} {mg : Str → Option Value} {G H : Hp} : Views K mg G H [] [] := ⟨rfl, fun i v d a => by simp at a⟩
theorem Views.cons {K : PySem.W.Frag} {mg : Str → Option Value} {G H : Hp} {v : V} {d : RV} {xs : List V} {ds : List RV} (h : View K mg G H v d) (t : Views K mg G H xs ds) : Views K mg G H (v :: xs) (d :: ds) := by
  refine ⟨by simp [t.1], fun i w e a b => ?_⟩
  cases i with
  | zero => simp at a b; subst a; subst b; exact h
  | succ i => simp at a b; exact t.2 i w e a b
theorem Views.cons_ex {K : PySem.W.Frag} {mg : Str → Option Value} {G H : Hp} {d : RV} {xs : List V} {ds : List RV} (h : Views K mg G H xs (d :: ds)) : ∃ v vs, xs = v :: vs ∧ View K mg G H v d ∧ Views K mg G H vs ds := by
  cases xs with
  | nil => have := h.1; simp at this
  | cons v vs => exact ⟨v, vs, rfl, h.2 0 v d rfl rfl, by simpa using h.1, fun i w e a b => h.2 (i + 1) w e (by simpa using a) (by simpa using b)⟩
theorem Views.nil_inv {K : PySem.W.Frag} {mg : Str → Option Value} {G H : Hp} {xs : List V} (h : Views K mg G H xs []) : xs = [] := by
  have := h.1; simpa using this
theorem ViewsW.nil {K : PySem.W.Frag} {mg : Str → Option Value} {G H : Hp} : ViewsW K mg G H [] [] := ⟨rfl, fun i v d a => by simp at a⟩
theorem ViewsW.cons {K : PySem.W.Frag} {mg : Str → Option Value} {G H : Hp} {v : V} {d : RV} {xs : List V} {ds : List RV} (h : ViewW K mg G H v d) (t : ViewsW K mg G H xs ds) : ViewsW K mg G H (v :: xs) (d :: ds) := by
  refine ⟨by simp [t.1], fun i w e a b => ?_⟩
  cases i with
  | zero => simp at a b; subst a; subst b; exact h
  | succ i => simp at a b; exact t.2 i w e a b
theorem ViewsW.cons_ex {K : PySem.W.Frag} {mg : Str → Option Value} {G H : Hp} {d : RV} {xs : List V} {ds : List RV} (h : ViewsW K mg G H xs (d :: ds)) : ∃ v vs, xs = v :: vs ∧ ViewW K mg G H v d ∧ ViewsW K mg G H vs ds := by
  cases xs with
  | nil => have := h.1; simp at this
  | cons v vs => exact ⟨v, vs, rfl, h.2 0 v d rfl rfl, by simpa using h.1, fun i w e a b => h.2 (i + 1) w e (by simpa using a) (by simpa using b)⟩
theorem ViewsW.nil_inv {K : PySem.W.Frag} {mg : Str → Option Value} {G H : Hp} {xs : List V} (h : ViewsW K mg G H xs []) : xs = [] := by
  have := h.1; simpa using this
theorem SRel.resolves {K : PySem.W.Frag} {mg : Str → Option Value} {Fh : FHp} {P : List (Nat × V)} {G H : Hp} {σ : L2.St} {env : DEnv} {T : List Addr} (S : SRel K mg Fh P G H σ env T) : ∀ {os : List Opd} {vs : List V} {rs : List RV}, OpdRs K mg G σ vs os → resolves env os = some rs → Views K mg G H vs rs
  | [], vs, rs, h, e => by cases e; rw [h.nil_inv]; exact .nil
  | o :: os, vs, rs, h, e => by
    obtain ⟨v, vs, rfl, h1, h2⟩ := h.cons_ex
    unfold Z.resolves at e
    split at e
    · rename_i r rs' q1 q2
      cases e
      exact .cons (S.resolve h1 q1) (S.resolves h2 q2)
    · cases e
theorem fin2_ok {r : R2} {f : RV → RV → Option RV} {Fh : FHp} {P : List (Nat × V)} {G H : Hp} {σ : L2.St} {env : DEnv} {o1 o2 : Opd} {x y : V} {Q : VK} (hs : OpS X.K X.mg r f) (S : SRel X.K X.mg Fh P G H σ env []) (h1 : OpdR X.K X.mg G σ x o1) (h2 : OpdR X.K X.mg G σ y o2)
    (h : PV X.K X.mg W Fh P σ G Q (fin2 f o1 o2 env)) : r x y H Q := by
  unfold fin2 at h
  split at h
  · rename_i a b q1 q2
    split at h
    · rename_i c q3
      exact hs G H x y a b c Q S.gh (S.resolve h1 q1).w (S.resolve h2 q2).w q3 fun v G' H' st w => h v G' H' (st.ex S.gh) w (S.step st)
    · exact h.elim
  · exact h.elim
theorem fin1_ok {r : V → Hp → VK → Prop} {f : RV → Option RV} {Fh : FHp} {P : List (Nat × V)} {G H : Hp} {σ : L2.St} {env : DEnv} {o1 : Opd} {x : V} {Q : VK} (hs : UnS X.K X.mg r f) (S : SRel X.K X.mg Fh P G H σ env []) (h1 : OpdR X.K X.mg G σ x o1)
    (h : PV X.K X.mg W Fh P σ G Q (fin1 f o1 env)) : r x H Q := by
  unfold fin1 at h
  split at h
  · rename_i a q1
    split at h
    · rename_i c q3
      exact hs G H x a c Q S.gh (S.resolve h1 q1).w q3 fun v G' H' st w => h v G' H' (st.ex S.gh) w (S.step st)
    · exact h.elim
  · exact h.elim
theorem finN_ok {r : List V → Hp → VK → Prop} {f : List RV → Option RV} {Fh : FHp} {P : List (Nat × V)} {G H : Hp} {σ : L2.St} {env : DEnv} {os : List Opd} {xs : List V} {Q : VK} (hs : CallS X.K X.mg r f) (S : SRel X.K X.mg Fh P G H σ env []) (h1 : OpdRs X.K X.mg G σ xs os)
    (h : PV X.K X.mg W Fh P σ G Q (finN f os env)) : r xs H Q := by
  unfold finN at h
  split at h
  · rename_i as q1
    split at h
    · rename_i c q3
      exact hs G H xs as c Q S.gh (S.resolves h1 q1).w q3 fun v G' H' st w => h v G' H' (st.ex S.gh) w (S.step st)
    · exact h.elim
  · exact h.elim
theorem rd_op {r : R2} {f : RV → RV → Option RV} {ma mb : M Opd} {Fh : FHp} {P : List (Nat × V)} (hs : OpS X.K X.mg r f) {σ : L2.St} {H : Hp} {Q : VK} (h : rdV X.K X.mg W Fh P (opM f ma mb) σ H Q) : tOp r (rdO X.K X.mg W Fh P ma) (rdO X.K X.mg W Fh P mb) σ H Q := by
  obtain ⟨G, env, S, q⟩ := h
  refine ⟨G, env, S, PO_V q fun o1 e1 x G1 H1 ex1 w1 S1 hk => ?_⟩
  refine ⟨G1, e1, S1, PO_V hk fun o2 e2 y G2 H2 ex2 w2 S2 hk2 => ?_⟩
  exact fin2_ok hs S2 (w1.mono ex2) w2 hk2
theorem qv_op {op : Operator} {r : R2} {f : RV → RV → Option RV} {ma mb : M Opd} (ho : OpR X (binaryOp op) r) (hs : OpS X.K X.mg r f) (ha : QO X W pn a ma) (hb : QO X W pn b mb) : QV X W pn (.BinOp a op b pos) (opM f ma mb) := fun Fh P hp =>
  PE.weak (pe_op ho (ha Fh P hp) (hb Fh P hp)) fun σ H Q h => rd_op hs h
theorem qv_cmp {op : CmpOp} {r : R2} {f : RV → RV → Option RV} {ma mb : M Opd} (ho : OpR X (compareOp op) r) (hs : OpS X.K X.mg r f) (ha : QO X W pn a ma) (hb : QO X W pn b mb) (hm : behindInMarks op b = false) : QV X W pn (.Compare a [op] [b] pos) (opM f ma mb) := fun Fh P hp =>
  PE.weak (pe_cmpR ho (ha Fh P hp) (hb Fh P hp) hm) fun σ H Q h => rd_op hs h
theorem qv_ix {r : R2} {f : RV → RV → Option RV} {ma mb : M Opd} (ho : IxR X r) (hs : OpS X.K X.mg r f) (ha : QO X W pn a ma) (hb : QO X W pn b mb) (hpx : PlainIx b) : QV X W pn (.Subscript a b pos) (opM f ma mb) := fun Fh P hp =>
  PE.weak (pe_ix ho (ha Fh P hp) (hb Fh P hp) hpx) fun σ H Q h => rd_op hs h
theorem qv_un {op : UnaryOp} {r : V → Hp → VK → Prop} {f : RV → Option RV} {ma : M Opd} (ho : UnR X (unaryOp op) r) (hs : UnS X.K X.mg r f) (ha : QO X W pn a ma) : QV X W pn (.UnaryOp op a pos) (unM f ma) := fun Fh P hp =>
  PE.weak (pe_un ho (ha Fh P hp)) fun σ H Q ⟨G, env, S, q⟩ => ⟨G, env, S, PO_V q fun o1 e1 x G1 H1 ex1 w1 S1 hk => fin1_ok hs S1 w1 hk⟩
theorem rd_call {r : List V → Hp → VK → Prop} {f : List RV → Option RV} {ma : M (List Opd)} {Fh : FHp} {P : List (Nat × V)} (hs : CallS X.K X.mg r f) {σ : L2.St} {H : Hp} {Q : VK} (h : rdV X.K X.mg W Fh P (callM f ma) σ H Q) : tCB r (rdOs X.K X.mg W Fh P ma) σ H Q := by
  obtain ⟨G, env, S, q⟩ := h
  exact ⟨G, env, S, POs_V q fun os e1 xs G1 H1 ex1 w1 S1 hk => finN_ok hs S1 w1 hk⟩
theorem qv_callB {id : String} {x : Str} {p : Pos} {es : List Expr} {r : List V → Hp → VK → Prop} {f : List RV → Option RV} {ma : M (List Opd)} (hc : CallR X (.builtin id) r) (hs : CallS X.K X.mg r f) (hg : Gl X x) (hm : X.mg x = none) (hv : bootBuiltins x = some (.builtin id)) (ha : QOs X W pn (e :: es) ma)
    (hn : x ≠ "__name__") (hdb : (x == ("__debug__" : Str)) = false) (he : starEach (e :: es) X.env = (false, eval e X.env) :: starEach es X.env) (hpl : (backTo pos (starEach es X.env)).any (·.1) = false) : QV X W pn (.Call (.Name x p) (e :: es) [] pos) (callM f ma) := fun Fh P hp =>
  PE.weak (pe_callB hc hg hm hv (ha Fh P hp) hn hdb he hpl) fun σ H Q h => rd_call hs h
theorem qv_callTy {id : String} {x : Str} {p : Pos} {es : List Expr} {r : List V → Hp → VK → Prop} {f : List RV → Option RV} {ma : M (List Opd)} (hc : CallR X (.type id) r) (hs : CallS X.K X.mg r f) (hg : Gl X x) (hm : X.mg x = none) (hv : bootBuiltins x = some (.type id)) (ha : QOs X W pn (e :: es) ma)
    (hn : x ≠ "__name__") (hdb : (x == ("__debug__" : Str)) = false) (he : starEach (e :: es) X.env = (false, eval e X.env) :: starEach es X.env) (hpl : (backTo pos (starEach es X.env)).any (·.1) = false) : QV X W pn (.Call (.Name x p) (e :: es) [] pos) (callM f ma) := fun Fh P hp =>
  PE.weak (pe_callTy hc hg hm hv (ha Fh P hp) hn hdb he hpl) fun σ H Q h => rd_call hs h
end
end Z
namespace Z
open PySem PySem.Spec PyProof.Rows L2
section
variable {X : Cx} {K : PySem.W.Frag} {mg : Str → Option Value}
theorem OpR.or {f : Value → Value → Sem Value} {r r' : R2} (h : OpR X f r) (h' : OpR X f r') : OpR X f (fun x y H Q => r x y H Q ∨ r' x y H Q) := fun pins s σ H x y v u Q I rx ry q =>
  q.elim (h pins s σ H x y v u Q I rx ry) (h' pins s σ H x y v u Q I rx ry)
theorem CallR.or {f : Value} {r r' : List V → Hp → VK → Prop} (h : CallR X f r) (h' : CallR X f r') : CallR X f (fun xs H Q => r xs H Q ∨ r' xs H Q) := fun pins s σ H xs us Q I rx q =>
  q.elim (h pins s σ H xs us Q I rx) (h' pins s σ H xs us Q I rx)
theorem SlR.or {r r' : V → Option Int → Option Int → Hp → VK → Prop} (h : SlR X r) (h' : SlR X r') : SlR X (fun x l u H Q => r x l u H Q ∨ r' x l u H Q) := by
  intro pins s σ H x v vl vu lo hi sl Q I rx hs pl pu q
  exact q.elim (h pins s σ H x v vl vu lo hi sl Q I rx hs pl pu) (h' pins s σ H x v vl vu lo hi sl Q I rx hs pl pu)
def orF (f g : RV → RV → Option RV) (a b : RV) : Option RV := match f a b with
  | some c => some c
  | none => g a b
theorem OpS.or {r r' : R2} {f g : RV → RV → Option RV} (h : OpS K mg r f) (h' : OpS K mg r' g) : OpS K mg (fun x y H Q => r x y H Q ∨ r' x y H Q) (orF f g) := fun G H x y a b c Q ex va vb e k => by
  unfold orF at e
  split at e
  · rename_i c' q; cases e; exact .inl (h G H x y a b _ Q ex va vb q k)
  · exact .inr (h' G H x y a b c Q ex va vb e k)
def listOf : RV → Option (List D)
  | .sh (.lst ds) => some ds
  | .ol ds => some ds
  | _ => none
def tupOf : RV → Option (List D)
  | .sh (.tup ds) => some ds
  | _ => none
def seqOf : RV → Option (List D)
  | .sh (.lst ds) => some ds
  | .ol ds => some ds
  | .sh (.tup ds) => some ds
  | .sh (.fls ds) => some ds
  | _ => none
variable {G H : Hp}
theorem ViewW.list (ex : Gh G H) {v : V} {r : RV} {ds : List D} (w : ViewW K mg G H v r) (e : listOf r = some ds) : ∃ a xs, v = .ref a ∧ H a = some (.lst xs) ∧ DenL K mg G xs ds := by
  unfold listOf at e
  split at e
  · cases e; obtain ⟨a, xs, rfl, h1, h2⟩ := Den.lst_inv w; exact ⟨a, xs, rfl, ex.on _ _ h1 nofun, h2⟩
  · cases e
    obtain ⟨a, o, rfl, h1, h2, h3⟩ := w
    cases o <;> first | exact h3.elim | exact ⟨a, _, rfl, h1, h3⟩
  · cases e
theorem View.list (ex : Gh G H) {v : V} {r : RV} {ds : List D} (w : View K mg G H v r) (e : listOf r = some ds) : ∃ a xs, v = .ref a ∧ H a = some (.lst xs) ∧ DenL K mg G xs ds := w.w.list ex e
theorem ViewW.tup (ex : Gh G H) {v : V} {r : RV} {ds : List D} (w : ViewW K mg G H v r) (e : tupOf r = some ds) : ∃ a xs, v = .ref a ∧ SqT K H a xs ∧ DenL K mg G xs ds := by
  unfold tupOf at e
  split at e
  · cases e; obtain ⟨a, xs, rfl, h1, h2⟩ := Den.tup_inv w; exact ⟨a, xs, rfl, ex.sqT h1, h2⟩
  · cases e
theorem View.tup (ex : Gh G H) {v : V} {r : RV} {ds : List D} (w : View K mg G H v r) (e : tupOf r = some ds) : ∃ a xs, v = .ref a ∧ SqT K H a xs ∧ DenL K mg G xs ds := w.w.tup ex e
theorem ViewW.seq (ex : Gh G H) {v : V} {r : RV} {ds : List D} (w : ViewW K mg G H v r) (e : seqOf r = some ds) : ∃ a xs, v = .ref a ∧ (SqL K H a xs ∨ SqT K H a xs) ∧ DenL K mg G xs ds := by
  unfold seqOf at e
  split at e
  · cases e; obtain ⟨a, xs, rfl, h1, h2⟩ := Den.lst_inv w; exact ⟨a, xs, rfl, .inl (SqL.of (ex.on _ _ h1 nofun)), h2⟩
  · cases e
    obtain ⟨a, o, rfl, h1, h2, h3⟩ := w
    cases o <;> first | exact h3.elim | exact ⟨a, _, rfl, .inl (SqL.of h1), h3⟩
  · cases e; obtain ⟨a, xs, rfl, h1, h2⟩ := Den.tup_inv w; exact ⟨a, xs, rfl, .inr (ex.sqT h1), h2⟩
  · cases e
    cases (w : Den K mg G v _) with
    | fls h1 h2 h3 => exact ⟨_, _, rfl, .inl (ex.sqL h1), h2, h3⟩
  · cases e
theorem View.seq (ex : Gh G H) {v : V} {r : RV} {ds : List D} (w : View K mg G H v r) (e : seqOf r = some ds) : ∃ a xs, v = .ref a ∧ (SqL K H a xs ∨ SqT K H a xs) ∧ DenL K mg G xs ds := w.w.seq ex e
def iI (g : Int → Int → Option D) (a b : RV) : Option RV := match a, b with
  | .sh (.int i), .sh (.int j) => (g i j).map .sh
  | _, _ => none
theorem opS_I {C : Int → Int → Prop} {gv : Int → Int → V} {g : Int → Int → Option D} (hc : ∀ i j d, g i j = some d → C i j ∧ ∀ G, Den K mg G (gv i j) d) : OpS K mg (rI C gv) (iI g) := fun G H x y a b c Q ex va vb e k => by
  unfold iI at e
  split at e
  · rename_i i j
    cases hg : g i j with
    | none => rw [hg] at e; cases e
    | some d =>
      rw [hg] at e; cases e
      obtain ⟨h1, h2⟩ := hc i j d hg
      exact ⟨i, j, Den.int_inv va, Den.int_inv vb, h1, k _ G H .same (h2 G)⟩
  · cases e
theorem opS_I0 {gv : Int → Int → V} {g : Int → Int → Option D} (hc : ∀ i j d, g i j = some d → ∀ G, Den K mg G (gv i j) d) : OpS K mg (rI0 gv) (iI g) := fun G H x y a b c Q ex va vb e k => by
  unfold iI at e
  split at e
  · rename_i i j
    cases hg : g i j with
    | none => rw [hg] at e; cases e
    | some d =>
      rw [hg] at e; cases e
      exact ⟨i, j, Den.int_inv va, Den.int_inv vb, k _ G H .same (hc i j d hg G)⟩
  · cases e
instance (i j : Int) : Decidable (CMul i j) := by unfold CMul; exact inferInstance
instance (i j : Int) : Decidable (CDiv i j) := by unfold CDiv; exact inferInstance
instance (i j : Int) : Decidable (CPow i j) := by unfold CPow; exact inferInstance
def addI : RV → RV → Option RV := iI fun i j => some (.int (i + j))
def subI : RV → RV → Option RV := iI fun i j => some (.int (i - j))
def mulI : RV → RV → Option RV := iI fun i j => if CMul i j then some (.int (i * j)) else none
def divI : RV → RV → Option RV := iI fun i j => if CDiv i j then some (.int (i / j)) else none
def modI : RV → RV → Option RV := iI fun i j => if 0 < j then some (.int (i % j)) else none
def powI : RV → RV → Option RV := iI fun i j => if CPow i j then some (.int (i ^ j.toNat)) else none
def ltI : RV → RV → Option RV := iI fun i j => some (.bl (decide (i < j)))
def leI : RV → RV → Option RV := iI fun i j => some (.bl (decide (i ≤ j)))
def gtI : RV → RV → Option RV := iI fun i j => some (.bl (decide (j < i)))
def geI : RV → RV → Option RV := iI fun i j => some (.bl (decide (j ≤ i)))
theorem s_addI : OpS K mg (rI0 fun i j => .int (i + j)) addI := opS_I0 fun i j d e G => by cases e; exact .int _
theorem s_subI : OpS K mg (rI0 fun i j => .int (i - j)) subI := opS_I0 fun i j d e G => by cases e; exact .int _
theorem s_mulI : OpS K mg (rI CMul fun i j => .int (i * j)) mulI := opS_I fun i j d e => by
  by_cases h : CMul i j
  · rw [if_pos h] at e; cases e; exact ⟨h, fun _ => .int _⟩
  · rw [if_neg h] at e; cases e
theorem s_divI : OpS K mg (rI CDiv fun i j => .int (i / j)) divI := opS_I fun i j d e => by
  by_cases h : CDiv i j
  · rw [if_pos h] at e; cases e; exact ⟨h, fun _ => .int _⟩
  · rw [if_neg h] at e; cases e
theorem s_modI : OpS K mg (rI (fun _ j => 0 < j) fun i j => .int (i % j)) modI := opS_I fun i j d e => by
  by_cases h : 0 < j
  · rw [if_pos h] at e; cases e; exact ⟨h, fun _ => .int _⟩
  · rw [if_neg h] at e; cases e
theorem s_powI : OpS K mg (rI CPow fun i j => .int (i ^ j.toNat)) powI := opS_I fun i j d e => by
  by_cases h : CPow i j
  · rw [if_pos h] at e; cases e; exact ⟨h, fun _ => .int _⟩
  · rw [if_neg h] at e; cases e
theorem s_ltI : OpS K mg (rI0 fun i j => .bl (decide (i < j))) ltI := opS_I0 fun i j d e G => by cases e; exact .bl _
theorem s_leI : OpS K mg (rI0 fun i j => .bl (decide (i ≤ j))) leI := opS_I0 fun i j d e G => by cases e; exact .bl _
theorem s_gtI : OpS K mg (rI0 fun i j => .bl (decide (j < i))) gtI := opS_I0 fun i j d e G => by cases e; exact .bl _
theorem s_geI : OpS K mg (rI0 fun i j => .bl (decide (j ≤ i))) geI := opS_I0 fun i j d e G => by cases e; exact .bl _
def addS (a b : RV) : Option RV := match a, b with
  | .sh (.str x), .sh (.str y) => if x.length + y.length ≤ sizeLine then some (.sh (.str (x ++ y))) else none
  | _, _ => none
theorem s_addS : OpS K mg (fun x y H Q => ∃ i j, x = .str i ∧ y = .str j ∧ i.length + j.length ≤ sizeLine ∧ Q (.str (i ++ j)) H) addS := fun G H x y a b c Q ex va vb e k => by
  unfold addS at e
  split at e
  · rename_i i j
    split at e
    · rename_i h; cases e
      exact ⟨i, j, Den.str_inv va, Den.str_inv vb, h, k _ G H .same (.str _)⟩
    · cases e
  · cases e
def addT (a b : RV) : Option RV := match tupOf a, tupOf b with
  | some x, some y => if x.length + y.length ≤ sizeLine then some (.sh (.tup (x ++ y))) else none
  | _, _ => none
theorem s_addT : OpS K mg (rCatA K) addT := fun G H x y a b c Q ex va vb e k => by
  unfold addT at e
  split at e
  · rename_i ds es q1 q2
    split at e
    · rename_i h; cases e
      obtain ⟨p, xs, rfl, h1, l1⟩ := va.tup ex q1
      obtain ⟨q, ys, rfl, h2, l2⟩ := vb.tup ex q2
      refine ⟨p, q, xs, ys, rfl, rfl, h1, h2, by rw [l1.1, l2.1]; exact h, fun z => ?_, fun _ z => ?_, fun _ _ b hb => ?_⟩
      · subst z
        have : ds = [] := by have := l1.1; simpa using this.symm
        subst this
        refine k _ G H .same ?_
        unfold tupOf at q2; split at q2
        · cases q2; exact vb
        · cases q2
      · subst z
        have : es = [] := by have := l2.1; simpa using this.symm
        subst this
        refine k _ G H .same ?_
        unfold tupOf at q1; split at q1
        · cases q1; rw [List.append_nil]; exact va
        · cases q1
      · have st : Step G H (upd G b (.tup (xs ++ ys))) (upd H b (.tup (xs ++ ys))) [] := .shr hb
        exact k _ _ _ st (Den.tupL (SqT.of upd_same) ((l1.app l2).mono (st.ex ex)))
    · cases e
  · cases e
def addL (a b : RV) : Option RV := match listOf a, listOf b with
  | some x, some y => if x.length + y.length ≤ sizeLine then some (.ol (x ++ y)) else none
  | _, _ => none
theorem s_addL : OpS K mg rCat addL := fun G H x y a b c Q ex va vb e k => by
  unfold addL at e
  split at e
  · rename_i ds es q1 q2
    split at e
    · rename_i h; cases e
      obtain ⟨p, xs, rfl, h1, l1⟩ := va.list ex q1
      obtain ⟨q, ys, rfl, h2, l2⟩ := vb.list ex q2
      refine ⟨p, q, xs, ys, rfl, rfl, h1, h2, by rw [l1.1, l2.1]; exact h, fun b hb => ?_⟩
      exact k (.ref b) G _ (.own hb) (View.of_own upd_same (ex.none hb) (l1.app l2))
    · cases e
  · cases e
def addD : RV → RV → Option RV := orF addI (orF addS (orF addT addL))
/-- so many items, so often -/
def fitR (n : Nat) (k : Int) : Bool := Nat.ble k.natAbs 4611686018427387903 && Nat.ble (n * k.toNat) 16777216
theorem fitR_ok {n : Nat} {k : Int} (h : fitR n k = true) : -(2 ^ 63) ≤ k ∧ k < 2 ^ 63 ∧ n * k.toNat ≤ sizeLine := by
  obtain ⟨h1, h2⟩ := Bool.and_eq_true_iff.mp h
  have h1 : k.natAbs ≤ 4611686018427387903 := Nat.le_of_ble_eq_true h1
  have h2 : n * k.toNat ≤ 16777216 := Nat.le_of_ble_eq_true h2
  exact ⟨by simp; omega, by simp; omega, by rw [sizeLine_eq]; exact h2⟩
def repL (a b : RV) : Option RV := match listOf a, b with
  | some x, .sh (.int k) => if fitR x.length k = true then some (.ol (List.replicate k.toNat x).flatten) else none
  | _, _ => none
def repT (a b : RV) : Option RV := match tupOf a, b with
  | some x, .sh (.int k) => if x ≠ [] ∧ 2 ≤ k ∧ k ≤ 1000 ∧ x.length ≤ 1000 then some (.sh (.tup (List.replicate k.toNat x).flatten)) else none
  | _, _ => none
theorem s_repT : OpS K mg (rRepT K) repT := fun G H x y a b c Q ex va vb e k => by
  unfold repT at e
  split at e
  · rename_i ds n q1
    split at e
    · rename_i h; cases e
      obtain ⟨h0, h2, h3, h4⟩ := h
      obtain ⟨p, xs, rfl, h1, l1⟩ := va.tup ex q1
      refine ⟨p, n, xs, rfl, Den.int_inv vb, h1, fun z => h0 (by subst z; have := l1.1; simpa using this.symm), h2, h3, by rw [l1.1]; exact h4, fun b hb => ?_⟩
      have st : Step G H (upd G b (.tup (List.replicate n.toNat xs).flatten)) (upd H b (.tup (List.replicate n.toNat xs).flatten)) [] := .shr hb
      exact k _ _ _ st (Den.tupL (SqT.of upd_same) ((l1.flat _).mono (st.ex ex)))
    · cases e
  · cases e
end
end Z
namespace Z
open PySem PySem.Spec PyProof.Rows L2
section
variable {X : Cx} {K : PySem.W.Frag} {mg : Str → Option Value} {G H : Hp}
theorem s_repL : OpS K mg rRep repL := fun G H x y a b c Q ex va vb e k => by
  unfold repL at e
  split at e
  · rename_i ds n q1
    split at e
    · rename_i h; cases e
      obtain ⟨h0, h2, h3⟩ := fitR_ok h
      obtain ⟨p, xs, rfl, h1, l1⟩ := va.list ex q1
      refine ⟨p, n, xs, rfl, Den.int_inv vb, h1, h0, h2, by rw [l1.1]; exact h3, fun b hb => ?_⟩
      exact k (.ref b) G _ (.own hb) (View.of_own upd_same (ex.none hb) (l1.flat _))
    · cases e
  · cases e
mutual
def toP : D → Option PyData
  | .non => some .none
  | .bl b => some (.bool b)
  | .int i => some (.int i)
  | .str x => some (.str x)
  | .tup xs => (toPs xs).map .tuple
  | .lst xs => (toPs xs).map .list
  | .fls _ => none
  | .dct _ => none
  | .obj _ _ => none
  | .cls _ => none
  | .lam _ _ _ _ => none
  | .xob _ _ => none
  | .loc _ => none
def toPs : List D → Option (List PyData)
  | [] => some []
  | x :: xs => match toP x, toPs xs with
    | some p, some ps => some (p :: ps)
    | _, _ => none
end
mutual
theorem Den.dp (ex : Gh G H) : ∀ (d : D) (v : V) (p : PyData), Den K mg G v d → toP d = some p → Dp K H v p
  | .non, v, p, h, e => by cases h; simp [toP] at e; subst e; exact .non
  | .bl b, v, p, h, e => by cases h; simp [toP] at e; subst e; exact .bl b
  | .int i, v, p, h, e => by cases h; simp [toP] at e; subst e; exact .int i
  | .str x, v, p, h, e => by cases h; simp [toP] at e; subst e; exact .str x
  | .tup xs, v, p, h, e => by
    obtain ⟨a, ys, rfl, h1, h2⟩ := h.tup_inv
    simp only [toP, Option.map_eq_some_iff] at e
    obtain ⟨ps, e1, e2⟩ := e
    subst e2
    exact .tup (ex.sqT h1) (DenL.dp ex xs ys ps h2 e1)
  | .lst xs, v, p, h, e => by
    obtain ⟨a, ys, rfl, h1, h2⟩ := h.lst_inv
    simp only [toP, Option.map_eq_some_iff] at e
    obtain ⟨ps, e1, e2⟩ := e
    subst e2
    exact .lst (SqL.of (ex.on _ _ h1 nofun)) (DenL.dp ex xs ys ps h2 e1)
  | .fls _, v, p, h, e => by simp [toP] at e
  | .dct _, v, p, h, e => by simp [toP] at e
  | .obj _ _, v, p, h, e => by simp [toP] at e
  | .cls _, v, p, h, e => by simp [toP] at e
  | .lam _ _ _ _, v, p, h, e => by simp [toP] at e
  | .xob _ _, v, p, h, e => by simp [toP] at e
  | .loc _, v, p, h, e => by simp [toP] at e
theorem DenL.dp (ex : Gh G H) : ∀ (ds : List D) (vs : List V) (ps : List PyData), DenL K mg G vs ds → toPs ds = some ps → DpAll K H vs ps
  | [], vs, ps, h, e => by
    rw [h.nil_inv]
    simp [toPs] at e; subst e; exact .nil
  | d :: ds, vs, ps, h, e => by
    obtain ⟨v, vs, rfl, h1, h2⟩ := h.cons_ex
    unfold toPs at e
    split at e
    · rename_i p ps' q1 q2
      cases e
      exact .cons (Den.dp ex d v p h1 q1) (DenL.dp ex ds vs ps' h2 q2)
    · cases e
end
theorem ViewW.dp (ex : Gh G H) {v : V} {r : RV} {p : PyData} (w : ViewW K mg G H v r) (e : toP r.d = some p) : Dp K H v p := by
  cases r with
  | sh d => exact Den.dp ex d v p w e
  | ol ds =>
    obtain ⟨a, o, rfl, h1, h2, h3⟩ := w
    cases o <;> first | exact h3.elim | skip
    simp only [RV.d, toP, Option.map_eq_some_iff] at e
    obtain ⟨ps, e1, e2⟩ := e
    subst e2
    exact .lst (SqL.of h1) (DenL.dp ex _ _ _ h3 e1)
  | od _ => simp [RV.d, toP] at e
  | oo _ _ => simp [RV.d, toP] at e
  | st _ => exact w.elim
theorem View.dp (ex : Gh G H) {v : V} {r : RV} {p : PyData} (w : View K mg G H v r) (e : toP r.d = some p) : Dp K H v p := w.w.dp ex e
def eqP (a b : RV) : Option Bool := match toP a.d, toP b.d with
  | some p, some q => if SeqAt.shaped p && SeqAt.shaped q then some (PyData.eqv p q) else none
  | _, _ => none
def eqF (a b : RV) : Option RV := (eqP a b).map fun c => .sh (.bl c)
def neF (a b : RV) : Option RV := (eqP a b).map fun c => .sh (.bl (!c))
theorem eqP_dp (ex : Gh G H) {x y : V} {a b : RV} {c : Bool} (va : ViewW K mg G H x a) (vb : ViewW K mg G H y b) (e : eqP a b = some c) : ∃ d e, Dp K H x d ∧ Dp K H y e ∧ SeqAt.shaped d = true ∧ SeqAt.shaped e = true ∧ PyData.eqv d e = c := by
  unfold eqP at e
  split at e
  · rename_i p q e1 e2
    split at e
    · rename_i hs
      cases e
      rw [Bool.and_eq_true] at hs
      exact ⟨p, q, va.dp ex e1, vb.dp ex e2, hs.1, hs.2, rfl⟩
    · cases e
  · cases e
theorem s_eqF : OpS K mg (rEqD K) eqF := fun G H x y a b c Q ex va vb e k => by
  unfold eqF at e
  simp only [Option.map_eq_some_iff] at e
  obtain ⟨z, e1, e2⟩ := e
  subst e2
  obtain ⟨d, e', h1, h2, h3, h4, h5⟩ := eqP_dp ex va vb e1
  refine ⟨d, e', h1, h2, h3, h4, ?_⟩
  rw [h5]
  exact k _ G H .same (.bl _)
theorem s_neF : OpS K mg (rNeD K) neF := fun G H x y a b c Q ex va vb e k => by
  unfold neF at e
  simp only [Option.map_eq_some_iff] at e
  obtain ⟨z, e1, e2⟩ := e
  subst e2
  obtain ⟨d, e', h1, h2, h3, h4, h5⟩ := eqP_dp ex va vb e1
  refine ⟨d, e', h1, h2, h3, h4, ?_⟩
  rw [h5]
  exact k _ G H .same (.bl _)
def isNon : RV → Bool
  | .sh .non => true
  | _ => false
theorem ViewW.isNon {v : V} {r : RV} (w : ViewW K mg G H v r) : decide (v = .non) = isNon r := by
  cases r with
  | sh d => cases d <;> cases w <;> simp [Z.isNon]
  | st _ => exact w.elim
  | _ => obtain ⟨a, o, rfl, _⟩ := w; simp [Z.isNon]
theorem View.isNon {v : V} {r : RV} (w : View K mg G H v r) : decide (v = .non) = isNon r := w.w.isNon
def isF (a b : RV) : Option RV := if isNon b then some (.sh (.bl (isNon a))) else none
theorem isNon_eq {r : RV} (h : isNon r = true) : r = .sh .non := by
  cases r with
  | sh d => cases d <;> first | rfl | cases h
  | _ => cases h
theorem s_isF : OpS K mg (fun x y H Q => y = .non ∧ Q (.bl (decide (x = .non))) H) isF := fun G H x y a b c Q ex va vb e k => by
  unfold isF at e
  split at e
  · rename_i h; cases e
    rw [isNon_eq h] at vb
    refine ⟨Den.non_inv vb, ?_⟩
    rw [va.isNon]
    exact k _ G H .same (.bl _)
  · cases e
def flatD : D → Bool
  | .non => true
  | .bl _ => true
  | .int _ => true
  | .str _ => true
  | _ => false
def eqFl : D → D → Bool
  | .non, .non => true
  | .bl a, .bl b => a == b
  | .bl a, .int b => (if a then 1 else 0) == b
  | .int a, .bl b => a == (if b then 1 else 0)
  | .int a, .int b => a == b
  | .str a, .str b => a == b
  | _, _ => false
theorem Den.flat {v : V} {d : D} (h : Den K mg G v d) (f : flatD d = true) : flatV v = true := by
  cases h <;> first | rfl | cases f
theorem Den.eqV {v u : V} {d e : D} (h : Den K mg G v d) (h' : Den K mg G u e) (f : flatD d = true) (f' : flatD e = true) : eqV v u = eqFl d e := by
  cases h <;> first | (exact absurd f Bool.false_ne_true) | (cases h' <;> first | rfl | (exact absurd f' Bool.false_ne_true))
def inD (x : D) (ds : List D) : Bool := ds.any fun y => eqFl y x
theorem DenL.flats : ∀ {ds : List D} {xs : List V}, DenL K mg G xs ds → ds.all flatD = true → xs.all flatV = true
  | [], xs, h, f => by rw [h.nil_inv]; rfl
  | d :: ds, xs, h, f => by
    obtain ⟨v, vs, rfl, h1, h2⟩ := h.cons_ex
    rw [List.all_cons, Bool.and_eq_true] at f
    rw [List.all_cons, h1.flat f.1, h2.flats f.2]; rfl
theorem DenL.inV {x : V} {e : D} (hx : Den K mg G x e) (fx : flatD e = true) : ∀ {ds : List D} {xs : List V}, DenL K mg G xs ds → ds.all flatD = true → inV x xs = inD e ds
  | [], xs, h, f => by rw [h.nil_inv]; rfl
  | d :: ds, xs, h, f => by
    obtain ⟨v, vs, rfl, h1, h2⟩ := h.cons_ex
    rw [List.all_cons, Bool.and_eq_true] at f
    have ih := DenL.inV hx fx h2 f.2
    unfold L2.inV inD at *
    rw [List.any_cons, List.any_cons, ih, h1.eqV hx f.1 fx]
def inS (neg : Bool) (a b : RV) : Option RV := match a, seqOf b with
  | .sh x, some ds => if flatD x && ds.all flatD then some (.sh (.bl (if neg then !inD x ds else inD x ds))) else none
  | _, _ => none
theorem s_inS {neg : Bool} : OpS K mg (rIn K neg) (inS neg) := fun G H x y a b c Q ex va vb e k => by
  unfold inS at e
  split at e
  · rename_i d ds q
    split at e
    · rename_i h; cases e
      rw [Bool.and_eq_true] at h
      obtain ⟨p, xs, rfl, h1, h2⟩ := vb.seq ex q
      have va : Den K mg G x d := va
      refine ⟨p, xs, rfl, h1, va.flat h.1, h2.flats h.2, ?_⟩
      rw [DenL.inV va h.1 h2 h.2]
      exact k _ G H .same (.bl _)
    · cases e
  · cases e
def inT (neg : Bool) (a b : RV) : Option RV := match a, b with
  | .sh (.str x), .sh (.str y) => some (.sh (.bl (if neg then !(!(Builtin.Str.occurrences y x 0 y.length 1).isEmpty) else !(Builtin.Str.occurrences y x 0 y.length 1).isEmpty)))
  | _, _ => none
theorem s_inT : OpS K mg (fun x y H Q => ∃ i j, x = .str i ∧ y = .str j ∧ Q (.bl (!(Builtin.Str.occurrences j i 0 j.length 1).isEmpty)) H) (inT false) := fun G H x y a b c Q ex va vb e k => by
  unfold inT at e
  split at e
  · rename_i i j; cases e
    exact ⟨i, j, Den.str_inv va, Den.str_inv vb, k _ G H .same (.bl _)⟩
  · cases e
theorem DenL.atI {xs : List V} {ds : List D} {i : Int} {d : D} (h : DenL K mg G xs ds) (e : atI ds i = some d) : ∃ v, atI xs i = some v ∧ Den K mg G v d := by
  unfold L2.atI at *
  rw [h.1]
  cases q : ixN ds.length i with
  | none => rw [q] at e; cases e
  | some j =>
    rw [q] at e
    obtain ⟨v, h1, h2⟩ := h.get (i := j) e
    exact ⟨v, h1, h2⟩
def ixF (a b : RV) : Option RV := match b with
  | .sh (.int i) => (match listOf a with
    | some ds => (atI ds i).map .sh
    | none => match tupOf a with
      | some ds => (atI ds i).map .sh
      | none => match a with
        | .sh (.str z) => if z.length ≤ sizeLine then (atI z.cps.toList i).map fun c => .sh (.str ⟨#[c]⟩) else none
        | _ => none)
  | _ => none
theorem s_ixF : OpS K mg (rIx K) ixF := fun G H x y a b c Q ex va vb e k => by
  unfold ixF at e
  split at e
  · rename_i i
    have hy := Den.int_inv vb
    split at e
    · rename_i ds q
      simp only [Option.map_eq_some_iff] at e
      obtain ⟨d, e1, rfl⟩ := e
      obtain ⟨p, xs, rfl, h1, h2⟩ := va.list ex q
      obtain ⟨v, h3, h4⟩ := h2.atI e1
      exact .inl ⟨p, xs, i, v, rfl, hy, SqL.of h1, h3, k _ G H .same h4⟩
    · split at e
      · rename_i ds q
        simp only [Option.map_eq_some_iff] at e
        obtain ⟨d, e1, rfl⟩ := e
        obtain ⟨p, xs, rfl, h1, h2⟩ := va.tup ex q
        obtain ⟨v, h3, h4⟩ := h2.atI e1
        exact .inr (.inl ⟨p, xs, i, v, rfl, hy, h1, h3, k _ G H .same h4⟩)
      · split at e
        · rename_i z _ _
          split at e
          · rename_i hz
            simp only [Option.map_eq_some_iff] at e
            obtain ⟨c', e1, rfl⟩ := e
            exact .inr (.inr ⟨z, i, c', Den.str_inv va, hy, hz, e1, k _ G H .same (.str _)⟩)
          · cases e
        · cases e
  · cases e
end
end Z
namespace Z
open PySem PySem.Spec PyProof.Rows L2
section
variable {X : Cx} {W : WX} {pn : List Nat} {K : PySem.W.Frag} {mg : Str → Option Value} {G H : Hp}
def cutG {α : Type} (xs : List α) (lo hi : Option Int) : List α := (xs.drop (HT.sIx xs.length 0 lo)).take (HT.sIx xs.length xs.length hi - HT.sIx xs.length 0 lo)
theorem DenL.cut {xs : List V} {ds : List D} (h : DenL K mg G xs ds) (lo hi : Option Int) : DenL K mg G (cutV xs lo hi) (cutG ds lo hi) := by
  unfold cutV cutG
  rw [h.1]
  exact (h.drop _).take _
theorem cutG_whole {α : Type} {xs : List α} {lo hi : Option Int} (h : HT.sIx xs.length 0 lo = 0 ∧ HT.sIx xs.length xs.length hi = xs.length) : cutG xs lo hi = xs := by
  unfold cutG
  rw [h.1, h.2]
  simp
def slF (r : RV) (lo hi : Option Int) : Option RV := match listOf r with
  | some ds => some (.ol (cutG ds lo hi))
  | none => match r with
    | .sh (.tup ds) => some (.sh (.tup (cutG ds lo hi)))
    | .sh (.fls ds) => some (.ol (cutG ds lo hi))
    | .sh (.str z) => if z.length ≤ sizeLine then some (.sh (.str (cutS z lo hi))) else none
    | _ => none
def rSl (K : PySem.W.Frag) : V → Option Int → Option Int → Hp → VK → Prop := fun x l u H Q => rSlL K x l u H Q ∨ rSlA K x l u H Q ∨ rSlS x l u H Q
theorem sl_any : SlR X (rSl X.K) := SlR.or sl_list (SlR.or sl_tupA sl_str)
theorem s_slF {x : V} {a c : RV} {lo hi : Option Int} {Q : VK} (ex : Gh G H) (va : ViewW K mg G H x a) (e : slF a lo hi = some c) (k : ∀ v G' H', Step G H G' H' (tmps v c) → View K mg G' H' v c → Q v H') : rSl K x lo hi H Q := by
  unfold slF at e
  split at e
  · rename_i ds q
    cases e
    obtain ⟨p, xs, rfl, h1, h2⟩ := va.list ex q
    exact .inl ⟨p, xs, rfl, SqL.of h1, fun b hb => k (.ref b) G _ (.own hb) (View.of_own upd_same (ex.none hb) (h2.cut lo hi))⟩
  · split at e
    · rename_i ds _; cases e
      obtain ⟨p, xs, rfl, h1, h2⟩ := Den.tup_inv va
      refine .inr (.inl ⟨p, xs, rfl, ex.sqT h1, fun hw => ?_, fun _ b hb => ?_⟩)
      · refine k _ G H .same ?_
        rw [cutG_whole (by rw [← h2.1]; exact hw)]
        exact va
      · have st : Step G H (upd G b (.tup (cutV xs lo hi))) (upd H b (.tup (cutV xs lo hi))) [] := .shr hb
        exact k _ _ _ st (Den.tupL (SqT.of upd_same) ((h2.cut lo hi).mono (st.ex ex)))
    · rename_i ds _; cases e
      cases va with
      | fls h1 h2 h3 =>
        exact .inl ⟨_, _, rfl, ex.sqL h1, fun b hb => k (.ref b) G _ (.own hb) (View.of_own upd_same (ex.none hb) (DenL.cut ⟨h2, h3⟩ lo hi))⟩
    · rename_i z _
      split at e
      · rename_i hz; cases e
        exact .inr (.inr ⟨z, Den.str_inv va, hz, k _ G H .same (.str _)⟩)
      · cases e
    · cases e
def PPo (K : PySem.W.Frag) (mg : Str → Option Value) (W : WX) (Fh : FHp) (P : List (Nat × V)) (σ : L2.St) (G : Hp) (Q : Option Int → Hp → Prop) : Res (Option Int) → Prop
  | .ok o e => ∀ G' H', Ex G G' → SRel K mg Fh P G' H' σ e [] → Q o H'
  | .err x e => PErr K mg W Fh P σ G x e
  | .stk => False
def rdP (W : WX) (Fh : FHp) (P : List (Nat × V)) (K : PySem.W.Frag) (mg : Str → Option Value) (m : M (Option Int)) : TO := fun σ H Q => ∃ G env, SRel K mg Fh P G H σ env [] ∧ PPo K mg W Fh P σ G Q (m env)
def QP (X : Cx) (W : WX) (pn : List Nat) (e : Option Expr) (m : M (Option Int)) : Prop := ∀ Fh P, P.map (·.1) = pn → L2.PO X e (rdP W Fh P X.K X.mg m)
def asInt : RV → Option Int
  | .sh (.int i) => some i
  | _ => none
theorem ViewW.asInt {v : V} {r : RV} {i : Int} (w : ViewW K mg G H v r) (e : asInt r = some i) : v = .int i := by
  unfold Z.asInt at e
  split at e
  · cases e; exact Den.int_inv w
  · cases e
theorem View.asInt {v : V} {r : RV} {i : Int} (w : View K mg G H v r) (e : asInt r = some i) : v = .int i := w.w.asInt e
def noP : M (Option Int) := fun env => .ok none env
def someP (m : M Opd) : M (Option Int) := bindM m fun o env => match (resolve env o).bind asInt with
  | some i => .ok (some i) env
  | none => .stk
theorem qp_none : QP X W pn none noP := fun Fh P hp => ⟨fun pins s σ H Q I ⟨G, env, S, h⟩ => po_none.run pins s σ H Q I (h G H (Ex.refl _) S)⟩
theorem qp_some {e : Expr} {m : M Opd} (h : QO X W pn e m) : QP X W pn (some e) (someP m) := fun Fh P hp => ⟨fun pins s σ H Q I ⟨G, env, S, q⟩ => (po_some (h Fh P hp)).run pins s σ H Q I (by
  refine ⟨G, env, S, ?_⟩
  unfold someP bindM at q
  cases z : m env with
  | ok o e1 =>
    rw [z] at q
    intro v G1 H1 ex w S1
    simp only at q
    cases hi : (resolve e1 o).bind asInt with
    | none => rw [hi] at q; exact q.elim
    | some i =>
      rw [hi] at q
      simp only [Option.bind_eq_some_iff] at hi
      obtain ⟨r, h1, h2⟩ := hi
      exact ⟨i, (S1.resolve w h1).asInt h2, q G1 H1 ex S1⟩
  | err x e1 => rw [z] at q; exact q
  | stk => rw [z] at q; exact q)⟩
def finS (o : Opd) (l u : Option Int) (env : DEnv) : Res RV := match resolve env o with
  | some a => (match slF a l u with
    | some c => .ok c env
    | none => .stk)
  | none => .stk
def slM (m : M Opd) (ml mu : M (Option Int)) : M RV := bindM m fun o => bindM ml fun l => bindM mu fun u => finS o l u
theorem qv_sl {e : Expr} {lo hi : Option Expr} {p2 pos : Pos} {m : M Opd} {ml mu : M (Option Int)} (h : QO X W pn e m) (hl : QP X W pn lo ml) (hu : QP X W pn hi mu) : QV X W pn (.Subscript e (.Slice lo hi none p2) pos) (slM m ml mu) := fun Fh P hp =>
  PE.weak (pe_slice sl_any (h Fh P hp) (hl Fh P hp) (hu Fh P hp)) fun σ H Q ⟨G, env, S, q⟩ => by
    refine ⟨G, env, S, PO_V q fun o e1 v G1 H1 ex w S1 hk => ?_⟩
    refine ⟨G1, e1, S1, ?_⟩
    unfold bindM at hk
    cases z : ml e1 with
    | ok l e2 =>
      simp only [z] at hk
      intro G2 H2 ex2 S2
      refine ⟨G2, e2, S2, ?_⟩
      cases z2 : mu e2 with
      | ok u e3 =>
        simp only [z2] at hk
        intro G3 H3 ex3 S3
        unfold finS at hk
        cases q1 : resolve e3 o with
        | none => simp only [q1] at hk; exact hk.elim
        | some a =>
          simp only [q1] at hk
          cases q2 : slF a l u with
          | none => simp only [q2] at hk; exact hk.elim
          | some c =>
            simp only [q2] at hk
            exact s_slF S3.gh (S3.resolve (w.mono (ex2.trans ex3)) q1).w q2 fun v' G' H' st w' => hk v' G' H' ((ex2.trans ex3).trans (st.ex S3.gh)) w' (S3.step st)
      | err x e3 => simp only [z2] at hk; exact PErr.mono ex2 hk
      | stk => simp only [z2] at hk; exact hk.elim
    | err x e2 => simp only [z] at hk; exact hk
    | stk => simp only [z] at hk; exact hk
def lenF (as : List RV) : Option RV := match as with
  | [r] => (match seqOf r with
    | some ds => some (.sh (.int ds.length))
    | none => match r with
      | .sh (.str z) => if z.length ≤ sizeLine then some (.sh (.int z.length)) else none
      | _ => none)
  | _ => none
def rLen1 (K : PySem.W.Frag) : List V → Hp → VK → Prop := fun xs H Q => (∃ p ys, xs = [.ref p] ∧ (SqL K H p ys ∨ SqT K H p ys) ∧ Q (.int ys.length) H) ∨ ∃ z, xs = [.str z] ∧ z.length ≤ sizeLine ∧ Q (.int z.length) H
theorem cr_len1 : CallR X (.builtin "len") (rLen1 X.K) := CallR.or call_len_seq call_len_str
theorem Views.one {xs : List V} {a : RV} (h : Views K mg G H xs [a]) : ∃ v, xs = [v] ∧ View K mg G H v a := by
  obtain ⟨v, vs, rfl, h1, h2⟩ := h.cons_ex
  rw [h2.nil_inv]
  exact ⟨v, rfl, h1⟩
theorem ViewsW.one {xs : List V} {a : RV} (h : ViewsW K mg G H xs [a]) : ∃ v, xs = [v] ∧ ViewW K mg G H v a := by
  obtain ⟨v, vs, rfl, h1, h2⟩ := h.cons_ex
  rw [h2.nil_inv]
  exact ⟨v, rfl, h1⟩
theorem s_lenF : CallS K mg (rLen1 K) lenF := fun G H xs as c Q ex va e k => by
  unfold lenF at e
  split at e
  · rename_i r
    obtain ⟨v, rfl, w⟩ := va.one
    split at e
    · rename_i ds q; cases e
      obtain ⟨a, ys, rfl, h1, h2⟩ := w.seq ex q
      refine .inl ⟨a, ys, rfl, h1, ?_⟩
      rw [h2.1]; exact k _ G H .same (.int _)
    · split at e
      · rename_i z _
        split at e
        · rename_i hz; cases e
          rw [Den.str_inv w]
          exact .inr ⟨z, rfl, hz, k _ G H .same (.int _)⟩
        · cases e
      · cases e
  · cases e
def intF (as : List RV) : Option RV := match as with
  | [.sh (.int i)] => some (.sh (.int i))
  | [.sh (.bl b)] => some (.sh (.int (if b then 1 else 0)))
  | [.sh (.str x)] => if x.length ≤ 640 then (PySem.intText? x).map fun n => .sh (.int n) else none
  | _ => none
def rInt1 : List V → Hp → VK → Prop := fun xs H Q => ((∃ i, xs = [.int i] ∧ Q (.int i) H) ∨ ∃ k, xs = [.bl k] ∧ Q (.int (if k then 1 else 0)) H) ∨ ∃ a n, xs = [.str a] ∧ PySem.intText? a = some n ∧ a.length ≤ 640 ∧ Q (.int n) H
theorem cr_int1 : CallR X (.type "int") rInt1 := CallR.or call_int1 call_int_str
theorem s_intF : CallS K mg rInt1 intF := fun G H xs as c Q ex va e k => by
  unfold intF at e
  split at e
  · obtain ⟨v, rfl, w⟩ := va.one; cases e
    rw [Den.int_inv w]
    exact .inl (.inl ⟨_, rfl, k _ G H .same (.int _)⟩)
  · obtain ⟨v, rfl, w⟩ := va.one; cases e
    rw [Den.bl_inv w]
    exact .inl (.inr ⟨_, rfl, k _ G H .same (.int _)⟩)
  · rename_i x
    obtain ⟨v, rfl, w⟩ := va.one
    split at e
    · rename_i hz
      simp only [Option.map_eq_some_iff] at e
      obtain ⟨n, e1, rfl⟩ := e
      rw [Den.str_inv w]
      exact .inr ⟨x, n, rfl, e1, hz, k _ G H .same (.int _)⟩
    · cases e
  · cases e
def absF (as : List RV) : Option RV := match as with
  | [.sh (.int i)] => some (.sh (.int (if i < 0 then -i else i)))
  | _ => none
theorem s_absF : CallS K mg (fun xs H Q => ∃ i, xs = [.int i] ∧ Q (.int (if i < 0 then -i else i)) H) absF := fun G H xs as c Q ex va e k => by
  unfold absF at e
  split at e
  · obtain ⟨v, rfl, w⟩ := va.one; cases e
    rw [Den.int_inv w]
    exact ⟨_, rfl, k _ G H .same (.int _)⟩
  · cases e
def listF (as : List RV) : Option RV := match as with
  | [r] => (seqOf r).map .ol
  | _ => none
theorem s_listF : CallS K mg (fun xs H Q => ∃ p ys, xs = [.ref p] ∧ (SqL K H p ys ∨ SqT K H p ys) ∧ ∀ l, H l = none → Q (.ref l) (upd H l (.lst ys))) listF := fun G H xs as c Q ex va e k => by
  unfold listF at e
  split at e
  · obtain ⟨v, rfl, w⟩ := va.one
    simp only [Option.map_eq_some_iff] at e
    obtain ⟨ds, e1, rfl⟩ := e
    obtain ⟨a, ys, rfl, h1, h2⟩ := w.seq ex e1
    exact ⟨a, ys, rfl, h1, fun b hb => k (.ref b) G _ (.own hb) (View.of_own upd_same (ex.none hb) h2)⟩
  · cases e
def tupleF (as : List RV) : Option RV := match as with
  | [r] => (match listOf r with
    | some ds => some (.sh (.tup ds))
    | none => (tupOf r).map fun ds => .sh (.tup ds))
  | _ => none
theorem s_tupleF : CallS K mg (fun xs H Q => ∃ p ys, xs = [.ref p] ∧ ((SqL K H p ys ∧ ∀ l, H l = none → Q (.ref l) (upd H l (.tup ys))) ∨ (SqT K H p ys ∧ Q (.ref p) H))) tupleF := fun G H xs as c Q ex va e k => by
  unfold tupleF at e
  split at e
  · rename_i r
    obtain ⟨v, rfl, w⟩ := va.one
    split at e
    · rename_i ds q; cases e
      obtain ⟨a, ys, rfl, h1, h2⟩ := w.list ex q
      refine ⟨a, ys, rfl, .inl ⟨SqL.of h1, fun b hb => ?_⟩⟩
      have st : Step G H (upd G b (.tup ys)) (upd H b (.tup ys)) [] := .shr hb
      exact k _ _ _ st (Den.tupL (SqT.of upd_same) (h2.mono (st.ex ex)))
    · simp only [Option.map_eq_some_iff] at e
      obtain ⟨ds, e1, rfl⟩ := e
      have w' := w
      obtain ⟨a, ys, rfl, h1, h2⟩ := w.tup ex e1
      refine ⟨a, ys, rfl, .inr ⟨h1, k _ G H .same ?_⟩⟩
      unfold tupOf at e1
      split at e1
      · cases e1; exact w'
      · cases e1
  · cases e
def boolsOf : List D → Option (List Bool)
  | [] => some []
  | .bl b :: ds => (boolsOf ds).map (b :: ·)
  | _ :: _ => none
theorem DenL.bools : ∀ {ds : List D} {xs : List V} {bs : List Bool}, DenL K mg G xs ds → boolsOf ds = some bs → xs = bs.map V.bl
  | [], xs, bs, h, e => by cases e; exact h.nil_inv
  | .bl b :: ds, xs, bs, h, e => by
    obtain ⟨v, vs, rfl, h1, h2⟩ := h.cons_ex
    simp only [boolsOf, Option.map_eq_some_iff] at e
    obtain ⟨bs', e1, rfl⟩ := e
    rw [Den.bl_inv h1, h2.bools e1]; rfl
  | .non :: ds, xs, bs, h, e => by cases e
  | .int _ :: ds, xs, bs, h, e => by cases e
  | .str _ :: ds, xs, bs, h, e => by cases e
  | .tup _ :: ds, xs, bs, h, e => by cases e
  | .lst _ :: ds, xs, bs, h, e => by cases e
  | .fls _ :: ds, xs, bs, h, e => by cases e
  | .dct _ :: ds, xs, bs, h, e => by cases e
  | .obj _ _ :: ds, xs, bs, h, e => by cases e
def allF (as : List RV) : Option RV := match as with
  | [r] => ((listOf r).bind boolsOf).map fun bs => .sh (.bl (bs.all id))
  | _ => none
theorem s_allF : CallS K mg (rAll K) allF := fun G H xs as c Q ex va e k => by
  unfold allF at e
  split at e
  · obtain ⟨v, rfl, w⟩ := va.one
    simp only [Option.map_eq_some_iff, Option.bind_eq_some_iff] at e
    obtain ⟨bs, ⟨ds, e1, e2⟩, rfl⟩ := e
    obtain ⟨a, ys, rfl, h1, h2⟩ := w.list ex e1
    exact ⟨a, bs, rfl, SqL.of (by rw [← h2.bools e2]; exact h1), k _ G H .same (.bl _)⟩
  · cases e
def truF (r : RV) : Option Bool := match r with
  | .sh .non => some false
  | .sh (.bl b) => some b
  | .sh (.int i) => some (i != 0)
  | .sh (.str y) => if y.length ≤ sizeLine then some ((y.length : Int) != 0) else none
  | r => (seqOf r).map fun ds => !ds.isEmpty
theorem ViewW.tru (ex : Gh G H) {v : V} {r : RV} {b : Bool} (w : ViewW K mg G H v r) (e : truF r = some b) : TruV K v H b := by
  have seq : ∀ {r : RV}, ViewW K mg G H v r → (seqOf r).map (fun ds => !ds.isEmpty) = some b → TruV K v H b := fun {r} w e => by
    simp only [Option.map_eq_some_iff] at e
    obtain ⟨ds, e1, rfl⟩ := e
    obtain ⟨a, ys, rfl, h1, h2⟩ := w.seq ex e1
    have hl : (!ds.isEmpty) = !ys.isEmpty := by
      have := h2.1
      cases ds <;> cases ys <;> first | rfl | (simp at this)
    rw [hl]
    rcases h1 with h1 | h1
    · exact .inl ⟨ys, h1, rfl⟩
    · exact .inr (.inl ⟨ys, h1, rfl⟩)
  unfold truF at e
  split at e
  · cases e; rw [Den.non_inv w]; rfl
  · cases e; rw [Den.bl_inv w]; rfl
  · cases e; rw [Den.int_inv w]; rfl
  · split at e
    · rename_i h; cases e; rw [Den.str_inv w]; exact ⟨h, rfl⟩
    · cases e
  · exact seq w e
theorem View.tru (ex : Gh G H) {v : V} {r : RV} {b : Bool} (w : View K mg G H v r) (e : truF r = some b) : TruV K v H b := w.w.tru ex e
def truM (m : M Opd) : M Bool := bindM m fun o env => match resolve env o with
  | some r => (match truF r with
    | some b => .ok b env
    | none => .stk)
  | none => .stk
theorem qt_truth {e : Expr} {m : M Opd} (h : QO X W pn e m) (he : ∀ whole, isTrue e X.env whole = (do let v ← whole; standAt e.pos; holding [v] (truthy v))) : QT X W pn e (truM m) := fun Fh P hp =>
  PT.weak (pt_truth (h Fh P hp) he) fun σ H Q ⟨G, env, S, q⟩ => by
    refine ⟨G, env, S, PO_B q fun o e1 v G1 H1 ex w S1 hk => ?_⟩
    split at hk
    · rename_i r q1
      split at hk
      · rename_i b q2
        exact ⟨b, (S1.resolve w q1).tru S1.gh q2, hk G1 H1 (Ex.refl _) S1⟩
      · exact hk.elim
    · exact hk.elim
def notM (m : M Bool) : M Bool := bindM m fun b env => .ok (!b) env
theorem qt_not {a : Expr} {pos : Pos} {m : M Bool} (h : QT X W pn a m) : QT X W pn (.UnaryOp .Not a pos) (notM m) := fun Fh P hp =>
  PT.weak (pt_not (h Fh P hp)) fun σ H Q ⟨G, env, S, q⟩ => ⟨G, env, S, PB_B q fun b e1 G1 H1 ex S1 hk => hk G1 H1 (Ex.refl _) S1⟩
def andM (ma mb : M Bool) : M Bool := bindM ma fun b => if b = true then mb else fun env => .ok false env
def orM (ma mb : M Bool) : M Bool := bindM ma fun b => if b = true then (fun env => .ok true env) else mb
theorem qw_and1 {a : Expr} {pos : Pos} {m : M Bool} (h : QT X W pn a m) : QW X W pn (.BoolOp .And [a] pos) m := fun Fh P hp => pw_and1 (h Fh P hp)
theorem qw_or1 {a : Expr} {pos : Pos} {m : M Bool} (h : QT X W pn a m) : QW X W pn (.BoolOp .Or [a] pos) m := fun Fh P hp => pw_or1 (h Fh P hp)
theorem qw_and {a b : Expr} {rest : List Expr} {pos : Pos} {ma mb : M Bool} (ha : QT X W pn a ma) (hb : QW X W pn (.BoolOp .And (b :: rest) pos) mb) : QW X W pn (.BoolOp .And (a :: b :: rest) pos) (andM ma mb) := fun Fh P hp =>
  PW.weak (pw_and (ha Fh P hp) (hb Fh P hp)) fun σ H Q ⟨G, env, S, q⟩ => by
    refine ⟨G, env, S, PB_B q fun c e1 G1 H1 ex S1 hk => ?_⟩
    cases c with
    | true => exact ⟨G1, e1, S1, hk⟩
    | false => exact hk G1 H1 (Ex.refl _) S1
theorem qw_or {a b : Expr} {rest : List Expr} {pos : Pos} {ma mb : M Bool} (ha : QT X W pn a ma) (hb : QW X W pn (.BoolOp .Or (b :: rest) pos) mb) : QW X W pn (.BoolOp .Or (a :: b :: rest) pos) (orM ma mb) := fun Fh P hp =>
  PW.weak (pw_or (ha Fh P hp) (hb Fh P hp)) fun σ H Q ⟨G, env, S, q⟩ => by
    refine ⟨G, env, S, PB_B q fun c e1 G1 H1 ex S1 hk => ?_⟩
    cases c with
    | true => exact hk G1 H1 (Ex.refl _) S1
    | false => exact ⟨G1, e1, S1, hk⟩
theorem qt_w {e : Expr} {m : M Bool} (h : QW X W pn e m) : QT X W pn e m := fun Fh P hp => PW.pt (h Fh P hp)
def ifM (mt : M Bool) (ma mb : M RV) : M RV := bindM mt fun b => if b = true then ma else mb
end
end Z
namespace Z
open PySem PySem.Spec PyProof.Rows L2
inductive FRes where
  | ok (r : RV) (as : List RV)
  | err (x : Exn) (as : List RV)
  | stk
abbrev FnD := List RV → FRes
/-- the object at a is lent to the call -/
def OwnAt (vs : List V) (rs : List RV) (a : Addr) : Prop := ∃ (j : Nat) (r : RV), rs[j]? = some r ∧ r.own = true ∧ vs[j]? = some (.ref a)
def Dist (vs : List V) (rs : List RV) : Prop := ∀ (i j : Nat) (r r' : RV) (a : Addr), rs[i]? = some r → rs[j]? = some r' → r.own = true → r'.own = true → vs[i]? = some (.ref a) → vs[j]? = some (.ref a) → i = j
def Frm (G H : Hp) (vs : List V) (rs : List RV) (G' H' : Hp) : Prop := ∀ b o, H b = some o → G b = none → ¬ OwnAt vs rs b → Grow o (H' b) ∧ G' b = none
/-- the shared part of a heap, its tables told -/
def GH (K : PySem.W.Frag) (G H : Hp) : Prop := Gh G H ∧ TabInv K G H
/-- what is lent comes back, or is shared -/
def Sub (rs rs' : List RV) : Prop := ∀ (j : Nat) (r' : RV), rs'[j]? = some r' → r'.own = true → ∃ r, rs[j]? = some r ∧ r.own = true
structure Back (K : PySem.W.Frag) (mg : Str → Option Value) (G H : Hp) (vs : List V) (rs : List RV) (G' H' : Hp) (rs' : List RV) : Prop where
  ex : Ex G G'
  gh : GH K G' H'
  frm : Frm G H vs rs G' H'
  views : Views K mg G' H' vs rs'
  sub : Sub rs rs'
  mkn : ∀ a ps, G' a = some (.tbl ps) → G a = some (.tbl ps)
  frk : ∀ a ps, G a = some (.tbl ps) → H' a = H a
def TmpOk (H : Hp) (vs : List V) (rs rs' : List RV) (v : V) (r : RV) : Prop := ∀ a ∈ tmps v r, (H a = none ∨ OwnAt vs rs a) ∧ ¬ OwnAt vs rs' a
def PF (K : PySem.W.Frag) (mg : Str → Option Value) (G H : Hp) (vs : List V) (rs : List RV) (Q : VK) (E : XK) : FRes → Prop
  | .ok r rs' => ∀ v G' H', Back K mg G H vs rs G' H' rs' → View K mg G' H' v r → TmpOk H vs rs rs' v r → Q v H'
  | .err x rs' => ∀ cls d G' H', Back K mg G H vs rs G' H' rs' → XR K mg G' cls d x → E cls d H'
  | .stk => False
/-- the promise of a def that is worth m -/
def spOf (K : PySem.W.Frag) (mg : Str → Option Value) (n : Nat) (m : FnD) : Sp := fun vs H Q E => ∃ G rs, GH K G H ∧ vs.length = n ∧ Views K mg G H vs rs ∧ Dist vs rs ∧ PF K mg G H vs rs Q E (m rs)
def wb : List Opd → List RV → List RV → DEnv → DEnv
  | .slot i :: os, r :: rs, r' :: rs', env => if r.own = true then wb os rs rs' (env.set i (some r')) else wb os rs rs' env
  | .val _ :: os, _ :: rs, _ :: rs', env => wb os rs rs' env
  | _, _, _, env => env
def lent : List Opd → List RV → List Nat
  | .slot i :: os, r :: rs => if r.own = true then i :: lent os rs else lent os rs
  | .val _ :: os, _ :: rs => lent os rs
  | _, _ => []
def finF (f : FnD) (os : List Opd) (env : DEnv) : Res RV := match resolves env os with
  | some rs => if (lent os rs).Nodup then (match f rs with
    | .ok r rs' => if rs'.length = rs.length then .ok r (wb os rs rs' env) else .stk
    | .err x rs' => if rs'.length = rs.length then .err x (wb os rs rs' env) else .stk
    | .stk => .stk) else .stk
  | none => .stk
theorem wb_len : ∀ (os : List Opd) (rs rs' : List RV) (env : DEnv), (wb os rs rs' env).length = env.length
  | [], rs, rs', env => by cases rs <;> cases rs' <;> rfl
  | .val _ :: os, [], rs', env => by cases rs' <;> rfl
  | .slot _ :: os, [], rs', env => by cases rs' <;> rfl
  | .val _ :: os, _ :: _, [], env => rfl
  | .slot _ :: os, _ :: _, [], env => rfl
  | .val _ :: os, r :: rs, r' :: rs', env => by unfold wb; exact wb_len os rs rs' env
  | .slot i :: os, r :: rs, r' :: rs', env => by
    unfold wb
    split
    · rw [wb_len]; simp
    · exact wb_len os rs rs' env
/-- a slot behind the call: as it was, or what came back -/
theorem wb_get : ∀ {os : List Opd} {rs rs' : List RV} {env : DEnv} {i : Nat} {x : RV}, rs.length = os.length → rs'.length = rs.length → (wb os rs rs' env)[i]? = some (some x) →
    (env[i]? = some (some x) ∧ ∀ (j : Nat) (r : RV), os[j]? = some (Opd.slot i) → rs[j]? = some r → r.own = false) ∨ ∃ (j : Nat) (r : RV), os[j]? = some (Opd.slot i) ∧ rs[j]? = some r ∧ r.own = true ∧ rs'[j]? = some x
  | [], rs, rs', env, i, x, h1, h2, h => by
    have : rs = [] := by simpa using h1
    subst this
    refine .inl ⟨?_, fun j r a => by simp at a⟩
    cases rs' <;> exact h
  | .val d :: os, r :: rs, r' :: rs', env, i, x, h1, h2, h => by
    unfold wb at h
    rcases wb_get (by simpa using h1) (by simpa using h2) h with ⟨a, b⟩ | ⟨j, r1, a, b, c, d'⟩
    · refine .inl ⟨a, fun j r1 p q => ?_⟩
      cases j with
      | zero => simp at p
      | succ j => exact b j r1 (by simpa using p) (by simpa using q)
    · exact .inr ⟨j + 1, r1, by simpa using a, by simpa using b, c, by simpa using d'⟩
  | .slot n :: os, r :: rs, r' :: rs', env, i, x, h1, h2, h => by
    unfold wb at h
    by_cases hr : r.own = true
    · rw [if_pos hr] at h
      rcases wb_get (by simpa using h1) (by simpa using h2) h with ⟨a, b⟩ | ⟨j, r1, a, b, c, d'⟩
      · by_cases hn : n = i
        · subst hn
          by_cases hl : n < env.length
          · rw [List.getElem?_set_self hl] at a
            exact .inr ⟨0, r, rfl, rfl, hr, by simpa using a⟩
          · rw [List.getElem?_eq_none (by simpa using hl)] at a; cases a
        · rw [List.getElem?_set_ne hn] at a
          refine .inl ⟨a, fun j r1 p q => ?_⟩
          cases j with
          | zero => simp at p; exact absurd p hn
          | succ j => exact b j r1 (by simpa using p) (by simpa using q)
      · exact .inr ⟨j + 1, r1, by simpa using a, by simpa using b, c, by simpa using d'⟩
    · rw [if_neg hr] at h
      rcases wb_get (by simpa using h1) (by simpa using h2) h with ⟨a, b⟩ | ⟨j, r1, a, b, c, d'⟩
      · refine .inl ⟨a, fun j r1 p q => ?_⟩
        cases j with
        | zero => simp at q; subst q; simpa using hr
        | succ j => exact b j r1 (by simpa using p) (by simpa using q)
      · exact .inr ⟨j + 1, r1, by simpa using a, by simpa using b, c, by simpa using d'⟩
theorem resolves_len : ∀ {os : List Opd} {env : DEnv} {rs : List RV}, resolves env os = some rs → rs.length = os.length
  | [], env, rs, h => by cases h; rfl
  | o :: os, env, rs, h => by
    unfold resolves at h
    split at h
    · rename_i r rs' q1 q2; cases h
      simp [resolves_len q2]
    · cases h
theorem resolves_get : ∀ {os : List Opd} {env : DEnv} {rs : List RV} {j : Nat} {r : RV}, resolves env os = some rs → rs[j]? = some r → ∃ o, os[j]? = some o ∧ resolve env o = some r
  | [], env, rs, j, r, h, e => by cases h; simp at e
  | o :: os, env, rs, j, r, h, e => by
    unfold resolves at h
    split at h
    · rename_i r1 rs' q1 q2; cases h
      cases j with
      | zero => simp at e; subst e; exact ⟨o, rfl, q1⟩
      | succ j => exact resolves_get (os := os) q2 (by simpa using e)
    · cases h
theorem lent_mem : ∀ {os : List Opd} {rs : List RV} {j i : Nat} {r : RV}, os[j]? = some (.slot i) → rs[j]? = some r → r.own = true → i ∈ lent os rs
  | [], rs, j, i, r, h, _, _ => by simp at h
  | o :: os, [], j, i, r, _, h, _ => by simp at h
  | o :: os, r1 :: rs, 0, i, r, h, h', hr => by
    simp at h h'; subst h; subst h'
    unfold lent; rw [if_pos hr]; exact List.mem_cons_self
  | .val d :: os, r1 :: rs, j + 1, i, r, h, h', hr => by
    unfold lent
    exact lent_mem (j := j) (by simpa using h) (by simpa using h') hr
  | .slot n :: os, r1 :: rs, j + 1, i, r, h, h', hr => by
    unfold lent
    have := lent_mem (os := os) (rs := rs) (j := j) (by simpa using h) (by simpa using h') hr
    split
    · exact List.mem_cons_of_mem _ this
    · exact this
theorem lent_inj : ∀ {os : List Opd} {rs : List RV} {j k i : Nat} {r r' : RV}, (lent os rs).Nodup → os[j]? = some (.slot i) → os[k]? = some (.slot i) → rs[j]? = some r → rs[k]? = some r' → r.own = true → r'.own = true → j = k
  | [], rs, j, k, i, r, r', _, h, _, _, _, _, _ => by simp at h
  | o :: os, [], j, k, i, r, r', _, _, _, h, _, _, _ => by simp at h
  | o :: os, r1 :: rs, 0, 0, i, r, r', _, _, _, _, _, _, _ => rfl
  | o :: os, r1 :: rs, 0, k + 1, i, r, r', nd, h1, h2, h3, h4, o1, o2 => by
    simp at h1 h3; subst h1; subst h3
    unfold lent at nd; rw [if_pos o1] at nd
    exact absurd (lent_mem (os := os) (rs := rs) (j := k) (by simpa using h2) (by simpa using h4) o2) (List.nodup_cons.mp nd).1
  | o :: os, r1 :: rs, j + 1, 0, i, r, r', nd, h1, h2, h3, h4, o1, o2 => by
    simp at h2 h4; subst h2; subst h4
    unfold lent at nd; rw [if_pos o2] at nd
    exact absurd (lent_mem (os := os) (rs := rs) (j := j) (by simpa using h1) (by simpa using h3) o1) (List.nodup_cons.mp nd).1
  | o :: os, r1 :: rs, j + 1, k + 1, i, r, r', nd, h1, h2, h3, h4, o1, o2 => by
    have nd' : (lent os rs).Nodup := by
      cases o with
      | val d => unfold lent at nd; exact nd
      | slot n =>
        unfold lent at nd
        split at nd
        · exact (List.nodup_cons.mp nd).2
        · exact nd
    rw [lent_inj (os := os) (rs := rs) (j := j) (k := k) nd' (by simpa using h1) (by simpa using h2) (by simpa using h3) (by simpa using h4) o1 o2]
section
variable {X : Cx} {W : WX} {pn : List Nat} {K : PySem.W.Frag} {mg : Str → Option Value} {Fh : FHp} {P : List (Nat × V)} {G G' H H' : Hp} {σ : L2.St} {env : DEnv} {os : List Opd} {vs : List V} {rs rs' : List RV}
theorem lent_slot (S : SRel K mg Fh P G H σ env []) (h : OpdRs K mg G σ vs os) (e : resolves env os = some rs) {j : Nat} {r : RV} (hr : rs[j]? = some r) (ho : r.own = true) : ∃ (i : Nat) (v : V), os[j]? = some (.slot i) ∧ env[i]? = some (some r) ∧ vs[j]? = some v ∧ σ[i]? = some (some v) := by
  obtain ⟨o, h1, h2⟩ := resolves_get e hr
  cases o with
  | val d => cases h2; cases ho
  | slot i =>
    have hj : j < vs.length := by rw [h.1]; exact (List.getElem?_eq_some_iff.mp h1).1
    exact ⟨i, vs[j], h1, slotOf_some h2, by simp [hj], h.2 j _ _ (by simp [hj]) h1⟩
theorem lent_dist (S : SRel K mg Fh P G H σ env []) (h : OpdRs K mg G σ vs os) (e : resolves env os = some rs) (nd : (lent os rs).Nodup) : Dist vs rs := fun i j r r' a h1 h2 o1 o2 v1 v2 => by
  obtain ⟨n, w, a1, a2, a3, a4⟩ := lent_slot S h e h1 o1
  obtain ⟨m, w', b1, b2, b3, b4⟩ := lent_slot S h e h2 o2
  rw [v1] at a3; cases a3
  rw [v2] at b3; cases b3
  have := S.dis n m r r' a a2 b2 o1 o2 a4 b4
  subst this
  exact lent_inj nd a1 b1 h1 h2 o1 o2
/-- the caller's state behind the call -/
theorem SRel.back (S : SRel K mg Fh P G H σ env []) (h : OpdRs K mg G σ vs os) (e : Z.resolves env os = some rs) (hl : rs'.length = rs.length) (B : Back K mg G H vs rs G' H' rs') {v : V} {r : RV} (w : View K mg G' H' v r) (t : TmpOk H vs rs rs' v r) :
    SRel K mg Fh P G' H' σ (wb os rs rs' env) (tmps v r) := by
  have l1 := resolves_len e
  -- what is owned behind was owned before
  have old : ∀ {i : Nat} {x : RV}, (wb os rs rs' env)[i]? = some (some x) → x.own = true → ∃ y, env[i]? = some (some y) ∧ y.own = true := fun {i x} hx ho => by
    rcases wb_get l1 hl hx with ⟨a, _⟩ | ⟨j, y, a, b, c, d⟩
    · exact ⟨x, a, ho⟩
    · obtain ⟨n, w', a1, a2, a3, a4⟩ := lent_slot S h e b c
      rw [a] at a1; cases a1
      exact ⟨y, a2, c⟩
  have lentF : ∀ {b : Addr}, OwnAt vs rs b → Fh b = none := fun {b} ⟨j, y, h1, h2, h3⟩ => by
    obtain ⟨n, w', a1, a2, a3, a4⟩ := lent_slot S h e h1 h2
    rw [h3] at a3; cases a3
    exact (S.nof n y b a2 h2 a4).1
  have keepF : ∀ b o, Fh b = some o → (∀ ps u, o ≠ .mrk ps u) → ∀ u, H b = some u → Grow u (H' b) ∧ G' b = none := fun b o q nm u hu => B.frm b u hu ((S.dj b o q).resolve_right fun ⟨ps, x, y⟩ => nm ps x y) fun z => by rw [lentF z] at q; cases q
  have fh' : FhOk K Fh G' H' := by
    refine ⟨fun b o q => ?_, S.fh.nto, fun c a ps q => S.fh.cl c a ps (B.mkn a ps q), fun a ps o q => B.ex _ _ (S.fh.mks a ps o q), B.gh.2⟩
    by_cases z : ∃ ps u, o = .mrk ps u
    · obtain ⟨ps, u, rfl⟩ := z
      have := S.fh.on b _ q
      exact (B.frk b ps (S.fh.mks b ps u q)).trans this
    · exact (S.fh.on b o q).grow (fun u hu _ => (keepF b o q (fun ps x y => z ⟨ps, x, y⟩) u hu).1) (fun o' e => S.fh.nto b o' (by rw [q, e])) fun ps x y => (z ⟨ps, x, y⟩).elim
  refine ⟨B.gh.1, fh', fun b o q => by
      by_cases z : ∃ ps u, o = .mrk ps u
      · exact .inr z
      · obtain ⟨u, hu⟩ := (S.fh.on b o q).some
        exact .inl (keepF b o q (fun ps x y => z ⟨ps, x, y⟩) u hu).2,
    S.pin, by rw [wb_len]; exact S.len, fun i x hx nt => ?_, fun i j x y a h1 h2 o1 o2 s1 s2 => ?_, fun i x a hx ho ha => ⟨?_, fun m => ?_⟩, fun a m => ?_, ?_⟩
  · rcases wb_get l1 hl hx with ⟨a, b⟩ | ⟨j, y, a, b, c, d⟩
    · obtain ⟨u, hu, wu⟩ := S.val i x a nt
      refine ⟨u, hu, wu.keep B.ex fun p o ev hr h1 h2 => ?_⟩
      obtain ⟨p', o', ep, k1, k2, k3⟩ := wu.own_inv hr
      rw [ev] at ep; cases ep
      rw [h1] at k1; cases k1
      have bf := B.frm p o h1 h2 fun ⟨j, y, z1, z2, z3⟩ => ?_
      · exact ⟨bf.1.nt k3.nt, bf.2⟩
      obtain ⟨n, w', a1, a2, a3, a4⟩ := lent_slot S h e z1 z2
      rw [z3] at a3; cases a3
      subst ev
      have := S.dis i n x y p a a2 hr z2 hu a4
      subst this
      rw [b j y a1 z1] at z2; cases z2
    · obtain ⟨n, w', a1, a2, a3, a4⟩ := lent_slot S h e b c
      rw [a] at a1; cases a1
      exact ⟨w', a4, B.views.2 j w' x a3 d⟩
  · obtain ⟨x', e1, p1⟩ := old h1 o1
    obtain ⟨y', e2, p2⟩ := old h2 o2
    exact S.dis i j x' y' a e1 e2 p1 p2 s1 s2
  · obtain ⟨x', e1, p1⟩ := old hx ho
    exact (S.nof i x' a e1 p1 ha).1
  · obtain ⟨t1, t2⟩ := t a m
    rcases wb_get l1 hl hx with ⟨z, b⟩ | ⟨j, y, z, b, c, d⟩
    · rcases t1 with t1 | ⟨j, y, z1, z2, z3⟩
      · obtain ⟨u, hu, wu⟩ := S.val i x z (RV.own_nt ho)
        rw [ha] at hu; cases hu
        obtain ⟨p, o, ep, h1, _⟩ := wu.own_inv ho
        cases ep; rw [t1] at h1; cases h1
      · obtain ⟨n, w', a1, a2, a3, a4⟩ := lent_slot S h e z1 z2
        rw [z3] at a3; cases a3
        have := S.dis i n x y a z a2 ho z2 ha a4
        subst this
        rw [b j y a1 z1] at z2; cases z2
    · obtain ⟨n, w', a1, a2, a3, a4⟩ := lent_slot S h e b c
      rw [z] at a1; cases a1
      rw [ha] at a4; cases a4
      exact t2 ⟨j, x, d, ho, a3⟩
  · obtain ⟨t1, t2⟩ := t a m
    have hF : Fh a = none := by
      rcases t1 with t1 | t1
      · exact S.fh.none t1
      · exact lentF t1
    cases hr : r.own with
    | false => unfold tmps at m; rw [if_neg (by rw [hr]; exact Bool.false_ne_true)] at m; cases m
    | true =>
      obtain ⟨p, o, ep, h1, h2, _⟩ := w.own_inv hr
      subst ep
      rw [tmps_own hr] at m
      have : a = p := by simpa using m
      subst this
      exact ⟨hF, h2, o, h1⟩
  · -- the store
    refine S.tre.keep B.ex B.mkn (fun i r0 hx it => ?_) (fun a i z f _ => ⟨B.frk a _ z, f⟩)
    rcases wb_get l1 hl hx with ⟨a, _⟩ | ⟨j, y, a, b, c, d⟩
    · exact a
    · obtain ⟨n, w', a1, a2, a3, a4⟩ := lent_slot S h e b c
      have := (B.views.2 j w' _ a3 d).nt
      rw [it] at this; cases this
theorem finF_ok {f : FnD} {n : Nat} {E : XK} {Q : VK} (S : SRel K mg Fh P G H σ env []) (h : OpdRs K mg G σ vs os) (hn : os.length = n) (q : PV K mg W Fh P σ G Q (finF f os env)) (hE : ∀ cls d H', E cls d H' ↔ W cls d σ H') : spOf K mg n f vs H Q E := by
  unfold finF at q
  cases e : resolves env os with
  | none => simp only [e] at q; exact q.elim
  | some rs =>
    simp only [e] at q
    by_cases nd : (lent os rs).Nodup
    · rw [if_pos nd] at q
      refine ⟨G, rs, ⟨S.gh, S.fh.tb⟩, by rw [h.1]; exact hn, S.resolves h e, lent_dist S h e nd, ?_⟩
      cases z : f rs with
      | ok r rs' =>
        simp only [z] at q
        by_cases hl : rs'.length = rs.length
        · rw [if_pos hl] at q
          exact fun v G' H' B w t => q v G' H' B.ex w (S.back h e hl B w t)
        · rw [if_neg hl] at q; exact q.elim
      | err x rs' =>
        simp only [z] at q
        by_cases hl : rs'.length = rs.length
        · rw [if_pos hl] at q
          refine fun cls d G' H' B w => (hE cls d H').mpr (q cls d G' H' B.ex w ?_)
          have t : TmpOk H vs rs rs' .non (.sh .non) := fun a m => by cases m
          exact S.back h e hl B (v := .non) (r := .sh .non) Den.non t
        · rw [if_neg hl] at q; exact q.elim
      | stk => simp only [z] at q; exact q.elim
    · rw [if_neg nd] at q; exact q.elim
end
end Z
namespace Z
open PySem PySem.Spec PyProof.Rows L2
inductive Out where
  | nx (e : DEnv)
  | rt (r : RV) (e : DEnv)
  | bk (e : DEnv)
  | ct (e : DEnv)
  | err (x : Exn) (e : DEnv)
  | stk
abbrev MS := DEnv → Out
def bindS {α : Type} (m : M α) (k : α → MS) : MS := fun env => match m env with
  | .ok r e => k r e
  | .err x e => .err x e
  | .stk => .stk
section
variable (K : PySem.W.Frag) (mg : Str → Option Value) (W : WX) (Fh : FHp) (P : List (Nat × V))
def PSt (D : Ends) (G : Hp) : Out → Prop
  | .nx e => ∀ σ' G' H', Ex G G' → SRel K mg Fh P G' H' σ' e [] → D.nx σ' H'
  | .rt r e => ∀ v σ' G' H', Ex G G' → View K mg G' H' v r → SRel K mg Fh P G' H' σ' e (tmps v r) → D.rt v H'
  | .bk e => ∀ σ' G' H', Ex G G' → SRel K mg Fh P G' H' σ' e [] → D.bk σ' H'
  | .ct e => ∀ σ' G' H', Ex G G' → SRel K mg Fh P G' H' σ' e [] → D.ct σ' H'
  | .err x e => ∀ cls d σ' G' H', Ex G G' → XR K mg G' cls d x → SRel K mg Fh P G' H' σ' e [] → W cls d σ' H'
  | .stk => False
def rdS (s : MS) : TS := fun D σ H => ∃ G env, SRel K mg Fh P G H σ env [] ∧ PSt K mg W Fh P D G (s env)
end
def QS (X : Cx) (W : WX) (pn : List Nat) (st : Stmt) (s : MS) : Prop := ∀ Fh P, P.map (·.1) = pn → PS X st (rdS X.K X.mg W Fh P s)
def QSs (X : Cx) (W : WX) (pn : List Nat) (st : List Stmt) (s : MS) : Prop := ∀ Fh P, P.map (·.1) = pn → PSs X st (rdS X.K X.mg W Fh P s)
section
variable {K : PySem.W.Frag} {mg : Str → Option Value} {W : WX} {Fh : FHp} {P : List (Nat × V)} {G G' H H' : Hp} {σ : L2.St} {env : DEnv} {T : List Addr} {D : Ends}
theorem PSt.mono (e : Ex G G') {o : Out} (h : PSt K mg W Fh P D G o) : PSt K mg W Fh P D G' o := by
  cases o with
  | nx _ => exact fun σ' G1 H1 e1 => h σ' G1 H1 (e.trans e1)
  | rt _ _ => exact fun v σ' G1 H1 e1 => h v σ' G1 H1 (e.trans e1)
  | bk _ => exact fun σ' G1 H1 e1 => h σ' G1 H1 (e.trans e1)
  | ct _ => exact fun σ' G1 H1 e1 => h σ' G1 H1 (e.trans e1)
  | err _ _ => exact fun c d σ' G1 H1 e1 => h c d σ' G1 H1 (e.trans e1)
  | stk => exact h
theorem SRel.drop (S : SRel K mg Fh P G H σ env T) : SRel K mg Fh P G H σ env [] := ⟨S.gh, S.fh, S.dj, S.pin, S.len, S.val, S.dis, fun i r a e o h => ⟨(S.nof i r a e o h).1, List.not_mem_nil⟩, fun a m => absurd m List.not_mem_nil, S.tre.heap (Ex.refl _) (fun _ _ q => q) (fun _ _ _ f _ => ⟨rfl, f⟩) fun b _ q2 q3 _ _ => ⟨⟨rfl, q2⟩, q3, List.not_mem_nil⟩⟩
theorem set_get {α : Type} {l : List α} {i j : Nat} {x y : α} (h : (l.set i x)[j]? = some y) : (j = i ∧ y = x ∧ i < l.length) ∨ (j ≠ i ∧ l[j]? = some y) := by
  rw [List.getElem?_set] at h
  by_cases z : i = j
  · rw [if_pos z] at h
    split at h
    · rename_i hl; exact .inl ⟨z.symm, by simpa using h.symm, hl⟩
    · cases h
  · rw [if_neg z] at h; exact .inr ⟨Ne.symm z, h⟩
/-- a value comes to a slot -/
theorem SRel.set {v : V} {r : RV} {i : Nat} (S : SRel K mg Fh P G H σ env (tmps v r)) (w : View K mg G H v r) (hi : i < env.length) (hp : i ∉ P.map (·.1)) : SRel K mg Fh P G H (σ.set i (some v)) (env.set i (some r)) [] := by
  have his : i < σ.length := by rw [S.len]; exact hi
  have ad : ∀ {a : Addr}, r.own = true → v = .ref a → a ∈ tmps v r := fun {a} hr e => by subst e; rw [tmps_own hr]; exact List.mem_singleton.mpr rfl
  have sg : ∀ {j : Nat}, j ≠ i → (σ.set i (some v))[j]? = σ[j]? := fun {j} h => List.getElem?_set_ne (Ne.symm h)
  have si : (σ.set i (some v))[i]? = some (some v) := by rw [List.getElem?_set_self his]
  refine ⟨S.gh, S.fh, S.dj, fun p hp' => ?_, by simp [S.len], fun j r' e nt => ?_, fun j k r1 r2 a h1 h2 o1 o2 s1 s2 => ?_, fun j r' a e o h => ⟨?_, List.not_mem_nil⟩, fun a m => absurd m List.not_mem_nil, S.tre.put (fun r' z => by cases z; exact w.nt) (fun r' b z ho e => by cases z; exact ad ho (Option.some.inj e)) fun b m => absurd m List.not_mem_nil⟩
  · have ne : p.1 ≠ i := fun z => hp (by rw [← z]; exact List.mem_map_of_mem hp')
    rw [sg ne]; exact S.pin p hp'
  · rcases set_get e with ⟨rfl, e1, _⟩ | ⟨ne, e1⟩
    · cases e1; exact ⟨v, si, w⟩
    · obtain ⟨u, hu, wu⟩ := S.val j r' e1 nt
      exact ⟨u, by rw [sg ne]; exact hu, wu⟩
  · rcases set_get h1 with ⟨rfl, e1, _⟩ | ⟨n1, e1⟩
    · cases e1
      rw [si] at s1; cases s1
      rcases set_get h2 with ⟨rfl, _, _⟩ | ⟨n2, e2⟩
      · rfl
      · rw [sg n2] at s2
        exact absurd (ad o1 rfl) (S.nof k r2 a e2 o2 s2).2
    · rw [sg n1] at s1
      rcases set_get h2 with ⟨rfl, e2, _⟩ | ⟨n2, e2⟩
      · cases e2
        rw [si] at s2; cases s2
        exact absurd (ad o2 rfl) (S.nof j r1 a e1 o1 s1).2
      · rw [sg n2] at s2
        exact S.dis j k r1 r2 a e1 e2 o1 o2 s1 s2
  · rcases set_get e with ⟨rfl, e1, _⟩ | ⟨ne, e1⟩
    · cases e1
      rw [si] at h; cases h
      exact (S.tmp a (ad o rfl)).1
    · rw [sg ne] at h; exact (S.nof j r' a e1 o h).1
theorem PV_S {R : VK} {m : M RV} {k : RV → MS} {D : Ends} (h : PSt K mg W Fh P D G (bindS m k env))
    (hk : ∀ r e v G' H', Ex G G' → View K mg G' H' v r → SRel K mg Fh P G' H' σ e (tmps v r) → PSt K mg W Fh P D G' (k r e) → R v H') : PV K mg W Fh P σ G R (m env) := by
  unfold bindS at h
  cases q : m env with
  | ok r e => rw [q] at h; exact fun v G1 H1 ex ho S => hk r e v G1 H1 ex ho S (PSt.mono ex h)
  | err x e => rw [q] at h; exact fun cls d G1 H1 ex hx S => h cls d σ G1 H1 ex hx S
  | stk => rw [q] at h; exact h
theorem PB_S {R : Bool → Hp → Prop} {m : M Bool} {k : Bool → MS} {D : Ends} (h : PSt K mg W Fh P D G (bindS m k env))
    (hk : ∀ r e G' H', Ex G G' → SRel K mg Fh P G' H' σ e [] → PSt K mg W Fh P D G' (k r e) → R r H') : PB K mg W Fh P σ G R (m env) := by
  unfold bindS at h
  cases q : m env with
  | ok r e => rw [q] at h; exact fun G1 H1 ex S => hk r e G1 H1 ex S (PSt.mono ex h)
  | err x e => rw [q] at h; exact fun cls d G1 H1 ex hx S => h cls d σ G1 H1 ex hx S
  | stk => rw [q] at h; exact h
theorem PO_S {R : VK} {m : M Opd} {k : Opd → MS} {D : Ends} (h : PSt K mg W Fh P D G (bindS m k env))
    (hk : ∀ o e v G' H', Ex G G' → OpdR K mg G' σ v o → SRel K mg Fh P G' H' σ e [] → PSt K mg W Fh P D G' (k o e) → R v H') : PO K mg W Fh P σ G R (m env) := by
  unfold bindS at h
  cases q : m env with
  | ok r e => rw [q] at h; exact fun v G1 H1 ex ho S => hk r e v G1 H1 ex ho S (PSt.mono ex h)
  | err x e => rw [q] at h; exact fun cls d G1 H1 ex hx S => h cls d σ G1 H1 ex hx S
  | stk => rw [q] at h; exact h
theorem POs_S {R : List V → Hp → Prop} {m : M (List Opd)} {k : List Opd → MS} {D : Ends} (h : PSt K mg W Fh P D G (bindS m k env))
    (hk : ∀ o e v G' H', Ex G G' → OpdRs K mg G' σ v o → SRel K mg Fh P G' H' σ e [] → PSt K mg W Fh P D G' (k o e) → R v H') : POs K mg W Fh P σ G R (m env) := by
  unfold bindS at h
  cases q : m env with
  | ok r e => rw [q] at h; exact fun v G1 H1 ex ho S => hk r e v G1 H1 ex ho S (PSt.mono ex h)
  | err x e => rw [q] at h; exact fun cls d G1 H1 ex hx S => h cls d σ G1 H1 ex hx S
  | stk => rw [q] at h; exact h
end
def seqM (s t : MS) : MS := fun env => match s env with
  | .nx e => t e
  | o => o
def nopM : MS := fun env => .nx env
def dropM (m : M RV) : MS := bindS m fun _ e => .nx e
def retS (m : M RV) : MS := bindS m fun r e => .rt r e
def retN : MS := fun env => .rt (.sh .non) env
/-- return x: an object that x alone holds goes out with it -/
def retName (pn : List Nat) (i : Nat) : MS := fun env => match slotOf env i with
  | some r => if r.own = true ∧ i ∉ pn then .rt r (env.set i none) else .rt (.sh r.d) (env.set i (some (.sh r.d)))
  | none => .stk
def asgM (pn : List Nat) (i : Nat) (m : M RV) : MS := bindS m fun r e => if i < e.length ∧ i ∉ pn then .nx (e.set i (some r)) else .stk
def ifS (m : M Bool) (s t : MS) : MS := bindS m fun b => if b = true then s else t
def brkM : MS := fun env => .bk env
def cntM : MS := fun env => .ct env
section
variable {X : Cx} {W : WX} {pn : List Nat} {pos : Pos}
theorem qss_nil : QSs X W pn [] nopM := fun Fh P hp => PSs.weak pss_nil fun D σ H ⟨G, env, S, q⟩ => q σ G H (Ex.refl _) S
theorem qss_cons {st : Stmt} {rest : List Stmt} {s t : MS} (h : QS X W pn st s) (h' : QSs X W pn rest t) : QSs X W pn (st :: rest) (seqM s t) := fun Fh P hp => PSs.weak (pss_cons (h Fh P hp) (h' Fh P hp)) fun D σ H ⟨G, env, S, q⟩ => by
  refine ⟨G, env, S, ?_⟩
  unfold seqM at q
  cases z : s env with
  | nx e => rw [z] at q; exact fun σ' G' H' ex S' => ⟨G', e, S', PSt.mono ex q⟩
  | rt r e => rw [z] at q; exact q
  | bk e => rw [z] at q; exact q
  | ct e => rw [z] at q; exact q
  | err x e => rw [z] at q; exact q
  | stk => rw [z] at q; exact q
theorem qs_expr {e : Expr} {m : M RV} (h : QV X W pn e m) (hs : swapsWith e none pos.line X.env = pure false) : QS X W pn (.Expr e pos) (dropM m) := fun Fh P hp => PS.weak (ps_expr (h Fh P hp) hs) fun D σ H ⟨G, env, S, q⟩ =>
  ⟨G, env, S, PV_S (σ := σ) q fun r e v G' H' ex w S' hk => hk σ G' H' (Ex.refl _) S'.drop⟩
theorem qs_ret {e : Expr} {m : M RV} (h : QV X W pn e m) : QS X W pn (.Return (some e) pos) (retS m) := fun Fh P hp => PS.weak (ps_ret (h Fh P hp)) fun D σ H ⟨G, env, S, q⟩ =>
  ⟨G, env, S, PV_S (σ := σ) q fun r e v G' H' ex w S' hk => hk v σ G' H' (Ex.refl _) w S'⟩
theorem qs_retName {i : Nat} {x : Str} {p : Pos} (hN : X.N[i]? = some x) (hv : Vis X.env.scope x) (hd : (x == ("__debug__" : Str)) = false) (hcd : (x == ("__classdict__" : Str)) = false) : QS X W pn (.Return (some (.Name x p)) pos) (retName pn i) := fun Fh P hp =>
  PS.weak (ps_ret (pe_var (pos := p) hN hv hd hcd)) fun D σ H ⟨G, env, S, q⟩ => by
    unfold retName at q
    cases z : slotOf env i with
    | none => simp only [z] at q; exact q.elim
    | some r =>
      simp only [z] at q
      have e := slotOf_some z
      obtain ⟨v, hv, w⟩ := S.sval z
      refine ⟨v, hv, ?_⟩
      by_cases hr : r.own = true ∧ i ∉ pn
      · rw [if_pos hr] at q
        refine q v σ G H (Ex.refl _) w ?_
        obtain ⟨a, o, ev, h1, h2, h3⟩ := w.own_inv hr.1
        subst ev
        rw [tmps_own hr.1]
        have old : ∀ {j : Nat} {r' : RV}, (env.set i none)[j]? = some (some r') → j ≠ i ∧ env[j]? = some (some r') := fun {j r'} h => by
          rcases set_get h with ⟨_, z, _⟩ | z
          · cases z
          · exact z
        refine ⟨S.gh, S.fh, S.dj, S.pin, by simp [S.len], fun j r' h nt => S.val j r' (old h).2 nt, fun j k r1 r2 b g1 g2 => S.dis j k r1 r2 b (old g1).2 (old g2).2, fun j r' b h o1 hb => ⟨(S.nof j r' b (old h).2 o1 hb).1, fun m => ?_⟩, fun b m => ?_, (S.tre.heap (T' := [a]) (Ex.refl _) (fun _ _ q => q) (fun _ _ _ f _ => ⟨rfl, f⟩) fun b _ q2 q3 _ q5 => ⟨⟨rfl, q2⟩, q3, fun m => q5 i r e hr.1 (by rw [List.mem_singleton.mp m]; exact hv)⟩).setE (x := none) (fun _ z => by cases z) fun _ z => by cases z⟩
        · have eb : b = a := by simpa using m
          subst eb
          exact (old h).1 (S.dis j i r' r b (old h).2 e o1 hr.1 hb hv)
        · have eb : b = a := by simpa using m
          subst eb
          exact ⟨(S.nof i r b e hr.1 hv).1, h2, o, h1⟩
      · rw [if_neg hr] at q
        obtain ⟨G2, x2, d2, S2⟩ := S.shareSlot e (slotOf_both z).2 hv
        exact q v σ G2 H x2 d2 S2
theorem qs_asg {i : Nat} {x : Str} {e : Expr} {p : Pos} {m : M RV} (hN : X.N.Nodup) (hi : X.N[i]? = some x) (hx : Loc X.env.scope x) (h : QV X W pn e m) (hs : swapsWith e (some (.Name x p)) pos.line X.env = pure false) (hf : X.fn x = true ∨ X.env.scope.names.lookup x = some .local) :
    QS X W pn (.Assign [.Name x p] e pos) (asgM pn i m) := fun Fh P hp => PS.weak (ps_set hN hi hx (h Fh P hp) hs hf) fun D σ H ⟨G, env, S, q⟩ => by
  refine ⟨G, env, S, PV_S (σ := σ) q fun r e v G' H' ex w S' hk => ?_⟩
  by_cases hc : i < e.length ∧ i ∉ pn
  · rw [if_pos hc] at hk
    exact hk _ G' H' (Ex.refl _) (S'.set w hc.1 (by rw [hp]; exact hc.2))
  · rw [if_neg hc] at hk; exact hk.elim
theorem qs_if {c : Expr} {a b : List Stmt} {m : M Bool} {s t : MS} (hc : QT X W pn c m) (ha : QSs X W pn a s) (hb : QSs X W pn b t) : QS X W pn (.If c a b pos) (ifS m s t) := fun Fh P hp => PS.weak (ps_if (hc Fh P hp) (ha Fh P hp) (hb Fh P hp)) fun D σ H ⟨G, env, S, q⟩ => by
  refine ⟨G, env, S, PB_S (σ := σ) q fun b e G' H' ex S' hk => ?_⟩
  cases b with
  | true => exact ⟨G', e, S', hk⟩
  | false => exact ⟨G', e, S', hk⟩
end
end Z
namespace Z
open PySem PySem.Spec PyProof.Rows L2
section
variable {K : PySem.W.Frag} {mg : Str → Option Value} {Fh : FHp} {P : List (Nat × V)} {G H : Hp} {σ : L2.St} {env : DEnv}
theorem SRel.mut {i : Nat} {r r' : RV} {a : Addr} {o' : HO} (S : SRel K mg Fh P G H σ env []) (e : env[i]? = some (some r)) (ho : r.own = true) (ha : σ[i]? = some (some (.ref a))) (q : ObjR K mg G a o' r') : SRel K mg Fh P G (upd H a o') σ (env.set i (some r')) [] := by
  have hi : i < env.length := (List.getElem?_eq_some_iff.mp e).1
  obtain ⟨v, hv, w⟩ := S.val i r e (RV.own_nt ho)
  rw [ha] at hv; cases hv
  obtain ⟨b, o, eb, h1, h2, h3⟩ := w.own_inv ho
  cases eb
  have hF := (S.nof i r a e ho ha).1
  have ho' := q.own
  -- an owned slot behind was owned before, and lies elsewhere
  have old : ∀ {j : Nat} {x : RV}, (env.set i (some r'))[j]? = some (some x) → x.own = true → ∃ y, env[j]? = some (some y) ∧ y.own = true := fun {j x} h hx => by
    rcases set_get h with ⟨rfl, _, _⟩ | ⟨_, h⟩
    · exact ⟨r, e, ho⟩
    · exact ⟨x, h, hx⟩
  refine ⟨S.gh.upd h2, S.fh.upd hF (nt_some h1 h3.nt) q.nt, S.dj, S.pin, by simp [S.len], fun j x h nt => ?_, fun j k x y b h1 h2 o1 o2 s1 s2 => ?_, fun j x b h hx hb => ⟨?_, List.not_mem_nil⟩, fun b m => absurd m List.not_mem_nil, (S.tre.heap (Ex.refl _) (fun _ _ q => q) (fun b i z f _ => ⟨upd_ne (ne_of_none z h2), f⟩) fun b q1 q2 q3 q4 q5 => ⟨⟨upd_ne (fun z => q5 i r e ho (by rw [z]; exact ha)), q2⟩, q3, q4⟩).setE (fun x z => by cases z; exact RV.own_nt ho') fun x z _ => ⟨r, e, ho⟩⟩
  · rcases set_get h with ⟨rfl, z, _⟩ | ⟨ne, h⟩
    · cases z; exact ⟨_, ha, View.of_own upd_same h2 q⟩
    · obtain ⟨u, hu, wu⟩ := S.val j x h nt
      refine ⟨u, hu, wu.keep (Ex.refl _) fun b o1 ev hx g1 g2 => ⟨?_, g2⟩⟩
      subst ev
      have nb : b ≠ a := fun z => ne (S.dis j i x r a h e hx ho (by rw [← z]; exact hu) ha)
      rw [upd_ne nb]; exact g1
  · obtain ⟨x', e1, p1⟩ := old h1 o1
    obtain ⟨y', e2, p2⟩ := old h2 o2
    exact S.dis j k x' y' b e1 e2 p1 p2 s1 s2
  · obtain ⟨x', e1, p1⟩ := old h hx
    exact (S.nof j x' b e1 p1 hb).1
end
/-- a built-in's method that changes its object -/
def MutS (K : PySem.W.Frag) (mg : Str → Option Value) (r : V → List V → Hp → VK → Prop) (f : RV → List D → Option (D × RV)) : Prop := ∀ (G H : Hp) (a : Addr) (o : HO) (rv rv' : RV) (vs : List V) (ds : List D) (res : D) (Q : VK), Gh G H → H a = some o → ObjR K mg G a o rv → DenL K mg G vs ds → f rv ds = some (res, rv') →
  (∀ v o', Den K mg G v res → ObjR K mg G a o' rv' → Q v (upd H a o')) → r (.ref a) vs H Q
def tyOk (T : String) (r : RV) : Bool := match r with
  | .ol _ => T == "list"
  | _ => false
def mutM (T : String) (i : Nat) (f : RV → List D → Option (D × RV)) (m : M (List Opd)) : M RV := fun env => match slotOf env i with
  | some r0 => if tyOk T r0 = true then bindM m (fun os e => match dsOf os e with
    | .ok ds e2 => (match slotOf e2 i with
      | some r => if r.own = true then (match f r ds with
        | some (res, r') => .ok (.sh res) (e2.set i (some r'))
        | none => .stk) else .stk
      | none => .stk)
    | _ => .stk) env else .stk
  | none => .stk
theorem tyOk_ty {K : PySem.W.Frag} {mg : Str → Option Value} {G H : Hp} {T : String} {v : V} {r : RV} (w : View K mg G H v r) (h : tyOk T r = true) : tyV K T v H := by
  cases r with
  | sh d => cases h
  | ol ds =>
    obtain ⟨a, o, rfl, h1, h2, h3⟩ := w
    cases o <;> first | exact h3.elim | exact .inl ⟨by simpa [tyOk] using h, _, SqL.of h1⟩
  | od _ => cases h
  | oo _ _ => cases h
  | st _ => cases h
section
variable {X : Cx} {W : WX} {pn : List Nat} {pos : Pos}
theorem qv_mut {T id : String} {name x : Str} {i : Nat} {px apos cpos : Pos} {e : Expr} {es : List Expr} {r : V → List V → Hp → VK → Prop} {f : RV → List D → Option (D × RV)} {m : M (List Opd)} (pa : PlainAttrs T) (slot : Slot T name id) (hty : typeOf (.builtin id) = pure (.type "method_descriptor")) (hm : MtR X id r) (hs : MutS X.K X.mg r f)
    (hN : X.N[i]? = some x) (hv : Vis X.env.scope x) (hd : (x == ("__debug__" : Str)) = false) (hcd : (x == ("__classdict__" : Str)) = false) (ha : QOs X W pn (e :: es) m) (hbase : attributeBase (.Name x px) name X.env (eval (.Name x px) X.env) = eval (.Name x px) X.env)
    (hfew : ((backTo cpos (starEach (e :: es) X.env)).all (fun x => !x.1) && (backToKw cpos (keywordEach [] X.env)).all (fun x => x.1.isSome)
      && decide ((e :: es).length + ([] : List Keyword).length + (if ([] : List Keyword).isEmpty then 0 else 1) < 30)) = true)
    (hline : (apos.endLine == cpos.line) = true) (hst : starEach (e :: es) X.env = (false, eval e X.env) :: starEach es X.env) (hpl : (backTo cpos (starEach es X.env)).any (·.1) = false) :
    QV X W pn (.Call (.Attribute (.Name x px) name apos) (e :: es) [] cpos) (mutM T i f m) := fun Fh P hp =>
  PE.weak (pe_bm pa slot hty hm (pe_var hN hv hd hcd) (ha Fh P hp) hbase hfew hline hst hpl) fun σ H Q ⟨G, env, S, q⟩ => by
    unfold mutM at q
    cases z : slotOf env i with
    | none => simp only [z] at q; exact q.elim
    | some r0 =>
      simp only [z] at q
      obtain ⟨v, hv, w⟩ := S.sval z
      by_cases ht : tyOk T r0 = true
      · rw [if_pos ht] at q
        refine ⟨v, hv, tyOk_ty w ht, G, env, S, POs_V q fun os e1 vs G1 H1 ex w1 S1 hk => ?_⟩
        cases z1 : dsOf os e1 with
        | err x e2 => exact (dsOf_noerr z1).elim
        | stk => simp only [z1] at hk; exact hk.elim
        | ok ds e2 =>
          simp only [z1] at hk
          obtain ⟨G2, x2, d2, S2⟩ := S1.dsOf w1 z1
          cases z2 : slotOf e2 i with
          | none => simp only [z2] at hk; exact hk.elim
          | some r1 =>
            simp only [z2] at hk
            by_cases ho : r1.own = true
            · rw [if_pos ho] at hk
              cases z3 : f r1 ds with
              | none => simp only [z3] at hk; exact hk.elim
              | some p =>
                obtain ⟨res, r'⟩ := p
                simp only [z3] at hk
                have es := slotOf_some z2
                obtain ⟨v2, hv2, wv⟩ := S2.sval z2
                rw [hv] at hv2; cases hv2
                obtain ⟨a, o, rfl, g1, g2, g3⟩ := wv.own_inv ho
                exact hs G2 H1 a o r1 r' vs ds res Q S2.gh g1 g3 d2 z3 fun u o' hu ho' => hk u G2 _ x2 hu (S2.mut es ho hv ho')
            · rw [if_neg ho] at hk; exact hk.elim
      · rw [if_neg ht] at q; exact q.elim
def appF (r : RV) (ds : List D) : Option (D × RV) := match r, ds with
  | .ol xs, [d] => if xs.length < sizeLine then some (.non, .ol (xs ++ [d])) else none
  | _, _ => none
theorem s_appF {K : PySem.W.Frag} {mg : Str → Option Value} : MutS K mg rAppend appF := fun G H a o rv rv' vs ds res Q ex h1 h3 hd e k => by
  unfold appF at e
  split at e
  · rename_i xs d
    split at e
    · rename_i hl; cases e
      obtain ⟨v, ws, rfl, hv, hn⟩ := hd.cons_ex
      rw [hn.nil_inv]
      cases o <;> first | exact h3.elim | skip
      rename_i ys
      have h3 : DenL K mg G ys xs := h3
      exact ⟨a, ys, v, rfl, rfl, h1, by rw [h3.1]; exact hl, k .non _ .non (h3.app (.one hv))⟩
    · cases e
  · cases e
def clrF (r : RV) (ds : List D) : Option (D × RV) := match r, ds with
  | .ol xs, [] => some (.non, .ol [])
  | _, _ => none
def setM (i : Nat) (mv : M Opd) (mk : M Opd) : MS := bindS mv fun o1 e1 => match dOf o1 e1 with
  | .ok d e2 => (match slotOf e2 i with
    | some _ => bindS mk (fun o2 e3 => match slotOf e3 i, (resolve e3 o2).bind asInt with
      | some (.ol ds), some k => (match ixN ds.length k with
        | some j => .nx (e3.set i (some (.ol (ds.set j d))))
        | none => .stk)
      | _, _ => .stk) e2
    | none => .stk)
  | _ => .stk
theorem qs_setL {i : Nat} {x : Str} {px tpos : Pos} {e k : Expr} {mv mk : M Opd} (hN : X.N[i]? = some x) (hv : Vis X.env.scope x) (hd : (x == ("__debug__" : Str)) = false) (hcd : (x == ("__classdict__" : Str)) = false) (he : QO X W pn e mv) (hk : QO X W pn k mk)
    (ha : ∀ v, assign (.Subscript (.Name x px) k tpos) X.env v = (do
      let ov ← holding [v] (eval (.Name x px) X.env)
      let iv ← holding [v, ov] (eval k X.env)
      standAt tpos
      holding [v, ov, iv] (setItem ov iv v)
      release [v, ov, iv] []))
    (hs : swapsWithSole [.Subscript (.Name x px) k tpos] e pos.line X.env = pure false) (hw : swappedStores [.Subscript (.Name x px) k tpos] e X.env = pure none) (h1 : (assignEach [.Subscript (.Name x px) k tpos] X.env).map (·.2) = [assign (.Subscript (.Name x px) k tpos) X.env]) :
    QS X W pn (.Assign [.Subscript (.Name x px) k tpos] e pos) (setM i mv mk) := fun Fh P hp =>
  PS.weak (ps_asg (he Fh P hp) (pg_sub (pe_var hN hv hd hcd) (hk Fh P hp) set_list ha) hs hw h1) fun D σ H ⟨G, env, S, q⟩ => by
    refine ⟨G, env, S, PO_S (σ := σ) q fun o e1 v G1 H1 ex w S1 hk => ?_⟩
    cases z1 : dOf o e1 with
    | err x e2 => exact (dOf_noerr z1).elim
    | stk => simp only [z1] at hk; exact hk.elim
    | ok d e2 =>
      simp only [z1] at hk
      obtain ⟨G2, x2, d2, S2⟩ := S1.dOf w z1
      cases z2 : slotOf e2 i with
      | none => simp only [z2] at hk; exact hk.elim
      | some r0 =>
        simp only [z2] at hk
        obtain ⟨u, hu, _⟩ := S2.sval z2
        refine ⟨u, hu, G2, e2, S2, PO_S (σ := σ) (PSt.mono x2 hk) fun o2 e3 y G3 H3 ex3 w3 S3 hk3 => ?_⟩
        cases z3 : slotOf e3 i with
        | none => simp only [z3] at hk3; exact hk3.elim
        | some r1 =>
          cases z4 : (resolve e3 o2).bind asInt with
          | none =>
            rw [z3, z4] at hk3
            cases r1 <;> exact hk3.elim
          | some kk =>
            rw [z3, z4] at hk3
            cases r1 with
            | ol ds =>
              simp only at hk3
              cases z5 : ixN ds.length kk with
              | none => simp only [z5] at hk3; exact hk3.elim
              | some j =>
                simp only [z5] at hk3
                have es := slotOf_some z3
                obtain ⟨u', hu', wu⟩ := S3.sval z3
                rw [hu] at hu'; cases hu'
                obtain ⟨a, oo, rfl, g1, g2, g3⟩ := wu
                cases oo <;> first | exact g3.elim | skip
                rename_i xs
                have g3 : DenL X.K X.mg G3 xs ds := g3
                simp only [Option.bind_eq_some_iff] at z4
                obtain ⟨r, y1, y2⟩ := z4
                exact ⟨a, xs, kk, j, rfl, (S3.resolve w3 y1).asInt y2, g1, by rw [g3.1]; exact z5, hk3 σ G3 _ (Ex.refl _) (S3.mut (o' := .lst (xs.set j v)) es rfl hu (g3.set j (d2.mono ex3)))⟩
            | sh _ => exact hk3.elim
            | od _ => exact hk3.elim
            | oo _ _ => exact hk3.elim
            | st _ => exact hk3.elim
def augM (pn : List Nat) (i : Nat) (g : Int → Int → Int) (m : M Opd) : MS := fun env => match (slotOf env i).bind asInt with
  | some a => bindS m (fun o e => match (resolve e o).bind asInt with
    | some b => if i < e.length ∧ i ∉ pn then .nx (e.set i (some (.sh (.int (g a b))))) else .stk
    | none => .stk) env
  | none => .stk
end
end Z
namespace Z
open PySem PySem.Spec PyProof.Rows L2
def ownIx : Nat → List RV → List Nat
  | _, [] => []
  | k, r :: rs => if r.own = true then k :: ownIx (k + 1) rs else ownIx (k + 1) rs
def pinsOf : Nat → List V → List RV → List (Nat × V)
  | k, v :: vs, r :: rs => if r.own = true then (k, v) :: pinsOf (k + 1) vs rs else pinsOf (k + 1) vs rs
  | _, _, _ => []
theorem pins_ix : ∀ {k : Nat} {vs : List V} {rs : List RV}, vs.length = rs.length → (pinsOf k vs rs).map (·.1) = ownIx k rs
  | k, [], [], _ => rfl
  | k, v :: vs, r :: rs, h => by
    have ih := pins_ix (k := k + 1) (vs := vs) (rs := rs) (by simpa using h)
    unfold pinsOf ownIx
    split
    · rw [List.map_cons, ih]
    · exact ih
  | k, [], r :: rs, h => by simp at h
  | k, v :: vs, [], h => by simp at h
theorem pins_at : ∀ {k : Nat} {vs : List V} {rs : List RV} {p : Nat × V}, p ∈ pinsOf k vs rs → ∃ j r, p.1 = k + j ∧ vs[j]? = some p.2 ∧ rs[j]? = some r ∧ r.own = true
  | k, v :: vs, r :: rs, p, h => by
    unfold pinsOf at h
    have rec_ : p ∈ pinsOf (k + 1) vs rs → ∃ j r', p.1 = k + j ∧ (v :: vs)[j]? = some p.2 ∧ (r :: rs)[j]? = some r' ∧ r'.own = true := fun h => by
      obtain ⟨j, r', h1, h2, h3, h4⟩ := pins_at h
      exact ⟨j + 1, r', by omega, by simpa using h2, by simpa using h3, h4⟩
    split at h
    · rename_i hr
      rcases List.mem_cons.mp h with e | h
      · subst e; exact ⟨0, r, rfl, rfl, rfl, hr⟩
      · exact rec_ h
    · exact rec_ h
  | k, [], rs, p, h => by unfold pinsOf at h; cases h
  | k, v :: vs, [], p, h => by unfold pinsOf at h; cases h
theorem own_pin : ∀ {k : Nat} {vs : List V} {rs : List RV} {j : Nat} {r : RV} {v : V}, rs[j]? = some r → vs[j]? = some v → r.own = true → (k + j, v) ∈ pinsOf k vs rs
  | k, v :: vs, r :: rs, 0, r', v', h1, h2, ho => by
    simp at h1 h2; subst h1; subst h2
    unfold pinsOf; rw [if_pos ho]; exact List.mem_cons_self
  | k, v :: vs, r :: rs, j + 1, r', v', h1, h2, ho => by
    have ih := own_pin (k := k + 1) (vs := vs) (rs := rs) (j := j) (by simpa using h1) (by simpa using h2) ho
    rw [show k + 1 + j = k + (j + 1) by omega] at ih
    unfold pinsOf
    split
    · exact List.mem_cons_of_mem _ ih
    · exact ih
  | k, [], rs, j, r, v, h1, h2, ho => by simp at h2
  | k, v :: vs, [], j, r, v', h1, h2, ho => by simp at h1
/-- what was lent, as the body leaves it -/
def backD : List RV → DEnv → Option (List RV)
  | [], _ => some []
  | r :: rs, x :: e => if r.own = true then (match hidT x with
    | some r' => (backD rs e).map (r' :: ·)
    | none => none) else (backD rs e).map (r :: ·)
  | _ :: _, [] => none
theorem backD_get : ∀ {rs : List RV} {e : DEnv} {rs' : List RV} {j : Nat} {r' : RV}, backD rs e = some rs' → rs'[j]? = some r' → ∃ r, rs[j]? = some r ∧ ((r.own = true ∧ e[j]? = some (some r') ∧ r'.isT = false) ∨ (r.own = false ∧ r' = r))
  | [], e, rs', j, r', h, h' => by cases h; simp at h'
  | r :: rs, [], rs', j, r', h, h' => by cases h
  | r :: rs, x :: e, rs', j, r', h, h' => by
    unfold backD at h
    by_cases ho : r.own = true
    · rw [if_pos ho] at h
      cases hx : hidT x with
      | none => rw [hx] at h; cases h
      | some y =>
        rw [hx] at h
        obtain ⟨rfl, hy⟩ := hidT_some hx
        simp only [Option.map_eq_some_iff] at h
        obtain ⟨t, h1, rfl⟩ := h
        cases j with
        | zero => simp at h'; subst h'; exact ⟨r, rfl, .inl ⟨ho, rfl, hy⟩⟩
        | succ j =>
          obtain ⟨r0, a, b⟩ := backD_get (rs := rs) (e := e) (j := j) h1 (by simpa using h')
          exact ⟨r0, by simpa using a, by simpa using b⟩
    · rw [if_neg ho] at h
      simp only [Option.map_eq_some_iff] at h
      obtain ⟨t, h1, rfl⟩ := h
      cases j with
      | zero => simp at h'; subst h'; exact ⟨r, rfl, .inr ⟨by simpa using ho, rfl⟩⟩
      | succ j =>
        obtain ⟨r0, a, b⟩ := backD_get (rs := rs) (e := e) (j := j) h1 (by simpa using h')
        exact ⟨r0, by simpa using a, by simpa using b⟩
theorem backD_len : ∀ {rs : List RV} {e : DEnv} {rs' : List RV}, backD rs e = some rs' → rs'.length = rs.length
  | [], e, rs', h => by cases h; rfl
  | r :: rs, [], rs', h => by cases h
  | r :: rs, x :: e, rs', h => by
    unfold backD at h
    split at h
    · cases hx : hidT x with
      | none => rw [hx] at h; cases h
      | some y =>
        rw [hx] at h
        simp only [Option.map_eq_some_iff] at h
        obtain ⟨t, h1, rfl⟩ := h
        simp [backD_len h1]
    · simp only [Option.map_eq_some_iff] at h
      obtain ⟨t, h1, rfl⟩ := h
      simp [backD_len h1]
/-- a def's body, called with rs; nN: the number of its slots -/
def runD (nN : Nat) (s : List Nat → MS) : FnD := fun rs => match s (ownIx 0 rs) (rs.map some ++ List.replicate (nN - rs.length) none) with
  | .nx e => (match backD rs e with
    | some rs' => .ok (.sh .non) rs'
    | none => .stk)
  | .rt r e => (match backD rs e with
    | some rs' => .ok r rs'
    | none => .stk)
  | .err x e => (match backD rs e with
    | some rs' => .err x rs'
    | none => .stk)
  | _ => .stk
open Classical in
/-- what the caller has besides -/
noncomputable def foreign (G H : Hp) (vs : List V) (rs : List RV) : FHp := ⟨false, fun b => match G b with
  | none => if ¬ OwnAt vs rs b then (H b).map toFO else none
  | some (.tbl ps) => (H b).map (.mrk ps)
  | some _ => none⟩
theorem toFO_nm {u : HO} {ps : Array Value} {o : HO} : toFO u ≠ .mrk ps o := by cases u <;> exact nofun
section
variable {K : PySem.W.Frag} {mg : Str → Option Value} {G H : Hp} {vs : List V} {rs : List RV}
theorem foreign_some {b : Addr} {o : FO} (h : foreign G H vs rs b = some o) : (G b = none ∧ ¬ OwnAt vs rs b ∧ ∃ u, o = toFO u ∧ H b = some u) ∨ ∃ ps u, G b = some (.tbl ps) ∧ o = .mrk ps u ∧ H b = some u := by
  unfold foreign at h
  simp only at h
  split at h
  · rename_i g
    split at h
    · rename_i q
      cases z : H b with
      | none => rw [z] at h; cases h
      | some u => rw [z] at h; cases h; exact .inl ⟨g, q, u, rfl, rfl⟩
    · cases h
  · rename_i ps g
    cases z : H b with
    | none => rw [z] at h; cases h
    | some u => rw [z] at h; cases h; exact .inr ⟨ps, u, g, rfl, rfl⟩
  · cases h
theorem foreign_none {b : Addr} (h : foreign G H vs rs b = none) (h' : H b ≠ none) (hg : G b = none) : OwnAt vs rs b := by
  unfold foreign at h
  simp only [hg] at h
  split at h
  · cases z : H b with
    | none => exact absurd z h'
    | some u => rw [z] at h; cases h
  · rename_i q
    exact Classical.byContradiction fun z => q z
theorem own_none (vw : Views K mg G H vs rs) {b : Addr} (h : OwnAt vs rs b) : G b = none := by
  obtain ⟨j, r, h1, h2, h3⟩ := h
  obtain ⟨a, o, e, _, g, _⟩ := (vw.2 j _ r h3 h1).own_inv h2
  cases e; exact g
theorem foreign_own (vw : Views K mg G H vs rs) {b : Addr} (h : OwnAt vs rs b) : foreign G H vs rs b = none := by
  unfold foreign
  simp only [own_none vw h]
  rw [if_neg fun z => z h]
theorem foreign_at {b : Addr} {o : HO} (h : H b = some o) (hg : G b = none) (hn : ¬ OwnAt vs rs b) : foreign G H vs rs b = some (toFO o) := by
  unfold foreign
  simp only [hg]
  rw [if_pos hn, h]; rfl
theorem foreign_mrk {b : Addr} {o : HO} {ps : Array Value} (h : H b = some o) (hg : G b = some (.tbl ps)) : foreign G H vs rs b = some (.mrk ps o) := by
  unfold foreign
  simp only [hg, h]; rfl
theorem start_get {N : List Str} {i : Nat} : (L2.start N vs)[i]? = if i < vs.length then (vs[i]?).map some else if i < vs.length + (N.length - vs.length) then some none else none := by
  unfold L2.start
  by_cases h : i < vs.length
  · rw [if_pos h, List.getElem?_append_left (by simpa using h), List.getElem?_map]
  · rw [if_neg h, List.getElem?_append_right (by simpa using h), List.getElem?_replicate]
    simp only [List.length_map]
    by_cases h2 : i < vs.length + (N.length - vs.length)
    · rw [if_pos h2, if_pos (by omega)]
    · rw [if_neg h2, if_neg (by omega)]
theorem env0_get {n : Nat} {i : Nat} {r : RV} (h : (rs.map some ++ List.replicate n none : DEnv)[i]? = some (some r)) : rs[i]? = some r := by
  by_cases hi : i < rs.length
  · rw [List.getElem?_append_left (by simpa using hi), List.getElem?_map] at h
    cases q : rs[i]? with
    | none => rw [q] at h; cases h
    | some x => rw [q] at h; cases h; rfl
  · rw [List.getElem?_append_right (by simpa using hi), List.getElem?_replicate] at h
    split at h <;> cases h
theorem start_rel {N : List Str} (ex : GH K G H) (vw : Views K mg G H vs rs) (ds : Dist vs rs) (hl : vs.length ≤ N.length) :
    SRel K mg (foreign G H vs rs) (pinsOf 0 vs rs) G H (L2.start N vs) (rs.map some ++ List.replicate (N.length - rs.length) none) [] := by
  have hlen := vw.1
  have sg : ∀ {i : Nat} {v : V}, vs[i]? = some v → (L2.start N vs)[i]? = some (some v) := fun {i v} h => by
    have hi : i < vs.length := (List.getElem?_eq_some_iff.mp h).1
    rw [start_get, if_pos hi, h]; rfl
  have gv : ∀ {i : Nat} {r : RV}, rs[i]? = some r → ∃ v, vs[i]? = some v := fun {i r} h => by
    have hi : i < vs.length := by rw [hlen]; exact (List.getElem?_eq_some_iff.mp h).1
    exact ⟨vs[i], by simp [hi]⟩
  have back : ∀ {i : Nat} {r : RV} {a : Addr}, rs[i]? = some r → (L2.start N vs)[i]? = some (some (.ref a)) → vs[i]? = some (.ref a) := fun {i r a} h h' => by
    obtain ⟨v, hv⟩ := gv h
    rw [sg hv] at h'; cases h'; exact hv
  refine ⟨ex.1, ⟨fun b o h => ?_, fun b o h => ?_, fun _ a ps q => ?_, fun a ps o q => ?_, ex.2⟩, fun b o h => ?_, fun p hp => ?_, ?_, fun i r e nt => ?_, fun i j r r' a h1 h2 o1 o2 s1 s2 => ?_, fun i r a e o h => ⟨foreign_own vw ⟨i, r, env0_get e, o, back (env0_get e) h⟩, List.not_mem_nil⟩, fun a m => absurd m List.not_mem_nil, .no fun i r e => by
      have hr := env0_get e
      obtain ⟨v, hv⟩ := gv hr
      exact (vw.2 i v _ hv hr).nt⟩
  · rcases foreign_some h with ⟨_, _, u, rfl, hu⟩ | ⟨ps, u, _, rfl, hu⟩
    · rw [hu]
      cases u <;> first | rfl | exact ⟨#[], by simp⟩
    · exact hu
  · rcases foreign_some h with ⟨_, _, u, e, hu⟩ | ⟨ps, u, _, e, hu⟩
    · cases u <;> first | (cases e; done) | (cases e; exact nofun)
    · cases e
  · obtain ⟨u1, z, _⟩ := ex.1.mks a ps q
    exact ⟨_, foreign_mrk z q⟩
  · rcases foreign_some q with ⟨_, _, u, e, hu⟩ | ⟨ps', u, g, e, hu⟩
    · exact absurd e.symm toFO_nm
    · cases e; exact g
  · rcases foreign_some h with ⟨g, _⟩ | ⟨ps', u, g, e, hu⟩
    · exact .inl g
    · exact .inr ⟨ps', u, e⟩
  · obtain ⟨j, r, h1, h2, h3, h4⟩ := pins_at hp
    rw [h1, Nat.zero_add]; exact sg h2
  · unfold L2.start
    simp only [List.length_append, List.length_map, List.length_replicate, hlen]
  · have hr := env0_get e
    obtain ⟨v, hv⟩ := gv hr
    exact ⟨v, sg hv, vw.2 i v r hv hr⟩
  · exact ds i j r r' a (env0_get h1) (env0_get h2) o1 o2 (back (env0_get h1) s1) (back (env0_get h2) s2)
/-- the body's end, as the caller sees it -/
theorem end_back {G' H' : Hp} {σ' : L2.St} {e : DEnv} {rs' : List RV} {T : List Addr} (ex : Gh G H) (vw : Views K mg G H vs rs) (ex' : Ex G G') (S : SRel K mg (foreign G H vs rs) (pinsOf 0 vs rs) G' H' σ' e T) (hb : backD rs e = some rs') : Back K mg G H vs rs G' H' rs' := by
  refine ⟨ex', ⟨S.gh, S.fh.tb⟩, fun b o h1 h2 h3 => ?_, ⟨vw.1.trans (backD_len hb).symm, fun j v r' hv hr' => ?_⟩, fun j r' hr' ho => ?_, fun a ps q => ?_, fun a ps q => ?_⟩
  · have hf := foreign_at (rs := rs) (vs := vs) h1 h2 h3
    refine ⟨?_, (S.dj b _ hf).resolve_right fun ⟨_, _, z⟩ => toFO_nm z⟩
    have z := S.fh.on b _ hf
    cases o <;> exact z
  · obtain ⟨r, h1, h2⟩ := backD_get hb hr'
    rcases h2 with ⟨ho, he, hn⟩ | ⟨ho, rfl⟩
    · obtain ⟨u, hu, w⟩ := S.val j r' he hn
      have := S.pin (0 + j, v) (own_pin h1 hv ho)
      rw [Nat.zero_add] at this
      rw [this] at hu; cases hu
      exact w
    · have w := vw.2 j v r' hv h1
      cases r' with
      | sh d => exact Den.mono ex' w
      | st _ => exact w.elim
      | _ => cases ho
  · obtain ⟨r, h1, h2⟩ := backD_get hb hr'
    rcases h2 with ⟨ho', _⟩ | ⟨ho', rfl⟩
    · exact ⟨r, h1, ho'⟩
    · rw [ho'] at ho; cases ho
  · obtain ⟨o, z⟩ := S.fh.cl rfl a ps q
    rcases foreign_some z with ⟨_, _, u, e, hu⟩ | ⟨ps', u, g, e, hu⟩
    · exact absurd e.symm toFO_nm
    · cases e; exact g
  · obtain ⟨u1, z, _⟩ := ex.mks a ps q
    have k := S.fh.on a _ (foreign_mrk z q)
    exact (show H' a = _ from k).trans z.symm
theorem end_tmp {G' H' : Hp} {σ' : L2.St} {e : DEnv} {rs' : List RV} {v : V} {r : RV} (vw : Views K mg G H vs rs) (ex' : Ex G G') (S : SRel K mg (foreign G H vs rs) (pinsOf 0 vs rs) G' H' σ' e (tmps v r)) (hb : backD rs e = some rs') : TmpOk H vs rs rs' v r := fun a m => by
  obtain ⟨h1, h2, o, h3⟩ := S.tmp a m
  refine ⟨?_, fun ⟨j, r', g1, g2, g3⟩ => ?_⟩
  · by_cases z : H a = none
    · exact .inl z
    · exact .inr (foreign_none h1 z (by
        cases q : G a with
        | none => rfl
        | some u => rw [ex' a u q] at h2; cases h2))
  · obtain ⟨r0, k1, k2⟩ := backD_get hb g1
    rcases k2 with ⟨ho, he, _⟩ | ⟨ho, rfl⟩
    · have := S.pin (0 + j, .ref a) (own_pin k1 g3 ho)
      rw [Nat.zero_add] at this
      exact (S.nof j r' a he g2 this).2 m
    · rw [ho] at g2; cases g2
end
/-- THE RULE: a def whose body is worth s -/
theorem fn_ok {Pr : Program} {w : World} {K : PySem.W.Frag} {mg : Str → Option Value} {base : Heap} {x qual : Str} {params : Arguments} {body : List Stmt} {scope : Scope} {dvs : List V} {kws : List (Str × V)} {f : Addr} {fd : FuncData} {N ps : List Str} {k : Nat} {s : List Nat → MS}
    (F : FunD K x qual params body scope dvs kws f fd) (S : FnScope N ps scope)
    (hbody : ∀ (pn : List Nat) (cdv : Value) (A : Around) (outer : List Env) (sh : Shared) (H : Hp) (E : XK), Room k (A.deeper (envOfC qual scope sh.heap.objs.size f cdv)) →
      QSs (cxOf (L2.CX Pr w) Pr w K mg base N qual scope f cdv A outer sh H E) (fun cls d _ H => E cls d H) pn body (s pn)) :
    FnOk Pr w K mg base (L2.CX Pr w) (k + 1) f fd ps (spOf K mg ps.length (runD N.length s)) := by
  have hpl : ps.length ≤ N.length := by have := congrArg List.length S.pre; rw [List.length_take] at this; omega
  refine F.ok S (fun vs H Q E h => ?_) (fun cdv A outer sh H vs Q E hr h => ?_)
  · obtain ⟨G, rs, _, hl, _⟩ := h; exact hl
  · obtain ⟨G, rs, ex, hl, vw, ds, q⟩ := h
    refine ⟨rdS K mg (fun cls d _ H => E cls d H) (foreign G H vs rs) (pinsOf 0 vs rs) (s (ownIx 0 rs)), hbody (ownIx 0 rs) cdv A outer sh H E hr (foreign G H vs rs) (pinsOf 0 vs rs) (pins_ix vw.1), G, _, start_rel ex vw ds (by rw [hl]; exact hpl), ?_⟩
    unfold runD at q
    cases z : s (ownIx 0 rs) (rs.map some ++ List.replicate (N.length - rs.length) none) with
    | nx e =>
      simp only [z] at q
      cases z2 : backD rs e with
      | none => simp only [z2] at q; exact q.elim
      | some rs' =>
        simp only [z2] at q
        exact fun σ' G' H' ex' S' => q .non G' H' (end_back ex.1 vw ex' S' z2) Den.non (fun a m => by cases m)
    | rt r e =>
      simp only [z] at q
      cases z2 : backD rs e with
      | none => simp only [z2] at q; exact q.elim
      | some rs' =>
        simp only [z2] at q
        exact fun v σ' G' H' ex' wv S' => q v G' H' (end_back ex.1 vw ex' S' z2) wv (end_tmp vw ex' S' z2)
    | err x e =>
      simp only [z] at q
      cases z2 : backD rs e with
      | none => simp only [z2] at q; exact q.elim
      | some rs' =>
        simp only [z2] at q
        exact fun cls d σ' G' H' ex' hx S' => q cls d G' H' (end_back ex.1 vw ex' S' z2) hx
    | bk e => simp only [z] at q; exact q.elim
    | ct e => simp only [z] at q; exact q.elim
    | stk => simp only [z] at q; exact q.elim
end Z
namespace Z
open PySem PySem.Spec PyProof.Rows L2
/-- a parameter's source: an argument by its place (positional ones, then keywords), or a default -/
abbrev Src := Sum Nat D
def SrcV (K : PySem.W.Frag) (mg : Str → Option Value) (us : List Value) : Src → Value → Prop
  | .inl i, z => us[i]? = some z
  | .inr d, z => ∃ v, RelV v z ∧ ∀ G, Den K mg G v d
structure Bnd (K : PySem.W.Frag) (mg : Str → Option Value) (fd : FuncData) (ps : List Str) (np : Nat) (ks : List Str) (arr : List Src) : Prop where
  len : arr.length = ps.length
  to : ∀ (s : Shared) (us ws : List Value), K.In s.heap → us.length = np → ws.length = ks.length → ∃ zs : List Value, zs.length = arr.length ∧ (∀ (j : Nat) (c : Src) (z : Value), arr[j]? = some c → zs[j]? = some z → SrcV K mg (us ++ ws) c z) ∧ BindsTo s fd ⟨us, ks.zip ws⟩ (ps.zip zs)
def srcO (os : List Opd) : Src → Option Opd
  | .inl i => os[i]?
  | .inr d => some (.val d)
def arrO (os : List Opd) : List Src → Option (List Opd)
  | [] => some []
  | c :: cs => match srcO os c, arrO os cs with
    | some o, some r => some (o :: r)
    | _, _ => none
theorem arrO_len {os : List Opd} : ∀ {arr : List Src} {r : List Opd}, arrO os arr = some r → r.length = arr.length
  | [], r, h => by cases h; rfl
  | c :: cs, r, h => by
    unfold arrO at h
    split at h
    · rename_i o r' q1 q2; cases h; simp [arrO_len q2]
    · cases h
theorem arrO_get {os : List Opd} : ∀ {arr : List Src} {r : List Opd} {j : Nat} {c : Src}, arrO os arr = some r → arr[j]? = some c → ∃ o, r[j]? = some o ∧ srcO os c = some o
  | [], r, j, c, h, e => by simp at e
  | c :: cs, r, j, c', h, e => by
    unfold arrO at h
    split at h
    · rename_i o r' q1 q2; cases h
      cases j with
      | zero => simp at e; subst e; exact ⟨o, rfl, q1⟩
      | succ j =>
        obtain ⟨o', a, b⟩ := arrO_get q2 (by simpa using e)
        exact ⟨o', by simpa using a, b⟩
    · cases h
theorem Vals.getU : ∀ {xs : List V} {us : List Value} {i : Nat} {u : Value}, Vals xs us → us[i]? = some u → ∃ x, xs[i]? = some x ∧ RelV x u
  | _, _, _, _, .nil, e => by simp at e
  | _, _, 0, _, .cons r _, e => by simp at e; subst e; exact ⟨_, rfl, r⟩
  | _, _, i + 1, u, .cons _ t, e => by
    obtain ⟨x, h1, h2⟩ := Vals.getU (i := i) (u := u) t (by simpa using e)
    exact ⟨x, by simpa using h1, h2⟩
theorem vals_of {P : Nat → V → Prop} : ∀ {zs : List Value} (n : Nat), (∀ (j : Nat) (z : Value), zs[j]? = some z → ∃ v, RelV v z ∧ P (n + j) v) → ∃ vs, Vals vs zs ∧ ∀ (j : Nat) (v : V), vs[j]? = some v → P (n + j) v
  | [], n, h => ⟨[], .nil, fun j v e => by simp at e⟩
  | z :: zs, n, h => by
    obtain ⟨v, r, p⟩ := h 0 z rfl
    obtain ⟨vs, rs, ps⟩ := vals_of (P := P) (zs := zs) (n + 1) fun j z' e => by
      obtain ⟨v', r', p'⟩ := h (j + 1) z' (by simpa using e)
      exact ⟨v', r', by rw [show n + 1 + j = n + (j + 1) by omega]; exact p'⟩
    refine ⟨v :: vs, .cons r rs, fun j v' e => ?_⟩
    cases j with
    | zero => simp at e; subst e; exact p
    | succ j => have := ps j v' (by simpa using e); rw [show n + 1 + j = n + (j + 1) by omega] at this; exact this
/-- the arranged arguments, as values and as operands -/
theorem arranged {K : PySem.W.Frag} {mg : Str → Option Value} {G : Hp} {σ : L2.St} {arr : List Src} {us zs : List Value} {vs : List V} {os r : List Opd} (hz : zs.length = arr.length) (hs : ∀ (j : Nat) (c : Src) (z : Value), arr[j]? = some c → zs[j]? = some z → SrcV K mg us c z)
    (rv : Vals vs us) (ho : OpdRs K mg G σ vs os) (ha : arrO os arr = some r) : ∃ vz, Vals vz zs ∧ OpdRs K mg G σ vz r := by
  obtain ⟨vz, r1, p⟩ := vals_of (zs := zs) (P := fun j v => ∀ o, r[j]? = some o → OpdR K mg G σ v o) 0 fun j z e => by
    have hj : j < arr.length := by rw [← hz]; exact (List.getElem?_eq_some_iff.mp e).1
    have hc : arr[j]? = some arr[j] := by simp [hj]
    obtain ⟨o, g1, g2⟩ := arrO_get ha hc
    have hsrc := hs j _ z hc e
    cases hq : arr[j] with
    | inl i =>
      rw [hq] at hsrc g2
      have hsrc : us[i]? = some z := hsrc
      obtain ⟨v, h1, h2⟩ := Vals.getU rv hsrc
      refine ⟨v, h2, fun o' e' => ?_⟩
      rw [Nat.zero_add, g1] at e'; cases e'
      exact ho.2 i v o h1 g2
    | inr d =>
      rw [hq] at hsrc g2
      obtain ⟨v, h1, h2⟩ := hsrc
      refine ⟨v, h1, fun o' e' => ?_⟩
      rw [Nat.zero_add, g1] at e'; cases e'
      cases g2
      exact h2 G
  refine ⟨vz, r1, ?_, fun j v o e1 e2 => ?_⟩
  · rw [r1.length, hz, arrO_len ha]
  · have := p j v e1; rw [Nat.zero_add] at this; exact this o e2
def QK (X : Cx) (W : WX) (pn : List Nat) (kws : List Keyword) (m : M (List Opd)) : Prop := ∀ Fh P, P.map (·.1) = pn → PK X kws (rdOs X.K X.mg W Fh P m)
theorem PK.weak {X : Cx} {e : List Keyword} {t t' : TA} (h : PK X e t) (w : ∀ σ H Q, t' σ H Q → t σ H Q) : PK X e t' := ⟨fun pos pins s σ H Q I q => h.run pos pins s σ H Q I (w σ H Q q)⟩
section
variable {X : Cx} {W : WX} {pn : List Nat} {pos : Pos}
theorem qk_nil : QK X W pn [] nilO := fun Fh P hp => PK.weak pk_nil fun σ H Q ⟨G, env, S, q⟩ => q [] G H (Ex.refl _) .nil S
theorem qk_cons {nm : Option Str} {e : Expr} {kpos : Pos} {kws : List Keyword} {m : M Opd} {ms : M (List Opd)} (h : QO X W pn e m) (t : QK X W pn kws ms) : QK X W pn (⟨nm, e, kpos⟩ :: kws) (consO m ms) := fun Fh P hp =>
  PK.weak (pk_cons (h Fh P hp) (t Fh P hp)) fun σ H Q ⟨G, env, S, q⟩ => by
    refine ⟨G, env, S, PO_Os q fun o e' v G1 H1 ex w S1 hk => ?_⟩
    refine ⟨G1, e', S1, POs_Os hk fun os e2 vs G2 H2 ex2 w2 S2 hk2 => ?_⟩
    exact hk2 (v :: vs) G2 H2 (Ex.refl _) (.cons (w.mono ex2) w2) S2
/-- the callee runs, its arguments bound -/
theorem run_anyS {CX : CXT} {k : Nat} {f : Addr} {fd : FuncData} {ps : List Str} {sp : Sp} {E : XK} {pins : List (Addr × Obj)} {σ : L2.St} {H : Hp} {s : Shared} {Q : VK} {us zs : List Value} {kw : List (Str × Value)} {vz : List V} (F : FnOk X.prog X.w X.K X.mg X.base CX k f fd ps sp) (hr : Room k X.A) (hx : PassesAt CX X σ E)
    (I : Inv X pins σ H s) (hb : BindsTo s fd ⟨us, kw⟩ (ps.zip zs)) (r : Vals vz zs) (h : sp vz H Q E) : wpAny (model X.prog X.w) X.A (call (.ref f) us kw) (EP X pins σ Q) X.xe s := by
  refine wpAny_call (codeAny_mono (F.run X.A X.stack s H ⟨us, kw⟩ zs vz Q E hr I.env0 hb r h) fun r s' hq => ?_)
  cases r with
  | error e => exact hx pins H s e s' I hq
  | ok fl =>
    cases fl with
    | ret u => exact I.after hq
    | next => exact False.elim hq
    | brk => exact False.elim hq
    | cont => exact False.elim hq
/-- the arguments of a call -/
theorem args_run {fv : Value} {first : List Value} {e : Expr} {rest : List Expr} {kws : List Keyword} {ks : List Str} {t tk : TA} {pins : List (Addr × Obj)} {σ : L2.St} {H : Hp} {s : Shared} {R : List V → List V → Hp → Prop} {Q : Value → Shared → Prop} (I : Inv X pins σ H s) (hk : PySem.W.keepIn X.K fv = true)
    (ha : PA X (e :: rest) t) (hkw : PK X kws tk) (h : t σ H fun vs H1 => tk σ H1 fun zs H2 => R vs zs H2) (hall : (backToKw pos (keywordEach kws X.env)).all (·.1.isSome) = true) (hks : (backToKw pos (keywordEach kws X.env)).filterMap (·.1) = ks)
    (hst : starEach (e :: rest) X.env = (false, eval e X.env) :: starEach rest X.env) (hpl : ((backTo pos (starEach (e :: rest) X.env)).any (·.1) || (backToKw pos (keywordEach kws X.env)).any (·.1.isNone)) = false)
    (hc : ∀ us ws vs zs s2 H2, Inv X pins σ H2 s2 → Vals vs us → Vals zs ws → R vs zs H2 → wpAny (model X.prog X.w) X.A (call fv (first ++ us) (ks.zip ws)) Q X.xe s2) :
    wpAny (model X.prog X.w) X.A (callWith pos fv first (backTo pos (starEach (e :: rest) X.env)) (backToKw pos (keywordEach kws X.env))) Q X.xe s := by
  refine PySem.W.callWith_KW (h₀ := X.base) I.ok.mod.kin hk hall (thn (ha.run pos pins s σ H _ I h) fun us s1 ⟨vs, H1, I1, r, q⟩ => ?_) hpl hst
  refine thn (hkw.run pos pins s1 σ H1 _ I1 q) fun ws s2 ⟨zs, H2, I2, rz, q2⟩ => ⟨I2.kIn, ?_⟩
  rw [hks]
  exact hc us ws vs zs s2 H2 I2 r rz q2
theorem args_run0 {fv : Value} {first : List Value} {kws : List Keyword} {ks : List Str} {tk : TA} {pins : List (Addr × Obj)} {σ : L2.St} {H : Hp} {s : Shared} {R : List V → Hp → Prop} {Q : Value → Shared → Prop} (I : Inv X pins σ H s) (hk : PySem.W.keepIn X.K fv = true)
    (hkw : PK X kws tk) (h : tk σ H fun zs H2 => R zs H2) (hall : (backToKw pos (keywordEach kws X.env)).all (·.1.isSome) = true) (hks : (backToKw pos (keywordEach kws X.env)).filterMap (·.1) = ks)
    (hpl : ((backTo pos (starEach [] X.env)).any (·.1) || (backToKw pos (keywordEach kws X.env)).any (·.1.isNone)) = false)
    (hc : ∀ ws zs s2 H2, Inv X pins σ H2 s2 → Vals zs ws → R zs H2 → wpAny (model X.prog X.w) X.A (call fv first (ks.zip ws)) Q X.xe s2) :
    wpAny (model X.prog X.w) X.A (callWith pos fv first (backTo pos (starEach [] X.env)) (backToKw pos (keywordEach kws X.env))) Q X.xe s := by
  refine PySem.W.callWith_KW0 (h₀ := X.base) I.ok.mod.kin hk hall (thn (hkw.run pos pins s σ H _ I h) fun ws s2 ⟨zs, H2, I2, rz, q2⟩ => ⟨I2.kIn, ?_⟩) hpl
  rw [hks, List.append_nil]
  exact hc ws zs s2 H2 I2 rz q2
theorem OpdRs.app {K : PySem.W.Frag} {mg : Str → Option Value} {G : Hp} {σ : L2.St} {vs ws : List V} {os ps : List Opd} (a : OpdRs K mg G σ vs os) (b : OpdRs K mg G σ ws ps) : OpdRs K mg G σ (vs ++ ws) (os ++ ps) := by
  induction os generalizing vs with
  | nil => rw [a.nil_inv]; exact b
  | cons o os ih =>
    obtain ⟨v, vs, rfl, h1, h2⟩ := a.cons_ex
    exact .cons h1 (ih h2)
def finA (f : FnD) (arr : List Src) (os : List Opd) (env : DEnv) : Res RV := match arrO os arr with
  | some r => finF f r env
  | none => .stk
def fnA (f : FnD) (arr : List Src) (mp mk : M (List Opd)) : M RV := bindM mp fun os1 => bindM mk fun os2 => finA f arr (os1 ++ os2)
theorem finA_ok {K : PySem.W.Frag} {mg : Str → Option Value} {Fh : FHp} {P : List (Nat × V)} {G H : Hp} {σ : L2.St} {env : DEnv} {f : FnD} {arr : List Src} {n : Nat} {E : XK} {Q : VK} {us zs : List Value} {vs : List V} {os : List Opd} (S : SRel K mg Fh P G H σ env []) (ho : OpdRs K mg G σ vs os) (rv : Vals vs us)
    (hz : zs.length = arr.length) (hs : ∀ (j : Nat) (c : Src) (z : Value), arr[j]? = some c → zs[j]? = some z → SrcV K mg us c z) (hn : arr.length = n) (q : PV K mg W Fh P σ G Q (finA f arr os env)) (hE : ∀ cls d H', E cls d H' ↔ W cls d σ H') : ∃ vz, Vals vz zs ∧ spOf K mg n f vz H Q E := by
  unfold finA at q
  cases e : arrO os arr with
  | none => simp only [e] at q; exact q.elim
  | some r =>
    simp only [e] at q
    obtain ⟨vz, r1, r2⟩ := arranged hz hs rv ho e
    exact ⟨vz, r1, finF_ok S r2 ((arrO_len e).trans hn) q hE⟩
theorem Vals.app {xs ys : List V} {us ws : List Value} (a : Vals xs us) (b : Vals ys ws) : Vals (xs ++ ys) (us ++ ws) := a.append b
theorem qv_fn {k np : Nat} {f : Addr} {fd : FuncData} {ps ks : List Str} {x : Str} {p : Pos} {e : Expr} {es : List Expr} {kws : List Keyword} {fD : FnD} {arr : List Src} {mp mk : M (List Opd)} (F : FnOk X.prog X.w X.K X.mg X.base (L2.CX X.prog X.w) k f fd ps (spOf X.K X.mg ps.length fD)) (tk : Takes X W) (hr : Room k X.A) (hg : Gl X x) (hm : X.mg x = some (.ref f))
    (hk : PySem.W.keepIn X.K (.ref f) = true) (hb : Bnd X.K X.mg fd ps np ks arr) (ha : QOs X W pn (e :: es) mp) (hkw : QK X W pn kws mk) (hnp : (e :: es).length = np) (hnk : kws.length = ks.length)
    (hall : (backToKw pos (keywordEach kws X.env)).all (·.1.isSome) = true) (hks : (backToKw pos (keywordEach kws X.env)).filterMap (·.1) = ks) (hdb : (x == ("__debug__" : Str)) = false)
    (hst : starEach (e :: es) X.env = (false, eval e X.env) :: starEach es X.env) (hpl : ((backTo pos (starEach (e :: es) X.env)).any (·.1) || (backToKw pos (keywordEach kws X.env)).any (·.1.isNone)) = false)
    (hlp : ∀ env os e', mp env = .ok os e' → os.length = np) (hlk : ∀ env os e', mk env = .ok os e' → os.length = ks.length) :
    QV X W pn (.Call (.Name x p) (e :: es) kws pos) (fnA fD arr mp mk) := fun Fh P hp => ⟨fun pins s σ H Q I ⟨G, env, S, q⟩ => by
  refine wpAny_Call_Name_kw (ld_glob I hg hm ?_ hdb)
  have h0 : rdOs X.K X.mg W Fh P mp σ H fun vs H1 => rdOs X.K X.mg W Fh P mk σ H1 fun zs H2 => vs.length = np ∧ zs.length = ks.length ∧ ∃ (os : List Opd) (G' : Hp) (e' : DEnv), SRel X.K X.mg Fh P G' H2 σ e' [] ∧ OpdRs X.K X.mg G' σ (vs ++ zs) os ∧ PV X.K X.mg W Fh P σ G' Q (finA fD arr os e') := by
    refine ⟨G, env, S, ?_⟩
    unfold fnA bindM at q
    cases z1 : mp env with
    | err x e1 => simp only [z1] at q; exact q
    | stk => simp only [z1] at q; exact q
    | ok os1 e1 =>
      simp only [z1] at q
      intro vs G1 H1 ex w S1
      refine ⟨G1, e1, S1, ?_⟩
      cases z2 : mk e1 with
      | err x e2 => simp only [z2] at q; exact PErr.mono ex q
      | stk => simp only [z2] at q; exact q
      | ok os2 e2 =>
        simp only [z2] at q
        intro zs G2 H2 ex2 w2 S2
        exact ⟨by rw [w.1]; exact hlp _ _ _ z1, by rw [w2.1]; exact hlk _ _ _ z2, os1 ++ os2, G2, e2, S2, (w.mono ex2).app w2, PV.mono (ex.trans ex2) q⟩
  refine args_run (X := X) (first := []) I hk (ha Fh P hp) (hkw Fh P hp) h0 hall hks hst hpl fun us ws vs zs s2 H2 I2 r rz ⟨l1, l2, os, G', e', S', ho, q'⟩ => ?_
  obtain ⟨zz, b1, b2, b3⟩ := hb.to s2 us ws I2.kIn (by rw [← r.length]; exact l1) (by rw [← rz.length]; exact l2)
  obtain ⟨vz, r1, hsp⟩ := finA_ok (E := WE W σ) S' ho (r.append rz) b1 b2 hb.len q' fun _ _ _ => Iff.rfl
  exact run_anyS F hr (passAt tk σ) I2 b3 r1 hsp⟩
end
end Z
namespace Z
open PySem PySem.Spec PyProof.Rows L2
section
variable {X : Cx} {W : WX} {pn : List Nat} {pos : Pos}
def clsR : RV → Option (Str × List (Str × D))
  | .sh (.obj c fs) => some (c, fs)
  | .oo c fs => some (c, fs)
  | _ => none
theorem ViewW.cls {K : PySem.W.Frag} {mg : Str → Option Value} {G H : Hp} (ex : Gh G H) {v : V} {r : RV} {c : Str} {fs : List (Str × D)} (w : ViewW K mg G H v r) (e : clsR r = some (c, fs)) : ∃ a C dx gs, v = .ref a ∧ mg c = some (.ref C) ∧ H a = some (.ins C dx gs) ∧ DenA K mg G gs fs := by
  unfold clsR at e
  split at e
  · cases e
    cases w with
    | obj h1 h2 h3 h4 => exact ⟨_, _, _, _, rfl, h1, ex.on _ _ h2 nofun, h3, h4⟩
  · cases e
    obtain ⟨a, o, rfl, h1, h2, h3⟩ := w
    cases o <;> first | exact h3.elim | exact ⟨a, _, _, _, rfl, h3.1, h1, h3.2⟩
  · cases e
theorem View.cls {K : PySem.W.Frag} {mg : Str → Option Value} {G H : Hp} (ex : Gh G H) {v : V} {r : RV} {c : Str} {fs : List (Str × D)} (w : View K mg G H v r) (e : clsR r = some (c, fs)) : ∃ a C dx gs, v = .ref a ∧ mg c = some (.ref C) ∧ H a = some (.ins C dx gs) ∧ DenA K mg G gs fs := w.w.cls ex e
def methA (c m : Str) (f : FnD) (arr : List Src) (mo : M Opd) (mp mk : M (List Opd)) : M RV := bindM mo fun o e => match (resolve e o).bind clsR with
  | some (c', fs) => if c' = c ∧ fs.lookup m = none then bindM mp (fun os1 => bindM mk fun os2 => finA f arr (o :: (os1 ++ os2))) e else .stk
  | none => .stk
def fldF (cs : List Str) (f : Str) (r : RV) : Option RV := match clsR r with
  | some (c, fs) => if c ∈ cs then (fs.lookup f).map .sh else none
  | none => none
def putD (f : Str) (d : D) : List (Str × D) → List (Str × D)
  | [] => [(f, d)]
  | (g, x) :: r => if g = f then (g, d) :: r else (g, x) :: putD f d r
theorem DenA.put {K : PySem.W.Frag} {mg : Str → Option Value} {G : Hp} {f : Str} {v : V} {d : D} (hv : Den K mg G v d) : ∀ {fs : List (Str × D)} {gs : List (Str × V)}, DenA K mg G gs fs → DenA K mg G (putF f v gs) (putD f d fs)
  | [], gs, h => by
    have : gs = [] := by have := h.1; simpa using this
    subst this
    refine ⟨rfl, fun i p q a b => ?_⟩
    cases i with
    | zero => simp [putF, putD] at a b; subst a; subst b; exact hv
    | succ i => simp [putF] at a
  | (g, x) :: r, [], h => by have := h.1; simp at this
  | (g, x) :: r, (g', y) :: gs, h => by
    obtain ⟨h1, h2⟩ := h
    simp only [List.map_cons, List.cons.injEq] at h1
    obtain ⟨e1, e2⟩ := h1
    subst e1
    have tl : DenA K mg G gs r := ⟨e2, fun i p q a b => h2 (i + 1) p q (by simpa using a) (by simpa using b)⟩
    have hd : Den K mg G y x := h2 0 (g', y) (g', x) rfl rfl
    unfold putF putD
    by_cases z : g' = f
    · rw [if_pos z, if_pos z]
      refine ⟨by simp [e2], fun i p q a b => ?_⟩
      cases i with
      | zero => simp at a b; subst a; subst b; exact hv
      | succ i => exact tl.2 i p q (by simpa using a) (by simpa using b)
    · rw [if_neg z, if_neg z]
      have ih := DenA.put (f := f) hv tl
      refine ⟨by simp [ih.1], fun i p q a b => ?_⟩
      cases i with
      | zero => simp at a b; subst a; subst b; exact hd
      | succ i => exact ih.2 i p q (by simpa using a) (by simpa using b)
theorem DenA.length {K : PySem.W.Frag} {mg : Str → Option Value} {G : Hp} {α : Type} {gs : List (α × V)} {fs : List (α × D)} (h : DenA K mg G gs fs) : gs.length = fs.length := by
  have := congrArg List.length h.1; simpa using this
/-- self.f = e -/
def fldS (cs : List Str) (i : Nat) (f : Str) (mv : M Opd) : MS := bindS mv fun o e => match dOf o e with
  | .ok d e2 => (match slotOf e2 i with
    | some (.oo c fs) => if c ∈ cs ∧ fs.length < 1000 then .nx (e2.set i (some (.oo c (putD f d fs)))) else .stk
    | _ => .stk)
  | _ => .stk
end
end Z
namespace Z
open PySem PySem.Spec PyProof.Rows L2
def shV (m : M RV) : M RV := bindM m fun r e => .ok (.sh r.d) e
section
variable {X : Cx} {W : WX} {pn : List Nat} {pos : Pos}
def finMk (c : Str) (f : FnD) (arr : List Src) (os : List Opd) (env : DEnv) : Res RV := match arrO os arr with
  | none => .stk
  | some r => match resolves env r with
    | none => .stk
    | some rs => if (lent r rs).Nodup then (match f (.oo c [] :: rs) with
      | .ok v (r0 :: rs') => if rs'.length = rs.length ∧ isNon v = true then .ok r0 (wb r rs rs' env) else .stk
      | .err x (_ :: rs') => if rs'.length = rs.length then .err x (wb r rs rs' env) else .stk
      | _ => .stk) else .stk
def mkA (c : Str) (f : FnD) (arr : List Src) (mp mk : M (List Opd)) : M RV := bindM mp fun os1 => bindM mk fun os2 => finMk c f arr (os1 ++ os2)
def noErr : Res RV → Res RV
  | .err _ _ => .stk
  | r => r
def propM (c : Str) (f : FnD) (mo : M Opd) : M RV := bindM mo fun o e => match (resolve e o).bind clsR with
  | some (c', _) => if c' = c then noErr (finF f [o] e) else .stk
  | none => .stk
end
end Z
namespace Z
open PySem PySem.Spec PyProof.Rows L2
inductive Zf where
  | fa (f : He.Fa)
  | prop (C f : Str)
  | cval (C f : Str) (v : He.Dv)
  | tup (x : Str) (vs : List He.Dv)
  | gen (f : PySem.W.Frag → Bool)
def Zf.ok (K : PySem.W.Frag) : Zf → Bool
  | .fa f => f.ok K
  | .prop C f => He.eqO (PySem.W.findIn K (.ref (He.ga K C)) f) (some (some (.ref (He.ma K (He.ga K C) f)))) && (He.eqO (PySem.W.specialIn K (.ref (He.ma K (He.ga K C) f)) "__get__") (some (some (.builtin "property.__get__"))) &&
      (decide (PySem.W.takesIn K (.ref (He.ma K (He.ga K C) f)) = some true) && (match PySem.W.recIn K (He.ma K (He.ga K C) f) "property" with
        | some (.ref _ :: _) => true
        | _ => false)))
  | .cval C f v => PySem.W.readsIn K (He.ga K C) (.type "type") && (He.eqO (PySem.W.specialIn K (.ref (He.ga K C)) "__getattribute__") (some (some (.builtin "type.__getattribute__"))) &&
      (match PySem.W.findCls K (.ref (He.ga K C)) (.type "type") f with
        | some (.val u) => He.relB (v.v K) u
        | _ => false))
  | .tup x vs => He.tupB K x vs
  | .gen f => f K
section
variable {K : PySem.W.Frag} {mg : Str → Option Value}
def dvD : He.Dv → Option D
  | .non => some .non
  | .bl b => some (.bl b)
  | .int i => some (.int i)
  | .str x => some (.str x)
  | _ => none
theorem dvD_den {v : He.Dv} {d : D} (h : dvD v = some d) (G : Hp) : Den K mg G (v.v K) d := by
  cases v <;> first | (cases h; done) | skip
  all_goals cases h
  · exact .non
  · exact .bl _
  · exact .int _
  · exact .str _
def dvDs : List He.Dv → Option (List D)
  | [] => some []
  | v :: vs => match dvD v, dvDs vs with
    | some d, some ds => some (d :: ds)
    | _, _ => none
theorem dvDs_den {G : Hp} : ∀ {vs : List He.Dv} {ds : List D}, dvDs vs = some ds → DenL K mg G (vs.map (He.Dv.v K)) ds
  | [], ds, h => by cases h; exact .nil
  | v :: vs, ds, h => by
    unfold dvDs at h
    split at h
    · rename_i d es h1 h2; cases h; exact .cons (dvD_den h1 G) (dvDs_den h2)
    · cases h
theorem tup_den {x : Str} {vs : List He.Dv} {ds : List D} (h : (Zf.tup x vs).ok K = true) (e : dvDs vs = some ds) (G : Hp) : Den K mg G (.ref (He.ga K x)) (.tup ds) := .tupL (He.tupB_ok h G) (dvDs_den e)
end
structure Zd where
  at_ : PySem.W.Frag → Addr
  name : Str
  qual : Str
  st : Stmt
  kwd : List (Str × He.Dv) := []
  clo : List Str := []
def zAt (K : PySem.W.Frag) (a : Addr) : He.FnW := match K.lookup a with
  | some ⟨_, _, .func fd, _⟩ => some (fd.name, fd.qualname, fd.params, fd.body, fd.scope, fd.globals, fd.closure.map (fun p => (p.1, 0)), fd.builtins)
  | _ => none
def Zd.val (d : Zd) : He.FnW := some (d.name, d.qual, defArgs d.st, .stmts (defBody d.st), defScope d.st, mainGlobals, d.clo.map (fun x => (x, 0)), builtinsNs)
def Zd.kws (K : PySem.W.Frag) (d : Zd) : List (Str × V) := d.kwd.map fun q => (q.1, q.2.v K)
def Zd.ok (K : PySem.W.Frag) (d : Zd) : Bool := PySem.W.keepIn K (.ref (d.at_ K)) && (match K.lookup (d.at_ K) with
  | some ⟨_, _, .func fd, _⟩ => PySem.W.codeIn K fd.code d.qual && (He.dflB K fd.defaults [] && He.kwdB K fd.kwdefaults (d.kws K))
  | _ => false)
abbrev ZFun (K : PySem.W.Frag) (d : Zd) (fd : FuncData) : Prop := FunD K d.name d.qual (defArgs d.st) (defBody d.st) (defScope d.st) [] (d.kws K) (d.at_ K) fd
theorem Zd.funD {K : PySem.W.Frag} {d : Zd} (hc0 : d.clo = []) (e : zAt K (d.at_ K) = d.val) (c : d.ok K = true) : ∃ fd, ZFun K d fd := by
  obtain ⟨kp, c2⟩ := He.ba c
  unfold zAt at e
  cases q : K.lookup (d.at_ K) with
  | none => rw [q] at c2; cases c2
  | some o =>
    obtain ⟨oc, od, dt, osl⟩ := o
    rw [q] at c2 e
    cases dt with
    | func fd =>
      obtain ⟨n1, n2, n3, n4, n5, n6, n7, n8, n9, n10, n11, n12, n13, n14, n15⟩ := fd
      have e2 : (some (n1, n2, n3, n4, n5, n6, n7.map (fun p => (p.1, 0)), n15) : He.FnW) = d.val := e
      unfold Zd.val at e2
      simp only [hc0, List.map_nil, List.map_eq_nil_iff, Option.some.injEq, Prod.mk.injEq] at e2
      obtain ⟨h1, h2, h3, h4, h5, h6, h7, h8⟩ := e2
      subst h1 h2 h3 h4 h5 h6 h7 h8
      obtain ⟨k1, k2⟩ := He.ba c2
      obtain ⟨k3, k4⟩ := He.ba k2
      exact ⟨_, ⟨oc, od, n8, n9, n10, n11, n12, n13, n14, osl, rfl, q, k1, He.dflB_ok k3, He.kwdB_ok k4⟩, kp⟩
    | _ => cases c2
abbrev ZAl : Type := Bool × List He.FnW
def zObs (fa : List Zf) (fn : List Zd) (K : PySem.W.Frag) : ZAl := ((fa.all fun f => f.ok K) && fn.all fun d => d.ok K, fn.map fun d => zAt K (d.at_ K))
def zVal (fn : List Zd) : ZAl := (true, fn.map Zd.val)
def ZSays (fa : List Zf) (fn : List Zd) (K : PySem.W.Frag) : Prop := zObs fa fn K = zVal fn
/-- the addresses of as that are not yet marked in m, and the marks with them -/
def addB : List Addr → Nat → List Addr → List Addr × Nat
  | [], m, acc => (acc, m)
  | a :: r, m, acc => match Nat.beq (Nat.land (Nat.shiftRight m a) 1) 1 with
    | true => addB r m acc
    | false => addB r (Nat.lor m (Nat.shiftLeft 1 a)) (a :: acc)
def refsB (g : Addr → Option Obj) (as : List Addr) : List Addr := as.flatMap fun a => match g a with
  | some o => He.refsD o
  | none => []
def asB (g : Addr → Option Obj) : Nat → List Addr → Nat → List Addr
  | 0, as, _ => as
  | n + 1, as, m => match addB (refsB g as) m [] with
    | (bs, m') => as ++ asB g n bs m'
/-- what is reached in n steps (marks in one number: the kernel is quick with it) -/
def asZ (g : Addr → Option Obj) (n : Nat) : List Addr := match addB [mainGlobals, cStatics] 0 [] with
  | (bs, m) => asB g n bs m
theorem ZSays.fact {fa : List Zf} {fn : List Zd} {K : PySem.W.Frag} (c : ZSays fa fn K) (i : Nat) {f : Zf} (h : fa[i]? = some f) : f.ok K = true := by
  have c1 := (He.ba (congrArg (fun z : ZAl => z.1) c)).1
  exact List.all_eq_true.mp c1 f (List.mem_of_getElem? h)
theorem ZSays.def_ {fa : List Zf} {fn : List Zd} {K : PySem.W.Frag} (c : ZSays fa fn K) (i : Nat) {d : Zd} (h : fn[i]? = some d) (hc0 : d.clo = [] := by rfl) : ∃ fd, ZFun K d fd := by
  have c2 := (He.ba (congrArg (fun z : ZAl => z.1) c)).2
  have e : fn.map (fun d => zAt K (d.at_ K)) = fn.map Zd.val := congrArg (fun z : ZAl => z.2) c
  have e2 : (fn.map fun d => zAt K (d.at_ K))[i]? = (fn.map Zd.val)[i]? := by rw [e]
  rw [List.getElem?_map, List.getElem?_map, h] at e2
  exact Zd.funD hc0 (Option.some.inj e2) (List.all_eq_true.mp c2 d (List.mem_of_getElem? h))
/-- a def that says super() -/
theorem ZSays.sup_ {fa : List Zf} {fn : List Zd} {K : PySem.W.Frag} (c : ZSays fa fn K) (i : Nat) {d : Zd} (h : fn[i]? = some d) (hc0 : d.clo = [("__class__" : Str)]) : zAt K (d.at_ K) = d.val ∧ d.ok K = true := by
  have c2 := (He.ba (congrArg (fun z : ZAl => z.1) c)).2
  have e : fn.map (fun d => zAt K (d.at_ K)) = fn.map Zd.val := congrArg (fun z : ZAl => z.2) c
  have e2 : (fn.map fun d => zAt K (d.at_ K))[i]? = (fn.map Zd.val)[i]? := by rw [e]
  rw [List.getElem?_map, List.getElem?_map, h] at e2
  exact ⟨Option.some.inj e2, List.all_eq_true.mp c2 d (List.mem_of_getElem? h)⟩
def srcAt (us : List Value) : Src → Value
  | .inl i => us.getD i .none
  | .inr _ => .none
def allIn (n : Nat) : List Src → Bool
  | [] => true
  | .inl i :: r => decide (i < n) && allIn n r
  | .inr _ :: _ => false
theorem allIn_get {n : Nat} : ∀ {arr : List Src} {j : Nat} {c : Src}, allIn n arr = true → arr[j]? = some c → ∃ i, c = .inl i ∧ i < n
  | [], j, c, h, e => by simp at e
  | .inl i :: r, 0, c, h, e => by
    simp at e; subst e
    simp [allIn] at h
    exact ⟨i, rfl, h.1⟩
  | .inl i :: r, j + 1, c, h, e => by
    simp [allIn] at h
    exact allIn_get (j := j) h.2 (by simpa using e)
  | .inr d :: r, j, c, h, e => by simp [allIn] at h
theorem srcs_ok {K : PySem.W.Frag} {mg : Str → Option Value} {us : List Value} {n : Nat} {arr : List Src} (ha : allIn n arr = true) (hu : us.length = n) (j : Nat) (c : Src) (z : Value) (h1 : arr[j]? = some c) (h2 : (arr.map (srcAt us))[j]? = some z) : SrcV K mg us c z := by
  obtain ⟨i, rfl, hi⟩ := allIn_get ha h1
  rw [List.getElem?_map, h1] at h2
  cases h2
  show us[i]? = some (us.getD i .none)
  rw [List.getD_eq_getElem?_getD, List.getElem?_eq_getElem (by omega)]
  rfl
section
variable {K : PySem.W.Frag} {mg : Str → Option Value} {x qual : Str} {params : Arguments} {body : List Stmt} {scope : Scope} {kws : List (Str × V)} {f : Addr} {fd : FuncData} {ps ks : List Str} {np : Nat} {arr : List Src}
theorem bnd_of (F : FunD K x qual params body scope [] kws f fd) (hl : arr.length = ps.length) (ha : allIn (np + ks.length) arr = true)
    (h : ∀ (kV doc pm : Value) (an : Option Addr) (cdv ct : Value) (us ws : List Value), us.length = np → ws.length = ks.length → bindArgs (PySem.W.fnOf x qual params body scope .none kV doc pm an cdv ct) ⟨us, ks.zip ws⟩ = pure (ps.zip (arr.map (srcAt (us ++ ws))))) : Bnd K mg fd ps np ks arr := by
  obtain ⟨oc, od, dV, kV, doc, pm, an, cdv, ct, osl, rfl, lk, hcd, hD, hK⟩ := F.ex
  rcases hD with ⟨_, rfl⟩ | ⟨e, _⟩
  · exact ⟨hl, fun s us ws X h1 h2 => ⟨arr.map (srcAt (us ++ ws)), by simp, srcs_ok ha (by simp [h1, h2]), .of_eq (h kV doc pm an cdv ct us ws h1 h2)⟩⟩
  · exact absurd rfl e
end
theorem len_nil : ∀ env os e', nilO env = .ok os e' → os.length = 0 := fun env os e' h => by cases h; rfl
theorem len_cons {m : M Opd} {ms : M (List Opd)} {n : Nat} (h : ∀ env os e', ms env = .ok os e' → os.length = n) : ∀ env os e', consO m ms env = .ok os e' → os.length = n + 1 := fun env os e' q => by
  unfold consO bindM at q
  split at q
  · rename_i o e1 z
    simp only at q
    split at q
    · rename_i os2 e2 z2
      cases q
      rw [List.length_cons, h _ _ _ z2]
    · cases q
    · cases q
  · cases q
  · cases q
end Z
namespace Z
open PySem PySem.Spec PyProof.Rows L2
theorem u64 {k : Nat} {A : Around} (r : Room k A) : A.units + 64 < cLine := by have := r.un; omega
def inC (s : Stmt) (j : Nat) : Stmt := match s with
  | .ClassDef _ _ _ b _ _ _ _ _ _ _ => b.getD j (.Pass ⟨0, 0, 0, 0⟩)
  | _ => .Pass ⟨0, 0, 0, 0⟩
end Z
namespace Z
open PySem PySem.Spec PyProof.Rows L2
section
variable {X : Cx} {K : PySem.W.Frag} {mg : Str → Option Value}
abbrev rAddX (K : PySem.W.Frag) : R2 := fun x y H Q => rI0 (fun i j => .int (i + j)) x y H Q ∨ (∃ i j, x = .str i ∧ y = .str j ∧ i.length + j.length ≤ sizeLine ∧ Q (.str (i ++ j)) H) ∨ rCatA K x y H Q ∨ rCat x y H Q
theorem o_add : OpR X (binaryOp .Add) (rAddX X.K) := Z.OpR.or op_add (Z.OpR.or op_add_str (Z.OpR.or op_catA op_cat))
theorem s_addX : OpS K mg (rAddX K) addD := OpS.or s_addI (OpS.or s_addS (OpS.or s_addT s_addL))
abbrev rMulX (K : PySem.W.Frag) : R2 := fun x y H Q => rI CMul (fun i j => .int (i * j)) x y H Q ∨ rRep x y H Q ∨ rRepT K x y H Q
def mulD : RV → RV → Option RV := orF mulI (orF repL repT)
theorem o_mul : OpR X (binaryOp .Mult) (rMulX X.K) := Z.OpR.or op_mul (Z.OpR.or op_rep op_repT)
theorem s_mulX : OpS K mg (rMulX K) mulD := OpS.or s_mulI (OpS.or s_repL s_repT)
abbrev rInX (K : PySem.W.Frag) : R2 := fun x y H Q => rIn K false x y H Q ∨ ∃ i j, x = .str i ∧ y = .str j ∧ Q (.bl (!(Builtin.Str.occurrences j i 0 j.length 1).isEmpty)) H
def inX : RV → RV → Option RV := orF (inS false) (inT false)
theorem o_in : OpR X (compareOp .In) (rInX X.K) := Z.OpR.or op_in_seq op_in_str
theorem s_inX : OpS K mg (rInX K) inX := OpS.or s_inS s_inT
end
end Z
namespace Z
open PySem PySem.Spec PyProof.Rows L2
theorem conv {X : Cx} {W : WX} {pn : List Nat} {b : List Stmt} {s t : MS} (h : QSs X W pn b s) (e : s = t) : QSs X W pn b t := e ▸ h
end Z
namespace Z
open PySem PySem.Spec PyProof.Rows L2 Builtin Builtin.ObjectAttr
/-- the builtin class B below own ones: its maker, its __init__, its mro -/
structure ExB (B nw it : String) (tl : List Value) : Prop where
  F : ExcBaseFacts B nw it tl
  S : StoreFacts B tl "object.__setattr__" "object"
  X : PySem.W.KxsFacts B it
  ne : tl.isEmpty = false
  ob : tl.contains (.type "object") = true
theorem exb_V : ExB "ValueError" "ValueError.__new__" "ValueError.__init__" [.type "ValueError", .type "Exception", .type "BaseException", .type "object"] := ⟨F.excBase_ValueError, F.store_ValueError, PySem.W.kxs_ValueError, rfl, by decide +kernel⟩
theorem exb_L : ExB "LookupError" "LookupError.__new__" "LookupError.__init__" [.type "LookupError", .type "Exception", .type "BaseException", .type "object"] := ⟨F.excBase_LookupError, F.store_LookupError, PySem.W.kxs_LookupError, rfl, by decide +kernel⟩
theorem exb_I : ExB "IndexError" "IndexError.__new__" "IndexError.__init__" [.type "IndexError", .type "LookupError", .type "Exception", .type "BaseException", .type "object"] := ⟨F.excBase_IndexError, F.store_IndexError, PySem.W.kxs_IndexError, rfl, by decide +kernel⟩
/-- own classes, then tl -/
def OnTop (tl l : List Value) : Prop := ∃ cs : List Addr, l = cs.map Value.ref ++ tl
theorem onTop_cons {tl l : List Value} (c : Addr) : OnTop tl l → OnTop tl (.ref c :: l) := fun ⟨cs, h⟩ => ⟨c :: cs, by rw [h]; rfl⟩
theorem onTop_pass {B nw it : String} {tl : List Value} (T : ExB B nw it tl) (self : Value) : ∀ cs : List Addr, refuseLoop self "__setattr__" (cs.map Value.ref ++ tl) = pure () := by
  intro cs
  induction cs with
  | nil => exact T.S.passes self
  | cons c cs ih => rw [List.map_cons, List.cons_append, refuseLoop_ref]; exact ih
theorem onTop_has {tl l : List Value} (X : String) : OnTop tl l → l.contains (.type X) = tl.contains (.type X) := by
  rintro ⟨cs, rfl⟩
  induction cs with
  | nil => rfl
  | cons c cs ih => rw [List.map_cons, List.cons_append, List.contains_cons, ih]; rfl
theorem onTop_ne {B nw it : String} {tl l : List Value} (T : ExB B nw it tl) : OnTop tl l → l.isEmpty = false := by
  rintro ⟨cs, rfl⟩
  cases cs with
  | nil => exact T.ne
  | cons c cs => rfl
section
variable {prog : Program} {w : World} {A : Around} {R : Result → Shared → Prop} {hp : Heap} {g : Array GenState} {d : Drawn} {t : Nat} {os : OsState} {K : PySem.W.Frag} {name : Str} {tk : Tok} {v : Value} {x C : Addr} {fv : Array Value} {cd : ClassData} {B nw it : String} {tl : List Value}
/-- object.__setattr__ on an instance of such a class, down to its own dict -/
theorem exs_down {od : Option Obj} {odv : Option Addr} (T : ExB B nw it tl) (X : K.In hp) (I : PySem.W.InstAt hp x { cls := .ref C, dict := odv, data := .fields fv } C od) (hcd : PySem.W.clsIn K C = some cd) (hm : OnTop tl cd.mro) (ha : PySem.W.findIn K (.ref C) name = some none)
    (h : wpAny (model prog w) A.in1 (storeInOwnDict (.ref x) (.ref C) (.str name tk) name v false) (fun fin s' => match fin with
      | .done f => R (.ok f) s'
      | .again c' => c'.quiet = true ∧ codeAny (model prog w) A c' R s') (fun e s' => R (.error e) s') ⟨hp, g, d, t, os⟩) :
    codeAny (model prog w) A (.call (.builtin "object.__setattr__") ⟨[.ref x, .str name tk, v], []⟩) R ⟨hp, g, d, t, os⟩ := by
  have ne := onTop_ne T hm
  have hob : cd.mro.contains (.type "object") = true := (onTop_has "object" hm).trans T.ob
  have sub : PySem.W.Looks (model prog w) hp (isInstance (.ref x) (.type "object")) true := I.type.andThen (PySem.W.looks_mroIn X (by unfold PySem.W.mroIn; rw [hcd, Option.bind_some, if_neg (by rw [ne]; decide), hob]))
  have SF := F.store_object
  refine codeAny_call_builtin SF.slot.plain SF.entry (@PySem.W.check_slot (model prog w) _ _ ⟨hp, g, d, t, os⟩ "object.__setattr__" "object" "__setattr__" (.ref x) [.str name tk, v] [] _ SF.kind SF.split sub (SF.args (.ref x) (.str name tk) v) ?_)
  have hmr : PySem.W.Looks (model prog w) hp (mroOf (.ref C)) cd.mro := (PySem.W.looks_clsIn X hcd).andThen .now
  have L3 : PySem.W.Looks (model prog w) hp (storeTaker? none) none := .now
  rw [PySem.W.osa_eq, refuse_eq]
  refine wpAny_bind (wpAny_bind (I.type.at (wpAny_bind (hmr.at ?_))))
  obtain ⟨cs, e⟩ := hm
  rw [e, onTop_pass T]
  refine wpAny_pure (wpAny_bind (I.type.at (wpAny_bind ((PySem.W.looks_findIn X ha).at (wpAny_bind (L3.at ?_))))))
  exact h
theorem exs_new (T : ExB B nw it tl) (X : K.In hp) (hx : hp.get? x = some { cls := .ref C, data := .fields fv }) (hcd : PySem.W.clsIn K C = some cd) (hm : OnTop tl cd.mro) (hh : cd.hasDict = true) (ha : PySem.W.findIn K (.ref C) name = some none)
    (hq : ∀ h' tk' dx, (∀ b o, b ≠ x → hp.get? b = some o → h'.get? b = some o) → hp.objs.size ≤ dx → dx ≠ x → h'.get? x = some { cls := .ref C, dict := some dx, data := .fields fv } →
      h'.Ns1 dx (fun y => if y = name then some v else none) → R (.ok (.ret .none)) ⟨h', g, d, tk', os⟩) :
    codeAny (model prog w) A (.call (.builtin "object.__setattr__") ⟨[.ref x, .str name tk, v], []⟩) R ⟨hp, g, d, t, os⟩ := by
  have hcls : PySem.W.Looks (model prog w) hp (classData C) cd := PySem.W.looks_clsIn X hcd
  have hxs : x ≠ hp.objs.size := Nat.ne_of_lt (Heap.lt_size hx)
  refine exs_down T X (od := none) ⟨hx, rfl, rfl, trivial⟩ hcd hm ha ?_
  obtain ⟨c1, c2, c3, c4, c5, c6, c7, c8, c9, c10, c11⟩ := cd
  dsimp only at hh
  subst hh
  unfold storeInOwnDict ownDictForStores
  repeat (first | with_reducible refine PySem.HandSPX.store_in_new ?_ ?_ | with_reducible refine wpAny_loadPart_at hx ?_ | with_reducible refine hcls.at ?_ | wp_step)
  · exact ⟨_, #[], _, (Heap.get?_update_ne _ _ _ _ hxs.symm).trans (Heap.get?_push_at rfl rfl), rfl, fun e he => absurd he (by simp), fun _ => rfl⟩
  · intro h' tk' hn' hs
    have hx₁ : (hp.push { cls := .type "dict", data := .dict #[] }).get? x = some { cls := .ref C, data := .fields fv } := Heap.get?_push_of_some _ hx
    refine hq h' tk' hp.objs.size (fun b o hb ho => ?_) (Nat.le_refl _) hxs.symm ?_ hn'
    · exact (hs.2 b (Nat.ne_of_lt (Heap.lt_size ho))).trans ((Heap.get?_update_ne _ _ _ _ hb).trans (Heap.get?_push_of_some _ ho))
    · exact (hs.2 x hxs).trans (Heap.get?_update_self _ hx₁ rfl)
theorem exs_old {dx : Addr} {m0 : Str → Option Value} {ns : List Str} (T : ExB B nw it tl) (X : K.In hp) (hx : hp.get? x = some { cls := .ref C, dict := some dx, data := .fields fv }) (hns : hp.Ns1 dx m0) (hw : Within m0 ns) (hz : ns.length ≤ 1000)
    (hcd : PySem.W.clsIn K C = some cd) (hm : OnTop tl cd.mro) (hh : cd.hasDict = true) (ha : PySem.W.findIn K (.ref C) name = some none)
    (hq : ∀ h' tk', (∀ b o, b ≠ dx → hp.get? b = some o → h'.get? b = some o) → h'.Ns1 dx (fun y => if y = name then some v else m0 y) → R (.ok (.ret .none)) ⟨h', g, d, tk', os⟩) :
    codeAny (model prog w) A (.call (.builtin "object.__setattr__") ⟨[.ref x, .str name tk, v], []⟩) R ⟨hp, g, d, t, os⟩ := by
  have hcls : PySem.W.Looks (model prog w) hp (classData C) cd := PySem.W.looks_clsIn X hcd
  obtain ⟨oD, esD, epD, hoD, hdD, _⟩ := hns.count hw
  refine exs_down T X (od := some oD) ⟨hx, rfl, rfl, hoD⟩ hcd hm ha ?_
  obtain ⟨c1, c2, c3, c4, c5, c6, c7, c8, c9, c10, c11⟩ := cd
  dsimp only at hh
  subst hh
  unfold storeInOwnDict ownDictForStores
  repeat (first | with_reducible refine PySem.OEX.store_in_old hns hw hz ?_ | with_reducible refine wpAny_loadPart_at hx ?_ | with_reducible refine hcls.at ?_ | wp_step)
  intro h' tk' hn' hs
  exact hq h' tk' (fun b o hb ho => (hs.2 b hb).trans ho) hn'
end
/-- what the written part says of the class at C, the builtin one below it -/
structure OexQ (K : PySem.W.Frag) (C : Addr) (nw : String) (tl : List Value) : Prop where
  cls : ∃ nm q N bs bm sn sub ab col dd k0 k1 k2 k3 k5, K.lookup C = some (excClassObj nm q C N bs bm true sn sub ab col dd k0 k1 k2 k3 k5 nw) ∧ OnTop tl bm
  sa : PySem.W.findIn K (.ref C) "__setattr__" = some (some (.builtin "object.__setattr__"))
  exC : PySem.W.subIn K (.ref C) (.type "BaseException") = some true
  tyC : PySem.W.typeIn K (.ref C) = some (.type "type")
  kC : PySem.W.keepIn K (.ref C) = true
def OexC (K : PySem.W.Frag) (C : Addr) : Prop := ∃ B nw it tl, ExB B nw it tl ∧ OexQ K C nw tl
section
variable {X : Cx} {pins : List (Addr × Obj)} {σ : L2.St} {H : Hp} {s : Shared} {a C dx : Addr} {f : Str} {y : V} {u : Value} {fs : List (Str × V)} {Q : Unit → Shared → Prop} {E : Value → Shared → Prop} {A : Around}
theorem ost_new (T : OexC X.K C) (I : Inv X pins σ H s) (e : H a = some (exo a C none)) (hno : PySem.W.findIn X.K (.ref C) f = some none) (ry : RelV y u)
    (h : ∀ dx s', H dx = none → dx ≠ a → Inv X pins σ (upd (upd H dx (exd dx [(f, y)])) a (exo a C (some dx))) s' → Q () s') : wpAny (model X.prog X.w) A (setAttr (.ref a) f u) Q E s := by
  obtain ⟨B, nw, it, tl, TB, TQ⟩ := T
  obtain ⟨nm, q, N, bs, bm, sn, sub, ab, col, dd, k0, k1, k2, k3, k5, hC, hbm⟩ := TQ.cls
  have hcl : PySem.W.clsIn X.K C = some { name := nm, bases := bs, mro := .ref C :: bm, ns := N, qualname := q, hasDict := true, slotNames := sn, subclasses := sub, abstract := ab, collection := col, hasDel := false } := by unfold PySem.W.clsIn; rw [hC] <;> rfl
  obtain ⟨t1, ho⟩ := exo_at I.hok e
  obtain ⟨hp, g, d, t, os⟩ := s
  refine PySem.W.set_plain I.kIn (ox := { cls := .ref C, dict := none, data := .fields #[.ref t1, .none, .none, .none, .bool false, .none] }) (od := none) ⟨ho, rfl, rfl, trivial⟩ TQ.sa ?_
  refine exs_new TB I.kIn ho hcl (onTop_cons C hbm) rfl hno (fun h' tk' dx k dn dne hx hn => ?_)
  have hnd : H dx = none := I.hok.fresh dn
  have nd : ∀ {b : Addr} {o : Obj}, hp.get? b = some o → b ≠ dx := fun {b o} q => Nat.ne_of_lt (Nat.lt_of_lt_of_le (Heap.lt_size q) dn)
  have na : ∀ {b : Addr}, H b = none → b ≠ a := fun {b} n z => by
    rw [z, e] at n
    cases n
  have Un1 : Un X.fs [] H (upd (upd H dx (exd dx [(f, y)])) a (exo a C (some dx))) hp h' := {
    keep := fun b o q n _ _ => k b o (na n) q
    slot := fun b o q n _ _ => ⟨o.slots, k b o (na n) q⟩
    free := fun b o q n _ => by rw [upd_ne (na n), upd_ne (nd q)]; exact n
    there := fun b o q _ => by
      by_cases hb : b = a
      · exact ⟨_, by rw [hb]; exact hx⟩
      · exact ⟨o, k b o hb q⟩
    tups := fun b xs q => by rw [upd_ne (at_ne e q exo_tup), upd_ne (ne_of_none q hnd)]; exact q
    frzs := fun b o v q => by rw [upd_ne (at_ne e q exo_frz), upd_ne (ne_of_none q hnd)]; exact q
    tbls := fun b ps q => ⟨#[], by rw [upd_ne (at_ne e q exo_tbl), upd_ne (ne_of_none q hnd), q]; simp⟩ }
  refine h dx _ hnd dne (I.un (t' := tk') Un1 fun b o q => ?_)
  by_cases hb : b = a
  · subst hb
    rw [upd_same] at q
    cases q
    exact exo_ok hx
  · rw [upd_ne hb] at q
    by_cases hd : b = dx
    · subst hd
      rw [upd_same] at q
      cases q
      exact exd_ok hn (relO_put (fs := []) ry fun g => True.intro)
    · rw [upd_ne hd] at q
      exact (I.hok b o q).stay (fun c v hc z => k c v (by
          rcases hc with hc | hc
          · rw [hc]
            exact hb
          · exact at_ne e hc exo_own) z)
        (fun c hc => by rw [upd_ne (at_ne e hc exo_own), upd_ne (ne_of_none hc hnd)]; exact hc) (fun c xs hc => by rw [upd_ne (at_ne e hc exo_tup), upd_ne (ne_of_none hc hnd)]; exact hc)
theorem ost_old (T : OexC X.K C) (I : Inv X pins σ H s) (e : H a = some (exo a C (some dx))) (ed : H dx = some (exd dx fs)) (hl : fs.length ≤ 900) (hno : PySem.W.findIn X.K (.ref C) f = some none) (ry : RelV y u)
    (h : ∀ s', Inv X pins σ (upd H dx (exd dx ((f, y) :: fs))) s' → Q () s') : wpAny (model X.prog X.w) A (setAttr (.ref a) f u) Q E s := by
  obtain ⟨B, nw, it, tl, TB, TQ⟩ := T
  obtain ⟨nm, q, N, bs, bm, sn, sub, ab, col, dd, k0, k1, k2, k3, k5, hC, hbm⟩ := TQ.cls
  have hcl : PySem.W.clsIn X.K C = some { name := nm, bases := bs, mro := .ref C :: bm, ns := N, qualname := q, hasDict := true, slotNames := sn, subclasses := sub, abstract := ab, collection := col, hasDel := false } := by unfold PySem.W.clsIn; rw [hC] <;> rfl
  obtain ⟨t1, ho⟩ := exo_at I.hok e
  obtain ⟨mA, hns, rel⟩ := exd_at I.hok ed
  have hw := within_of rel
  obtain ⟨hp, g, d, t, os⟩ := s
  obtain ⟨oD, _, _, hoD, _, _⟩ := hns.count hw
  refine PySem.W.set_plain I.kIn (ox := { cls := .ref C, dict := some dx, data := .fields #[.ref t1, .none, .none, .none, .bool false, .none] }) (od := some oD) ⟨ho, rfl, rfl, hoD⟩ TQ.sa ?_
  refine exs_old TB I.kIn ho hns hw (by rw [List.length_map]; omega) hcl (onTop_cons C hbm) rfl hno (fun h' tk' k hn => ?_)
  have hd : ∃ o, h'.get? dx = some o := by
    obtain ⟨o, _, _, e', _⟩ := hn
    exact ⟨o, e'⟩
  exact h _ (I.write (t' := tk') (x := dx) (e := dx) (o := exd dx ((f, y) :: fs)) (by rw [ed]; exact True.intro) (.inl rfl) k hd (exd_ok hn (relO_put ry rel)))
end
def tOst (K : PySem.W.Frag) (f : Str) (to te : TE) : TS := fun D σ H => te σ H fun y H1 => to σ H1 fun x H2 => ∃ a C : Addr, x = .ref a ∧ OexC K C ∧ PySem.W.findIn K (.ref C) f = some none ∧
  ((H2 a = some (exo a C none) ∧ ∀ dx, H2 dx = none → dx ≠ a → D.nx σ (upd (upd H2 dx (exd dx [(f, y)])) a (exo a C (some dx)))) ∨
    ∃ (dx : Addr) (fs : List (Str × V)), H2 a = some (exo a C (some dx)) ∧ H2 dx = some (exd dx fs) ∧ fs.length ≤ 900 ∧ D.nx σ (upd H2 dx (exd dx ((f, y) :: fs))))
section
variable {X : Cx} {o e : Expr} {es : List Expr} {to te : TE} {ta : TA} {f : Str} {p p' pos : Pos}
theorem ps_ost (ho : PE X o to) (he : PE X e te) (hs : swapsWith e (some (.Attribute o f p')) pos.line X.env = pure false := by rfl) : PS X (.Assign [.Attribute o f p'] e pos) (tOst X.K f to te) := by
  refine ⟨fun pins s σ H D I h => ?_⟩
  refine plainObj_wpAny_Assign_Attribute (thn (he.run pins s σ H _ I h) fun v s1 ⟨y, H1, I1, r1, q1⟩ => thn (ho.run pins s1 σ H1 _ I1 q1) fun u s2 ⟨x, H2, I2, r2, a, C, ex, T, hno, q⟩ => ?_) hs
  subst ex
  obtain rfl : u = Value.ref a := r2
  rcases q with ⟨ea, q⟩ | ⟨dx, fs, ea, ed, hl, q⟩
  · exact ost_new T I2 ea hno r1 fun dx s' n ne J => ⟨σ, _, J, q dx n ne⟩
  · exact ost_old T I2 ea ed hl hno r1 fun s' J => ⟨σ, _, J, q⟩
theorem pmk_oex {CX : CXT} {x : Str} {C fI : Addr} {k : Nat} {fd : FuncData} {ps : List Str} {sp : Sp} {ds : List Value} {dvs : List V} (T : OexC X.K C) (iC : PySem.W.findIn X.K (.ref C) "__init__" = some (some (.ref fI))) (tI : PySem.W.typeIn X.K (.ref fI) = some (.type "function"))
    (F1 : FnOk X.prog X.w X.K X.mg X.base CX k fI fd ps sp) (hr : Room (k + 1) X.A) (hb : Binds X.K fd ps ds) (hd : Vals dvs ds) (hx : Passes CX X (fun _ _ _ => False)) (hg : Gl X x) (hm : X.mg x = some (.ref C)) (ha : PA X (e :: es) ta)
    (hdb : (x == ("__debug__" : Str)) = false := by decide) (he : starEach (e :: es) X.env = (false, eval e X.env) :: starEach es X.env := by rfl) (hpl : (backTo pos (starEach es X.env)).any (·.1) = false := by rfl) :
    PMk X (.Call (.Name x p) (e :: es) [] pos) (tMkO C sp dvs ta) := by
  intro pins s σ H Q I h
  obtain ⟨B, nw, it, tl, TB, TQ⟩ := T
  obtain ⟨nm, q, N, bs, bm, sn, sub, ab, col, dd, k0, k1, k2, k3, k5, hC, hbm⟩ := TQ.cls
  refine wpAny_Call_Name_kw (ld_glob I hg hm ?_ hdb)
  refine PySem.W.callWith_K (h₀ := X.base) I.ok.mod.kin TQ.kC (thn (ha.run pos pins s σ H _ I h) fun us s1 ⟨vs, H1, I1, r1, hz, q1⟩ => ⟨I1.kIn, ?_⟩) he hpl
  show wpAny _ _ (call (.ref C) us) _ _ _
  obtain ⟨hp, g, dr, tk, os⟩ := s1
  have hsz : hp.objs.size ≤ hp.objs.size + 1 := Nat.le_succ _
  have hn : H1 (hp.objs.size + 1) = none := I1.hok.fresh hsz
  have hq := q1 (hp.objs.size + 1) hn
  have kk : ∀ b o, hp.get? b = some o → ((hp.push (PySem.W.kdv_tup us)).push (PySem.HandSPX.excO C hp.objs.size)).get? b = some o := fun b o e => Heap.get?_push_of_some _ (Heap.get?_push_of_some _ e)
  have hget : ((hp.push (PySem.W.kdv_tup us)).push (PySem.HandSPX.excO C hp.objs.size)).get? (hp.objs.size + 1) = some (PySem.HandSPX.excO C hp.objs.size) := by heap_get
  have I2 : Inv X pins σ (upd H1 (hp.objs.size + 1) (exo (hp.objs.size + 1) C none)) ⟨(hp.push (PySem.W.kdv_tup us)).push (PySem.HandSPX.excO C hp.objs.size), g, dr, tk, os⟩ :=
    I1.laid (t' := tk) (a := hp.objs.size + 1) (o := exo (hp.objs.size + 1) C none) (h' := (hp.push (PySem.W.kdv_tup us)).push (PySem.HandSPX.excO C hp.objs.size)) kk hsz (exo_ok hget)
  have r2 : Vals (V.ref (hp.objs.size + 1) :: (vs ++ dvs)) (Value.ref (hp.objs.size + 1) :: (us ++ ds)) := .cons rfl (r1.append hd)
  have hl : (Value.ref (hp.objs.size + 1) :: us ++ ds).length = ps.length := by
    have e := r2.length
    rw [F1.len _ _ _ _ hq] at e
    exact e.symm
  have hus : us.length ≤ sizeLine := by
    rw [← Paired.length r1, sizeLine_eq]
    omega
  refine wpAny_call (PySem.HandSPX.call_own TB.F (fun Y => onTop_has Y hbm) (I1.kIn _ _ hC) (PySem.W.looks_findIn I1.kIn iC) (fun self => PySem.W.bind_fn I1.kIn self tI) hus
    (codeAny_mono (F1.run _ X.stack _ _ ⟨Value.ref (hp.objs.size + 1) :: us, []⟩ (Value.ref (hp.objs.size + 1) :: (us ++ ds)) _ _ (fun _ _ _ => False) (hr.make C us []) (I2.env0.make C us []) (hb _ (Value.ref (hp.objs.size + 1) :: us) I2.kIn hl) r2 hq) fun r s' hq' => ?_))
  cases r with
  | error er => exact hx pins σ _ _ er s' I2 hq'
  | ok fl =>
    cases fl with
    | ret u =>
      obtain ⟨v, H2, os2, bare2, un2, hok2, rv, ev, d, fs, ea, ed, hd1, q2⟩ := hq'
      subst ev
      obtain ⟨h2, g2, d2, t2, os'⟩ := s'
      exact ⟨rv, mk_end (raises_own TQ.exC TQ.tyC) I1 hsz kk un2 hok2 os2 bare2 ea ed hd1 q2⟩
    | next => exact False.elim hq'
    | brk => exact False.elim hq'
    | cont => exact False.elim hq'
end
end Z
namespace Z
open PySem PySem.Spec PyProof.Rows L2
/-- the context of the body of an __init__ that says super() -/
def supCx (CX : CXT) (P : Program) (w : World) (K : PySem.W.Frag) (mg : Str → Option Value) (base : Heap) (N : List Str) (qual : Str) (scope : Scope) (f : Addr) (cd : Value) (cc : Addr) (A : Around) (outer : List Env) (s : Shared) (H : Hp) (E : XK) : Cx where
  prog := P
  w := w
  K := K
  mg := mg
  base := base
  A := A.deeper (PySem.W.ksEnv qual scope s.heap.objs.size f cd cc)
  N := N
  s_0 := s
  H_0 := H
  env := PySem.W.ksEnv qual scope s.heap.objs.size f cd cc
  outer := outer
  stack := PySem.W.ksEnv qual scope s.heap.objs.size f cd cc :: outer
  ex := []
  calm := true
  fn := fun _ => false
  pn := []
  xe := fun e s' => wpAny (model P w) (A.deeper (PySem.W.ksEnv qual scope s.heap.objs.size f cd cc)) (leaving (PySem.W.ksEnv qual scope s.heap.objs.size f cd cc) e) (fun _ s'' => CX outer H s E e s'') (fun e' s'' => CX outer H s E e' s'') s'
structure SupScope (N ps : List Str) (sc : Scope) : Prop where
  kind : sc.kind = .function
  co : sc.isCoroutine = false
  gen : sc.isGenerator = false
  nd : N.Nodup
  pre : N.take ps.length = ps
  par : ∀ x ∈ ps, sc.names.lookup x = some .local
  nocell : ∀ y ∈ sc.names, y.2 ≠ .cell
  free : ∀ y ∈ sc.names, y.2 = .free → y.1 = "__class__"
  sup : sc.names.lookup ("super" : Str) = some .globalImplicit
  cls : sc.names.lookup ("__class__" : Str) = some .free
structure SupC (K : PySem.W.Frag) (C : Addr) : Prop where
  ex : ∃ B nw it tl, ExB B nw it tl ∧ OexQ K C nw tl ∧ PySem.W.ks_superIn K C C "__init__" = some (some (.builtin it)) ∧ PySem.W.subIn K (.ref C) (.type B) = some true
  stat : PySem.W.nsIn K cStatics "thirdparty.any" = some none
  mro : PySem.W.mroIn K C (.ref C) = some true
theorem SupC.oex {K : PySem.W.Frag} {C : Addr} (T : SupC K C) : OexC K C := by
  obtain ⟨B, nw, it, tl, h1, h2, _⟩ := T.ex
  exact ⟨B, nw, it, tl, h1, h2⟩
theorem rev_lookup : ∀ {ps : List Str} {us : List Value} {i : Nat} {x : Str} {u : Value}, ps.Nodup → ps[i]? = some x → us[i]? = some u → (ps.zip us).reverse.lookup x = some u := by
  intro ps
  induction ps with
  | nil => intro us i x u _ h _; simp at h
  | cons p ps ih =>
    intro us i x u nd h1 h2
    cases us with
    | nil => simp at h2
    | cons v us =>
      rw [List.zip_cons_cons, List.reverse_cons, List.lookup_append]
      cases i with
      | zero =>
        simp at h1 h2; subst h1; subst h2
        have hn : (ps.zip us).reverse.lookup p = none := by
          cases q : (ps.zip us).reverse.lookup p with
          | none => rfl
          | some z =>
            have := List.mem_reverse.mp (PySem.mem_of_lookup q)
            exact absurd (List.of_mem_zip this).1 (List.nodup_cons.mp nd).1
        rw [hn]; simp [List.lookup]
      | succ i =>
        rw [ih (List.nodup_cons.mp nd).2 (by simpa using h1) (by simpa using h2)]; rfl
section
variable {P : Program} {w : World} {K : PySem.W.Frag} {mg : Str → Option Value} {base : Heap}
theorem sup_start {CX : CXT} {N ps : List Str} {qual : Str} {scope : Scope} {f cc : Addr} {cd : Value} {A : Around} {outer : List Env} {s : Shared} {H : Hp} {E : XK} {us : List Value} {vs : List V} {h₀ : Heap} {tk : Nat} {oc : Value} {od : Option Addr} {cv : Option Value} {osl : Array (Option Value)}
    (S : SupScope N ps scope) (hd : A.handled = none) (e0 : Env0 P w K mg base A outer s H) (hl : vs.length = ps.length) (r : Vals vs us) (lc : K.lookup cc = some ⟨oc, od, .cell cv, osl⟩)
    (hns : h₀.Ns s.heap.objs.size fun x => (ps.zip us).reverse.lookup x) (kp : ∀ b o, s.heap.get? b = some o → h₀.get? b = some o) :
    Inv (supCx CX P w K mg base N qual scope f cd cc A outer s H E) [] (L2.start N vs) H { s with heap := h₀, toks := tk } := by
  have wpl : ps.length ≤ N.length := by have := congrArg List.length S.pre; rw [List.length_take] at this; omega
  have kin := e0.mod.kin _ _ lc
  obtain ⟨kin1, kin2⟩ := e0.bs _ _ kin
  have noA : ∀ b : Addr, b ∉ (supCx CX P w K mg base N qual scope f cd cc A outer s H E).ex := fun b z => absurd (show b ∈ ([] : List Addr) from z) (by simp)
  have look : ∀ {y : Str} {c : Addr}, ([(("__class__" : Str), cc)] : List (Str × Addr)).lookup y = some c → y = "__class__" ∧ c = cc := fun {y c} h => by
    have := PySem.mem_of_lookup h
    simp at this; exact this
  refine ⟨⟨e0.mod, S.kind, rfl, rfl, Nat.le_refl _, fun y z c h1 w2 => ?_, fun y wy => ?_, fun y c z _ => ?_, fun _ => hd, Around.frames_deeper e0.frames, .inr ⟨rfl, rfl⟩, fun b z => absurd z (noA b), e0.bs, e0.bsz, fun b _ _ => noA b, fun b z => absurd z (noA b), e0.funs, e0.frf⟩,
    rfl, e0.bare, Un.kept kp, ⟨_, hns, fun i y v h1 w2 h3 => ?_⟩, fun y c h => ?_, e0.hok.fresh (Nat.le_refl _), fun y c h => ?_, fun p wp => absurd (show p ∈ ([] : List (Addr × Obj)) from wp) (by simp), e0.hok.kept kp, ?_⟩
  · rw [(look h1).1, (look w2).1]
  · have wy : scope.names.lookup y = some .cell ∨ scope.names.lookup y = some .free := wy
    rcases wy with wy | wy
    · exact absurd rfl (S.nocell _ (PySem.mem_of_lookup wy))
    · have := S.free _ (PySem.mem_of_lookup wy) rfl
      exact ⟨cc, by rw [show y = "__class__" from this]; rfl⟩
  · cases (show false = true from z)
  · have wi : i < vs.length := by
      unfold L2.start at w2
      by_cases wi : i < vs.length
      · exact wi
      · rw [List.getElem?_append_right (by simpa using wi), List.getElem?_replicate] at w2
        split at w2 <;> cases w2
    have wa : vs[i]? = some v := by
      unfold L2.start at w2
      rw [List.getElem?_append_left (by simpa using wi), List.getElem?_map] at w2
      cases e' : vs[i]? with
      | none => rw [e'] at w2; cases w2
      | some a => rw [e'] at w2; cases w2; rfl
    obtain ⟨u, wu, wrv⟩ := r.get wa
    have wp : ps[i]? = some y := by
      rw [← S.pre, List.getElem?_take_of_lt (by omega)]; exact h1
    have wnd : ps.Nodup := by rw [← S.pre]; exact S.nd.sublist (List.take_sublist _ _)
    exact ⟨u, wrv, .inl ⟨S.par y (List.mem_of_getElem? wp), rev_lookup wnd wp wu⟩⟩
  · obtain ⟨_, rfl⟩ := look h
    exact ⟨cv, _, kp _ _ kin1, rfl⟩
  · obtain ⟨_, rfl⟩ := look h
    exact kin2
  · show (L2.start N vs).length = N.length
    unfold L2.start
    rw [List.length_append, List.length_map, List.length_replicate]; omega
/-- super().__init__(text): nothing of it is told -/
theorem sup_fn {CX : CXT} {name qual : Str} {params : Arguments} {rest : List Stmt} {scope : Scope} {dV kV doc pm ct oc : Value} {an od : Option Addr} {osl : Array (Option Value)} {f cc C cda : Addr} {N ps : List Str} {k : Nat} {sp : Sp} {msg : Str} {j : Nat} {p0 p1 p2 p3 p4 p5 : Pos}
    {pl : Env → Sem Bool} {ccl cl : Value} {cdd cld : Option Addr} {ccs csl : Array (Option Value)} {cvs : Array Value} {file : Str} {tf : Tok} {ar : Arg}
    (T : SupC K C) (lk : K.lookup f = some ⟨oc, od, .func (PySem.W.ksFn name qual params (.Expr (.Call (.Attribute (.Call (.Name "super" p0) [] [] p1) "__init__" p2) [.Constant (.str msg) j p3] [] p4) p5 :: rest) scope dV kV doc pm an (.ref cda) ct cc), osl⟩)
    (hcd : PySem.W.codeIn K (.ref cda) qual = true) (hcode : K.lookup cda = some ⟨ccl, cdd, .fields cvs, ccs⟩) (hvs : cvs[2]? = some (.str file tf)) (hfile : ((P.main.file : Str) == file) = true) (htop : (P.main.scope.names.lookup ("super" : Str)).isSome = false) (hms : mg "super" = none)
    (hcell : K.lookup cc = some ⟨cl, cld, .cell (some (.ref C)), csl⟩) (S : SupScope N ps scope) (hp : (params.posonlyargs ++ params.args).head? = some ar) (har : ps[0]? = some ar.arg)
    (hev : ∀ env : Env, eval (.Call (.Attribute (.Call (.Name "super" p0) [] [] p1) "__init__" p2) [.Constant (.str msg) j p3] [] p4) env = (do
      let ov ← attributeBase (.Call (.Name "super" p0) [] [] p1) "__init__" env (eval (.Call (.Name "super" p0) [] [] p1) env)
      standAt p2.atName
      let (f, first) ← holding [ov] (getMethod ov "__init__" (pl env))
      callWith p4 f first (backTo p4 (starEach [.Constant (.str msg) j p3] env)) []))
    (hsw : ∀ env : Env, swapsWith (.Call (.Attribute (.Call (.Name "super" p0) [] [] p1) "__init__" p2) [.Constant (.str msg) j p3] [] p4) none p5.line env = pure false)
    (wlen : ∀ vs H Q E, sp vs H Q E → vs.length = ps.length)
    (hbody : ∀ (A : Around) (outer : List Env) (s : Shared) (H : Hp) (vs : List V) (Q : VK) (E : XK), Room k (A.deeper (PySem.W.ksEnv qual scope s.heap.objs.size f (.ref cda) cc)) → sp vs H Q E →
      ∃ a ws t, vs = .ref a :: ws ∧ H a = some (exo a C none) ∧ PSs (supCx CX P w K mg base N qual scope f (.ref cda) cc A outer s H E) rest t ∧ t { nx := fun _ H' => Q .non H', rt := Q } (L2.start N vs) H) :
    FnOk P w K mg base CX (k + 1) f (PySem.W.ksFn name qual params (.Expr (.Call (.Attribute (.Call (.Name "super" p0) [] [] p1) "__init__" p2) [.Constant (.str msg) j p3] [] p4) p5 :: rest) scope dV kV doc pm an (.ref cda) ct cc) ps sp := by
  refine ⟨wlen, fun A outer s H args us vs Q E hr e0 hb r wsp => ?_⟩
  have KZ : K.In s.heap := e0.mod.kin.keeps fun b o e => (e0.bs b o e).1
  have wli : s.heap.NoLimit := e0.mod.nolimit.keeps fun b o e => (e0.bs b o e).1
  obtain ⟨a, ws, t, ev, ea, ht, hq⟩ := hbody A outer s H vs Q E (hr.deeper _) wsp
  have hl := wlen _ _ _ _ wsp
  have wnd : ps.Nodup := by rw [← S.pre]; exact S.nd.sublist (List.take_sublist _ _)
  have hu0 : us[0]? = some (.ref a) := by
    obtain ⟨u, hu, wrv⟩ := r.get (i := 0) (x := .ref a) (by rw [ev]; rfl)
    rw [hu, show u = .ref a from wrv]
  refine ks_codeAny_call_defAt hr.depth (KZ _ _ lk) rfl wli (PySem.W.codeRec_of KZ hcd) rfl hb S.nocell (fun y hy => S.par _ (List.of_mem_zip hy).1) (fun h₀ hns kp => ?_) S.co S.gen S.kind
  have I : Inv (supCx CX P w K mg base N qual scope f (.ref cda) cc A outer s H E) [] (L2.start N vs) H { s with heap := h₀, toks := s.toks + (ps.zip us).length } := sup_start S hr.hd e0 hl r hcell hns kp
  have K0 : K.In h₀ := KZ.keeps kp
  obtain ⟨B, nw, it, tl, TB, TQ, hsup, hsub⟩ := T.ex
  obtain ⟨nm, q, N0, bs, bm, sn, sub, ab, col, dd, k0, k1, k2, k3, k5, hC, hbm⟩ := TQ.cls
  obtain ⟨t1, ho⟩ := exo_at I.hok ea
  have hcl : PySem.W.clsIn K C = some { name := nm, bases := bs, mro := .ref C :: bm, ns := N0, qualname := q, hasDict := true, slotNames := sn, subclasses := sub, abstract := ab, collection := col, hasDel := false } := by unfold PySem.W.clsIn; rw [hC] <;> rfl
  have It : PySem.W.InstAt h₀ a ({ cls := .ref C, dict := none, data := .fields #[.ref t1, .none, .none, .none, .bool false, .none] } : Obj) C none := ⟨ho, rfl, rfl, trivial⟩
  obtain ⟨mb, hb1, hb2⟩ := I.mod.blt
  have hglob : h₀.Ns mainGlobals mg := I.mod.glob.keeps I.bk
  show _root_.PySem.wpAt _ (A.deeper (PySem.W.ksEnv qual scope s.heap.objs.size f (.ref cda) cc)) _ (execs _ (PySem.W.ksEnv qual scope s.heap.objs.size f (.ref cda) cc)) _ _ _
  refine ks_wpAt_execs_cons (ks_wpAt_Expr_any (ks_wpAt_MethodCall ?_ (hev _)) (by unfold interactive; rw [S.kind]; rfl) (hsw _))
  refine ks_wpAt_super_base (env := PySem.W.ksEnv qual scope s.heap.objs.size f (.ref cda) cc) S.sup S.cls (by decide) rfl (K0 _ _ lk) rfl hp rfl (K0 _ _ hcode) rfl hvs hfile htop ?_
  refine PySem.W.ks_loadName_global S.kind S.sup (PySem.Calls.loadGlobal_builtin (env := PySem.W.ksEnv qual scope s.heap.objs.size f (.ref cda) cc) hglob hms (hb1.keeps I.bk) ((hb2 "super" (by decide)).trans PyProof.Rows.Boot.«super») ⟨rfl, ?_⟩)
  refine wpAny_loadName_free S.kind S.cls rfl ⟨_, K0 _ _ hcell, rfl⟩ ?_
  refine wpAny_loadName_local S.kind (S.par _ (List.mem_of_getElem? har)) hns (rev_lookup wnd har hu0) ?_
  refine ks_wpAny_isType_cls (K0 _ _ hC) rfl ⟨rfl, ?_⟩
  refine ks_wpAny_call_super (K0 _ _ hC) rfl ho rfl (fun c e => by cases e) (PySem.W.looks_mroIn K0 T.mro) (fun h1 e1 kp1 => ?_)
  have K1 : K.In h1 := K0.keeps kp1
  unfold PySem.W.ks_superIn at hsup
  rw [hcl] at hsup
  have It1 : PySem.W.InstAt h1 a ({ cls := .ref C, dict := none, data := .fields #[.ref t1, .none, .none, .none, .bool false, .none] } : Obj) C none := ⟨kp1 _ _ ho, rfl, rfl, trivial⟩
  refine PySem.W.kxs_getMethod TB.X e1 (PySem.W.looks_opaque K1 T.stat) (l₀ := .ref C :: bm) (fun A Q E s k q => wpAny_bind ((PySem.W.looks_clsIn K1 hcl) A _ E s k (wpAny_pure q))) rfl K1 hsup (It1.type.andThen (PySem.W.looks_subIn K1 hsub)) (PySem.W.ks_ne K1 It1 hcl) (by decide) ?_
  have kp2 : ∀ b o, h₀.get? b = some o → (h1.push (PySem.W.kxs_mw it a)).get? b = some o := fun b o e => Heap.get?_push_of_some _ (kp1 b o e)
  refine PySem.W.kxs_callWith (i := it) (x := a) (by rfl) (Calls.evalArgs_plain ?_)
  show wpAny _ _ (spliced ((false, eval (.Constant (.str msg) j p3) (PySem.W.ksEnv qual scope s.heap.objs.size f (.ref cda) cc)) :: [])) _ _ _
  refine Calls.spliced_cons (Calls.Constant_str (Calls.spliced_nil ⟨Heap.get?_push_size _ rfl, ?_⟩))
  have hC2 := KZ.keeps (fun b o e => kp2 b o (kp b o e)) _ _ hC
  have he2 := kp2 _ _ ho
  show wpAny _ _ (call (.ref h1.objs.size) [.str msg _]) _ _ _
  refine wpAny_call (codeAny_of_tree ?_)
  show wpAny _ _ (callAny (.ref h1.objs.size) ⟨[.str msg _], []⟩) _ _ _
  simp only [callAny]
  refine wpAny_bind (wpAny_load (Heap.get?_push_size _ rfl) ?_)
  simp only [PySem.W.kxs_mw, show (Value.type "method-wrapper" == Value.type "method" || Value.type "method-wrapper" == Value.type "builtin_function_or_method" || Value.type "method-wrapper" == Value.type "method-wrapper") = true by decide, if_true]
  refine PySem.W.KFB.if_so (by decide) ?_
  refine wpAny_bind (PySem.W.check_bound_init TB.F.toExcCallFacts hC2 he2 rfl ?_)
  refine wpAny_bind (wpAny_pure (wpAny_pure ?_))
  refine ⟨plainId_quiet TB.F.init.plain _, codeAny_builtin TB.F.initEntry ?_⟩
  refine PySem.W.exc_init_tree (cls := .ref C) (t0 := t1) (dv := none) (c2 := .none) (c3 := .none) (b4 := .bool false) he2 (by rw [sizeLine_eq]; simp) fun h3 k3 e3 _ => ?_
  have I2 := I.kept (t' := s.toks + (ps.zip us).length + 1 + 1) kp2
  have J := I2.write (t' := s.toks + (ps.zip us).length + 1 + 1) (x := a) (e := a) (o := exo a C none) (by rw [ea]; exact True.intro) (.inl rfl) k3 ⟨_, e3⟩ (exo_ok e3)
  have weu : upd H a (exo a C none) = H := by
    funext b
    by_cases hb : b = a
    · rw [hb, upd_same, ea]
    · rw [upd_ne hb]
  rw [weu] at J
  refine wpAt_of_wpAny (wpAny_mono (ht.run [] _ _ H _ J hq) (fun fl s' hs => ?_) fun e s' hs => hs)
  have fie : ∀ {σ' : L2.St} {H' : Hp} {v : V} {u : Value}, Inv (supCx CX P w K mg base N qual scope f (.ref cda) cc A outer s H E) [] σ' H' s' → L2.RelV v u → Q v H' → CE outer P w H s Q u s' :=
    fun {σ' H' v u} J wrv q => ⟨v, H', J.os, J.bare, J.base, J.hok, wrv, q⟩
  cases fl with
  | ret u =>
    obtain ⟨v, σ', H', J, wrv, q⟩ := hs
    exact fie J wrv q
  | next =>
    obtain ⟨σ', H', J, q⟩ := hs
    exact fie (v := V.non) (u := Value.none) J rfl q
  | brk =>
    obtain ⟨_, _, _, q⟩ := hs
    exact False.elim q
  | cont =>
    obtain ⟨_, _, _, q⟩ := hs
    exact False.elim q
end
end Z
namespace Z
open PySem PySem.Spec PyProof.Rows L2
def xH1 (H : Hp) (a C dx p : Addr) (f code : Str) (y : V) : Hp := upd (upd (upd (upd (upd H dx (exd dx [(f, y)])) a (exo a C (some dx))) dx (exd dx [("code", .str code), (f, y)])) p (.tup [y])) dx (exd dx [("details", .ref p), ("code", .str code), (f, y)])
def spX1 (C : Addr) (f code : Str) : Sp := fun vs H Q _ => ∃ a y, vs = [.ref a, y] ∧ H a = some (exo a C none) ∧ ∀ dx p, H dx = none → dx ≠ a → H p = none → p ≠ a → p ≠ dx → Q .non (xH1 H a C dx p f code y)
section
variable {X : Cx} {C : Addr} {f code : Str}
theorem rest1 {q1 q2 q3 q4 q5 q6 q7 q8 q9 q10 q11 q12 q13 : Pos} {j k1 : Nat} (T : OexC X.K C) (n1 : PySem.W.findIn X.K (.ref C) f = some none) (n2 : PySem.W.findIn X.K (.ref C) "code" = some none) (n3 : PySem.W.findIn X.K (.ref C) "details" = some none)
    (hs : X.N[0]? = some ("self" : Str)) (hf : X.N[1]? = some f) (vs : Vis X.env.scope "self") (vf : Vis X.env.scope f) (hd : (f == ("__debug__" : Str)) = false) (hcd : (f == ("__classdict__" : Str)) = false)
    (w1 : swapsWith (.Name f q2) (some (.Attribute (.Name "self" q1) f q3)) q4.line X.env = pure false) (w2 : swapsWith (.Constant (.str code) j q6) (some (.Attribute (.Name "self" q5) "code" q7)) q8.line X.env = pure false)
    (w3 : swapsWith (.Tuple [.Name f q10] k1 q11) (some (.Attribute (.Name "self" q9) "details" q12)) q13.line X.env = pure false) :
    ∃ t, PSs X [.Assign [.Attribute (.Name "self" q1) f q3] (.Name f q2) q4, .Assign [.Attribute (.Name "self" q5) "code" q7] (.Constant (.str code) j q6) q8, .Assign [.Attribute (.Name "self" q9) "details" q12] (.Tuple [.Name f q10] k1 q11) q13] t ∧
      ∀ (D : Ends) (σ : L2.St) (H : Hp) (a : Addr) (y : V), σ[0]? = some (some (.ref a)) → σ[1]? = some (some y) → H a = some (exo a C none) →
        (∀ dx p, H dx = none → dx ≠ a → H p = none → p ≠ a → p ≠ dx → D.nx σ (xH1 H a C dx p f code y)) → t D σ H := by
  refine ⟨_, pss_cons (ps_ost (pe_var hs vs) (pe_var hf vf hd hcd) w1) (pss_cons (ps_ost (pe_var hs vs) pe_str w2) (pss_cons (ps_ost (pe_var hs vs) (pe_tup (pa_cons (pe_var hf vf hd hcd) pa_nil rfl)) w3) pss_nil)), fun D σ H a y h0 h1 ea h => ?_⟩
  refine ⟨y, h1, .ref a, h0, a, C, rfl, T, n1, .inl ⟨ea, fun dx hd hne => ?_⟩⟩
  refine ⟨.ref a, h0, a, C, rfl, T, n2, .inr ⟨dx, [(f, y)], upd_same, by rw [upd_ne hne, upd_same], Nat.le_of_ble_eq_true rfl, ?_⟩⟩
  refine ⟨y, h1, by rw [sizeLine_eq]; exact Nat.le_of_ble_eq_true rfl, fun p hp => ⟨.ref a, h0, a, C, rfl, T, n3, .inr ⟨dx, [("code", .str code), (f, y)], ?_, ?_, Nat.le_of_ble_eq_true rfl, ?_⟩⟩⟩
  all_goals
    have hpd : p ≠ dx := fun z => by rw [z, upd_same] at hp; cases hp
    rw [upd_ne hpd] at hp
    have hpa : p ≠ a := fun z => by rw [z, upd_same] at hp; cases hp
    rw [upd_ne hpa, upd_ne hpd] at hp
  · rw [upd_ne (Ne.symm hpa), upd_ne (Ne.symm hne), upd_same]
  · rw [upd_ne (Ne.symm hpd), upd_same]
  · exact h dx p hd hne hp hpa hpd
end
structure ExcAt (P : Program) (w : World) (K : PySem.W.Frag) (mg : Str → Option Value) (base : Heap) (k : Nat) (c : Str) (C : Addr) (ps : List Str) (sp : Sp) : Prop where
  glo : mg c = some (.ref C)
  oex : OexC K C
  init : ∃ (fI : Addr) (fd : FuncData), PySem.W.findIn K (.ref C) "__init__" = some (some (.ref fI)) ∧ PySem.W.typeIn K (.ref fI) = some (.type "function") ∧ Binds K fd ps [] ∧ FnOk P w K mg base (L2.CX P w) k fI fd ps sp
def Exc1 (P : Program) (w : World) (K : PySem.W.Frag) (mg : Str → Option Value) (base : Heap) (k : Nat) (c f : Str) : Prop := ∃ C, ExcAt P w K mg base k c C ["self", f] (spX1 C f c)
def exn1 (c f : Str) (d : D) : Exn := ⟨c, [("details", .tup [d]), ("code", .str c), (f, d)]⟩
def exn0 (c : Str) : Exn := ⟨c, [("details", .tup []), ("code", .str c)]⟩
def raise1 (c f : Str) (m : M (List Opd)) : MS := bindS m fun os env => match dsOf os env with
  | .ok [d] e => .err (exn1 c f d) e
  | _ => .stk
def raise0 (c : Str) : MS := fun env => .err (exn0 c) env
section
variable {X : Cx} {W : WX} {pn : List Nat}
theorem xH1_end {H1 : Hp} {a C dx p : Addr} {f code : Str} {y : V} {o : HO} (ha : H1 a = none) (hdx : dx ≠ a) (hpa : p ≠ a) (hpd : p ≠ dx) {fs : List (Str × V)} : upd (del (xH1 (upd H1 a o) a C dx p f code y) a) dx (.xd fs) = upd (upd H1 p (.tup [y])) dx (.xd fs) := by
  funext b
  by_cases h1 : b = dx
  · rw [h1, upd_same, upd_same]
  · rw [upd_ne h1, upd_ne h1]
    by_cases h2 : b = a
    · rw [h2, del_same, upd_ne (Ne.symm hpa), ha]
    · rw [del_ne h2]
      unfold xH1
      rw [upd_ne h1]
      by_cases h3 : b = p
      · rw [h3, upd_same, upd_same]
      · rw [upd_ne h3, upd_ne h1, upd_ne h2, upd_ne h1, upd_ne h2, upd_ne h3]
theorem DenA.nil {K : PySem.W.Frag} {mg : Str → Option Value} {G : Hp} {α : Type} : DenA K mg G ([] : List (α × V)) [] := ⟨rfl, fun i p q a => by simp at a⟩
theorem DenA.cons {K : PySem.W.Frag} {mg : Str → Option Value} {G : Hp} {α : Type} {x : α} {v : V} {d : D} {gs : List (α × V)} {fs : List (α × D)} (h : Den K mg G v d) (t : DenA K mg G gs fs) : DenA K mg G ((x, v) :: gs) ((x, d) :: fs) := by
  refine ⟨by rw [List.map_cons, List.map_cons, t.1], fun i p q a b => ?_⟩
  cases i with
  | zero => simp at a b; subst a; subst b; exact h
  | succ i => simp at a b; exact t.2 i p q a b
theorem qs_raise1 {k : Nat} {c f : Str} {e : Expr} {p pos pos' : Pos} {m : M (List Opd)} (E : Exc1 X.prog X.w X.K X.mg X.base k c f) (hc : X.calm = true) (tk : Takes X W) (hr : Room (k + 1) X.A) (hg : Gl X c) (he : QOs X W pn [e] m)
    (hdb : (c == ("__debug__" : Str)) = false) (hst : starEach [e] X.env = (false, eval e X.env) :: starEach [] X.env) (hpl : (backTo pos (starEach [] X.env)).any (·.1) = false) :
    QS X W pn (.Raise (some (.Call (.Name c p) [e] [] pos)) none pos') (raise1 c f m) := fun Fh P hp => by
  obtain ⟨C, E⟩ := E
  obtain ⟨fI, fd, iC, tI, hb, F1⟩ := E.init
  refine PS.weak (ps_raise hc tk (pmk_oex E.oex iC tI F1 hr hb .nil (passes_call tk fun _ _ _ _ z => z.elim) hg E.glo (he Fh P hp) hdb hst hpl)) fun D σ H ⟨G, env, S, q⟩ => ?_
  refine ⟨G, env, S, POs_S (σ := σ) q fun os e1 vs G1 H1 ex1 w1 S1 hk => ?_⟩
  cases z : dsOf os e1 with
  | err x e2 => exact (dsOf_noerr z).elim
  | stk => simp only [z] at hk; exact hk.elim
  | ok ds e2 =>
    simp only [z] at hk
    cases ds with
    | nil => exact hk.elim
    | cons d ds =>
      cases ds with
      | cons _ _ => exact hk.elim
      | nil =>
        obtain ⟨G2, ex2, d2, S2⟩ := S1.dsOf w1 z
        obtain ⟨y, ys, rfl, dy, dn⟩ := d2.cons_ex
        rw [dn.nil_inv]
        refine ⟨by simp, fun a ha => ⟨a, y, rfl, upd_same, fun dx p hdx hne hp hpa hpd => ⟨rfl, dx, [("details", .ref p), ("code", .str c), (f, y)], ?_, upd_same, ?_, ?_⟩⟩⟩
        · unfold xH1
          rw [upd_ne (Ne.symm hne), upd_ne (Ne.symm hpa), upd_ne (Ne.symm hne), upd_same]
        · rw [upd_ne hne] at hdx; exact hdx
        · rw [upd_ne hne] at hdx
          rw [upd_ne hpa] at hp
          rw [xH1_end ha hne hpa hpd]
          have st1 : Step G2 H1 (upd G2 p (.tup [y])) (upd H1 p (.tup [y])) [] := .shr hp
          have S3 := S2.step st1
          have x3 := st1.ex S2.gh
          have st2 : Step (upd G2 p (.tup [y])) (upd H1 p (.tup [y])) (upd (upd G2 p (.tup [y])) dx (.xd [("details", .ref p), ("code", .str c), (f, y)])) (upd (upd H1 p (.tup [y])) dx (.xd [("details", .ref p), ("code", .str c), (f, y)])) [] := .shr (by rw [upd_ne (Ne.symm hpd)]; exact hdx)
          have S4 := S3.step st2
          have x4 := st2.ex S3.gh
          refine hk (.ref C) (some dx) σ _ _ ((ex2.trans x3).trans x4) ⟨C, dx, _, rfl, E.glo, rfl, upd_same, ?_⟩ S4
          have dy' := dy.mono (x3.trans x4)
          refine .cons (.tupL (SqT.of (xs := [y]) (by rw [upd_ne hpd, upd_same])) (.one dy')) (.cons (.str c) (.cons dy' .nil))
end
end Z
namespace Z
open PySem PySem.Spec PyProof.Rows L2
def wTup3 (K : PySem.W.Frag) (c1 c2 c3 : Value) (i : Nat) (ts : Addr → Value → Option Addr → TS) (D : Ends) : WX := fun cls d σ H =>
  PySem.W.exmAny K cls [c1, c2, c3] = some true ∧ ∀ a, H a = none → ts a cls d { nx := fun σ' H' => D.nx (σ'.set i none) H', rt := D.rt, bk := fun σ' H' => D.bk (σ'.set i none) H', ct := fun σ' H' => D.ct (σ'.set i none) H' } (σ.set i (some (.ref a))) H
section
variable {X : Cx} {x1 x2 x3 n : Str} {c1 c2 c3 : Value} {i : Nat} {body suite : List Stmt} {b₀ : Stmt} {q1 q2 q3 q4 pos pos' : Pos} {kk : Nat} {tb : WX → TS} {ts : Addr → Value → Option Addr → TS}
theorem FlyingZ.push {base h : Heap} {l : List Env} {e : Addr} {Z : Obj → Prop} {o : Obj} (x : HandSPX.FlyingZ base l e Z h) : HandSPX.FlyingZ base l e Z (h.push o) := by
  obtain ⟨k1, k2, k3, oe, vs, T, oT, ts, g1, g2, g3, g4, g5, g6, g7, g8, g9⟩ := x
  exact ⟨fun b u e => Heap.get?_push_of_some _ (k1 b u e), k2, Heap.FunFrames.of_keeps (fun b u e _ => ⟨u, Heap.get?_push_of_some _ e, rfl⟩) k3, oe, vs, T, oT, ts, Heap.get?_push_of_some _ g1, g2, g3, g4, g5, g6, Heap.get?_push_of_some _ g7, g8, g9⟩
theorem ps_try_tup3 (hs : X.stack = X.env :: X.outer) (hf : X.env.frame = some X.env.locals) (hN : X.N.Nodup) (hi : X.N[i]? = some n) (hln : X.env.kindOf n = some .local)
    (g1 : Gl X x1) (g2 : Gl X x2) (g3 : Gl X x3) (m1 : X.mg x1 = some c1) (m2 : X.mg x2 = some c2) (m3 : X.mg x3 = some c3) (d1 : (x1 == ("__debug__" : Str)) = false) (d2 : (x2 == ("__debug__" : Str)) = false) (d3 : (x3 == ("__debug__" : Str)) = false)
    (hb : ∀ (W : WX) (pz : List (Addr × Obj)) (xe : Value → Shared → Prop), Takes (X.tr pz xe) W → PassesOwn (model X.prog X.w) X.A X.env xe → PSs (X.tr pz xe) body (tb W))
    (hsu : ∀ (a : Addr) (oe : Obj) (cls : Value) (d : Option Addr) (pz : List (Addr × Obj)), Zc cls d oe → (∃ vs, oe.data = .fields vs) → PSs (X.suite a ((a, oe) :: pz)) (b₀ :: suite) (ts a cls d)) :
    PS X (.Try body [.ExceptHandler (some (.Tuple [.Name x1 q1, .Name x2 q2, .Name x3 q3] kk q4)) (some n) (b₀ :: suite) pos'] [] [] pos) (fun D σ H => tb (wTup3 X.K c1 c2 c3 i ts D) D σ H) := by
  refine ⟨fun pins s σ H D I h => ?_⟩
  have okX := I.ok
  have gfr : X.A.frames = some (X.env :: X.outer) := by rw [okX.frames, hs]
  have glc : Loc X.env.scope n := .inl hln
  refine wpAny_Try_except ?_
  refine wpAny_mono ((hb (wTup3 X.K c1 c2 c3 i ts D) (X.pn ++ pins) (fun e s₁ => wpAny (model X.prog X.w) X.A (noteFrame e X.env) (fun _ s₂ => wpAny (model X.prog X.w) X.A (setFlight e none) (fun _ s₃ =>
    wpAny (model X.prog X.w) X.A (handleBy e X.env [.ExceptHandler (some (.Tuple [.Name x1 q1, .Name x2 q2, .Name x3 q3] kk q4)) (some n) (b₀ :: suite) pos']) (SP X pins D) X.xe s₃) X.xe s₂) X.xe s₁) (fun u s' xx => ?_) PassesOwn.looking).run [] s σ H D (I.toTry _) h) (fun f s1 hqp => ?_) (fun e s1 he => he)
  · -- the catch
    obtain ⟨a, B, sI, pins', σ', H', cls, d, rfl, K', nb, up, sky, na, os, ag, hb1, hyes⟩ := xx
    have J0 : Inv X pins σ' H' sI := K'.ofTry okX
    have skz : Sky B (X.env :: X.outer) a (Zc cls d) X.env.locals s'.heap := by rw [← hs]; exact sky
    show wpAny (model X.prog X.w) X.A (noteFrame (.ref a) X.env) _ _ _
    refine Sky.land Zc.steady gfr hf skz fun hp3 fy3 ua3 => ?_
    have M3 : Inv X pins σ' H' { s' with heap := hp3 } := J0.landed nb fy3.1 (up.trans ua3) os ag
    obtain ⟨ob3, ov3, ge3, gz3, gd3⟩ := fy3.there
    have outF : ∀ {h : Heap} {o : Obj} {vs : Array Value}, h.FunFrames B (X.env :: X.outer) → h.get? a = some o → o.data = .fields vs → a ∉ frs (X.env :: X.outer) := fun {h o vs} ff e dd hm => by
      obtain ⟨_, o', e', hnf⟩ := ff.mem hm
      rw [e] at e'; cases e'
      exact hnf _ dd
    have nf0 := outF fy3.2.2.1 ge3 gd3
    have n0L : a ≠ X.env.locals := fun z => nf0 (List.mem_filterMap.mpr ⟨X.env, List.mem_cons_self, by rw [hf, z]⟩)
    have n0F : a ∉ X.fs := fun hm => by
      obtain ⟨e, he, q⟩ := List.mem_filterMap.mp hm
      exact nf0 (List.mem_filterMap.mpr ⟨e, List.mem_cons_of_mem _ he, q⟩)
    have T3 := M3.suite ge3 gd3 na n0L n0F
    refine wpAny_handleBy_cons (codeAny_handlers_test ?_) (by intro q; cases q)
    refine wpAny_Tuple_spliced ?_
    show wpAny _ (X.A.mark (some (.ref a))) (spliced ((false, eval (.Name x1 q1) X.env) :: (false, eval (.Name x2 q2) X.env) :: (false, eval (.Name x3 q3) X.env) :: [])) _ _ _
    refine Calls.spliced_cons (ld_glob (X := X.suite a ((a, ob3) :: (X.pn ++ pins))) T3 g1 m1 (Calls.spliced_cons (ld_glob (X := X.suite a ((a, ob3) :: (X.pn ++ pins))) T3 g2 m2 (Calls.spliced_cons (ld_glob (X := X.suite a ((a, ob3) :: (X.pn ++ pins))) T3 g3 m3 (Calls.spliced_nil ⟨by rw [sizeLine_eq]; exact Nat.le_of_ble_eq_true rfl, ?_⟩) d3)) d2)) d1)
    have fy5 := FlyingZ.push (o := ({ cls := .type "tuple", data := .seq [c1, c2, c3].toArray } : Obj)) fy3
    have ua5 : hp3.UpToSlots (hp3.push ({ cls := .type "tuple", data := .seq [c1, c2, c3].toArray } : Obj)) := Heap.UpToSlots.of_keeps fun b o e => Heap.get?_push_of_some _ e
    have M5 : Inv X pins σ' H' { s' with heap := hp3.push ({ cls := .type "tuple", data := .seq [c1, c2, c3].toArray } : Obj) } := J0.landed nb fy5.1 ((up.trans ua3).trans ua5) os ag
    have LT : PySem.W.Looks (model X.prog X.w) (hp3.push ({ cls := .type "tuple", data := .seq [c1, c2, c3].toArray } : Obj)) (typeOf (.ref a)) cls := fun A Q E s k q => wpAny_typeOf_ref (k _ _ (Heap.get?_push_of_some _ ge3)) (by rw [gz3.1]; exact q)
    refine (PySem.W.exm_tup3 (M := model X.prog X.w) M5.kIn LT (Heap.get?_push_size hp3 rfl) hb1).here ?_
    refine codeAny_handlers_suite_as ?_
    refine HandSPX.lands_againZ fy5 fun hp4 fy4 ua4 => ?_
    have M4 : Inv X pins σ' H' { s' with heap := hp4 } := J0.landed nb fy4.1 (((up.trans ua3).trans ua5).trans ua4) os ag
    obtain ⟨ob4, ov4, ge4, gz4, gd4⟩ := fy4.there
    have T4 := M4.suite ge4 gd4 na n0L n0F
    refine store_ok (X := X.suite a ((a, ob4) :: (X.pn ++ pins))) (v := .ref a) T4 hN hi glc rfl (fun s5 T5 => ?_) (.inr hln)
    refine wpAny_mono ((hsu a ob4 cls d (X.pn ++ pins) gz4 ⟨_, gd4⟩).run [] s5 _ H' _ T5 (hyes a na)) (fun f sz hqp => ?_) (fun _ _ z => False.elim z)
    have fin_ : ∀ {σz : L2.St} {Hz : Hp} {Q : Shared → Prop}, Inv (X.suite a ((a, ob4) :: (X.pn ++ pins))) [] σz Hz sz → (∀ sy, Inv X pins (σz.set i none) Hz sy → Q sy) →
        wpAny (model X.prog X.w) X.A (do bindName X.env n .none; unbindBehindTheSuite X.env n pos') (fun _ sy => Q sy) X.xe sz := fun {σz Hz Q} Tz hq => gone_ok (Tz.unsuite okX) hN hi hln hq
    cases f with
    | next =>
      obtain ⟨σz, Hz, Tz, qz⟩ := hqp
      exact fin_ Tz fun sy My => ⟨_, _, My, qz⟩
    | brk =>
      obtain ⟨σz, Hz, Tz, qz⟩ := hqp
      exact fin_ Tz fun sy My => ⟨_, _, My, qz⟩
    | cont =>
      obtain ⟨σz, Hz, Tz, qz⟩ := hqp
      exact fin_ Tz fun sy My => ⟨_, _, My, qz⟩
    | ret u =>
      obtain ⟨vz, σz, Hz, Tz, rz, qz⟩ := hqp
      exact fin_ Tz fun sy My => ⟨_, _, _, My, rz, qz⟩
  · cases f with
    | next =>
      obtain ⟨σ', H', K', q⟩ := hqp
      exact wpAny_execs_nil ⟨σ', H', K'.ofTry okX, q⟩
    | brk =>
      obtain ⟨σ', H', K', q⟩ := hqp
      exact ⟨σ', H', K'.ofTry okX, q⟩
    | cont =>
      obtain ⟨σ', H', K', q⟩ := hqp
      exact ⟨σ', H', K'.ofTry okX, q⟩
    | ret u =>
      obtain ⟨v, σ', H', K', r, q⟩ := hqp
      exact ⟨v, σ', H', K'.ofTry okX, r, q⟩
/-- e.f in the suite, whatever the class -/
def tXfA (K : PySem.W.Frag) (a : Addr) (cls : Value) (d : Option Addr) (f : Str) (te : TE) : TE := fun σ H Q => te σ H fun x H1 => x = .ref a ∧ ∃ (C dd : Addr) (fs : List (Str × V)) (v : V), cls = .ref C ∧ XfC K C ∧ PySem.W.findIn K (.ref C) f = some none ∧ d = some dd ∧ H1 dd = some (.xd fs) ∧ fs.lookup f = some v ∧ Q v H1
theorem pe_xfA {a : Addr} {oe : Obj} {cls : Value} {d : Option Addr} {pn : List (Addr × Obj)} {e : Expr} {te : TE} {n : Str} (hz : Zc cls d oe) (hf : ∃ vs, oe.data = .fields vs) (hpe : PE (X.suite a ((a, oe) :: pn)) e te) (hb : attributeBase e n X.env (eval e X.env) = eval e X.env) :
    PE (X.suite a ((a, oe) :: pn)) (.Attribute e n pos) (tXfA X.K a cls d n te) := by
  refine ⟨fun pins s σ H Q I h => ?_⟩
  refine attr_of hb (thn (hpe.run pins s σ H _ I h) fun u sb zz => ?_)
  obtain ⟨x, H1, Ib, yx, ex, C, dd, fs, v, ec, T, hno, ed, ea, l, q⟩ := zz
  subst ex
  obtain rfl : u = Value.ref a := yx
  subst ec
  subst ed
  obtain ⟨wa, _⟩ := Ib.pin (a, oe) (List.mem_append_left _ List.mem_cons_self)
  obtain ⟨vs, wd⟩ := hf
  have wx : ObjOk X.prog X.w H1 sb.heap dd (.xd fs) := Ib.hok dd _ ea
  obtain ⟨mB, wns, wr⟩ := wx
  obtain ⟨ow, wo, wl⟩ := lookIn_ns wns
  obtain ⟨u, wu, yu⟩ := RelO.some_of (v := v) (o := mB n) (by rw [← l]; exact wr n)
  have Jz : PySem.W.InstAt sb.heap a oe C (some ow) := ⟨wa, hz.1, by unfold PySem.W.notCls; rw [wd] <;> rfl, by rw [hz.2]; exact wo⟩
  exact HandSPX.exc_get Ib.kIn Jz T.ga T.gg T.exC (PySem.W.findObj_own T.hdC hno rfl (by rw [wl, wu])) (handed_of yu) ⟨v, H1, Ib.tok _, yu, q⟩
end
/-- try: s, except (A, B, C) as e: x = (e.f, e.g); es: the classes that are caught; i: e's slot, j: x's -/
def tellS (es : List Str) (pn : List Nat) (i j : Nat) (f g : Str) (s : MS) : MS := fun env => if i ∈ pn ∨ j ∈ pn ∨ i = j then .stk else match s env with
  | .err x e => if x.c ∈ es then (match x.fs.lookup f, x.fs.lookup g with
    | some d1, some d2 => if j < e.length ∧ i < e.length then .nx (((e.set i none).set j (some (.sh (.tup [d1, d2])))).set i none) else .stk
    | _, _ => .stk) else .stk
  | o => o
/-- what is known of a class that is caught -/
structure CatchC (K : PySem.W.Frag) (c1 c2 c3 : Value) (f g : Str) (C : Addr) : Prop where
  exm : PySem.W.exmAny K (.ref C) [c1, c2, c3] = some true
  xf : XfC K C
  nf : PySem.W.findIn K (.ref C) f = some none
  ng : PySem.W.findIn K (.ref C) g = some none
section
variable {K : PySem.W.Frag} {mg : Str → Option Value} {Fh : FHp} {P : List (Nat × V)} {G H : Hp} {σ : L2.St} {env : DEnv}
/-- a slot's value is forgotten, whatever comes to it -/
theorem SRel.lose {i : Nat} {v : Option V} (S : SRel K mg Fh P G H σ env []) (hp : i ∉ P.map (·.1)) : SRel K mg Fh P G H (σ.set i v) (env.set i none) [] := by
  have old : ∀ {j : Nat} {r : RV}, (env.set i none)[j]? = some (some r) → j ≠ i ∧ env[j]? = some (some r) := fun {j r} h => by
    rcases set_get h with ⟨_, z, _⟩ | z
    · cases z
    · exact z
  have sg : ∀ {j : Nat}, j ≠ i → (σ.set i v)[j]? = σ[j]? := fun {j} h => List.getElem?_set_ne (Ne.symm h)
  refine ⟨S.gh, S.fh, S.dj, fun p h => ?_, by simp [S.len], fun j r h nt => ?_, fun j k r1 r2 b g1 g2 o1 o2 s1 s2 => ?_, fun j r b h o1 hb => ?_, S.tmp, S.tre.put (fun _ z => by cases z) (fun _ _ z => by cases z) fun b m => m⟩
  · rw [sg (fun z => hp (by rw [← z]; exact List.mem_map_of_mem h))]; exact S.pin p h
  · obtain ⟨ne, h⟩ := old h
    rw [sg ne]; exact S.val j r h nt
  · obtain ⟨n1, g1⟩ := old g1
    obtain ⟨n2, g2⟩ := old g2
    rw [sg n1] at s1
    rw [sg n2] at s2
    exact S.dis j k r1 r2 b g1 g2 o1 o2 s1 s2
  · obtain ⟨n1, g1⟩ := old h
    rw [sg n1] at hb
    exact S.nof j r b g1 o1 hb
end
theorem qs_tell {X : Cx} {W : WX} {pn : List Nat} {es : List Str} {x1 x2 x3 n x f g : Str} {c1 c2 c3 : Value} {i j : Nat} {body : List Stmt} {q1 q2 q3 q4 q5 q6 q7 q8 q9 q10 q11 pos pos' : Pos} {kk k2 : Nat} {s : MS}
    (hs : X.stack = X.env :: X.outer) (hf : X.env.frame = some X.env.locals) (hN : X.N.Nodup) (hi : X.N[i]? = some n) (hj : X.N[j]? = some x) (hln : X.env.kindOf n = some .local) (hlx : X.env.kindOf x = some .local)
    (g1 : Gl X x1) (g2 : Gl X x2) (g3 : Gl X x3) (m1 : X.mg x1 = some c1) (m2 : X.mg x2 = some c2) (m3 : X.mg x3 = some c3) (d1 : (x1 == ("__debug__" : Str)) = false) (d2 : (x2 == ("__debug__" : Str)) = false) (d3 : (x3 == ("__debug__" : Str)) = false)
    (hC : ∀ c ∈ es, ∀ C, X.mg c = some (.ref C) → CatchC X.K c1 c2 c3 f g C)
    (hb : ∀ (W : WX) (p : List (Addr × Obj)) (xe : Value → Shared → Prop), Takes (X.tr p xe) W → PassesOwn (model X.prog X.w) X.A X.env xe → QSs (X.tr p xe) W pn body s)
    (hdn : (n == ("__debug__" : Str)) = false) (hcn : (n == ("__classdict__" : Str)) = false) (ab1 : attributeBase (.Name n q5) f X.env (eval (.Name n q5) X.env) = eval (.Name n q5) X.env) (ab2 : attributeBase (.Name n q7) g X.env (eval (.Name n q7) X.env) = eval (.Name n q7) X.env)
    (hst1 : starEach [.Attribute (.Name n q5) f q6, .Attribute (.Name n q7) g q8] X.env = (false, eval (.Attribute (.Name n q5) f q6) X.env) :: starEach [.Attribute (.Name n q7) g q8] X.env) (hst2 : starEach [.Attribute (.Name n q7) g q8] X.env = (false, eval (.Attribute (.Name n q7) g q8) X.env) :: starEach [] X.env)
    (hsw : swapsWith (.Tuple [.Attribute (.Name n q5) f q6, .Attribute (.Name n q7) g q8] k2 q9) (some (.Name x q10)) q11.line X.env = pure false) :
    QS X W pn (.Try body [.ExceptHandler (some (.Tuple [.Name x1 q1, .Name x2 q2, .Name x3 q3] kk q4)) (some n) [.Assign [.Name x q10] (.Tuple [.Attribute (.Name n q5) f q6, .Attribute (.Name n q7) g q8] k2 q9) q11] pos'] [] [] pos) (tellS es pn i j f g s) := fun Fh P hp => by
  refine PS.weak (ps_try_tup3 (c1 := c1) (c2 := c2) (c3 := c3) (tb := fun W => rdS X.K X.mg W Fh P s) hs hf hN hi hln g1 g2 g3 m1 m2 m3 d1 d2 d3 (fun W p xe tk po => hb W p xe tk po Fh P hp)
    (fun a oe cls d p hz hfv => pss_cons (ps_set (X := X.suite a ((a, oe) :: p)) (i := j) hN hj (.inl hlx) (pe_tup (pa_cons (pe_xfA (X := X) (pos := q6) hz hfv (pe_var (pos := q5) hi (.inl hln) hdn hcn) ab1) (pa_cons (pe_xfA (X := X) (pos := q8) hz hfv (pe_var (pos := q7) hi (.inl hln) hdn hcn) ab2) pa_nil hst2) hst1)) hsw (.inr hlx)) pss_nil)) fun D σ H ⟨G, env, S, q⟩ => ?_
  refine ⟨G, env, S, ?_⟩
  unfold tellS at q
  by_cases hc : i ∈ pn ∨ j ∈ pn ∨ i = j
  · rw [if_pos hc] at q; exact q.elim
  rw [if_neg hc] at q
  have hip : i ∉ P.map (·.1) := by rw [hp]; exact fun z => hc (.inl z)
  have hjp : j ∉ P.map (·.1) := by rw [hp]; exact fun z => hc (.inr (.inl z))
  have hij : i ≠ j := fun z => hc (.inr (.inr z))
  cases z : s env with
  | nx e => rw [z] at q; exact q
  | rt r e => rw [z] at q; exact q
  | bk e => rw [z] at q; exact q
  | ct e => rw [z] at q; exact q
  | stk => rw [z] at q; exact q
  | err x e =>
    simp only [z] at q
    intro cls d σ' G' H' ex hx S'
    by_cases hm : x.c ∈ es
    · rw [if_pos hm] at q
      obtain ⟨C, dd, gs, rfl, hmg, rfl, hdd, hA⟩ := hx
      obtain ⟨k1, k2, k3, k4⟩ := hC _ hm C hmg
      cases y1 : x.fs.lookup f with
      | none => simp only [y1] at q; exact q.elim
      | some e1 =>
      cases y2 : x.fs.lookup g with
      | none => simp only [y1, y2] at q; exact q.elim
      | some e2 =>
        simp only [y1, y2] at q
        by_cases hjl : j < e.length ∧ i < e.length
        · rw [if_pos hjl] at q
          obtain ⟨v1, l1, dv1⟩ := hA.get y1
          obtain ⟨v2, l2, dv2⟩ := hA.get y2
          refine ⟨k1, fun a ha => ?_⟩
          have hH := S'.gh.on _ _ hdd nofun
          have hia : i < σ'.length := by
            rw [S'.len]; exact hjl.2
          have s0 : (σ'.set i (some (.ref a)))[i]? = some (some (.ref a)) := by rw [List.getElem?_set_self hia]
          refine ⟨.ref a, s0, rfl, C, dd, gs, v1, rfl, k2, k3, rfl, hH, l1, .ref a, s0, rfl, C, dd, gs, v2, rfl, k2, k4, rfl, hH, l2, by rw [sizeLine_eq]; exact Nat.le_of_ble_eq_true rfl, fun p hpn => ?_⟩
          have st : Step G' H' (upd G' p (.tup [v1, v2])) (upd H' p (.tup [v1, v2])) [] := .shr hpn
          have x3 := st.ex S'.gh
          have S2 := (S'.lose (i := i) (v := some (.ref a)) hip).step st
          have S3 := S2.set (v := .ref p) (r := .sh (.tup [e1, e2])) (i := j) (Den.tupL (SqT.of (xs := [v1, v2]) upd_same) (.cons (dv1.mono x3) (.cons (dv2.mono x3) .nil))) (by simpa using hjl.1) hjp
          exact q _ _ _ (ex.trans x3) (S3.lose (v := none) hip)
        · rw [if_neg hjl] at q; exact q.elim
    · rw [if_neg hm] at q; exact q.elim
end Z
namespace Z
open PySem PySem.Spec PyProof.Rows L2
def spOfL (K : PySem.W.Frag) (mg : Str → Option Value) (n : Nat) (f : Nat → FnD) : Sp := fun vs H Q E => ∃ G rs, GH K G H ∧ vs.length = n ∧ Views K mg G H vs rs ∧ Dist vs rs ∧ ∀ L, PF K mg G H vs rs Q E (f L rs)
theorem fn_okL {Pr : Program} {w : World} {K : PySem.W.Frag} {mg : Str → Option Value} {base : Heap} {x qual : Str} {params : Arguments} {body : List Stmt} {scope : Scope} {dvs : List V} {kws : List (Str × V)} {f : Addr} {fd : FuncData} {N ps : List Str} {k : Nat} {c : Addr} {s : Nat → List Nat → MS}
    (F : FunD K x qual params body scope dvs kws f fd) (S : FnScope N ps scope) (hc : fd.code = .ref c)
    (hbody : ∀ (L : Nat) (pn : List Nat) (A : Around) (outer : List Env) (sh : Shared) (H : Hp) (E : XK), L = sh.heap.objs.size → Room k (A.deeper (envOfC qual scope sh.heap.objs.size f (.ref c))) →
      QSs (cxOf (L2.CX Pr w) Pr w K mg base N qual scope f (.ref c) A outer sh H E) (fun cls d _ H => E cls d H) pn body (s L pn)) :
    FnOk Pr w K mg base (L2.CX Pr w) (k + 1) f fd ps (spOfL K mg ps.length fun L => runD N.length (s L)) := by
  have hpl : ps.length ≤ N.length := by have := congrArg List.length S.pre; rw [List.length_take] at this; omega
  obtain ⟨oc, od, dV, kV, doc, pm, an, cdv, ct, osl, rfl, lk, hcd, _, _⟩ := F.ex
  have hcc : cdv = .ref c := hc
  subst hcc
  refine fn_of lk hcd S (fun vs H Q E h => ?_) (fun A outer sh H vs Q E hr h => ?_)
  · obtain ⟨G, rs, _, hl, _⟩ := h; exact hl
  · obtain ⟨G, rs, ex, hl, vw, ds, q⟩ := h
    refine ⟨rdS K mg (fun cls d _ H => E cls d H) (foreign G H vs rs) (pinsOf 0 vs rs) (s sh.heap.objs.size (ownIx 0 rs)), hbody _ (ownIx 0 rs) A outer sh H E rfl hr (foreign G H vs rs) (pinsOf 0 vs rs) (pins_ix vw.1), G, _, start_rel ex vw ds (by rw [hl]; exact hpl), ?_⟩
    have q := q sh.heap.objs.size
    unfold runD at q
    cases z : s sh.heap.objs.size (ownIx 0 rs) (rs.map some ++ List.replicate (N.length - rs.length) none) with
    | nx e =>
      simp only [z] at q
      cases z2 : backD rs e with
      | none => simp only [z2] at q; exact q.elim
      | some rs' =>
        simp only [z2] at q
        exact fun σ' G' H' ex' S' => q .non G' H' (end_back ex.1 vw ex' S' z2) Den.non (fun a m => by cases m)
    | rt r e =>
      simp only [z] at q
      cases z2 : backD rs e with
      | none => simp only [z2] at q; exact q.elim
      | some rs' =>
        simp only [z2] at q
        exact fun v σ' G' H' ex' wv S' => q v G' H' (end_back ex.1 vw ex' S' z2) wv (end_tmp vw ex' S' z2)
    | err x e =>
      simp only [z] at q
      cases z2 : backD rs e with
      | none => simp only [z2] at q; exact q.elim
      | some rs' =>
        simp only [z2] at q
        exact fun cls d σ' G' H' ex' hx S' => q cls d G' H' (end_back ex.1 vw ex' S' z2) hx
    | bk e => simp only [z] at q; exact q.elim
    | ct e => simp only [z] at q; exact q.elim
    | stk => simp only [z] at q; exact q.elim
def IsLst : Option HO → Prop
  | some (.lst _) => True
  | some (.frz _ (.lst _)) => True
  | _ => False
def kpP (K : PySem.W.Frag) (H : Hp) (a b : Addr) : Prop := (∃ p ∈ tabsK K, p.2 = b) ∨ (b = a ∧ IsLst (H a))
def spL (K : PySem.W.Frag) (n : Nat) : Sp := fun vs H Q E => ∃ (a : Addr) (ns : List Int), ns.length ≤ n ∧ vs = [.ref a] ∧ (∀ p ∈ tabsK K, H p.2 = some (.tbl #[])) ∧ SqL K H a (ns.map V.int) ∧ ∀ v H', v = .bl true → Q v H'
theorem objOk_there {P : Program} {w : World} {H : Hp} {h : Heap} {c : Addr} {o : HO} (ht : ObjOk P w H h c o) : ∃ ob, h.get? c = some ob := by
  cases o with
  | lst xs => obtain ⟨_, _, _, _, e⟩ := ht; exact ⟨_, e⟩
  | tup xs => obtain ⟨_, _, _, ob, e, _⟩ := ht; exact ⟨_, e⟩
  | dK kvs => obtain ⟨_, _, _, _, o, _, _, e, _⟩ := ht; exact ⟨_, e⟩
  | dT kvs => obtain ⟨_, _, _, _, o, _, _, e, _⟩ := ht; exact ⟨_, e⟩
  | set S n => obtain ⟨o, _, _, _, e, _⟩ := ht; exact ⟨_, e⟩
  | ins C dx fs => obtain ⟨_, _, _, e, _⟩ := ht; exact ⟨_, e⟩
  | own y => exact ht
  | xd fs => obtain ⟨_, ⟨_, _, _, e, _⟩, _⟩ := ht; exact ⟨_, e⟩
  | rng lo hi => obtain ⟨_, _, _, e⟩ := ht; exact ⟨_, e⟩
  | frz ob u => exact ⟨ob, ht.1⟩
  | tbl ps => exact ⟨_, (show h.get? c = some { cls := .none, data := .fields ps } from ht)⟩
  | met f y => exact ⟨_, (show h.get? c = some (PySem.W.methodObj (.ref f) (.ref y)) from ht)⟩
  | ext φ => exact ht.2.1
open Classical in
theorem law_okT {P : Program} {w : World} {K : PySem.W.Frag} {mg : Str → Option Value} {base : Heap} {k n : Nat} {f : Addr} {fd : FuncData} {x : Str} {fD : Nat → FnD} (F : FnOk P w K mg base (L2.CX P w) k f fd [x] (spOfL K mg 1 fD))
    (hD : ∀ L (ns : List Int), ns.length ≤ n → ∃ rs, fD L [.sh (.fls (ns.map D.int))] = .ok (.sh (.bl true)) rs) : FnOk P w K mg base (L2.CX P w) k f fd [x] (spL K n) := by
  refine ⟨fun vs H Q E ⟨a, ns, _, e, _⟩ => by rw [e]; rfl, fun A outer s H args us vs Q E hr e0 hb r ⟨a, ns, hn, ev, hT, hS, hQ⟩ => ?_⟩
  subst ev
  obtain ⟨H0, hH0⟩ : ∃ H0 : Hp, ∀ b, H0 b = if kpP K H a b then H b else none := ⟨_, fun _ => rfl⟩
  have in0 : ∀ {b : Addr}, kpP K H a b → H0 b = H b := fun {b} h => by rw [hH0, if_pos h]
  have out0 : ∀ {b : Addr}, ¬ kpP K H a b → H0 b = none := fun {b} h => by rw [hH0, if_neg h]
  have some0 : ∀ {b : Addr} {o : HO}, H0 b = some o → kpP K H a b ∧ H b = some o := fun {b o} h => by
    by_cases z : kpP K H a b
    · rw [in0 z] at h; exact ⟨z, h⟩
    · rw [out0 z] at h; cases h
  have none0 : ∀ {b : Addr}, H b = none → H0 b = none := fun {b} h => by
    by_cases z : kpP K H a b
    · rw [in0 z]; exact h
    · exact out0 z
  have kin : ∀ {b : Addr} {o : HO}, kpP K H a b → H b = some o → (∃ ps, o = .tbl ps) ∨ (∃ xs, o = .lst xs) ∨ ∃ ob xs, o = .frz ob (.lst xs) := fun {b o} h e => by
    rcases h with h | ⟨rfl, hl⟩
    · obtain ⟨p, hp, rfl⟩ := h; rw [hT p hp] at e; cases e; exact .inl ⟨_, rfl⟩
    · rw [e] at hl
      cases o with
      | lst xs => exact .inr (.inl ⟨xs, rfl⟩)
      | frz ob u => cases u <;> first | exact .inr (.inr ⟨_, _, rfl⟩) | exact hl.elim
      | _ => exact hl.elim
  have hS0 : SqL K H0 a (ns.map V.int) := by
    rcases hS with h | h
    · refine .inl ?_
      rcases h with h | ⟨o, h⟩
      · exact .inl (by rw [in0 (.inr ⟨rfl, by rw [h]; exact True.intro⟩)]; exact h)
      · exact .inr ⟨o, by rw [in0 (.inr ⟨rfl, by rw [h]; exact True.intro⟩)]; exact h⟩
    · exact .inr h
  have hT0 : ∀ p ∈ tabsK K, H0 p.2 = some (.tbl #[]) := fun p hp => by rw [in0 (.inl ⟨p, hp, rfl⟩)]; exact hT p hp
  have hok0 : HOk P w H0 s.heap := fun b o e => by
    obtain ⟨hk, he⟩ := some0 e
    have ok := e0.hok b o he
    rcases kin hk he with ⟨ps, rfl⟩ | ⟨xs, rfl⟩ | ⟨ob, xs, rfl⟩ <;> exact ok
  have e1 : Env0 P w K mg base A outer s H0 := ⟨e0.frames, e0.mod, fun b o h => ⟨(e0.bs b o h).1, none0 (e0.bs b o h).2⟩, e0.bsz, e0.funs, fun b h => none0 (e0.frf b h), hok0, e0.bare⟩
  -- the shared part: the script alone
  obtain ⟨G, hG⟩ : ∃ G : Hp, ∀ b, G b = if (∃ p ∈ tabsK K, p.2 = b) then none else H0 b := ⟨_, fun _ => rfl⟩
  have Gs : ∀ {b : Addr} {o : HO}, G b = some o → (¬ ∃ p ∈ tabsK K, p.2 = b) ∧ H0 b = some o := fun {b o} h => by
    rw [hG] at h
    split at h
    · cases h
    · rename_i z; exact ⟨z, h⟩
  have Gn : ∀ {b : Addr} {o : HO}, (¬ ∃ p ∈ tabsK K, p.2 = b) → H0 b = some o → G b = some o := fun {b o} h e => by rw [hG, if_neg h]; exact e
  have hSG : SqL K G a (ns.map V.int) := by
    rcases hS0 with h | h
    · refine .inl ?_
      rcases h with h | ⟨o, h⟩
      · exact .inl (Gn (fun ⟨p, hp, z⟩ => by rw [← z, hT0 p hp] at h; cases h) h)
      · exact .inr ⟨o, Gn (fun ⟨p, hp, z⟩ => by rw [← z, hT0 p hp] at h; cases h) h⟩
    · exact .inr h
  have Gt : ∀ {b : Addr} {ps : Array Value}, G b = some (.tbl ps) → False := fun {b ps} h => by
      obtain ⟨h1, h2⟩ := Gs h
      obtain ⟨h3, h4⟩ := some0 h2
      rcases h3 with h3 | ⟨h3, hl⟩
      · exact h1 h3
      · rw [← h3, h4] at hl; exact hl
  have gh : GH K G H0 := ⟨⟨fun b o h _ => (Gs h).2, fun b ps h => (Gt h).elim⟩, ⟨fun b c ps h _ => (Gt h).elim, fun p hp => ⟨_, hT0 p hp⟩, fun P' ps h => by
      obtain ⟨h3, h4⟩ := some0 h
      have e : ∃ p ∈ tabsK K, p.2 = P' := by
        rcases h3 with h3 | ⟨h3, hl⟩
        · exact h3
        · rw [← h3, h4] at hl; exact hl.elim
      obtain ⟨p, hp, rfl⟩ := e
      rw [hT p hp] at h4; cases h4
      exact ⟨True.intro, fun pos cv z => by simp [codeAmong] at z⟩⟩⟩
  have hsp : spOfL K mg 1 fD [.ref a] H0 (fun v _ => v = .bl true) (fun _ _ _ => False) := by
    refine ⟨G, [.sh (.fls (ns.map D.int))], gh, rfl, .cons (Den.fls (xs := ns.map V.int) hSG (by simp) ?_) .nil, ?_, fun L => ?_⟩
    · intro i v d' h1 h2
      rw [List.getElem?_map] at h1 h2
      cases z : ns[i]? with
      | none => rw [z] at h1; cases h1
      | some j => rw [z] at h1 h2; cases h1; cases h2; exact .int j
    · intro i j r r' a' h1 h2 o1
      cases i with
      | zero => simp at h1; subst h1; cases o1
      | succ i => simp at h1
    · obtain ⟨rs, e⟩ := hD L ns hn
      rw [e]
      exact fun v G' H' _ w _ => Den.bl_inv w
  refine codeAny_mono (F.run A outer s H0 args us [.ref a] _ (fun _ _ _ => False) hr e1 hb r hsp) fun rr s' hq => ?_
  cases rr with
  | error e =>
    obtain ⟨_, _, _, _, _, _, _, _, _, _, _, _, z⟩ := hq
    exact z.elim
  | ok fl =>
    cases fl with
    | next => exact False.elim hq
    | brk => exact False.elim hq
    | cont => exact False.elim hq
    | ret u =>
      obtain ⟨v, H4, os4, bare4, un4, hok4, rv, hv⟩ := hq
      obtain ⟨H5, hH5⟩ : ∃ H5 : Hp, ∀ b, H5 b = if H b ≠ none ∧ ¬ kpP K H a b then H b else H4 b := ⟨_, fun _ => rfl⟩
      have in5 : ∀ {b : Addr} {o : HO}, H b = some o → ¬ kpP K H a b → H5 b = some o := fun {b o} h z => by rw [hH5, if_pos ⟨by rw [h]; simp, z⟩]; exact h
      have out5 : ∀ {b : Addr}, (H b = none ∨ kpP K H a b) → H5 b = H4 b := fun {b} h => by
        rw [hH5, if_neg (fun z => h.elim z.1 z.2)]
      refine ⟨v, H5, os4, bare4, ⟨fun b o e n hb0 hx => un4.keep b o e (none0 n) hb0 hx, fun b o e n hb0 hx => un4.slot b o e (none0 n) hb0 hx, fun b o e n hx => by rw [out5 (.inl n)]; exact un4.free b o e (none0 n) hx, un4.there, fun b xs q => ?_, fun b o u' q => ?_, fun b qs q => ?_⟩, fun b o e => ?_, rv, hQ v H5 hv⟩
      · by_cases z : kpP K H a b
        · rw [out5 (.inr z)]; exact un4.tups b xs (by rw [in0 z]; exact q)
        · exact in5 q z
      · by_cases z : kpP K H a b
        · rw [out5 (.inr z)]; exact un4.frzs b o u' (by rw [in0 z]; exact q)
        · exact in5 q z
      · by_cases z : kpP K H a b
        · rw [out5 (.inr z)]; exact un4.tbls b qs (by rw [in0 z]; exact q)
        · exact ⟨#[], by rw [in5 q z]; simp⟩
      · -- what is held behind
        have keepO : ∀ {c : Addr} {o : HO} {u : Obj}, H c = some o → ¬ kpP K H a c → s.heap.get? c = some u → s'.heap.get? c = some u := fun {c o u} h z hu => un4.keep c u hu (out0 z) (fun hm => by rw [e0.frf c hm] at h; cases h) (by simp)
        by_cases z : H b ≠ none ∧ ¬ kpP K H a b
        · rw [hH5, if_pos z] at e
          have nk1 : ∀ c y, H c = some (.own y) → ¬ kpP K H a c := fun c y h hk => by
            rcases kin hk h with ⟨_, q⟩ | ⟨_, q⟩ | ⟨_, _, q⟩ <;> cases q
          have nk2 : ∀ c xs, H c = some (.tup xs) → ¬ kpP K H a c := fun c xs h hk => by
            rcases kin hk h with ⟨_, q⟩ | ⟨_, q⟩ | ⟨_, _, q⟩ <;> cases q
          have k1 : ∀ (c : Addr) (u : Obj), (c = b ∨ H c = some (.own b)) → s.heap.get? c = some u → s'.heap.get? c = some u := fun c u hc hu => by
            rcases hc with hc | hc
            · rw [hc] at hu ⊢; exact keepO e z.2 hu
            · exact keepO hc (nk1 c b hc) hu
          exact (e0.hok b o e).stay k1 (fun c hc => in5 hc (nk1 c b hc)) (fun c xs hc => in5 hc (nk2 c xs hc))
        · rw [hH5, if_neg z] at e
          have same : ∀ {c : Addr} {u : HO}, H4 c = some u → H5 c = some u := fun {c u} h => by
            rw [hH5]
            split
            · rename_i y
              exfalso
              obtain ⟨o', ho'⟩ := Option.ne_none_iff_exists'.mp y.1
              obtain ⟨ob, hob⟩ := objOk_there (e0.hok c o' ho')
              rw [un4.free c ob hob (out0 y.2) (by simp)] at h; cases h
            · exact h
          exact (hok4 b o e).stay (fun _ _ _ q => q) (fun c hc => same hc) (fun c xs hc => same hc)
end Z
namespace Z
open PySem PySem.Spec PyProof.Rows L2
abbrev ZAlT : Type := ZAl × Bool
def tabsZ (g : Addr → Option Obj) (K : PySem.W.Frag) : Bool := (tabsK K).all fun p => PySem.W.codeHdIn K p.1 p.2 && (match g p.2 with
  | some o => He.emptyTab o
  | none => false)
def zObsT (n : Nat) (fa : List Zf) (fn : List Zd) (g : Addr → Option Obj) : ZAlT := (zObs fa fn (He.frT g (asZ g n)), tabsZ g (He.frT g (asZ g n)))
structure ZSaysT (fa : List Zf) (fn : List Zd) (h : Heap) (K : PySem.W.Frag) : Prop where
  z : ZSays fa fn K
  hd : ∀ p ∈ tabsK K, PySem.W.codeHdIn K p.1 p.2 = true
  out : ∀ p ∈ tabsK K, K.lookup p.2 = none
  empty : ∀ p ∈ tabsK K, h.get? p.2 = some { cls := .none, data := .fields #[] }
theorem zSaysT_of {n : Nat} {fa : List Zf} {fn : List Zd} {h : Heap} (e : zObsT n fa fn h.get? = (zVal fn, true)) : ZSaysT fa fn h (He.frT h.get? (asZ h.get? n)) := by
  generalize hK : He.frT h.get? (asZ h.get? n) = K
  have e1 : zObs fa fn (He.frT h.get? (asZ h.get? n)) = zVal fn := congrArg Prod.fst e
  have e2 : tabsZ h.get? (He.frT h.get? (asZ h.get? n)) = true := congrArg Prod.snd e
  rw [hK] at e1 e2
  have tab : ∀ p ∈ tabsK K, PySem.W.codeHdIn K p.1 p.2 = true ∧ ∃ o, h.get? p.2 = some o ∧ He.emptyTab o = true := fun p hp => by
    have z := List.all_eq_true.mp e2 p hp
    obtain ⟨z1, z2⟩ := Bool.and_eq_true_iff.mp z
    refine ⟨z1, ?_⟩
    cases y : h.get? p.2 with
    | none => simp only [y] at z2; cases z2
    | some o => simp only [y] at z2; exact ⟨o, rfl, z2⟩
  refine ⟨e1, fun p hp => (tab p hp).1, fun p hp => ?_, fun p hp => ?_⟩
  · obtain ⟨_, o, y1, y2⟩ := tab p hp
    rw [← hK]
    exact He.frT_none y1 y2
  · obtain ⟨_, o, y1, y2⟩ := tab p hp
    rw [y1, He.emptyTab_eq y2]
def zHookT (n : Nat) (fa : List Zf) (fn : List Zd) : PySem.W.Hook where
  α := ZAlT
  obs := fun s => zObsT n fa fn s.heap.get?
  val := fun _ => (zVal fn, true)
  says := fun _ h => ∃ K : PySem.W.Frag, K.In h ∧ ZSaysT fa fn h K
  of := fun _ _ e => ⟨_, He.frT_in, zSaysT_of e⟩
  keeps := fun _ _ _ y k => y.elim fun K z => ⟨K, PySem.W.Frag.In.keeps z.1 k, ⟨z.2.z, z.2.hd, z.2.out, fun p hp => k _ _ (z.2.empty p hp)⟩⟩
theorem zObsT_eq {n : Nat} {fa : List Zf} {fn : List Zd} {g : Addr → Option Obj} {s : Shared} (h : ∀ a, g a = s.heap.get? a) : zObsT n fa fn g = (zHookT n fa fn).obs s := by
  obtain rfl : g = s.heap.get? := funext h
  rfl
theorem walk_ofZT {l : PySem.W.OpenLaw} {n k : Nat} {q : Program} {loose : List Str} {XP : (Str → Option Value) → Heap → Prop} {YP : World → Heap → Prop} {d : DefRec} {x : Str} {f : Nat → FnD}
    (hn : l.most = some n) (hn2 : n ≤ sizeLine) (hdf : d.params.defaults = []) (hr : Room k callerA)
    (hD : ∀ (L : Nat) (ns : List Int), ns.length ≤ n → ∃ rs, f L [.sh (.fls (ns.map D.int))] = .ok (.sh (.bl true)) rs)
    (F : ∀ (w : World) (mg : Str → Option Value) (fa : Addr) (h : Heap), YP w h → h.Ns mainGlobals mg → mg d.name = some (.ref fa) →
      ∃ (K : PySem.W.Frag) (fd : FuncData), K.In h ∧ (∀ (s : Shared) (u : Value), BindsTo s fd ⟨[u], []⟩ [(x, u)]) ∧ (∀ p ∈ tabsK K, h.get? p.2 = some { cls := .none, data := .fields #[] }) ∧ (∀ p ∈ tabsK K, K.lookup p.2 = none) ∧ (∀ p ∈ tabsK K, PySem.W.codeHdIn K p.1 p.2 = true) ∧
        ∀ base : Heap, K.In base → base.Ns mainGlobals mg → (∀ p ∈ tabsK K, LamX.TabB base mg p.1 p.2) → FnOk l.prog w K mg base (L2.CX l.prog w) k fa fd [x] (spOfL K mg 1 f)) :
    PySem.W.WalkO q loose XP YP l.row.toRowW d [] (fun f vs => PySem.call f vs) := by
  refine Att.attach_call hn hdf fun w s₀ s₁ mg mb fa o pm cd doc a vs ns G Y ho hd hcd hmg hobj hints hlen hg => ?_
  obtain ⟨K, fd, KX, hb, hT, nT, hC, hF⟩ := F w mg fa _ Y G.T.g hmg
  refine LamX.law_callTs (cs := tabsK K) (sp := spL K n) (CX := L2.CX l.prog w) (k := k) (x := x) (fd := fd) KX G.T.g G.T.b G.T.builtins G.T.nolimit hg hT nT (fun p hp => PySem.W.codeHd_of_K KX (hC p hp)) G.T.bmain hobj hints (Nat.le_trans hlen hn2) hr
    (fun base kin ns tb => law_okT (hF base kin ns tb) hD) hb (fun H hH hS => ⟨a, ns, hlen, rfl, hH, hS, fun v _ h => h⟩) fun H e s' z => ?_
  obtain ⟨_, _, _, _, _, _, _, _, _, _, _, _, y⟩ := z
  exact y
end Z
namespace Z
open PySem PySem.Spec PyProof.Rows L2
/-- tl at the end of l, own classes ahead of it -/
def topB (tl : List Value) : List Value → Bool
  | .ref _ :: r => topB tl r
  | l => decide (l = tl)
theorem topB_ok {tl : List Value} : ∀ {l : List Value}, topB tl l = true → OnTop tl l
  | .ref c :: r, h => onTop_cons c (topB_ok (l := r) h)
  | [], h => ⟨[], (of_decide_eq_true h : _ = tl)⟩
  | .none :: r, h => ⟨[], (of_decide_eq_true h : _ = tl)⟩
  | .ellipsis :: r, h => ⟨[], (of_decide_eq_true h : _ = tl)⟩
  | .notImplemented :: r, h => ⟨[], (of_decide_eq_true h : _ = tl)⟩
  | .bool _ :: r, h => ⟨[], (of_decide_eq_true h : _ = tl)⟩
  | .int _ _ :: r, h => ⟨[], (of_decide_eq_true h : _ = tl)⟩
  | .float _ _ :: r, h => ⟨[], (of_decide_eq_true h : _ = tl)⟩
  | .str _ _ :: r, h => ⟨[], (of_decide_eq_true h : _ = tl)⟩
  | .bytes _ _ :: r, h => ⟨[], (of_decide_eq_true h : _ = tl)⟩
  | .type _ :: r, h => ⟨[], (of_decide_eq_true h : _ = tl)⟩
  | .builtin _ :: r, h => ⟨[], (of_decide_eq_true h : _ = tl)⟩
def oexB (K : PySem.W.Frag) (C : Addr) (nw : String) (tl : List Value) : Bool := (match K.lookup C with
  | some ⟨.type t, _, .cls cd, sl⟩ => (match cd.mro, sl.toList with
    | .ref C' :: bm, [_, _, _, _, some (.builtin m), _] => decide (t = "type") && (decide (C' = C) && (decide (m = nw) && (!cd.hasDel && (cd.hasDict && topB tl bm))))
    | _, _ => false)
  | _ => false) && (He.eqO (PySem.W.findIn K (.ref C) "__setattr__") (some (some (.builtin "object.__setattr__"))) && (decide (PySem.W.subIn K (.ref C) (.type "BaseException") = some true) && (decide (PySem.W.typeIn K (.ref C) = some (.type "type")) && PySem.W.keepIn K (.ref C))))
theorem oexB_ok {K : PySem.W.Frag} {C : Addr} {nw : String} {tl : List Value} (h : oexB K C nw tl = true) : OexQ K C nw tl := by
  obtain ⟨h1, h⟩ := He.ba h
  obtain ⟨h2, h⟩ := He.ba h
  obtain ⟨h3, h⟩ := He.ba h
  obtain ⟨h4, h5⟩ := He.ba h
  refine ⟨?_, He.eqO_ok h2, of_decide_eq_true h3, of_decide_eq_true h4, h5⟩
  cases y : K.lookup C with
  | none => simp only [y] at h1; cases h1
  | some o =>
    obtain ⟨oc, od, dt, sl⟩ := o
    simp only [y] at h1
    cases oc <;> first | (cases h1; done) | skip
    cases dt <;> first | (cases h1; done) | skip
    rename_i t cd
    obtain ⟨nm, bs, mro, ns, qn, hd, sn, sub, ab, col, del⟩ := cd
    simp only at h1
    split at h1
    · rename_i z0 C' bm k0 k1 k2 k3 m k5 e2
      obtain ⟨g1, g⟩ := He.ba h1
      obtain ⟨g2, g⟩ := He.ba g
      obtain ⟨g3, g⟩ := He.ba g
      obtain ⟨g4, g⟩ := He.ba g
      obtain ⟨g5, g6⟩ := He.ba g
      have g1 := of_decide_eq_true g1
      have g2 := of_decide_eq_true g2
      have g3 := of_decide_eq_true g3
      have g4 : del = false := by simpa using g4
      have g5 : hd = true := g5
      subst g1 g2 g3 g4 g5
      have e3 : sl = #[k0, k1, k2, k3, some (.builtin m), k5] := by
        rw [← Array.toList_inj]; exact e2
      subst e3
      exact ⟨nm, qn, ns, bs, bm, sn, sub, ab, col, od, k0, k1, k2, k3, k5, rfl, topB_ok g6⟩
    · cases h1
def supB (K : PySem.W.Frag) (C : Addr) (B it : String) : Bool := He.eqO (PySem.W.ks_superIn K C C "__init__") (some (some (.builtin it))) && decide (PySem.W.subIn K (.ref C) (.type B) = some true)
def supA (K : PySem.W.Frag) (C : Addr) : Bool := (oexB K C "ValueError.__new__" [.type "ValueError", .type "Exception", .type "BaseException", .type "object"] && supB K C "ValueError" "ValueError.__init__") ||
  ((oexB K C "LookupError.__new__" [.type "LookupError", .type "Exception", .type "BaseException", .type "object"] && supB K C "LookupError" "LookupError.__init__") ||
  (oexB K C "IndexError.__new__" [.type "IndexError", .type "LookupError", .type "Exception", .type "BaseException", .type "object"] && supB K C "IndexError" "IndexError.__init__"))
theorem supA_one {K : PySem.W.Frag} {C : Addr} {B nw it : String} {tl : List Value} (T : ExB B nw it tl) (h : (oexB K C nw tl && supB K C B it) = true) :
    ∃ B nw it tl, ExB B nw it tl ∧ OexQ K C nw tl ∧ PySem.W.ks_superIn K C C "__init__" = some (some (.builtin it)) ∧ PySem.W.subIn K (.ref C) (.type B) = some true := by
  obtain ⟨h1, h⟩ := He.ba h
  obtain ⟨h2, h3⟩ := He.ba h
  exact ⟨B, nw, it, tl, T, oexB_ok h1, He.eqO_ok h2, of_decide_eq_true h3⟩
theorem supA_ok {K : PySem.W.Frag} {C : Addr} (h : supA K C = true) :
    ∃ B nw it tl, ExB B nw it tl ∧ OexQ K C nw tl ∧ PySem.W.ks_superIn K C C "__init__" = some (some (.builtin it)) ∧ PySem.W.subIn K (.ref C) (.type B) = some true := by
  rcases Bool.or_eq_true_iff.mp h with h | h
  · exact supA_one exb_V h
  · rcases Bool.or_eq_true_iff.mp h with h | h
    · exact supA_one exb_L h
    · exact supA_one exb_I h
def supS (K : PySem.W.Frag) (C : Addr) : Bool := He.eqO (PySem.W.nsIn K cStatics "thirdparty.any") (some none) && decide (PySem.W.mroIn K C (.ref C) = some true)
/-- the __init__ of the class c: its code object's file, its cell -/
def ixB (file : Str) (K : PySem.W.Frag) (C fI : Addr) : Bool := match K.lookup fI with
  | some ⟨_, _, .func fd, _⟩ => (match fd.code, fd.closure with
    | .ref cda, [(_, cc)] => (match K.lookup cda with
      | some ⟨_, _, .fields vs, _⟩ => (match (vs[2]? : Option Value) with
        | some (.str fl _) => decide (fl = file)
        | _ => false)
      | _ => false) && (match K.lookup cc with
      | some ⟨_, _, .cell (some (.ref C')), _⟩ => decide (C' = C)
      | _ => false)
    | _, _ => false)
  | _ => false
def xcB (file c : Str) (fs : List Str) (K : PySem.W.Frag) : Bool := supA K (He.ga K c) && (supS K (He.ga K c) && (He.eqO (PySem.W.findIn K (.ref (He.ga K c)) "__init__") (some (some (.ref (He.ma K (He.ga K c) "__init__")))) && (decide (PySem.W.typeIn K (.ref (He.ma K (He.ga K c) "__init__")) = some (.type "function")) &&
  ((fs.all fun f => He.eqO (PySem.W.findIn K (.ref (He.ga K c)) f) (some none)) && ixB file K (He.ga K c) (He.ma K (He.ga K c) "__init__")))))
structure PrOk (P : Program) (file : Str) : Prop where
  file : ((P.main.file : Str) == file) = true
  top : (P.main.scope.names.lookup ("super" : Str)).isSome = false
end Z
namespace Z
open PySem PySem.Spec PyProof.Rows L2
/-- all of it, taken apart -/
theorem xc_parts {file c : Str} {fs : List Str} {K : PySem.W.Frag} {d : Zd} (hx : xcB file c fs K = true) (hat : d.at_ K = He.ma K (He.ga K c) "__init__") (hc0 : d.clo = [("__class__" : Str)]) (hd : zAt K (d.at_ K) = d.val ∧ d.ok K = true) :
    SupC K (He.ga K c) ∧ PySem.W.findIn K (.ref (He.ga K c)) "__init__" = some (some (.ref (d.at_ K))) ∧ PySem.W.typeIn K (.ref (d.at_ K)) = some (.type "function") ∧ (∀ f ∈ fs, PySem.W.findIn K (.ref (He.ga K c)) f = some none) ∧
      ∃ (oc : Value) (od : Option Addr) (dV kV doc pm ct : Value) (an : Option Addr) (osl : Array (Option Value)) (cda cc : Addr) (ccl cl : Value) (cdd cld : Option Addr) (ccs csl : Array (Option Value)) (cvs : Array Value) (tf : Tok),
        K.lookup (d.at_ K) = some ⟨oc, od, .func (PySem.W.ksFn d.name d.qual (defArgs d.st) (defBody d.st) (defScope d.st) dV kV doc pm an (.ref cda) ct cc), osl⟩ ∧ PySem.W.codeIn K (.ref cda) d.qual = true ∧ DflV K dV [] ∧
          K.lookup cda = some ⟨ccl, cdd, .fields cvs, ccs⟩ ∧ cvs[2]? = some (.str file tf) ∧ K.lookup cc = some ⟨cl, cld, .cell (some (.ref (He.ga K c))), csl⟩ := by
  obtain ⟨h1, h⟩ := He.ba hx
  obtain ⟨h2, h⟩ := He.ba h
  obtain ⟨h3, h⟩ := He.ba h
  obtain ⟨h4, h⟩ := He.ba h
  obtain ⟨h5, h6⟩ := He.ba h
  obtain ⟨s1, s2⟩ := He.ba h2
  rw [← hat] at h3 h4 h6
  refine ⟨⟨supA_ok h1, He.eqO_ok s1, of_decide_eq_true s2⟩, He.eqO_ok h3, of_decide_eq_true h4, fun f hf => He.eqO_ok (List.all_eq_true.mp h5 f hf), ?_⟩
  obtain ⟨e, c0⟩ := hd
  obtain ⟨kp, c2⟩ := He.ba c0
  unfold zAt at e
  unfold ixB at h6
  cases y : K.lookup (d.at_ K) with
  | none => rw [y] at c2; cases c2
  | some o =>
    obtain ⟨oc, od, dt, osl⟩ := o
    rw [y] at c2 e h6
    cases dt with
    | func fd =>
      obtain ⟨n1, n2, n3, n4, n5, n6, n7, n8, n9, n10, n11, n12, n13, n14, n15⟩ := fd
      have e2 : (some (n1, n2, n3, n4, n5, n6, n7.map (fun p => (p.1, 0)), n15) : He.FnW) = d.val := e
      unfold Zd.val at e2
      simp only [Option.some.injEq, Prod.mk.injEq] at e2
      obtain ⟨g1, g2, g3, g4, g5, g6, g7, g8⟩ := e2
      subst g1 g2 g3 g4 g5 g6 g8
      obtain ⟨k1, k2⟩ := He.ba c2
      obtain ⟨k3, k4⟩ := He.ba k2
      simp only at h6 k1
      split at h6
      · rename_i cda x0 cc
        obtain ⟨i1, i2⟩ := He.ba h6
        have ex : x0 = "__class__" := by
          rw [hc0] at g7
          simp at g7
          exact g7
        subst ex
        cases w1 : K.lookup cda with
        | none => simp only [w1] at i1; cases i1
        | some o1 =>
        obtain ⟨ccl, cdd, cdt, ccs⟩ := o1
        simp only [w1] at i1
        cases cdt <;> first | (cases i1; done) | skip
        rename_i cvs
        simp only at i1
        cases w3 : cvs[2]? with
        | none => simp only [w3] at i1; cases i1
        | some fv =>
        simp only [w3] at i1
        cases fv <;> first | (cases i1; done) | skip
        rename_i fl tf
        have i1 := of_decide_eq_true i1
        subst i1
        cases w2 : K.lookup cc with
        | none => simp only [w2] at i2; cases i2
        | some o2 =>
        obtain ⟨cl, cld, cdt, csl⟩ := o2
        simp only [w2] at i2
        cases cdt <;> first | (cases i2; done) | skip
        rename_i cv
        cases cv with
        | none => cases i2
        | some cv =>
        cases cv <;> first | (cases i2; done) | skip
        have i2 := of_decide_eq_true i2
        subst i2
        exact ⟨oc, od, _, _, _, _, _, _, osl, cda, cc, ccl, cl, cdd, cld, ccs, csl, cvs, tf, rfl, k1, He.dflB_ok k3, w1, w3, w2⟩
      · cases h6
    | _ => cases c2
end Z
namespace Z
open PySem PySem.Spec PyProof.Rows L2
theorem exc1_of {P : Program} {w : World} {K : PySem.W.Frag} {mg : Str → Option Value} {base : Heap} {file c f msg : Str} {d : Zd} {ar : Arg} {j k1 : Nat} {p0 p1 p2 p3 p4 p5 q1 q2 q3 q4 q5 q6 q7 q8 q9 q10 q11 q12 q13 : Pos} {pl : Env → Sem Bool} {j2 : Nat}
    (PO : PrOk P file) (hg : mg c = some (.ref (He.ga K c))) (hms : mg "super" = none) (hx : xcB file c [f, "code", "details"] K = true) (hat : d.at_ K = He.ma K (He.ga K c) "__init__") (hc0 : d.clo = [("__class__" : Str)]) (hd : zAt K (d.at_ K) = d.val ∧ d.ok K = true)
    (hbody : defBody d.st = [.Expr (.Call (.Attribute (.Call (.Name "super" p0) [] [] p1) "__init__" p2) [.Constant (.str msg) j p3] [] p4) p5, .Assign [.Attribute (.Name "self" q1) f q3] (.Name f q2) q4, .Assign [.Attribute (.Name "self" q5) "code" q7] (.Constant (.str c) j2 q6) q8, .Assign [.Attribute (.Name "self" q9) "details" q12] (.Tuple [.Name f q10] k1 q11) q13])
    (S : SupScope ["self", f] ["self", f] (defScope d.st)) (hp : ((defArgs d.st).posonlyargs ++ (defArgs d.st).args).head? = some ar) (har : ar.arg = "self")
    (hbind : ∀ (kV doc pm : Value) (an : Option Addr) (cdv ct : Value) (cc : Addr) (us : List Value), us.length = 2 → bindArgs (PySem.W.ksFn d.name d.qual (defArgs d.st) (defBody d.st) (defScope d.st) .none kV doc pm an cdv ct cc) ⟨us, []⟩ = pure ([("self" : Str), f].zip us))
    (hev : ∀ env : Env, eval (.Call (.Attribute (.Call (.Name "super" p0) [] [] p1) "__init__" p2) [.Constant (.str msg) j p3] [] p4) env = (do
      let ov ← attributeBase (.Call (.Name "super" p0) [] [] p1) "__init__" env (eval (.Call (.Name "super" p0) [] [] p1) env)
      standAt p2.atName
      let (f, first) ← holding [ov] (getMethod ov "__init__" (pl env))
      callWith p4 f first (backTo p4 (starEach [.Constant (.str msg) j p3] env)) []))
    (hsw : ∀ env : Env, swapsWith (.Call (.Attribute (.Call (.Name "super" p0) [] [] p1) "__init__" p2) [.Constant (.str msg) j p3] [] p4) none p5.line env = pure false)
    (w1 : ∀ env : Env, swapsWith (.Name f q2) (some (.Attribute (.Name "self" q1) f q3)) q4.line env = pure false) (w2 : ∀ env : Env, swapsWith (.Constant (.str c) j2 q6) (some (.Attribute (.Name "self" q5) "code" q7)) q8.line env = pure false)
    (w3 : ∀ env : Env, swapsWith (.Tuple [.Name f q10] k1 q11) (some (.Attribute (.Name "self" q9) "details" q12)) q13.line env = pure false)
    (hd1 : (f == ("__debug__" : Str)) = false) (hd2 : (f == ("__classdict__" : Str)) = false) : Exc1 P w K mg base 1 c f := by
  obtain ⟨T, iC, tI, nof, oc, od, dV, kV, doc, pm, ct, an, osl, cda, cc, ccl, cl, cdd, cld, ccs, csl, cvs, tf, lk, hcd, hD, hcode, hvs, hcell⟩ := xc_parts hx hat hc0 hd
  have hdV : dV = .none := by
    rcases hD with ⟨_, z⟩ | ⟨z, _⟩
    · exact z
    · exact absurd rfl z
  subst hdV
  have hb2 := fun us h => hbind kV doc pm an (.ref cda) ct cc us h
  rw [hbody] at lk hb2
  refine ⟨He.ga K c, hg, T.oex, d.at_ K, _, iC, tI, .all fun us hl => hb2 us (by simpa using hl), sup_fn (k := 0) T lk hcd hcode hvs PO.file PO.top hms hcell S hp (by rw [har]; rfl) hev hsw (fun vs H Q E ⟨a, y, e, _⟩ => by rw [e]; rfl) fun A outer s H vs Q E hr ⟨a, y, e, ea, hq⟩ => ?_⟩
  subst e
  obtain ⟨t, ht, hq2⟩ := rest1 (X := supCx (L2.CX P w) P w K mg base ["self", f] d.qual (defScope d.st) (d.at_ K) (.ref cda) cc A outer s H E) (C := He.ga K c) (f := f) (code := c) (q1 := q1) (q2 := q2) (q3 := q3) (q4 := q4) (q5 := q5) (q6 := q6) (q7 := q7) (q8 := q8) (q9 := q9) (q10 := q10) (q11 := q11) (q12 := q12) (q13 := q13) (j := j2) (k1 := k1) T.oex (nof f (by simp)) (nof "code" (by simp)) (nof "details" (by simp)) rfl rfl
    (.inl (S.par _ (by simp))) (.inl (S.par _ (by simp))) hd1 hd2 (w1 _) (w2 _) (w3 _)
  exact ⟨a, [y], t, rfl, ea, ht, hq2 _ _ _ _ _ rfl rfl ea fun dx p h1 h2 h3 h4 h5 => hq dx p h1 h2 h3 h4 h5⟩
def catB (K : PySem.W.Frag) (x1 x2 x3 f g c : Str) : Bool := decide (PySem.W.exmAny K (.ref (He.ga K c)) [.ref (He.ga K x1), .ref (He.ga K x2), .ref (He.ga K x3)] = some true) && (xfB K (He.ga K c) && (He.eqO (PySem.W.findIn K (.ref (He.ga K c)) f) (some none) && He.eqO (PySem.W.findIn K (.ref (He.ga K c)) g) (some none)))
theorem catB_ok {K : PySem.W.Frag} {x1 x2 x3 f g c : Str} (h : catB K x1 x2 x3 f g c = true) : CatchC K (.ref (He.ga K x1)) (.ref (He.ga K x2)) (.ref (He.ga K x3)) f g (He.ga K c) := by
  obtain ⟨h1, h⟩ := He.ba h
  obtain ⟨h2, h⟩ := He.ba h
  obtain ⟨h3, h4⟩ := He.ba h
  exact ⟨of_decide_eq_true h1, xfB_ok h2, He.eqO_ok h3, He.eqO_ok h4⟩
theorem catch_in {K : PySem.W.Frag} {mg : Str → Option Value} {c1 c2 c3 : Value} {f g : Str} {es : List Str} (h : ∀ c ∈ es, mg c = some (.ref (He.ga K c)) ∧ CatchC K c1 c2 c3 f g (He.ga K c)) : ∀ c ∈ es, ∀ C, mg c = some (.ref C) → CatchC K c1 c2 c3 f g C := fun c hc C hC => by
  obtain ⟨h1, h2⟩ := h c hc
  rw [h1] at hC; cases hC; exact h2
def lamOf (e : Expr) (qual : Str) (pn : List (Str × NameKind)) (dfl : Option Int) (loc : List Str) : LamI := match e with
  | .Lambda p b s _ => ⟨"<lambda>", qual, p, .expr b, s, pn, dfl, loc⟩
  | _ => ⟨"<lambda>", qual, ⟨[], [], none, [], [], none, []⟩, .expr (.Constant .none 0 ⟨0, 0, 0, 0⟩), { kind := .function, names := [], isGenerator := false, isCoroutine := false }, pn, dfl, loc⟩
def lamB (I : LamI) : Expr := match I.body with
  | .expr e => e
  | _ => .Constant .none 0 ⟨0, 0, 0, 0⟩
def noE : Expr := .Constant .none 0 ⟨0, 0, 0, 0⟩
def noS : Stmt := .Pass ⟨0, 0, 0, 0⟩
/-- a part of a statement: of its body (0), its other branch (1) -/
def sIn (w i : Nat) (s : Stmt) : Stmt := match s with
  | .For _ _ b o _ => (if w = 0 then b else o).getD i noS
  | .While _ b o _ => (if w = 0 then b else o).getD i noS
  | .If _ b o _ => (if w = 0 then b else o).getD i noS
  | _ => noS
def sVal (s : Stmt) : Expr := match s with
  | .Assign _ e _ => e
  | .Expr e _ => e
  | .Return (some e) _ => e
  | .If e _ _ _ => e
  | _ => noE
/-- a part of an expression -/
def eIn (i : Nat) (e : Expr) : Expr := match e with
  | .List es _ => es.getD i noE
  | .Tuple es _ _ => es.getD i noE
  | .Call f as ks _ => if i = 0 then f else if i ≤ as.length then as.getD (i - 1) noE else match ks[i - 1 - as.length]? with
    | some k => k.value
    | none => noE
  | .BinOp a _ b _ => if i = 0 then a else b
  | .Compare a _ cs _ => if i = 0 then a else cs.getD (i - 1) noE
  | .BoolOp _ es _ => es.getD i noE
  | .UnaryOp _ a _ => a
  | .Subscript a b _ => if i = 0 then a else b
  | .IfExp a b c _ => if i = 0 then a else if i = 1 then b else c
  | .Attribute a _ _ => a
  | _ => noE
theorem convV {X : Cx} {W : WX} {pn : List Nat} {e : Expr} {s t : M RV} (h : QV X W pn e s) (q : s = t) : QV X W pn e t := q ▸ h
def capB (N : List Str) (names : List (Str × NameKind)) (js : List Nat) (fs : List Str) : Bool := (js.zip fs).all fun p => decide (N[p.1]? = some p.2) && decide (names.lookup p.2 = some .cell)
theorem capB_ok {N : List Str} {names : List (Str × NameKind)} {js : List Nat} {fs : List Str} (h : capB N names js fs = true) : ∀ (n j : Nat) (x : Str), js[n]? = some j → fs[n]? = some x → N[j]? = some x ∧ names.lookup x = some .cell := fun n j x h1 h2 => by
  have m : (j, x) ∈ js.zip fs := List.mem_of_getElem? (i := n) (by rw [List.getElem?_zip_eq_some]; exact ⟨h1, h2⟩)
  have z := List.all_eq_true.mp h (j, x) m
  obtain ⟨z1, z2⟩ := Bool.and_eq_true_iff.mp z
  exact ⟨of_decide_eq_true z1, of_decide_eq_true z2⟩
/-- a def that makes functions: its code object, its table -/
theorem fun_tab {K : PySem.W.Frag} {d : Zd} {fd : FuncData} (F : ZFun K d fd) (h : (defScope d.st).names.any (fun y => match y.2 with | .cell => true | _ => false) = true) : ∃ c T, fd.code = .ref c ∧ (c, T) ∈ tabsK K := by
  obtain ⟨oc, od, dV, kV, doc, pm, an, cdv, ct, osl, rfl, lk, hcd, _, _⟩ := F.ex
  obtain ⟨c0, hc0⟩ := He.codeIn_ref hcd
  exact ⟨c0, He.tabOf K c0, hc0, tabsK_mem lk rfl hc0 h⟩
structure NdOf (l : List Str) : Prop where
  nd : l.Nodup
end Z
namespace Y
open PySem PySem.Spec PyProof.Rows L2 Z
def top (i : Nat) : Stmt := PySem.Challenge.pw_lowturns_k03_settings_yielded.main.body.getD i (.Pass ⟨0, 0, 0, 0⟩)
def z__law_bag : Zd := ⟨fun K => He.ga K "_law_bag", "_law_bag", "_law_bag", top 21, [], []⟩
def z__law_pull : Zd := ⟨fun K => He.ga K "_law_pull", "_law_pull", "_law_pull", top 22, [], []⟩
def z__law_of : Zd := ⟨fun K => He.ga K "_law_of", "_law_of", "_law_of", top 23, [], []⟩
def z__law_prime : Zd := ⟨fun K => He.ga K "_law_prime", "_law_prime", "_law_prime", top 27, [], []⟩
def z__law_few : Zd := ⟨fun K => He.ga K "_law_few", "_law_few", "_law_few", top 29, [], []⟩
def z_is_number : Zd := ⟨fun K => He.ga K "is_number", "is_number", "is_number", top 11, [], []⟩
def z_is_prime : Zd := ⟨fun K => He.ga K "is_prime", "is_prime", "is_prime", top 13, [], []⟩
def z_need_prime : Zd := ⟨fun K => He.ga K "need_prime", "need_prime", "need_prime", top 14, [], []⟩
def z_is_within : Zd := ⟨fun K => He.ga K "is_within", "is_within", "is_within", top 12, [], []⟩
def z_need_dials : Zd := ⟨fun K => He.ga K "need_dials", "need_dials", "need_dials", top 15, [], []⟩
def z_power_of : Zd := ⟨fun K => He.ga K "power_of", "power_of", "power_of", top 16, [], []⟩
def z_need_few : Zd := ⟨fun K => He.ga K "need_few", "need_few", "need_few", top 17, [], []⟩
def z_setting_of : Zd := ⟨fun K => He.ga K "setting_of", "setting_of", "setting_of", top 18, [], []⟩
def z_settings : Zd := ⟨fun K => He.ga K "settings", "settings", "settings", top 19, [], []⟩
def z__law_same : Zd := ⟨fun K => He.ga K "_law_same", "_law_same", "_law_same", top 24, [], []⟩
def z__law_all_rows : Zd := ⟨fun K => He.ga K "_law_all_rows", "_law_all_rows", "_law_all_rows", top 28, [], []⟩
def z__law_got : Zd := ⟨fun K => He.ga K "_law_got", "_law_got", "_law_got", top 25, [], []⟩
def z__law_all_got : Zd := ⟨fun K => He.ga K "_law_all_got", "_law_all_got", "_law_all_got", top 26, [], []⟩
def z_law : Zd := ⟨fun K => He.ga K "law", "law", "law", top 30, [], []⟩
def z_InvalidPrime___init__ : Zd := ⟨fun K => He.ma K (He.ga K "InvalidPrime") "__init__", "__init__", "InvalidPrime.__init__", inC (top 3) 0, [], ["__class__"]⟩
def z_InvalidCount___init__ : Zd := ⟨fun K => He.ma K (He.ga K "InvalidCount") "__init__", "__init__", "InvalidCount.__init__", inC (top 4) 0, [], ["__class__"]⟩
def z_TooMany___init__ : Zd := ⟨fun K => He.ma K (He.ga K "TooMany") "__init__", "__init__", "TooMany.__init__", inC (top 5) 0, [], ["__class__"]⟩
def fa : List Zf := [.fa (.free "int"), .fa (.free "list"), .fa (.free "range"), .fa (.free "len"), .fa (.free "abs"), .fa (.free "isinstance"), .fa (.free "bool"), .fa (.free "super"), .fa (.free "tuple"), .fa (.free "all"), .fa (.free "zip"), .fa (.free "str"), .fa (.glo "law"), .fa (.glo "_law_bag"), .fa (.glo "_law_pull"), .fa (.glo "_law_of"), .fa (.glo "_law_prime"), .fa (.glo "_law_few"), .fa (.glo "is_number"), .fa (.glo "PRIMES"), .tup "PRIMES" [.int (2), .int (3), .int (5), .int (7)], .fa (.glo "is_prime"), .fa (.glo "InvalidPrime"), .gen (xcB "/claim/cut.py" "InvalidPrime" ["given", "code", "details"]), .fa (.glo "TurnError"), .fa (.glo "Missing"), .fa (.glo "NothingLeft"), .gen (fun K => catB K "TurnError" "Missing" "NothingLeft" "code" "details" "InvalidPrime"), .fa (.glo "need_prime"), .fa (.glo "is_within"), .fa (.int "MOST_DIALS" (200)), .fa (.glo "InvalidCount"), .gen (xcB "/claim/cut.py" "InvalidCount" ["given", "code", "details"]), .gen (fun K => catB K "TurnError" "Missing" "NothingLeft" "code" "details" "InvalidCount"), .fa (.glo "need_dials"), .fa (.glo "power_of"), .fa (.int "MOST_SETTINGS" (20000)), .fa (.glo "TooMany"), .gen (xcB "/claim/cut.py" "TooMany" ["most", "code", "details"]), .gen (fun K => catB K "TurnError" "Missing" "NothingLeft" "code" "details" "TooMany"), .fa (.glo "need_few"), .fa (.glo "setting_of"), .fa (.glo "settings"), .fa (.glo "_law_same"), .fa (.glo "_law_all_rows"), .fa (.glo "_law_got"), .fa (.glo "_law_all_got"), .gen (fun K => decide (PySem.W.subIn K (.ref (He.ga K "InvalidPrime")) (.type "StopIteration") = some false)), .gen (fun K => decide (PySem.W.subIn K (.ref (He.ga K "InvalidCount")) (.type "StopIteration") = some false)), .gen (fun K => decide (PySem.W.subIn K (.ref (He.ga K "TooMany")) (.type "StopIteration") = some false))]
def fn : List Zd := [z__law_bag, z__law_pull, z__law_of, z__law_prime, z__law_few, z_is_number, z_is_prime, z_need_prime, z_is_within, z_need_dials, z_power_of, z_need_few, z_setting_of, z_settings, z__law_same, z__law_all_rows, z__law_got, z__law_all_got, z_law, z_InvalidPrime___init__, z_InvalidCount___init__, z_TooMany___init__]
def names0 : List PySem.Str := ["TurnError", "Missing", "InvalidPrime", "InvalidCount", "TooMany", "NothingLeft", "is_number", "is_within", "is_prime", "need_prime", "need_dials", "power_of", "need_few", "setting_of", "settings", "_law_bag", "_law_pull", "_law_of", "_law_same", "_law_got", "_law_all_got", "_law_prime", "_law_all_rows", "_law_few"]
def names1 : List PySem.Str := ["PRIMES", "MOST_DIALS", "MOST_SETTINGS"]
def names : List PySem.Str := names0 ++ names1
abbrev R : PySem.W.OpenRow := PySem.W.OpenLaw.row PySem.Challenge.rw_lowturns_k03_settings_yielded
abbrev hk : PySem.W.Hook := zHookT 6 fa fn
def ob (s : PySem.W.SharedT) : ZAlT := zObsT 6 fa fn (HandSHeadRun.getT s)
theorem ob_eq (s : PySem.W.SharedT) : ob s = hk.obs s.abs := zObsT_eq (HandSHeadRun.getT_eq s)
theorem run (w : World) : HandSHeadRun.RunEq R (PySem.W.view R.prog [30]) hk ob 20000 names w := by
  intro os
  kernel_rfl
end Y
namespace Z
open PySem PySem.Spec PyProof.Rows L2
inductive Tgt where
  | name (i : Nat)
  | tup (ts : List Tgt)
mutual
def asgT (pn : List Nat) : Tgt → D → DEnv → Option DEnv
  | .name i, d, env => if i < env.length ∧ i ∉ pn then some (env.set i (some (.sh d))) else none
  | .tup ts, .tup ds, env => asgTs pn ts ds env
  | .tup _, _, _ => none
def asgTs (pn : List Nat) : List Tgt → List D → DEnv → Option DEnv
  | [], [], env => some env
  | t :: ts, d :: ds, env => (asgT pn t d env).bind fun e => asgTs pn ts ds e
  | _, _, _ => none
end
mutual
def slotsT : Tgt → List Nat
  | .name i => [i]
  | .tup ts => slotsTs ts
def slotsTs : List Tgt → List Nat
  | [] => []
  | t :: ts => slotsT t ++ slotsTs ts
end
/-- only these slots change -/
def Only (l : List Nat) (σ σ' : L2.St) : Prop := σ'.length = σ.length ∧ ∀ i, i ∉ l → σ'[i]? = σ[i]?
theorem Only.refl {l : List Nat} {σ : L2.St} : Only l σ σ := ⟨rfl, fun _ _ => rfl⟩
theorem Only.app {l l' : List Nat} {σ σ' σ'' : L2.St} (a : Only l σ σ') (b : Only l' σ' σ'') : Only (l ++ l') σ σ'' := ⟨b.1.trans a.1, fun i h => (b.2 i fun z => h (List.mem_append_right _ z)).trans (a.2 i fun z => h (List.mem_append_left _ z))⟩
section
variable (K : PySem.W.Frag) (mg : Str → Option Value) (Fh : FHp) (P : List (Nat × V)) (pn : List Nat)
def rdG (t : Tgt) : TG := fun v σ H Q => ∃ G env d env', SRel K mg Fh P G H σ env [] ∧ Den K mg G v d ∧ asgT pn t d env = some env' ∧ ∀ σ', SRel K mg Fh P G H σ' env' [] → Only (slotsT t) σ σ' → Q σ' H
def rdGs (ts : List Tgt) : TGs := fun vs σ H Q => ∃ G env ds env', SRel K mg Fh P G H σ env [] ∧ DenL K mg G vs ds ∧ asgTs pn ts ds env = some env' ∧ ∀ σ', SRel K mg Fh P G H σ' env' [] → Only (slotsTs ts) σ σ' → Q σ' H
end
def QG (X : Cx) (pn : List Nat) (tg : Expr) (t : Tgt) : Prop := ∀ Fh P, P.map (·.1) = pn → PG X tg (rdG X.K X.mg Fh P pn t)
def QGs (X : Cx) (pn : List Nat) (tg : List Expr) (t : List Tgt) : Prop := ∀ Fh P, P.map (·.1) = pn → PGs X tg (rdGs X.K X.mg Fh P pn t)
theorem PG.weak {X : Cx} {e : Expr} {t t' : TG} (h : PG X e t) (w : ∀ v σ H Q, t' v σ H Q → t v σ H Q) : PG X e t' := ⟨fun pins s σ H v u Q I r q => h.run pins s σ H v u Q I r (w v σ H Q q)⟩
theorem PGs.weak {X : Cx} {e : List Expr} {t t' : TGs} (h : PGs X e t) (w : ∀ v σ H Q, t' v σ H Q → t v σ H Q) : PGs X e t' := ⟨fun pins s σ H v u Q I r q => h.run pins s σ H v u Q I r (w v σ H Q q)⟩
section
variable {X : Cx} {W : WX} {pn : List Nat} {pos : Pos}
theorem qg_name {i : Nat} {x : Str} (hN : X.N.Nodup) (hi : X.N[i]? = some x) (hx : Loc X.env.scope x) (hf : X.fn x = true ∨ X.env.scope.names.lookup x = some .local) : QG X pn (.Name x pos) (.name i) := fun Fh P hp =>
  PG.weak (pg_name hN hi hx hf) fun v σ H Q ⟨G, env, d, env', S, hd, e, q⟩ => by
    unfold asgT at e
    split at e
    · rename_i h; cases e
      exact q _ (S.set (v := v) (r := .sh d) hd h.1 (by rw [hp]; exact h.2)) ⟨by simp, fun j hj => List.getElem?_set_ne (fun z => hj (by unfold slotsT; rw [z]; exact List.mem_singleton.mpr rfl))⟩
    · cases e
theorem qgs_nil : QGs X pn [] [] := fun Fh P hp => PGs.weak pgs_nil fun v σ H Q ⟨G, env, ds, env', S, hd, e, q⟩ => by
  cases ds with
  | nil => simp only [asgTs] at e; cases e; exact ⟨hd.nil_inv, q σ S .refl⟩
  | cons d ds => simp only [asgTs] at e; cases e
theorem qgs_cons {e : Expr} {es : List Expr} {t : Tgt} {ts : List Tgt} (h1 : QG X pn e t) (h2 : QGs X pn es ts) (hs : (assignEach (e :: es) X.env).map (·.2) = assign e X.env :: (assignEach es X.env).map (·.2)) : QGs X pn (e :: es) (t :: ts) := fun Fh P hp =>
  PGs.weak (pgs_cons (h1 Fh P hp) (h2 Fh P hp) hs) fun vs σ H Q ⟨G, env, ds, env', S, hd, e, q⟩ => by
    cases ds with
    | nil => simp only [asgTs] at e; cases e
    | cons d ds =>
      obtain ⟨v, vs, rfl, d1, d2⟩ := hd.cons_ex
      simp only [asgTs, Option.bind_eq_some_iff] at e
      obtain ⟨e1, q1, q2⟩ := e
      exact ⟨v, vs, rfl, G, env, d, e1, S, d1, q1, fun σ' S' o1 => ⟨G, e1, ds, env', S', d2, q2, fun σ2 S2 o2 => q σ2 S2 (by unfold slotsTs; exact o1.app o2)⟩⟩
theorem asgTs_len : ∀ {ts : List Tgt} {ds : List D} {env env' : DEnv}, asgTs pn ts ds env = some env' → ds.length = ts.length
  | [], [], _, _, _ => rfl
  | [], _ :: _, _, _, h => by simp only [asgTs] at h; cases h
  | _ :: _, [], _, _, h => by simp only [asgTs] at h; cases h
  | t :: ts, d :: ds, env, env', h => by
    simp only [asgTs, Option.bind_eq_some_iff] at h
    obtain ⟨e1, _, q2⟩ := h
    simp [asgTs_len q2]
theorem qg_tup {es : List Expr} {k n : Nat} {ts : List Tgt} (hc : X.calm = true) (h : QGs X pn es ts) (hl : ts.length = n) (hn : (assignEach es X.env).length = n) (hst : (assignEach es X.env).findIdx? (·.1) = none) : QG X pn (.Tuple es k pos) (.tup ts) := fun Fh P hp =>
  PG.weak (pg_tup hc (h Fh P hp) hn hst) fun v σ H Q ⟨G, env, d, env', S, hd, e, q⟩ => by
    cases d with
    | tup ds =>
      simp only [asgT] at e
      obtain ⟨a, xs, rfl, h1, h2⟩ := hd.tup_inv
      exact ⟨a, xs, rfl, S.gh.sqT h1, by rw [h2.1, asgTs_len e]; exact hl, G, env, ds, env', S, h2, e, fun σ' S' o => q σ' S' (by unfold slotsT; exact o)⟩
    | _ => simp only [asgT] at e; cases e
def asgTM (pn : List Nat) (t : Tgt) (m : M Opd) : MS := bindS m fun o env => match dOf o env with
  | .ok d e => (match asgT pn t d e with
    | some e' => .nx e'
    | none => .stk)
  | .err x e => .err x e
  | .stk => .stk
def ItD (K : PySem.W.Frag) (mg : Str → Option Value) (J : It) (G0 : Hp) (ds : List D) : Prop := ∀ (i : Nat) (G H : Hp), Ex G0 G → Gh G H →
  (∀ d, ds[i]? = some d → J.go i H ∧ ∀ x H', J.yld i H x H' → ∃ G', Step G H G' H' [] ∧ Den K mg G' x d) ∧ (ds.length ≤ i → J.stop i H)
theorem ItD.mono {K : PySem.W.Frag} {mg : Str → Option Value} {J : It} {G0 G1 : Hp} {ds : List D} (h : ItD K mg J G0 ds) (e : Ex G0 G1) : ItD K mg J G1 ds := fun i G H a b => h i G H (e.trans a) b
section
variable (K : PySem.W.Frag) (mg : Str → Option Value) (W : WX) (Fh : FHp) (P : List (Nat × V))
def PIt (σ : L2.St) (G : Hp) (R : It → Hp → Prop) : Res (List D) → Prop
  | .ok ds e => ∀ J G' H', Ex G G' → ItD K mg J G' ds → SRel K mg Fh P G' H' σ e [] → R J H'
  | .err x e => PErr K mg W Fh P σ G x e
  | .stk => False
def rdI (m : M (List D)) : TI := fun σ H R => ∃ G env, SRel K mg Fh P G H σ env [] ∧ PIt K mg W Fh P σ G R (m env)
end
def QI (X : Cx) (W : WX) (pn : List Nat) (tg iter : Expr) (m : M (List D)) : Prop := ∀ Fh P, P.map (·.1) = pn → PI X tg iter (rdI X.K X.mg W Fh P m)
theorem PI.weak {X : Cx} {tg e : Expr} {t t' : TI} (h : PI X tg e t) (w : ∀ σ H Q, t' σ H Q → t σ H Q) : PI X tg e t' := ⟨fun pins s σ H R I q => h.run pins s σ H R I (w σ H R q)⟩
theorem PI.or {X : Cx} {tg e : Expr} {t t' : TI} (h : PI X tg e t) (h' : PI X tg e t') : PI X tg e (fun σ H R => t σ H R ∨ t' σ H R) := ⟨fun pins s σ H R I q => q.elim (h.run pins s σ H R I) (h'.run pins s σ H R I)⟩
theorem itD_list {K : PySem.W.Frag} {mg : Str → Option Value} {G : Hp} {a : Addr} {xs : List V} {ds : List D} (ha : G a = some (.lst xs)) (h : DenL K mg G xs ds) : ItD K mg (Itl K a) G ds := fun i G1 H1 e1 e2 => by
  have hs : SqL K H1 a xs := SqL.of ((e1.gh e2).on _ _ ha nofun)
  refine ⟨fun d hd => ?_, fun hl => ⟨xs, hs, by rw [h.1]; exact hl⟩⟩
  obtain ⟨v, hv, hden⟩ := h.get hd
  refine ⟨⟨xs, v, hs, hv⟩, fun x H' ⟨hH, hx⟩ => ?_⟩
  subst hH
  have := hx xs hs
  rw [hv] at this; cases this
  exact ⟨G1, .same, hden.mono e1⟩
theorem itD_fls {K : PySem.W.Frag} {mg : Str → Option Value} {G : Hp} {a : Addr} {xs : List V} {ds : List D} (ha : SqL K G a xs) (h : DenL K mg G xs ds) : ItD K mg (Itl K a) G ds := fun i G1 H1 e1 e2 => by
  have hs : SqL K H1 a xs := (e1.gh e2).sqL ha
  refine ⟨fun d hd => ?_, fun hl => ⟨xs, hs, by rw [h.1]; exact hl⟩⟩
  obtain ⟨v, hv, hden⟩ := h.get hd
  refine ⟨⟨xs, v, hs, hv⟩, fun x H' ⟨hH, hx⟩ => ?_⟩
  subst hH
  have := hx xs hs
  rw [hv] at this; cases this
  exact ⟨G1, .same, hden.mono e1⟩
theorem itD_tup {K : PySem.W.Frag} {mg : Str → Option Value} {G : Hp} {a : Addr} {xs : List V} {ds : List D} (ha : SqT K G a xs) (h : DenL K mg G xs ds) : ItD K mg (Itt K a) G ds := fun i G1 H1 e1 e2 => by
  have hs : SqT K H1 a xs := (e1.gh e2).sqT ha
  refine ⟨fun d hd => ?_, fun hl => ⟨xs, hs, by rw [h.1]; exact hl⟩⟩
  obtain ⟨v, hv, hden⟩ := h.get hd
  refine ⟨⟨xs, v, hs, hv⟩, fun x H' ⟨hH, hx⟩ => ?_⟩
  subst hH
  have := hx xs hs
  rw [hv] at this; cases this
  exact ⟨G1, .same, hden.mono e1⟩
def rangeD (lo : Int) (n : Nat) : List D := (List.range n).map fun (i : Nat) => .int (lo + (i : Int))
theorem itD_rng {K : PySem.W.Frag} {mg : Str → Option Value} {G : Hp} (lo : Int) (n : Nat) : ItD K mg (Itr lo n) G (rangeD lo n) := fun i G1 H1 e1 e2 => by
  refine ⟨fun d hd => ?_, fun hl => ?_⟩
  · unfold rangeD at hd
    rw [List.getElem?_map] at hd
    by_cases hi : i < n
    · rw [List.getElem?_range hi] at hd
      simp only [Option.map_some, Option.some.injEq] at hd
      subst hd
      exact ⟨hi, fun x H' ⟨h1, h2⟩ => by subst h1; subst h2; exact ⟨G1, .same, .int _⟩⟩
    · rw [List.getElem?_eq_none (by simpa using hi)] at hd; cases hd
  · show n ≤ i
    unfold rangeD at hl
    simpa using hl
def itemsOf : D → Option (List D)
  | .lst ds => some ds
  | .fls ds => some ds
  | .tup ds => some ds
  | .str x => some (x.cps.toList.map fun c => .str ⟨#[c]⟩)
  | _ => none
def seqI (m : M Opd) : M (List D) := bindM m fun o env => match dOf o env with
  | .ok d e => (match itemsOf d with
    | some ds => .ok ds e
    | none => .stk)
  | .err x e => .err x e
  | .stk => .stk
theorem itD_str {K : PySem.W.Frag} {mg : Str → Option Value} {G : Hp} (x : Str) : ItD K mg (Its x) G (x.cps.toList.map fun c => .str ⟨#[c]⟩) := fun i G1 H1 e1 e2 => by
  refine ⟨fun d hd => ?_, fun hl => ?_⟩
  · rw [List.getElem?_map] at hd
    cases hc : x.cps.toList[i]? with
    | none => rw [hc] at hd; cases hd
    | some c =>
      rw [hc] at hd
      simp only [Option.map_some, Option.some.injEq] at hd
      subst hd
      have hi : i < x.cps.toList.length := (List.getElem?_eq_some_iff.mp hc).1
      refine ⟨show i < x.cps.size by simpa using hi, fun v H' ⟨h1, c', h2, h3⟩ => ?_⟩
      subst h1; subst h3
      have : c' = c := by
        rw [← Array.getElem?_toList, hc] at h2; cases h2; rfl
      subst this
      exact ⟨G1, .same, .str _⟩
  · show x.cps.size ≤ i
    simpa using hl
theorem qi_seq {tg e : Expr} {m : M Opd} (h : QO X W pn e m) : QI X W pn tg e (seqI m) := fun Fh P hp =>
  PI.weak (PI.or (pi_list (h Fh P hp)) (PI.or (pi_tup (h Fh P hp)) (pi_str (h Fh P hp)))) fun σ H R ⟨G, env, S, q⟩ => by
    unfold seqI bindM at q
    cases z : m env with
    | ok o e1 =>
      simp only [z] at q
      cases z2 : dOf o e1 with
      | ok d e2 =>
        simp only [z2] at q
        cases z3 : itemsOf d with
        | none => simp only [z3] at q; exact q.elim
        | some ds =>
          simp only [z3] at q
          cases d with
          | lst ds' =>
            cases z3
            refine .inl ⟨G, env, S, ?_⟩
            rw [z]
            intro v G1 H1 ex w S1
            obtain ⟨G2, x2, d2, S2⟩ := S1.dOf w z2
            obtain ⟨a, xs, rfl, h1, h2⟩ := d2.lst_inv
            exact ⟨a, rfl, ⟨xs, SqL.of (S2.gh.on _ _ h1 nofun)⟩, q _ G2 H1 (ex.trans x2) (itD_list h1 h2) S2⟩
          | fls ds' =>
            cases z3
            refine .inl ⟨G, env, S, ?_⟩
            rw [z]
            intro v G1 H1 ex w S1
            obtain ⟨G2, x2, d2, S2⟩ := S1.dOf w z2
            cases d2 with
            | fls h1 h2 h3 => exact ⟨_, rfl, ⟨_, S2.gh.sqL h1⟩, q _ G2 H1 (ex.trans x2) (itD_fls h1 ⟨h2, h3⟩) S2⟩
          | tup ds' =>
            cases z3
            refine .inr (.inl ⟨G, env, S, ?_⟩)
            rw [z]
            intro v G1 H1 ex w S1
            obtain ⟨G2, x2, d2, S2⟩ := S1.dOf w z2
            obtain ⟨a, xs, rfl, h1, h2⟩ := d2.tup_inv
            exact ⟨a, rfl, ⟨xs, S2.gh.sqT h1⟩, q _ G2 H1 (ex.trans x2) (itD_tup h1 h2) S2⟩
          | str x =>
            cases z3
            refine .inr (.inr ⟨G, env, S, ?_⟩)
            rw [z]
            intro v G1 H1 ex w S1
            obtain ⟨G2, x2, d2, S2⟩ := S1.dOf w z2
            exact ⟨x, d2.str_inv, q _ G2 H1 (ex.trans x2) (itD_str x) S2⟩
          | _ => cases z3
      | err x e2 => exact (dOf_noerr z2).elim
      | stk => simp only [z2] at q; exact q.elim
    | err x e1 => simp only [z] at q; exact .inl ⟨G, env, S, by rw [z]; exact q⟩
    | stk => simp only [z] at q; exact q.elim
def in62 (j : Int) : Bool := Nat.ble j.natAbs 4611686018427387903
theorem in62_ok {j : Int} (h : in62 j = true) : -(2 ^ 62) ≤ j ∧ j < 2 ^ 62 := by
  have h1 : j.natAbs ≤ 4611686018427387903 := Nat.le_of_ble_eq_true h
  constructor <;> simp <;> omega
def rng1F (as : List RV) : Option (List D) := match as with
  | [.sh (.int j)] => if in62 j = true then some (rangeD 0 j.toNat) else none
  | _ => none
def rngI (f : List RV → Option (List D)) (m : M (List Opd)) : M (List D) := bindM m fun os env => match (resolves env os).bind f with
  | some ds => .ok ds env
  | none => .stk
theorem qi_rng1 {tg a : Expr} {p pos : Pos} {m : M (List Opd)} (hg : Gl X "range") (hm : X.mg "range" = none) (ha : QOs X W pn [a] m) (hs : starEach [a] X.env = [(false, eval a X.env)]) : QI X W pn tg (.Call (.Name "range" p) [a] [] pos) (rngI rng1F m) := fun Fh P hp =>
  PI.weak (pi_range1 hg hm (ha Fh P hp) hs) fun σ H R ⟨G, env, S, q⟩ => by
    refine ⟨G, env, S, ?_⟩
    unfold rngI bindM at q
    cases z : m env with
    | ok os e1 =>
      simp only [z] at q
      intro vs G1 H1 ex w S1
      cases z2 : (resolves e1 os).bind rng1F with
      | none => simp only [z2] at q; exact q.elim
      | some ds =>
        simp only [z2] at q
        simp only [Option.bind_eq_some_iff] at z2
        obtain ⟨rs, y1, y2⟩ := z2
        have vw := S1.resolves w y1
        unfold rng1F at y2
        split at y2
        · rename_i j
          split at y2
          · rename_i hj; cases y2
            obtain ⟨v, rfl, wv⟩ := vw.one
            rw [Den.int_inv wv]
            exact ⟨j, rfl, (in62_ok hj).1, (in62_ok hj).2, q _ G1 H1 ex (itD_rng 0 _) S1⟩
          · cases y2
        · cases y2
    | err x e1 => simp only [z] at q; exact q
    | stk => simp only [z] at q; exact q
def forM (pn : List Nat) (t : Tgt) (s : MS) : List D → MS
  | [] => fun env => .nx env
  | d :: ds => fun env => match asgT pn t d env with
    | none => .stk
    | some e1 => match s e1 with
      | .nx e => forM pn t s ds e
      | .ct e => forM pn t s ds e
      | .bk e => .nx e
      | .rt r e => .rt r e
      | .err x e => .err x e
      | .stk => .stk
def forS (pn : List Nat) (t : Tgt) (mi : M (List D)) (s : MS) : MS := bindS mi fun ds => forM pn t s ds
theorem drop_cons {α : Type} {l : List α} {i : Nat} {d : α} (h : l[i]? = some d) : l.drop i = d :: l.drop (i + 1) := by
  have hi : i < l.length := (List.getElem?_eq_some_iff.mp h).1
  rw [List.drop_eq_getElem_cons hi]
  congr 1
  rw [List.getElem?_eq_getElem hi] at h
  exact Option.some.inj h
theorem qs_for {tg iter : Expr} {body : List Stmt} {t : Tgt} {mi : M (List D)} {s : MS} (hpo : PassesOwn (model X.prog X.w) X.A X.env X.xe) (hc : X.calm = true) (hi : QI X W pn tg iter mi) (hg : QG X pn tg t) (hb : QSs X W pn body s) (hs : ∀ x, foldedSetIterable iter X.env x = pure x) :
    QS X W pn (.For tg iter body [] pos) (forS pn t mi s) := fun Fh P hp => PS.weak (ps_for hpo hc (hi Fh P hp) (hg Fh P hp) (hb Fh P hp) hs) fun D σ H ⟨G, env, S, q⟩ => by
  refine ⟨G, env, S, ?_⟩
  unfold forS bindS at q
  cases z : mi env with
  | err x e => simp only [z] at q; exact fun cls d G1 H1 ex hx S => q cls d σ G1 H1 ex hx S
  | stk => simp only [z] at q; exact q
  | ok ds e =>
    simp only [z] at q
    intro J G0 H0 ex0 it S0
    refine ⟨fun i m σ1 H1 => m = ds.length - i ∧ i ≤ ds.length ∧ ∃ G1 env1, Ex G0 G1 ∧ SRel X.K X.mg Fh P G1 H1 σ1 env1 [] ∧ PSt X.K X.mg W Fh P D G1 (forM pn t s (ds.drop i) env1), ⟨ds.length, by simp, Nat.zero_le _, G0, e, Ex.refl _, S0, PSt.mono ex0 q⟩, ?_⟩
    rintro i m σ1 H1 ⟨rfl, hi, G1, env1, ex1, S1, q1⟩
    obtain ⟨a1, a2⟩ := it i G1 H1 ex1 S1.gh
    by_cases hlt : i < ds.length
    · have hd : ds[i]? = some ds[i] := by simp [hlt]
      obtain ⟨go, yl⟩ := a1 _ hd
      rw [drop_cons hd] at q1
      refine .inr ⟨go, fun σ' H' => ∃ G2 env2, Ex G0 G2 ∧ SRel X.K X.mg Fh P G2 H' σ' env2 [] ∧ PSt X.K X.mg W Fh P D G2 (forM pn t s (ds.drop (i + 1)) env2), fun σ' H' h => ⟨ds.length - (i + 1), by omega, rfl, hlt, h⟩, fun x H2 hy => ?_⟩
      obtain ⟨G2, st, hden⟩ := yl x H2 hy
      have S2 := S1.step st
      have ex2 := st.ex S1.gh
      unfold forM at q1
      cases z1 : asgT pn t ds[i] env1 with
      | none => simp only [z1] at q1; exact q1.elim
      | some e1 =>
        simp only [z1] at q1
        refine ⟨G2, env1, ds[i], e1, S2, hden, z1, fun σ' S3 _ => ⟨G2, e1, S3, ?_⟩⟩
        cases z2 : s e1 with
        | nx e => simp only [z2] at q1; exact fun σ' G' H' ex S' => ⟨G', e, (ex1.trans ex2).trans ex, S', PSt.mono (ex2.trans ex) q1⟩
        | ct e => simp only [z2] at q1; exact fun σ' G' H' ex S' => ⟨G', e, (ex1.trans ex2).trans ex, S', PSt.mono (ex2.trans ex) q1⟩
        | bk e => simp only [z2] at q1; exact fun σ' G' H' ex S' => q1 σ' G' H' (ex2.trans ex) S'
        | rt r e => simp only [z2] at q1; exact fun v σ' G' H' ex S' => q1 v σ' G' H' (ex2.trans ex) S'
        | err x e => simp only [z2] at q1; exact fun c d σ' G' H' ex S' => q1 c d σ' G' H' (ex2.trans ex) S'
        | stk => simp only [z2] at q1; exact q1.elim
    · have e1 : i = ds.length := by omega
      subst e1
      rw [List.drop_length] at q1
      exact .inl ⟨a2 (Nat.le_refl _), q1 σ1 G1 H1 (Ex.refl _) S1⟩
end
end Z
namespace Z
open PySem PySem.Spec PyProof.Rows L2
def wipeD (env : DEnv) : List Nat → DEnv
  | [] => env
  | v :: vs => (wipeD env vs).set v none
theorem wipeD_len (env : DEnv) : ∀ vs, (wipeD env vs).length = env.length
  | [] => rfl
  | v :: vs => by unfold wipeD; rw [List.length_set, wipeD_len env vs]
theorem wipeD_some {env : DEnv} {i : Nat} {x : RV} : ∀ {vs : List Nat}, (wipeD env vs)[i]? = some (some x) → env[i]? = some (some x) ∧ i ∉ vs
  | [], h => ⟨h, by simp⟩
  | v :: vs, h => by
    unfold wipeD at h
    rcases set_get h with ⟨_, z, _⟩ | ⟨ne, h⟩
    · cases z
    · obtain ⟨a, b⟩ := wipeD_some h
      exact ⟨a, fun z => (List.mem_cons.mp z).elim ne b⟩
theorem wipe_out {σ : L2.St} {i : Nat} : ∀ {vs : List Nat}, i ∉ vs → (wipe σ vs)[i]? = σ[i]?
  | [], _ => rfl
  | v :: vs, h => by
    unfold wipe
    rw [List.getElem?_set_ne (fun z => h (by rw [z]; exact List.mem_cons_self))]
    exact wipe_out fun z => h (List.mem_cons_of_mem _ z)
section
variable {K : PySem.W.Frag} {mg : Str → Option Value} {Fh : FHp} {P : List (Nat × V)} {G H : Hp} {σ : L2.St} {env : DEnv} {vs : List Nat}
theorem SRel.wipe (S : SRel K mg Fh P G H σ env []) (hp : ∀ i ∈ vs, i ∉ P.map (·.1)) : SRel K mg Fh P G H (L2.wipe σ vs) (wipeD env vs) [] := by
  refine ⟨S.gh, S.fh, S.dj, fun p hp' => ?_, by rw [wipe_length, wipeD_len]; exact S.len, fun i r e nt => ?_, fun i j r r' a h1 h2 o1 o2 s1 s2 => ?_, fun i r a e o h => ?_, S.tmp, S.tre.keep (Ex.refl _) (fun _ _ q => q) (fun j r e _ => (wipeD_some e).1) (fun _ _ _ f _ => ⟨rfl, f⟩)⟩
  · rw [wipe_out fun z => hp p.1 z (List.mem_map_of_mem hp')]; exact S.pin p hp'
  · obtain ⟨e1, e2⟩ := wipeD_some e
    rw [wipe_out e2]; exact S.val i r e1 nt
  · obtain ⟨e1, n1⟩ := wipeD_some h1
    obtain ⟨e2, n2⟩ := wipeD_some h2
    rw [wipe_out n1] at s1; rw [wipe_out n2] at s2
    exact S.dis i j r r' a e1 e2 o1 o2 s1 s2
  · obtain ⟨e1, n1⟩ := wipeD_some e
    rw [wipe_out n1] at h
    exact S.nof i r a e1 o h
theorem SRel.unwipe (S : SRel K mg Fh P G H (L2.wipe σ vs) env []) : SRel K mg Fh P G H σ (wipeD env vs) [] := by
  refine ⟨S.gh, S.fh, S.dj, fun p hp' => (wipe_some (S.pin p hp')).1, by rw [wipeD_len, ← S.len, wipe_length], fun i r e nt => ?_, fun i j r r' a h1 h2 o1 o2 s1 s2 => ?_, fun i r a e o h => ?_, S.tmp, S.tre.keep (Ex.refl _) (fun _ _ q => q) (fun j r e _ => (wipeD_some e).1) (fun _ _ _ f _ => ⟨rfl, f⟩)⟩
  · obtain ⟨e1, e2⟩ := wipeD_some e
    obtain ⟨v, hv, w⟩ := S.val i r e1 nt
    exact ⟨v, (wipe_some hv).1, w⟩
  · obtain ⟨e1, n1⟩ := wipeD_some h1
    obtain ⟨e2, n2⟩ := wipeD_some h2
    exact S.dis i j r r' a e1 e2 o1 o2 (by rw [wipe_out n1]; exact s1) (by rw [wipe_out n2]; exact s2)
  · obtain ⟨e1, n1⟩ := wipeD_some e
    exact S.nof i r a e1 o (by rw [wipe_out n1]; exact h)
theorem wipe_only {σ σ' : L2.St} {l : List Nat} (o : Only l (L2.wipe σ vs) σ') (h : ∀ i ∈ l, i ∈ vs) : L2.wipe σ' vs = L2.wipe σ vs := by
  have hl : σ'.length = σ.length := by rw [o.1, wipe_length]
  apply List.ext_getElem?
  intro i
  by_cases hi : i ∈ vs
  · have key : ∀ (τ : L2.St), i < τ.length → (L2.wipe τ vs)[i]? = some none := fun τ ht => by
      clear o hl h
      induction vs with
      | nil => cases hi
      | cons v vs ih =>
        unfold L2.wipe
        by_cases z : v = i
        · subst z; rw [List.getElem?_set_self (by rw [wipe_length]; exact ht)]
        · rw [List.getElem?_set_ne z]
          exact ih ((List.mem_cons.mp hi).resolve_left (Ne.symm z))
    by_cases hb : i < σ.length
    · rw [key σ hb, key σ' (by rw [hl]; exact hb)]
    · rw [List.getElem?_eq_none (by rw [wipe_length]; omega), List.getElem?_eq_none (by rw [wipe_length]; omega)]
  · rw [wipe_out hi, o.2 i (fun z => hi (h i z)), wipe_out hi]
/-- an object of one's own is put among the foreign ones -/
theorem SRel.guard {p : Addr} {o : HO} (S : SRel K mg Fh P G H σ env []) (h : H p = none) (n : NT o) : SRel K mg (updF Fh p o) P G (upd H p o) σ env [] := by
  have hG := S.gh.none h
  have hF := S.fh.none h
  refine ⟨S.gh.upd hG, S.fh.upd2 p hG (nt_none h) n, fun b u e => ?_, S.pin, S.len, fun i r e nt => ?_, S.dis, fun i r a e hr ha => ⟨?_, List.not_mem_nil⟩, fun a m => absurd m List.not_mem_nil, S.tre.heap (Ex.refl _) (fun _ _ q => q) (fun a i _ f q => have nb := ne_of_none q.choose_spec.1 h; ⟨upd_ne nb, (updF_ne nb).trans f⟩) fun b q1 q2 q3 q4 q5 => by
      have nb : b ≠ p := ne_of_none q1.choose_spec.1 h
      exact ⟨⟨upd_ne nb, q2⟩, (updF_ne nb).trans q3, List.not_mem_nil⟩⟩
  · by_cases z : b = p
    · subst z; exact .inl hG
    · rw [updF_ne z] at e; exact S.dj b u e
  · obtain ⟨v, hv, w⟩ := S.val i r e nt
    refine ⟨v, hv, w.keep (Ex.refl _) fun a o' ev hr h1 h2 => ?_⟩
    rw [upd_ne (ne_of_none h1 h)]; exact ⟨h1, h2⟩
  · obtain ⟨v, hv, w⟩ := S.val i r e (RV.own_nt hr)
    rw [ha] at hv; cases hv
    obtain ⟨b, o', eb, h1, _⟩ := w.own_inv hr
    cases eb
    rw [updF_ne (ne_of_none h1 h)]
    exact (S.nof i r a e hr ha).1
theorem SRel.reguard {p : Addr} {o o' : HO} (S : SRel K mg (updF Fh p o) P G H σ env []) (n : NT o') : SRel K mg (updF Fh p o') P G (upd H p o') σ env [] := by
  have hG : G p = none := S.djo updF_same
  have ne : ∀ {i : Nat} {r : RV} {a : Addr}, env[i]? = some (some r) → r.own = true → σ[i]? = some (some (.ref a)) → a ≠ p := fun {i r a} e hr ha z => by
    have := (S.nof i r a e hr ha).1
    rw [z, updF_same] at this; cases this
  refine ⟨S.gh.upd hG, ⟨fun b u e => ?_, fun b u e => ?_, fun c a ps q => by
      have := S.fh.cl c a ps q
      rw [updF_ne (ne_of_none q hG)] at this ⊢; exact this, fun a ps x q => by
      by_cases z : a = p
      · subst z; rw [updF_same] at q; cases q
      · rw [updF_ne z] at q; exact S.fh.mks a ps x (by rw [updF_ne z]; exact q), S.fh.tb.upd (nt_some (S.fh.at updF_same) (S.fh.nto p _ updF_same)) n⟩, fun b u e => ?_, S.pin, S.len, fun i r e nt => ?_, S.dis, fun i r a e hr ha => ⟨?_, List.not_mem_nil⟩, fun a m => absurd m List.not_mem_nil, S.tre.heap (Ex.refl _) (fun _ _ q => q) (fun a i z f _ => have nb := ne_of_none z hG; ⟨upd_ne nb, by rw [updF_ne nb] at f ⊢; exact f⟩) fun b q1 q2 q3 q4 q5 => by
      have nb : b ≠ p := fun z => by rw [z, updF_same] at q3; cases q3
      exact ⟨⟨upd_ne nb, q2⟩, (by rw [updF_ne nb]; rw [updF_ne nb] at q3; exact q3), List.not_mem_nil⟩⟩
  · by_cases z : b = p
    · subst z; rw [updF_same] at e; cases e; exact upd_same
    · rw [updF_ne z] at e
      rw [upd_ne z]
      exact S.fh.on b u (by rw [updF_ne z]; exact e)
  · by_cases z : b = p
    · subst z; rw [updF_same] at e; cases e; exact n
    · rw [updF_ne z] at e
      exact S.fh.nto b u (by rw [updF_ne z]; exact e)
  · by_cases z : b = p
    · subst z; exact .inl hG
    · rw [updF_ne z] at e; exact S.dj b u (by rw [updF_ne z]; exact e)
  · obtain ⟨v, hv, w⟩ := S.val i r e nt
    refine ⟨v, hv, w.keep (Ex.refl _) fun a u ev hr h1 h2 => ?_⟩
    subst ev
    rw [upd_ne (ne e hr hv)]; exact ⟨h1, h2⟩
  · rw [updF_ne (ne e hr ha)]
    have := (S.nof i r a e hr ha).1
    rw [updF_ne (ne e hr ha)] at this; exact this
theorem SRel.unguard {p : Addr} {o : HO} (S : SRel K mg (updF Fh p o) P G H σ env []) (hF : Fh p = none) : SRel K mg Fh P G H σ env [p] := by
  have ex : ∀ b u, Fh b = some u → updF Fh p o b = some u := fun b u e => by rw [updF_ne (fun z => by rw [z, hF] at e; cases e)]; exact e
  have hG : G p = none := S.djo updF_same
  refine ⟨S.gh, ⟨fun b u e => S.fh.on b u (ex b u e), fun b u e => S.fh.nto b u (ex b _ e), fun c a ps q => by
      have := S.fh.cl c a ps q
      rw [updF_ne (ne_of_none q hG)] at this; exact this, fun a ps x q => S.fh.mks a ps x (ex a _ q), S.fh.tb⟩, fun b u e => S.dj b u (ex b u e), S.pin, S.len, S.val, S.dis, fun i r a e hr ha => ?_, fun a m => ?_, S.tre.heap (Ex.refl _) (fun _ _ q => q) (fun a i z f _ => ⟨rfl, by rw [updF_ne (ne_of_none z hG)] at f; exact f⟩) fun b q1 q2 q3 q4 q5 => by
      have nb : b ≠ p := fun z => by rw [z, updF_same] at q3; cases q3
      exact ⟨⟨rfl, q2⟩, (by rw [updF_ne nb] at q3; exact q3), fun m => nb (by simpa using m)⟩⟩
  · have h := (S.nof i r a e hr ha).1
    have ne : a ≠ p := fun z => by rw [z, updF_same] at h; cases h
    rw [updF_ne ne] at h
    exact ⟨h, fun m => ne (by simpa using m)⟩
  · have e : a = p := by simpa using m
    subst e
    exact ⟨hF, hG, o, S.fh.at updF_same⟩
end
def lcGo (pn vs : List Nat) (t : Tgt) (mt : M Bool) (me : M Opd) : List D → List D → DEnv → Res (List D)
  | [], acc, env => .ok acc env
  | d :: ds, acc, env => match asgT pn t d env with
    | none => .stk
    | some e1 => match mt e1 with
      | .ok true e2 => (match me e2 with
        | .ok o e3 => (match dOf o e3 with
          | .ok y e4 => if acc.length < sizeLine then lcGo pn vs t mt me ds (acc ++ [y]) (wipeD e4 vs) else .stk
          | _ => .stk)
        | _ => .stk)
      | .ok false e2 => lcGo pn vs t mt me ds acc (wipeD e2 vs)
      | _ => .stk
def lcM (pn vs : List Nat) (t : Tgt) (mi : M (List D)) (mt : M Bool) (me : M Opd) : M RV := bindM mi fun ds env =>
  if (∀ i ∈ vs, i ∉ pn) ∧ (∀ i ∈ slotsT t, i ∈ vs) then (match lcGo pn vs t mt me ds [] (wipeD env vs) with
    | .ok acc e => .ok (.ol acc) (wipeD e vs)
    | _ => .stk) else .stk
theorem PG.ex {X : Cx} {e : Expr} {α : Type} {g : α → TG} (h : ∀ a, PG X e (g a)) : PG X e (fun v σ H Q => ∃ a, g a v σ H Q) := ⟨fun pins s σ H v u Q I r ⟨a, q⟩ => (h a).run pins s σ H v u Q I r q⟩
theorem PTs.ex {X : Cx} {e : List Expr} {α : Type} {g : α → TT} (h : ∀ a, PTs X e (g a)) : PTs X e (fun σ H Q => ∃ a, g a σ H Q) := ⟨fun pins s σ H Q I ⟨a, q⟩ => (h a).run pins s σ H Q I q⟩
theorem PE.ex {X : Cx} {e : Expr} {α : Type} {g : α → TE} (h : ∀ a, PE X e (g a)) : PE X e (fun σ H Q => ∃ a, g a σ H Q) := ⟨fun pins s σ H Q I ⟨a, q⟩ => (h a).run pins s σ H Q I q⟩
def QTs (X : Cx) (W : WX) (pn : List Nat) (es : List Expr) (m : M Bool) : Prop := ∀ Fh P, P.map (·.1) = pn → PTs X es (rdB X.K X.mg W Fh P m)
def yesM : M Bool := fun env => .ok true env
section
variable {X : Cx} {W : WX} {pn vs : List Nat} {pos : Pos}
theorem qts_nil : QTs X W pn [] yesM := fun Fh P hp => ⟨fun pins s σ H Q I ⟨G, env, S, q⟩ => pts_nil.run pins s σ H Q I (q G H (Ex.refl _) S)⟩
abbrev W0 : WX := fun _ _ _ _ => False
/-- the reading of a comprehension from what it is worth -/
theorem rd_lc {mi : M (List D)} {mt : M Bool} {me : M Opd} {t : Tgt} {Fh : FHp} {P : List (Nat × V)} {σ : L2.St} {H : Hp} {Q : VK} (hp : P.map (·.1) = pn) (h : rdV X.K X.mg W Fh P (lcM pn vs t mi mt me) σ H Q) :
    tLc (rdI X.K X.mg W Fh P mi) (fun v σ H Q => ∃ F, rdG X.K X.mg F P pn t v σ H Q) (fun σ H Q => ∃ F, rdB X.K X.mg W0 F P mt σ H Q) (fun σ H Q => ∃ F, rdO X.K X.mg W0 F P me σ H Q) vs σ H Q := by
  obtain ⟨G, env, S, q⟩ := h
  refine ⟨G, env, S, ?_⟩
  unfold lcM bindM at q
  cases z : mi env with
  | err x e => simp only [z] at q; exact q
  | stk => simp only [z] at q; exact q
  | ok ds e =>
    simp only [z] at q
    intro J G0 H0 ex0 it S0 Da hD
    by_cases hc : (∀ i ∈ vs, i ∉ pn) ∧ (∀ i ∈ slotsT t, i ∈ vs)
    · rw [if_pos hc] at q
      cases zf : lcGo pn vs t mt me ds [] (wipeD e vs) with
      | err x e => simp only [zf] at q; exact q.elim
      | stk => simp only [zf] at q; exact q.elim
      | ok accf ef =>
        simp only [zf] at q
        have hF0 : Fh Da = none := S0.fh.none hD
        have Sw := (S0.guard (o := .lst []) hD nofun).wipe (vs := vs) (fun i hi => by rw [hp]; exact hc.1 i hi)
        refine ⟨fun i m H1 => m = ds.length - i ∧ i ≤ ds.length ∧ ∃ G1 env1 acc xs, Ex G0 G1 ∧ SRel X.K X.mg (updF Fh Da (.lst xs)) P G1 H1 (wipe σ vs) env1 [] ∧ DenL X.K X.mg G1 xs acc ∧ lcGo pn vs t mt me (ds.drop i) acc env1 = .ok accf ef,
          ⟨ds.length, by simp, Nat.zero_le _, G0, wipeD e vs, [], [], Ex.refl _, Sw, .nil, by simpa using zf⟩, ?_⟩
        rintro i m H1 ⟨rfl, hi, G1, env1, acc, xs, ex1, S1, hacc, q1⟩
        obtain ⟨a1, a2⟩ := it i G1 H1 ex1 S1.gh
        by_cases hlt : i < ds.length
        · have hd : ds[i]? = some ds[i] := by simp [hlt]
          obtain ⟨go, yl⟩ := a1 _ hd
          rw [drop_cons hd] at q1
          refine .inr ⟨go, fun H' => ∃ G2 env2 acc2 xs2, Ex G0 G2 ∧ SRel X.K X.mg (updF Fh Da (.lst xs2)) P G2 H' (wipe σ vs) env2 [] ∧ DenL X.K X.mg G2 xs2 acc2 ∧ lcGo pn vs t mt me (ds.drop (i + 1)) acc2 env2 = .ok accf ef, fun H' h => ⟨ds.length - (i + 1), by omega, rfl, hlt, h⟩, fun x H2 hy => ?_⟩
          obtain ⟨G2, st, hden⟩ := yl x H2 hy
          have S2 := S1.step st
          have ex2 := st.ex S1.gh
          unfold lcGo at q1
          cases z1 : asgT pn t ds[i] env1 with
          | none => simp only [z1] at q1; cases q1
          | some e1 =>
            simp only [z1] at q1
            refine ⟨_, G2, env1, ds[i], e1, S2, hden, z1, fun σ2 S3 on => ⟨wipe_only on hc.2, ?_⟩⟩
            refine ⟨_, G2, e1, S3, ?_⟩
            cases z2 : mt e1 with
            | err x e2 => simp only [z2] at q1; cases q1
            | stk => simp only [z2] at q1; cases q1
            | ok b e2 =>
              intro G3 H3 ex3 S4
              have back : ∀ {F : FHp} {G' H' : Hp} {e' : DEnv}, SRel X.K X.mg F P G' H' σ2 e' [] → SRel X.K X.mg F P G' H' (wipe σ vs) (wipeD e' vs) [] := fun {F G' H' e'} SS => by
                rw [← wipe_only on hc.2]
                exact SS.wipe (fun i hi => by rw [hp]; exact hc.1 i hi)
              cases b with
              | false =>
                simp only [z2] at q1
                exact ⟨G3, wipeD e2 vs, acc, xs, (ex1.trans ex2).trans ex3, back S4, hacc.mono (ex2.trans ex3), q1⟩
              | true =>
                simp only [z2] at q1
                refine ⟨_, G3, e2, S4, ?_⟩
                cases z3 : me e2 with
                | err x e3 => simp only [z3] at q1; cases q1
                | stk => simp only [z3] at q1; cases q1
                | ok o e3 =>
                  simp only [z3] at q1
                  intro v G4 H4 ex4 w S5
                  cases z4 : dOf o e3 with
                  | err x e4 => simp only [z4] at q1; cases q1
                  | stk => simp only [z4] at q1; cases q1
                  | ok y e4 =>
                    simp only [z4] at q1
                    obtain ⟨G5, ex5, d5, S6⟩ := S5.dOf w z4
                    by_cases hsz : acc.length < sizeLine
                    · rw [if_pos hsz] at q1
                      refine ⟨xs, S6.fh.at updF_same, by rw [hacc.1]; exact hsz, G5, wipeD e4 vs, acc ++ [y], xs ++ [v], (((ex1.trans ex2).trans ex3).trans ex4).trans ex5, back (S6.reguard nofun), (hacc.mono (((ex2.trans ex3).trans ex4).trans ex5)).app (.one d5), q1⟩
                    · rw [if_neg hsz] at q1; cases q1
        · have e1 : i = ds.length := by omega
          subst e1
          rw [List.drop_length] at q1
          unfold lcGo at q1
          cases q1
          have S7 := S1.unwipe
          refine .inl ⟨a2 (Nat.le_refl _), ?_⟩
          have vw : View X.K X.mg G1 H1 (.ref Da) (.ol accf) := View.of_own (S1.fh.at updF_same) (S1.djo updF_same) hacc
          exact q (.ref Da) G1 H1 (ex0.trans ex1) vw (S7.unguard hF0)
    · rw [if_neg hc] at q; exact q.elim
/-- [e for x in xs if t] -/
theorem qv_lc {elt tg iter : Expr} {ifs : List Expr} {scope : Scope} {own : List (Str × Nat)} {t : Tgt} {mi : M (List D)} {mt : M Bool} {me : M Opd} (hc : X.calm = true) (hN : X.N.Nodup) (hi : QI X W pn tg iter mi) (ok : BlkOk X.N X.env.scope scope own)
    (hg : ∀ (s : Shared) (H : Hp) (C : Addr) (cl : List (Str × Addr)) (fp : List Addr), QG (X.blk s H scope (compEnvC scope cl C X.env) fp) pn tg t) (ht : ∀ (s : Shared) (H : Hp) (C : Addr) (cl : List (Str × Addr)) (fp : List Addr), QTs (X.blk s H scope (compEnvC scope cl C X.env) fp) W0 pn ifs mt)
    (he : ∀ (s : Shared) (H : Hp) (C : Addr) (cl : List (Str × Addr)) (fp : List Addr), QO (X.blk s H scope (compEnvC scope cl C X.env) fp) W0 pn elt me) (hs : ∀ x, foldedSetIterable iter X.env x = pure x) :
    QV X W pn (.ListComp elt [⟨tg, iter, ifs, 0⟩] scope pos) (lcM pn (own.map (·.2)) t mi mt me) := fun Fh P hp =>
  PE.weak (pe_lc hc hN (hi Fh P hp) ok (fun s H C cl fp => PG.ex fun F => hg s H C cl fp F P hp) (fun s H C cl fp => PTs.ex fun F => ht s H C cl fp F P hp) (fun s H C cl fp => PE.ex fun F => he s H C cl fp F P hp) hs) fun σ H Q h => rd_lc hp h
end
end Z
namespace Z
open PySem PySem.Spec PyProof.Rows L2
section
variable {X : Cx} {W : WX} {pn : List Nat} {e a b c : Expr} {pos : Pos} {K : PySem.W.Frag} {mg : Str → Option Value} {Fh : FHp} {P : List (Nat × V)}
def neverS : MS := fun _ => .stk
theorem qss_never {st : List Stmt} : QSs X W pn st neverS := fun Fh P hp => PSs.weak pss_never fun D σ H ⟨G, env, S, q⟩ => q.elim
def boM (m : M RV) : M Bool := bindM m fun r e => match r with
  | .sh (.bl k) => .ok k e
  | _ => .stk
theorem rd_bo {m : M RV} {σ : L2.St} {H : Hp} {Q : Bool → Hp → Prop} (h : rdB K mg W Fh P (boM m) σ H Q) : rdV K mg W Fh P m σ H fun x H' => ∃ k, x = .bl k ∧ Q k H' := by
  obtain ⟨G, env, S, q⟩ := h
  refine ⟨G, env, S, ?_⟩
  unfold boM bindM at q
  cases z : m env with
  | err x e => simp only [z] at q; exact q
  | stk => simp only [z] at q; exact q
  | ok r e =>
    simp only [z] at q
    intro v G1 H1 ex w S1
    split at q
    · rename_i k
      exact ⟨k, Den.bl_inv w, q G1 H1 ex S1⟩
    · exact q.elim
theorem qt_cmp {op : CmpOp} {r : R2} {f : RV → RV → Option RV} {ma mb : M Opd} (ho : OpR X (compareOp op) r) (hs : OpS X.K X.mg r f) (ha : QO X W pn a ma) (hb : QO X W pn b mb) (hm : behindInMarks op b = false) : QT X W pn (.Compare a [op] [b] pos) (boM (opM f ma mb)) := fun Fh P hp =>
  PT.weak (pt_cmpR ho (ha Fh P hp) (hb Fh P hp) hm) fun σ H Q h => rd_op hs (rd_bo h)
def chain2 (f' : RV → RV → Option RV) (o2 : Opd) (mc : M Opd) (r : RV) : M RV := fun e => match r with
  | .sh (.bl true) => bindM mc (fun o3 => fin2 f' o2 o3) e
  | .sh (.bl false) => .ok (.sh (.bl false)) e
  | _ => .stk
def chainM (f f' : RV → RV → Option RV) (ma mb mc : M Opd) : M RV := bindM ma fun o1 => bindM mb fun o2 => bindM (fin2 f o1 o2) fun r => chain2 f' o2 mc r
theorem rd_chain {r r' : R2} {f f' : RV → RV → Option RV} {ma mb mc : M Opd} (hs : OpS X.K X.mg r f) (hs' : OpS X.K X.mg r' f') {σ : L2.St} {H : Hp} {Q : VK} (h : rdV X.K X.mg W Fh P (chainM f f' ma mb mc) σ H Q) :
    tChain r r' (rdO X.K X.mg W Fh P ma) (rdO X.K X.mg W Fh P mb) (rdO X.K X.mg W Fh P mc) σ H Q := by
  obtain ⟨G, env, S, q⟩ := h
  refine ⟨G, env, S, PO_V q fun o1 e1 x G1 H1 ex1 w1 S1 hk => ?_⟩
  refine ⟨G1, e1, S1, PO_V hk fun o2 e2 y G2 H2 ex2 w2 S2 hk2 => ?_⟩
  refine fin2_ok (W := W) hs S2 (w1.mono ex2) w2 (Q := fun z H3 => _) ?_
  unfold bindM at hk2
  cases z : fin2 f o1 o2 e2 with
  | err x e => simp only [z] at hk2; exact hk2
  | stk => simp only [z] at hk2; exact hk2
  | ok c e3 =>
    simp only [z] at hk2
    intro v G3 H3 ex3 w3 S3
    unfold chain2 at hk2
    split at hk2
    · refine ⟨true, Den.bl_inv w3, ?_⟩
      rw [if_pos rfl]
      refine ⟨G3, e3, S3, PO_V (PV.mono ex3 hk2) fun o3 e4 y3 G4 H4 ex4 w4 S4 hk4 => ?_⟩
      exact fin2_ok hs' S4 ((w2.mono ex3).mono ex4) w4 hk4
    · refine ⟨false, Den.bl_inv w3, ?_⟩
      rw [if_neg (by decide)]
      exact hk2 _ G3 H3 ex3 (.bl false) S3
    · exact hk2.elim
theorem qv_chain {op op' : CmpOp} {r r' : R2} {f f' : RV → RV → Option RV} {ma mb mc : M Opd} (ho : OpR X (compareOp op) r) (hs : OpS X.K X.mg r f) (ho' : OpR X (compareOp op') r') (hs' : OpS X.K X.mg r' f') (ha : QO X W pn a ma) (hb : QO X W pn b mb) (hc : QO X W pn c mc) (hm : lastMarks [op, op'] [b, c] = false) :
    QV X W pn (.Compare a [op, op'] [b, c] pos) (chainM f f' ma mb mc) := fun Fh P hp =>
  PE.weak (pe_chain ho ho' (ha Fh P hp) (hb Fh P hp) (hc Fh P hp) hm) fun σ H Q h => rd_chain hs hs' h
def andV2 (mb : M RV) (r : RV) : M RV := fun e => match r with
  | .sh (.bl true) => mb e
  | .sh (.bl false) => .ok (.sh (.bl false)) e
  | _ => .stk
def orV2 (mb : M RV) (r : RV) : M RV := fun e => match r with
  | .sh (.bl false) => mb e
  | .sh (.bl true) => .ok (.sh (.bl true)) e
  | _ => .stk
def notV2 (r : RV) : M RV := fun e => match r with
  | .sh (.bl k) => .ok (.sh (.bl (!k))) e
  | _ => .stk
def andV (ma mb : M RV) : M RV := bindM ma (andV2 mb)
def orrV (ma mb : M RV) : M RV := bindM ma (orV2 mb)
def notV (ma : M RV) : M RV := bindM ma notV2
theorem PV_V {G : Hp} {env : DEnv} {σ : L2.St} {Q R : VK} {m : M RV} {k : RV → M RV} (h : PV K mg W Fh P σ G Q (bindM m k env))
    (hk : ∀ r e v G' H', Ex G G' → View K mg G' H' v r → SRel K mg Fh P G' H' σ e (tmps v r) → PV K mg W Fh P σ G' Q (k r e) → R v H') : PV K mg W Fh P σ G R (m env) := by
  unfold bindM at h
  cases q : m env with
  | ok o e => rw [q] at h; exact fun v G1 H1 ex ho S => hk o e v G1 H1 ex ho S (PV.mono ex h)
  | err x e => rw [q] at h; exact h
  | stk => rw [q] at h; exact h
theorem qv_one {op : BoolOp} {m : M RV} (h : QV X W pn a m) : QV X W pn (.BoolOp op [a] pos) m := fun Fh P hp => pe_one (h Fh P hp)
theorem qv_and {rest : List Expr} {ma mb : M RV} (ha : QV X W pn a ma) (hb : QV X W pn (.BoolOp .And (b :: rest) pos) mb) : QV X W pn (.BoolOp .And (a :: b :: rest) pos) (andV ma mb) := fun Fh P hp =>
  PE.weak (pe_and (ha Fh P hp) (hb Fh P hp)) fun σ H Q ⟨G, env, S, q⟩ => by
    refine ⟨G, env, S, PV_V q fun r e v G1 H1 ex w S1 hk => ?_⟩
    unfold andV2 at hk
    split at hk
    · exact ⟨true, Den.bl_inv w, by rw [if_pos rfl]; exact ⟨G1, e, S1, hk⟩⟩
    · exact ⟨false, Den.bl_inv w, by rw [if_neg (by decide)]; exact hk _ G1 H1 (Ex.refl _) (.bl false) S1⟩
    · exact hk.elim
theorem qv_not {ma : M RV} (ha : QV X W pn a ma) : QV X W pn (.UnaryOp .Not a pos) (notV ma) := fun Fh P hp =>
  PE.weak (pe_not (ha Fh P hp)) fun σ H Q ⟨G, env, S, q⟩ => by
    refine ⟨G, env, S, PV_V q fun r e v G1 H1 ex w S1 hk => ?_⟩
    unfold notV2 at hk
    split at hk
    · rename_i k; exact ⟨k, Den.bl_inv w, hk _ G1 H1 (Ex.refl _) (.bl _) S1⟩
    · exact hk.elim
inductive Ty0 where
  | non | bl | int | str | tup | lst | dct
  deriving DecidableEq
def Ty0.nm : Ty0 → String
  | .non => "NoneType" | .bl => "bool" | .int => "int" | .str => "str" | .tup => "tuple" | .lst => "list" | .dct => "dict"
def isiB : Ty0 → Ty0 → Bool
  | .bl, .int => true
  | a, b => decide (a = b)
def tyD : RV → Option Ty0
  | .sh .non => some .non
  | .sh (.bl _) => some .bl
  | .sh (.int _) => some .int
  | .sh (.str _) => some .str
  | .sh (.tup _) => some .tup
  | .sh (.lst _) => some .lst
  | .ol _ => some .lst
  | .sh (.fls _) => some .lst
  | _ => none
theorem kitB_ok : ∀ (a b : Ty0), b ≠ .non → kitB a.nm b.nm = some (isiB a b) := by
  intro a b h
  cases a <;> cases b <;> first | exact absurd rfl h | decide +kernel
theorem tyX_tup {H : Hp} {a : Addr} {xs : List V} (h : SqT K H a xs) : TyX K H (.ref a) (.type "tuple") := by
  rcases h with (h | ⟨o, h⟩) | ⟨o, its, n, h, hc, _⟩
  · exact .base (.tup h)
  · exact .fTuple h
  · exact .kTuple h hc
theorem tyX_fls {H : Hp} {a : Addr} {xs : List V} (h : SqL K H a xs) : TyX K H (.ref a) (.type "list") := by
  rcases h with (h | ⟨o, h⟩) | ⟨o, its, n, h, hc, _⟩
  · exact .base (.lst h)
  · exact .base (.frz h)
  · exact .kList h hc
theorem ViewW.tyX {G H : Hp} (ex : Gh G H) {v : V} {r : RV} {t : Ty0} (w : ViewW K mg G H v r) (e : tyD r = some t) : TyX K H v (.type t.nm) := by
  unfold tyD at e
  split at e <;> first | (cases e; done) | skip
  all_goals cases e
  · rw [Den.non_inv w]; exact .base .non
  · rw [Den.bl_inv w]; exact .base (.bl _)
  · rw [Den.int_inv w]; exact .base (.int _)
  · rw [Den.str_inv w]; exact .base (.str _)
  · obtain ⟨a, xs, rfl, h1, _⟩ := Den.tup_inv w; exact tyX_tup (ex.sqT h1)
  · obtain ⟨a, xs, rfl, h1, _⟩ := Den.lst_inv w; exact .base (.lst (ex.on _ _ h1 nofun))
  · obtain ⟨a, o, rfl, h1, h2, h3⟩ := w
    cases o <;> first | exact h3.elim | exact .base (.lst h1)
  · cases (w : Den K mg G v _) with
    | fls h1 _ _ => exact tyX_fls (ex.sqL h1)
theorem View.tyX {G H : Hp} (ex : Gh G H) {v : V} {r : RV} {t : Ty0} (w : View K mg G H v r) (e : tyD r = some t) : TyX K H v (.type t.nm) := w.w.tyX ex e
def isiF (T : Ty0) (r : RV) : Option RV := match tyD r with
  | some t => some (.sh (.bl (isiB t T)))
  | none => none
def isiTF (Ts : List Ty0) (r : RV) : Option RV := match tyD r with
  | some t => some (.sh (.bl (Ts.any (isiB t))))
  | none => none
theorem qv_isi {T : Ty0} {p p2 : Pos} {x : Str} {ma : M Opd} (hT : T ≠ .non) (hg : Gl X "isinstance") (hm : X.mg "isinstance" = none) (hx : bootBuiltins x = some (.type T.nm)) (hgx : Gl X x) (hmx : X.mg x = none) (hxn : x ≠ "__name__") (hxd : (x == ("__debug__" : Str)) = false)
    (ha : QO X W pn a ma) (hs : starEach [a, .Name x p2] X.env = (false, eval a X.env) :: starEach [.Name x p2] X.env) (hs2 : starEach [.Name x p2] X.env = (false, eval (.Name x p2) X.env) :: starEach [] X.env) (hpl : (backTo pos (starEach [.Name x p2] X.env)).any (·.1) = false) :
    QV X W pn (.Call (.Name "isinstance" p) [a, .Name x p2] [] pos) (unM (isiF T) ma) := fun Fh P hp =>
  PE.weak (pe_callB call_isi hg hm boot_isinstance (pa_cons (ha Fh P hp) (pa_cons (pe_bltn (v := .ty T.nm) hgx hmx hx rfl hxn hxd) pa_nil hs2) hs) (by decide) (by decide) hs hpl) fun σ H Q ⟨G, env, S, q⟩ => by
    refine ⟨G, env, S, PO_V q fun o1 e1 x1 G1 H1 ex1 w1 S1 hk => ?_⟩
    unfold fin1 at hk
    split at hk
    · rename_i r q1
      unfold isiF at hk
      split at hk
      · rename_i c q3
        split at q3
        · rename_i t q4
          cases q3
          exact ⟨x1, .ty T.nm, .type t.nm, .type T.nm, isiB t T, rfl, .ty _, (S1.resolve w1 q1).tyX S1.gh q4, kit_ty (kitB_ok t T hT), hk _ G1 H1 (Ex.refl _) (.bl _) S1⟩
        · cases q3
      · exact hk.elim
    · exact hk.elim
theorem kitAny_ok {t : Ty0} : ∀ {Ts : List Ty0}, (∀ T ∈ Ts, T ≠ .non) → PySem.W.kitAny K (.type t.nm) (Ts.map fun T => .type T.nm) = some (Ts.any (isiB t))
  | [], _ => rfl
  | T :: Ts, h => by
    refine kitAny_cons (kit_ty (kitB_ok t T (h T List.mem_cons_self))) (fun hb => ?_) (fun hb => by simp [hb])
    rw [kitAny_ok fun T' m => h T' (List.mem_cons_of_mem _ m)]
    simp [hb]
theorem qv_isi2 {T T' : Ty0} {p p2 p3 p4 : Pos} {k : Nat} {x x' : Str} {ma : M Opd} (hT : T ≠ .non) (hT' : T' ≠ .non) (hg : Gl X "isinstance") (hm : X.mg "isinstance" = none) (hx : bootBuiltins x = some (.type T.nm)) (hgx : Gl X x) (hmx : X.mg x = none) (hxn : x ≠ "__name__") (hxd : (x == ("__debug__" : Str)) = false)
    (hx' : bootBuiltins x' = some (.type T'.nm)) (hgx' : Gl X x') (hmx' : X.mg x' = none) (hxn' : x' ≠ "__name__") (hxd' : (x' == ("__debug__" : Str)) = false)
    (ha : QO X W pn a ma) (hs : starEach [a, .Tuple [.Name x p2, .Name x' p3] k p4] X.env = (false, eval a X.env) :: starEach [.Tuple [.Name x p2, .Name x' p3] k p4] X.env) (hs2 : starEach [.Tuple [.Name x p2, .Name x' p3] k p4] X.env = (false, eval (.Tuple [.Name x p2, .Name x' p3] k p4) X.env) :: starEach [] X.env)
    (hs3 : starEach [.Name x p2, .Name x' p3] X.env = (false, eval (.Name x p2) X.env) :: starEach [.Name x' p3] X.env) (hs4 : starEach [.Name x' p3] X.env = (false, eval (.Name x' p3) X.env) :: starEach [] X.env) (hpl : (backTo pos (starEach [.Tuple [.Name x p2, .Name x' p3] k p4] X.env)).any (·.1) = false) :
    QV X W pn (.Call (.Name "isinstance" p) [a, .Tuple [.Name x p2, .Name x' p3] k p4] [] pos) (unM (isiTF [T, T']) ma) := fun Fh P hp =>
  PE.weak (pe_callB call_isiT hg hm boot_isinstance (pa_cons (ha Fh P hp) (pa_cons (pe_tup (pa_cons (pe_bltn (v := .ty T.nm) hgx hmx hx rfl hxn hxd) (pa_cons (pe_bltn (v := .ty T'.nm) hgx' hmx' hx' rfl hxn' hxd') pa_nil hs4) hs3)) pa_nil hs2) hs) (by decide) (by decide) hs hpl) fun σ H Q ⟨G, env, S, q⟩ => by
    refine ⟨G, env, S, PO_V q fun o1 e1 x1 G1 H1 ex1 w1 S1 hk => ?_⟩
    unfold fin1 at hk
    split at hk
    · rename_i r q1
      unfold isiTF at hk
      split at hk
      · rename_i c q3
        split at q3
        · rename_i t q4
          cases q3
          refine ⟨(by decide : 2 ≤ sizeLine), fun tp htp => ?_⟩
          have st : Step G1 H1 (upd G1 tp (.tup [.ty T.nm, .ty T'.nm])) (upd H1 tp (.tup [.ty T.nm, .ty T'.nm])) [] := .shr htp
          have S2 := S1.step st
          exact ⟨x1, tp, _, .type t.nm, [.type T.nm, .type T'.nm], _, rfl, upd_same, .cons (.ty _) (.cons (.ty _) .nil), (S2.resolve (w1.mono (st.ex S1.gh)) q1).tyX S2.gh q4, kitAny_ok (Ts := [T, T']) (by intro z hz; simp at hz; rcases hz with rfl | rfl <;> assumption), hk _ _ _ (st.ex S1.gh) (.bl _) S2⟩
        · cases q3
      · exact hk.elim
    · exact hk.elim
theorem qv_glob {x : Str} {v : V} {u : Value} {d : D} (hg : Gl X x) (hm : X.mg x = some u) (r : RelV v u) (hd : ∀ G, Den X.K X.mg G v d) (hdb : (x == ("__debug__" : Str)) = false) : QV X W pn (.Name x pos) (cM d) := qv_c (pe_glob hg hm r hdb) hd
end
end Z
namespace Z
open PySem PySem.Spec PyProof.Rows L2
section
variable {K : PySem.W.Frag} {mg : Str → Option Value} {Fh : FHp} {P : List (Nat × V)} {G G' H H' : Hp} {σ : L2.St} {env : DEnv} {T : List Addr}
theorem SRel.hold {v : V} {r : RV} (S : SRel K mg Fh P G H σ env (tmps v r)) (w : View K mg G H v r) : ∃ Fh', SRel K mg Fh' P G H σ env [] ∧
    ∀ G' H' σ' env', Ex G G' → SRel K mg Fh' P G' H' σ' env' [] → SRel K mg Fh P G' H' σ' env' (tmps v r) ∧ View K mg G' H' v r := by
  cases hr : r.own with
  | false =>
    cases r with
    | sh d => exact ⟨Fh, S, fun G' H' σ' env' ex S' => ⟨S', Den.mono ex w⟩⟩
    | st _ => exact w.elim
    | _ => cases hr
  | true =>
    obtain ⟨a, o, rfl, h1, h2, h3⟩ := w.own_inv hr
    rw [tmps_own hr] at S ⊢
    obtain ⟨hF, _, _⟩ := S.tmp a (List.mem_singleton.mpr rfl)
    have ne : ∀ {i : Nat} {r : RV} {b : Addr}, env[i]? = some (some r) → r.own = true → σ[i]? = some (some (.ref b)) → b ≠ a := fun {i r b} e ho hb z => (S.nof i r b e ho hb).2 (by rw [z]; exact List.mem_singleton.mpr rfl)
    refine ⟨updF Fh a o, ⟨S.gh, ⟨fun b u e => ?_, fun b u e => ?_, fun c b ps q => by rw [updF_ne (ne_of_none q h2)]; exact S.fh.cl c b ps q, fun b ps x q => by
      by_cases z : b = a
      · subst z; rw [updF_same] at q; cases q
      · rw [updF_ne z] at q; exact S.fh.mks b ps x q, S.fh.tb⟩, fun b u e => ?_, S.pin, S.len, S.val, S.dis, fun i r' b e ho hb => ⟨?_, List.not_mem_nil⟩, fun b m => absurd m List.not_mem_nil, S.tre.heap (Ex.refl _) (fun _ _ q => q) (fun b i z f _ => ⟨rfl, (updF_ne (ne_of_none z h2)).trans f⟩) fun b q1 q2 q3 q4 q5 => ⟨⟨rfl, q2⟩, (updF_ne (fun z => q4 (by rw [z]; exact List.mem_singleton.mpr rfl))).trans q3, List.not_mem_nil⟩⟩, fun G' H' σ' env' ex S' => ⟨S'.unguard hF, ?_⟩⟩
    · by_cases z : b = a
      · subst z; rw [updF_same] at e; cases e; exact h1
      · rw [updF_ne z] at e; exact S.fh.on b u e
    · by_cases z : b = a
      · subst z; rw [updF_same] at e; cases e; exact h3.nt
      · rw [updF_ne z] at e; exact S.fh.nto b u e
    · by_cases z : b = a
      · subst z; exact .inl h2
      · rw [updF_ne z] at e; exact S.dj b u e
    · rw [updF_ne (ne e ho hb)]; exact (S.nof i r' b e ho hb).1
    · exact View.of_own (S'.fh.at updF_same) (S'.djo updF_same) (h3.mono ex)
end
section
variable {X : Cx} {W : WX} {pn : List Nat} {pos : Pos}
def okL (pn : List Nat) (n : Nat) : List Nat → Bool
  | [] => true
  | i :: is => decide (i < n) && !pn.contains i && okL pn n is
def par2 (pn : List Nat) (i j : Nat) (ma mb : M RV) : MS := bindS ma fun r1 e1 => match mb e1 with
  | .ok r2 e2 => if okL pn e2.length [i, j] = true then .nx ((e2.set i (some r1)).set j (some r2)) else .stk
  | _ => .stk
def par3 (pn : List Nat) (i j l : Nat) (ma mb mc : M RV) : MS := bindS ma fun r1 e1 => match mb e1 with
  | .ok r2 e2 => (match mc e2 with
    | .ok r3 e3 => if okL pn e3.length [i, j, l] = true then .nx (((e3.set i (some r1)).set j (some r2)).set l (some r3)) else .stk
    | _ => .stk)
  | _ => .stk
theorem okL2 {n i j : Nat} (h : okL pn n [i, j] = true) : (i < n ∧ i ∉ pn) ∧ (j < n ∧ j ∉ pn) := by
  simpa [okL, and_assoc] using h
def enumFrom (i : Nat) : List D → List D
  | [] => []
  | d :: ds => .tup [.int i, d] :: enumFrom (i + 1) ds
def enumI (m : M Opd) : M (List D) := bindM m fun o env => match dOf o env with
  | .ok (.lst ds) e => .ok (enumFrom 0 ds) e
  | _ => .stk
def zipD : List D → List D → List D
  | d :: ds, e :: es => .tup [d, e] :: zipD ds es
  | _, _ => []
theorem zipD_get : ∀ {ds es : List D} {i : Nat} {d : D}, (zipD ds es)[i]? = some d → ∃ x y, ds[i]? = some x ∧ es[i]? = some y ∧ d = .tup [x, y]
  | [], es, i, d, h => by simp [zipD] at h
  | d :: ds, [], i, _, h => by simp [zipD] at h
  | d :: ds, e :: es, 0, _, h => by simp [zipD] at h; exact ⟨d, e, rfl, rfl, h.symm⟩
  | d :: ds, e :: es, i + 1, _, h => by
    rw [zipD, List.getElem?_cons_succ] at h
    obtain ⟨x, y, h1, h2, h3⟩ := zipD_get (ds := ds) (es := es) (i := i) h
    exact ⟨x, y, h1, h2, h3⟩
theorem zipD_len : ∀ {ds es : List D} {i : Nat}, (zipD ds es).length ≤ i → ds.length ≤ i ∨ es.length ≤ i
  | [], es, i, h => .inl (Nat.zero_le _)
  | d :: ds, [], i, h => .inr (Nat.zero_le _)
  | d :: ds, e :: es, 0, h => by simp [zipD] at h
  | d :: ds, e :: es, i + 1, h => by
    simp [zipD] at h
    rcases zipD_len h with h | h
    · exact .inl (by simp; omega)
    · exact .inr (by simp; omega)
end
end Z
namespace Z
open PySem PySem.Spec PyProof.Rows L2
/-- the kind of a walked sequence: a list (true), a tuple (false) -/
def KIt (k : Bool) (h : Heap) (it l : Addr) (i : Nat) : Prop := match k with
  | true => h.IsListIter it l i
  | false => h.IsTupleIter it l i
def KSq (k : Bool) (h : Heap) (l : Addr) (xs : Array Value) : Prop := match k with
  | true => h.IsList l xs
  | false => h.IsTuple l xs
theorem KIt.but {k : Bool} {h h' : Heap} {a b l : Addr} {i : Nat} (x : KIt k h a l i) (e : Heap.ExtBut b h h') (n : a ≠ b) : KIt k h' a l i := by
  cases k
  · exact Heap.IsTupleIter.extBut x e n
  · exact Heap.IsListIter.extBut x e n
theorem KSq.but {k : Bool} {h h' : Heap} {a b : Addr} {xs : Array Value} (x : KSq k h a xs) (e : Heap.ExtBut b h h') (n : a ≠ b) : KSq k h' a xs := by
  cases k
  · exact Heap.IsTuple.extBut x e n
  · exact Heap.IsList.extBut x e n
theorem KIt.here {k : Bool} {h h' : Heap} {a l : Addr} {i : Nat} (x : KIt k h a l i) (e : ∀ o, h.get? a = some o → h'.get? a = some o) : KIt k h' a l i := by
  cases k
  · exact Heap.IsTupleIter.at x e
  · exact Heap.IsListIter.at x e
theorem KIt.obj {k : Bool} {h : Heap} {a l : Addr} {i : Nat} (x : KIt k h a l i) : ∃ o, h.get? a = some o ∧ ∀ v, o.data ≠ .cell v := by
  cases k
  · obtain ⟨o, e, _, d⟩ := (x : h.IsTupleIter a l i); exact ⟨o, e, fun v q => by rw [d] at q; cases q⟩
  · obtain ⟨o, e, _, d⟩ := (x : h.IsListIter a l i); exact ⟨o, e, fun v q => by rw [d] at q; cases q⟩
section
variable {prog : Program} {w : World} {A : Around} {E : Value → Shared → Prop} {s : Shared}
theorem nx_item {k : Bool} {it l : Addr} {i : Nat} {xs : Array Value} {x : Value} {Q : Value → Shared → Prop} (h1 : KIt k s.heap it l i) (h2 : KSq k s.heap l xs) (hx : xs[i]? = some x)
    (q : ∀ h', KIt k h' it l (i + 1) → Heap.SameBut it s.heap h' → Q x { s with heap := h' }) : wpAny (model prog w) A (Builtin.SmallTypes.nextOf (.ref it)) Q E s := by
  cases k
  · exact RZ.nextOf_tuple_item h1 h2 hx q
  · exact wpAny_nextOf_list_item h1 h2 hx q
theorem nx_end {k : Bool} {it l : Addr} {i : Nat} {xs : Array Value} {Q : Value → Shared → Prop} (hh : A.handled = none) (h1 : KIt k s.heap it l i) (h2 : KSq k s.heap l xs) (hx : xs[i]? = none)
    (q : ∀ h' e, Heap.ExtBut it s.heap h' → (∃ o, h'.get? e = some o ∧ o.cls = .type "StopIteration") → E (.ref e) { s with heap := h' }) : wpAny (model prog w) A (Builtin.SmallTypes.nextOf (.ref it)) Q E s := by
  cases k
  · exact RZ.nextOf_tuple_end hh h1 h2 hx q
  · exact wpAny_nextOf_list_end hh h1 h2 hx q
theorem zk_item {k k' : Bool} {z TI TO i1 i2 l1 l2 : Addr} {n m : Nat} {xs ys : Array Value} {x y a b : Value} {Q : Value → Shared → Prop} (D : ZipApart z TI TO i1 i2 l1 l2) (hz : IsZip s.heap z TI TO .none) (hI : IsPair s.heap TI (.ref i1) (.ref i2)) (hO : IsPair s.heap TO a b)
    (g1 : KIt k s.heap i1 l1 n) (g2 : KIt k' s.heap i2 l2 m) (e1 : KSq k s.heap l1 xs) (e2 : KSq k' s.heap l2 ys) (hx : xs[n]? = some x) (hy : ys[m]? = some y)
    (q : ∀ h', IsZip h' z TI TO (rawInt s.heap.objs.size) → IsPair h' TO x y → KIt k h' i1 l1 (n + 1) → KIt k' h' i2 l2 (m + 1) → IsPair h' s.heap.objs.size x y →
      (∀ c o, c ≠ z → c ≠ TO → c ≠ i1 → c ≠ i2 → s.heap.get? c = some o → h'.get? c = some o) → Q (.ref s.heap.objs.size) { s with heap := h' }) :
    wpAny (model prog w) A (Builtin.«zip.__next__» ⟨[.ref z], []⟩) (fun r s' => ∃ v, r = .done (.ret v) ∧ Q v s') E s := by
  show wpAny _ _ (field (.ref z) 2 >>= fun _ => _) _ _ _
  refine wpAny_bind (wpAny_field (x := .bool false) hz rfl rfl ?_)
  show wpAny _ _ (field (.ref z) 3 >>= fun _ => _) _ _ _
  refine wpAny_bind (wpAny_field (x := .ref TI) hz rfl rfl ?_)
  refine wpAny_bind (wpAny_seqItems hI rfl ?_)
  show wpAny _ _ (Builtin.SmallTypes.ownedTupleIsFree (.ref z) >>= fun _ => _) _ _ _
  refine wpAny_bind ?_
  unfold Builtin.SmallTypes.ownedTupleIsFree
  refine wpAny_bind (wpAny_field (x := .none) hz rfl rfl (wpAny_pure ?_))
  simp only [if_true]
  refine wpAny_bind (wpAny_rule ?_)
  refine wpAny_bind (wpAny_field (x := .ref TO) hz rfl rfl ?_)
  refine wpAny_bind (wpAny_setField_rec hz (by simp) fun p1 z1 s1 => ?_)
  replace z1 : IsZip p1 z TI TO .ellipsis := z1
  refine wpAny_bind ?_
  simp only [List.zipIdx_nil, List.zipIdx_cons, List.forIn_nil, List.forIn_cons]
  refine wpAny_bind (wpAny_bind (wpAny_onRaise ?_))
  show wpAny _ _ (Builtin.SmallTypes.nextOf (.ref i1) >>= fun _ => _) _ _ _
  refine wpAny_bind (nx_item (g1.but s1.extBut D.i1z) (e1.but s1.extBut D.l1z) hx fun p2 g12 s2 => wpAny_pure ?_)
  have O2 : IsPair p2 TO a b := s2.extBut _ _ D.TOi1 (s1.extBut _ _ D.TOz hO)
  refine wpAny_bind (wpAny_seqItems O2 rfl ?_)
  refine wpAny_bind (wpAny_updateSeq_pair O2 fun p3 O3 s3 => ?_)
  replace O3 : IsPair p3 TO x b := O3
  refine wpAny_bind (wpAny_letGo (wpAny_pure ?_))
  refine wpAny_bind (wpAny_bind (wpAny_onRaise ?_))
  show wpAny _ _ (Builtin.SmallTypes.nextOf (.ref i2) >>= fun _ => _) _ _ _
  refine wpAny_bind (nx_item (((g2.but s1.extBut D.i2z).but s2.extBut D.i12.symm).but s3.extBut D.TOi2.symm) (((e2.but s1.extBut D.l2z).but s2.extBut D.l2i1).but s3.extBut D.l2TO) hy fun p4 g24 s4 => wpAny_pure ?_)
  have O4 : IsPair p4 TO x b := s4.extBut _ _ D.TOi2 O3
  refine wpAny_bind (wpAny_seqItems O4 rfl ?_)
  refine wpAny_bind (wpAny_updateSeq_pair O4 fun p5 O5 s5 => ?_)
  replace O5 : IsPair p5 TO x y := O5
  refine wpAny_bind (wpAny_letGo (wpAny_pure (wpAny_pure ?_)))
  refine wpAny_bind (wpAny_seqItems O5 rfl ?_)
  refine wpAny_bind (wpAny_newTuple ?_)
  have sz : p5.objs.size = s.heap.objs.size := by rw [s5.1, s4.1, s3.1, s2.1, s1.1]
  have z5 : IsZip p5 z TI TO .ellipsis := s5.extBut _ _ D.TOz.symm (s4.extBut _ _ D.i2z.symm (s3.extBut _ _ D.TOz.symm (s2.extBut _ _ D.i1z.symm z1)))
  have kk : ∀ c o, c ≠ z → c ≠ TO → c ≠ i1 → c ≠ i2 → s.heap.get? c = some o → p5.get? c = some o := fun c o c1 c2 c3 c4 e => s5.extBut _ _ c2 (s4.extBut _ _ c4 (s3.extBut _ _ c2 (s2.extBut _ _ c3 (s1.extBut _ _ c1 e))))
  have g15 : KIt k p5 i1 l1 (n + 1) := ((g12.but s3.extBut D.TOi1.symm).but s4.extBut D.i12).but s5.extBut D.TOi1.symm
  have g25 : KIt k' p5 i2 l2 (m + 1) := g24.but s5.extBut D.TOi2.symm
  have zl : z < p5.objs.size := Heap.lt_size z5
  show wpAny _ _ (Builtin.SmallTypes.ownedTupleHandOut (.ref z) (.ref p5.objs.size) >>= fun _ => _) _ _ _
  refine wpAny_bind ?_
  unfold Builtin.SmallTypes.ownedTupleHandOut
  have z6 : IsZip (p5.push { cls := .type "tuple", data := .seq #[x, y] }) z TI TO .ellipsis := Heap.get?_push_of_some _ z5
  refine wpAny_bind (wpAny_setField_rec z6 (by simp) fun p7 z7 s7 => ?_)
  replace z7 : IsZip p7 z TI TO (rawInt p5.objs.size) := z7
  refine wpAny_setField_rec z7 (by simp) fun p8 z8 s8 => ?_
  replace z8 : IsZip p8 z TI TO (rawInt p5.objs.size) := z8
  have up : ∀ c o, c ≠ z → p5.get? c = some o → p8.get? c = some o := fun c o c1 e => s8.extBut _ _ c1 (s7.extBut _ _ c1 (Heap.get?_push_of_some _ e))
  have T8 : IsPair p8 p5.objs.size x y := s8.extBut _ _ (Nat.ne_of_gt zl) (s7.extBut _ _ (Nat.ne_of_gt zl) (Heap.get?_push_size _ rfl))
  rw [sz] at z8 T8
  refine wpAny_pure ⟨_, rfl, ?_⟩
  show Q (.ref p5.objs.size) _
  rw [sz]
  exact q p8 z8 (up _ _ D.TOz O5) (g15.here fun o e => up _ o D.i1z e) (g25.here fun o e => up _ o D.i2z e) T8 fun c o c1 c2 c3 c4 e => up c o c1 (kk c o c1 c2 c3 c4 e)
theorem zk_end {k k' : Bool} {z TI TO i1 i2 l1 l2 : Addr} {n m : Nat} {xs ys : Array Value} {a b : Value} {Q : Fin → Shared → Prop} (hh : A.handled = none) (D : ZipApart z TI TO i1 i2 l1 l2) (hz : IsZip s.heap z TI TO .none) (hI : IsPair s.heap TI (.ref i1) (.ref i2)) (hO : IsPair s.heap TO a b)
    (g1 : KIt k s.heap i1 l1 n) (g2 : KIt k' s.heap i2 l2 m) (e1 : KSq k s.heap l1 xs) (e2 : KSq k' s.heap l2 ys) (hn : xs[n]? = none ∨ ys[m]? = none)
    (q : ∀ h' e, (∀ c o, c ≠ z → c ≠ TO → c ≠ i1 → c ≠ i2 → s.heap.get? c = some o → h'.get? c = some o) → (∃ o, h'.get? e = some o ∧ o.cls = .type "StopIteration") → E (.ref e) { s with heap := h' }) :
    wpAny (model prog w) A (Builtin.«zip.__next__» ⟨[.ref z], []⟩) Q E s := by
  show wpAny _ _ (field (.ref z) 2 >>= fun _ => _) _ _ _
  refine wpAny_bind (wpAny_field (x := .bool false) hz rfl rfl ?_)
  show wpAny _ _ (field (.ref z) 3 >>= fun _ => _) _ _ _
  refine wpAny_bind (wpAny_field (x := .ref TI) hz rfl rfl ?_)
  refine wpAny_bind (wpAny_seqItems hI rfl ?_)
  show wpAny _ _ (Builtin.SmallTypes.ownedTupleIsFree (.ref z) >>= fun _ => _) _ _ _
  refine wpAny_bind ?_
  unfold Builtin.SmallTypes.ownedTupleIsFree
  refine wpAny_bind (wpAny_field (x := .none) hz rfl rfl (wpAny_pure ?_))
  simp only [if_true]
  refine wpAny_bind (wpAny_rule ?_)
  refine wpAny_bind (wpAny_field (x := .ref TO) hz rfl rfl ?_)
  refine wpAny_bind (wpAny_setField_rec hz (by simp) fun p1 z1 s1 => ?_)
  replace z1 : IsZip p1 z TI TO .ellipsis := z1
  refine wpAny_bind ?_
  simp only [List.zipIdx_nil, List.zipIdx_cons, List.forIn_nil, List.forIn_cons]
  refine wpAny_bind (wpAny_bind (wpAny_onRaise ?_))
  show wpAny _ _ (Builtin.SmallTypes.nextOf (.ref i1) >>= fun _ => _) _ _ _
  cases hx : xs[n]? with
  | none =>
    refine wpAny_bind (nx_end hh (g1.but s1.extBut D.i1z) (e1.but s1.extBut D.l1z) hx fun p2 e s2 he => ?_)
    obtain ⟨oe, ho, hc⟩ := he
    have z2 : IsZip p2 z TI TO .ellipsis := s2 _ _ D.i1z.symm z1
    have ne : e ≠ z := fun x => by subst x; rw [z2] at ho; cases ho; simp at hc
    exact wpAny_setField_rec z2 (by simp) fun p3 _ s3 => q p3 e (fun c o c1 _ c3 _ x => s3.extBut _ _ c1 (s2 _ _ c3 (s1.extBut _ _ c1 x))) ⟨oe, s3.extBut _ _ ne ho, hc⟩
  | some x =>
    have hy : ys[m]? = none := hn.resolve_left fun h => by rw [hx] at h; cases h
    refine wpAny_bind (nx_item (g1.but s1.extBut D.i1z) (e1.but s1.extBut D.l1z) hx fun p2 g12 s2 => wpAny_pure ?_)
    have O2 : IsPair p2 TO a b := s2.extBut _ _ D.TOi1 (s1.extBut _ _ D.TOz hO)
    refine wpAny_bind (wpAny_seqItems O2 rfl ?_)
    refine wpAny_bind (wpAny_updateSeq_pair O2 fun p3 O3 s3 => ?_)
    refine wpAny_bind (wpAny_letGo (wpAny_pure ?_))
    refine wpAny_bind (wpAny_bind (wpAny_onRaise ?_))
    show wpAny _ _ (Builtin.SmallTypes.nextOf (.ref i2) >>= fun _ => _) _ _ _
    refine wpAny_bind (nx_end hh (((g2.but s1.extBut D.i2z).but s2.extBut D.i12.symm).but s3.extBut D.TOi2.symm) (((e2.but s1.extBut D.l2z).but s2.extBut D.l2i1).but s3.extBut D.l2TO) hy fun p4 e s4 he => ?_)
    obtain ⟨oe, ho, hc⟩ := he
    have z4 : IsZip p4 z TI TO .ellipsis := s4 _ _ D.i2z.symm (s3.extBut _ _ D.TOz.symm (s2.extBut _ _ D.i1z.symm z1))
    have ne : e ≠ z := fun x => by subst x; rw [z4] at ho; cases ho; simp at hc
    exact wpAny_setField_rec z4 (by simp) fun p5 _ s5 => q p5 e (fun c o c1 c2 c3 c4 x => s5.extBut _ _ c1 (s4 _ _ c4 (s3.extBut _ _ c2 (s2.extBut _ _ c3 (s1.extBut _ _ c1 x))))) ⟨oe, s5.extBut _ _ ne ho, hc⟩
theorem pn_item {k k' : Bool} {z TI TO i1 i2 l1 l2 : Addr} {n m : Nat} {xs ys : Array Value} {x y a b : Value} {Q : Option Value → Shared → Prop} (D : ZipApart z TI TO i1 i2 l1 l2) (hz : IsZip s.heap z TI TO .none) (hI : IsPair s.heap TI (.ref i1) (.ref i2)) (hO : IsPair s.heap TO a b)
    (g1 : KIt k s.heap i1 l1 n) (g2 : KIt k' s.heap i2 l2 m) (e1 : KSq k s.heap l1 xs) (e2 : KSq k' s.heap l2 ys) (hx : xs[n]? = some x) (hy : ys[m]? = some y)
    (q : ∀ h', IsZip h' z TI TO (rawInt s.heap.objs.size) → IsPair h' TO x y → KIt k h' i1 l1 (n + 1) → KIt k' h' i2 l2 (m + 1) → IsPair h' s.heap.objs.size x y →
      (∀ c o, c ≠ z → c ≠ TO → c ≠ i1 → c ≠ i2 → s.heap.get? c = some o → h'.get? c = some o) → Q (some (.ref s.heap.objs.size)) { s with heap := h' }) : wpAny (model prog w) A (pyNext (.ref z)) Q E s := by
  have T : s.TypeIs (.ref z) "zip" := ⟨_, hz, rfl⟩
  unfold pyNext
  exact wpAny_bind (wpAny_attempt (wpAny_callSpecial?_slot (name := Str.ofString "__next__") T PySem.F.slot_zip_next
    (wpAny_call_entry PySem.F.slot_zip_next T PySem.F.entry_zip_next (zk_item D hz hI hO g1 g2 e1 e2 hx hy fun h' a1 a2 a3 a4 a5 a6 => wpAny_pure (q h' a1 a2 a3 a4 a5 a6)) (PySem.F.args_zip_next_1 _))))
theorem pn_end {k k' : Bool} {z TI TO i1 i2 l1 l2 : Addr} {n m : Nat} {xs ys : Array Value} {a b : Value} {Q : Option Value → Shared → Prop} (hh : A.handled = none) (D : ZipApart z TI TO i1 i2 l1 l2) (hz : IsZip s.heap z TI TO .none) (hI : IsPair s.heap TI (.ref i1) (.ref i2)) (hO : IsPair s.heap TO a b)
    (g1 : KIt k s.heap i1 l1 n) (g2 : KIt k' s.heap i2 l2 m) (e1 : KSq k s.heap l1 xs) (e2 : KSq k' s.heap l2 ys) (hn : xs[n]? = none ∨ ys[m]? = none)
    (q : ∀ h', (∀ c o, c ≠ z → c ≠ TO → c ≠ i1 → c ≠ i2 → s.heap.get? c = some o → h'.get? c = some o) → Q none { s with heap := h' }) : wpAny (model prog w) A (pyNext (.ref z)) Q E s := by
  have T : s.TypeIs (.ref z) "zip" := ⟨_, hz, rfl⟩
  unfold pyNext
  refine wpAny_bind (wpAny_attempt (wpAny_callSpecial?_slot (name := Str.ofString "__next__") T PySem.F.slot_zip_next
    (wpAny_call_entry PySem.F.slot_zip_next T PySem.F.entry_zip_next (zk_end hh D hz hI hO g1 g2 e1 e2 hn fun h' e hk he => ?_) (PySem.F.args_zip_next_1 _))))
  obtain ⟨o, ho, hc⟩ := he
  refine wpAny_bind (wpAny_isInstance (b := true) (T := "StopIteration") ⟨o, ho, hc⟩ isSubtype_stop ?_)
  exact wpAny_pure (q _ hk)
end
/-- what zip makes: the two iterators, their pair, the pair of what they gave, itself -/
abbrev itOf (k : Bool) (l : Addr) : Obj := { cls := .type (if k = true then "list_iterator" else "tuple_iterator"), data := .fields #[.ref l, .int 0 0] }
abbrev zk1 (k : Bool) (h : Heap) (l : Addr) : Heap := h.push (itOf k l)
abbrev zk2 (k k' : Bool) (h : Heap) (l l' : Addr) : Heap := (zk1 k h l).push (itOf k' l')
abbrev zk3 (k k' : Bool) (h : Heap) (l l' : Addr) : Heap := (zk2 k k' h l l').push { cls := .type "tuple", data := .seq #[.ref h.objs.size, .ref (zk1 k h l).objs.size] }
abbrev zk4 (k k' : Bool) (h : Heap) (l l' : Addr) : Heap := (zk3 k k' h l l').push { cls := .type "tuple", data := .seq #[.none, .none] }
abbrev zk5 (k k' : Bool) (h : Heap) (l l' : Addr) : Heap := (zk4 k k' h l l').push { cls := .type "zip", data := .fields #[.none, .bool false, .bool false, .ref (zk2 k k' h l l').objs.size, .ref (zk3 k k' h l l').objs.size] }
theorem zk_new (k k' : Bool) (l l' : Addr) (xs ys : Array Value) : Meets (Builtin.«zip.__new__» ⟨[.type "zip", .ref l, .ref l'], []⟩) (fun _ R s => KSq k s.heap l xs ∧ KSq k' s.heap l' ys ∧
      R (.ok (.ret (.ref (zk4 k k' s.heap l l').objs.size))) { s with heap := zk5 k k' s.heap l l' }) :=
  .of_wp fun prog w A R s h => by
    obtain ⟨hp, g, d, tk, os⟩ := s
    obtain ⟨h1, h2, h⟩ := h
    have hsub := sub_zip
    cases k <;> cases k'
    · have a1 : Heap.IsTuple (Shared.heap ⟨hp, g, d, tk, os⟩) l xs := h1
      have a2 : Heap.IsTuple (Shared.heap ⟨hp.push { cls := .type "tuple_iterator", data := .fields #[.ref l, .int 0 0] }, g, d, tk, os⟩) l' ys := Heap.IsTuple.push h2 _
      wp_walk using wpAny_pyIter_tuple a1, wpAny_pyIter_tuple a2
      exact ⟨_, rfl, h⟩
    · have a1 : Heap.IsTuple (Shared.heap ⟨hp, g, d, tk, os⟩) l xs := h1
      have a2 : Heap.IsList (Shared.heap ⟨hp.push { cls := .type "tuple_iterator", data := .fields #[.ref l, .int 0 0] }, g, d, tk, os⟩) l' ys := Heap.IsList.push h2 _
      wp_walk using wpAny_pyIter_tuple a1, wpAny_pyIter_list a2
      exact ⟨_, rfl, h⟩
    · have a1 : Heap.IsList (Shared.heap ⟨hp, g, d, tk, os⟩) l xs := h1
      have a2 : Heap.IsTuple (Shared.heap ⟨hp.push { cls := .type "list_iterator", data := .fields #[.ref l, .int 0 0] }, g, d, tk, os⟩) l' ys := Heap.IsTuple.push h2 _
      wp_walk using wpAny_pyIter_list a1, wpAny_pyIter_tuple a2
      exact ⟨_, rfl, h⟩
    · have a1 : Heap.IsList (Shared.heap ⟨hp, g, d, tk, os⟩) l xs := h1
      have a2 : Heap.IsList (Shared.heap ⟨hp.push { cls := .type "list_iterator", data := .fields #[.ref l, .int 0 0] }, g, d, tk, os⟩) l' ys := Heap.IsList.push h2 _
      wp_walk using wpAny_pyIter_list a1, wpAny_pyIter_list a2
      exact ⟨_, rfl, h⟩
section
variable {prog : Program} {w : World} {A : Around} {E : Value → Shared → Prop} {s : Shared}
theorem zk_call {k k' : Bool} {l l' : Addr} {xs ys : Array Value} {Q : Value → Shared → Prop} (h1 : KSq k s.heap l xs) (h2 : KSq k' s.heap l' ys)
    (q : ∀ h', IsZip h' (s.heap.objs.size + 4) (s.heap.objs.size + 2) (s.heap.objs.size + 3) .none → IsPair h' (s.heap.objs.size + 2) (.ref s.heap.objs.size) (.ref (s.heap.objs.size + 1)) → IsPair h' (s.heap.objs.size + 3) .none .none →
      KIt k h' s.heap.objs.size l 0 → KIt k' h' (s.heap.objs.size + 1) l' 0 → (∀ c o, s.heap.get? c = some o → h'.get? c = some o) → Q (.ref (s.heap.objs.size + 4)) { s with heap := h' }) :
    wpAny (model prog w) A (call (.type "zip") [.ref l, .ref l']) Q E s := by
  refine callType_new PySem.F.called_zip (by decide) (PySem.F.typeCall_zip_2 _ _) (PySem.F.newCall_zip_2 _ _) (fun obj => PySem.F.args_object_init_3 obj _ _) PySem.F.entry_zip_new (zk_new k k' l l' xs ys) ⟨h1, h2, ?_⟩
  have s1 : (zk1 k s.heap l).objs.size = s.heap.objs.size + 1 := Heap.size_push ..
  have s2 : (zk2 k k' s.heap l l').objs.size = s.heap.objs.size + 2 := by rw [Heap.size_push, s1]
  have s3 : (zk3 k k' s.heap l l').objs.size = s.heap.objs.size + 3 := by rw [Heap.size_push, s2]
  have s4 : (zk4 k k' s.heap l l').objs.size = s.heap.objs.size + 4 := by rw [Heap.size_push, s3]
  have up := fun (h : Heap) (o : Obj) {c : Addr} {u : Obj} (e : h.get? c = some u) => Heap.get?_push_of_some o e
  have q5 : (zk5 k k' s.heap l l').get? (zk4 k k' s.heap l l').objs.size = some _ := Heap.get?_push_size _ rfl
  have q4 : (zk5 k k' s.heap l l').get? (zk3 k k' s.heap l l').objs.size = some _ := up _ _ (Heap.get?_push_size _ rfl)
  have q3 : (zk5 k k' s.heap l l').get? (zk2 k k' s.heap l l').objs.size = some _ := up _ _ (up _ _ (Heap.get?_push_size _ rfl))
  have q2 : (zk5 k k' s.heap l l').get? (zk1 k s.heap l).objs.size = some _ := up _ _ (up _ _ (up _ _ (Heap.get?_push_size _ rfl)))
  have q1 : (zk5 k k' s.heap l l').get? s.heap.objs.size = some _ := up _ _ (up _ _ (up _ _ (up _ _ (Heap.get?_push_size _ rfl))))
  show _ ∧ _
  rw [s2, s3, s4] at q5
  rw [s1, s2] at q3
  rw [s3] at q4
  rw [s1] at q2
  rw [s4]
  refine ⟨⟨_, q5, rfl⟩, q _ q5 q3 q4 ?_ ?_ fun c o x => up _ _ (up _ _ (up _ _ (up _ _ (up _ _ x))))⟩
  · cases k
    · exact (⟨_, q1, rfl, rfl⟩ : Heap.IsTupleIter _ _ _ _)
    · exact (⟨_, q1, rfl, rfl⟩ : Heap.IsListIter _ _ _ _)
  · cases k'
    · exact (⟨_, q2, rfl, rfl⟩ : Heap.IsTupleIter _ _ _ _)
    · exact (⟨_, q2, rfl, rfl⟩ : Heap.IsListIter _ _ _ _)
end
def SqK (K : PySem.W.Frag) (k : Bool) (H : Hp) (a : Addr) (xs : List V) : Prop := match k with
  | true => SqL K H a xs
  | false => SqT K H a xs
theorem Inv.sqK {X : Cx} {pins : List (Addr × Obj)} {σ : L2.St} {H : Hp} {s : Shared} {k : Bool} {a : Addr} {xs : List V} (I : Inv X pins σ H s) (h : SqK X.K k H a xs) : ∃ its : List Value, Vals xs its ∧ KSq k s.heap a its.toArray ∧ a < s.heap.objs.size := by
  cases k
  · obtain ⟨its, rv, p, _⟩ := I.tuple h
    obtain ⟨o, ho, _⟩ := id p
    exact ⟨its, rv, p, Heap.lt_size ho⟩
  · obtain ⟨its, rv, p, _⟩ := I.list h
    exact ⟨its, rv, p.isList, p.lt⟩
theorem Inv.sqK_inj {X : Cx} {pins : List (Addr × Obj)} {σ : L2.St} {H : Hp} {s : Shared} {k : Bool} {a : Addr} {xs ys : List V} (I : Inv X pins σ H s) (h : SqK X.K k H a xs) (h' : SqK X.K k H a ys) : xs = ys := by
  cases k
  · exact I.tuple_inj h h'
  · exact I.list_inj h h'
def ItzK (K : PySem.W.Frag) (k k' : Bool) (a b : Addr) : It :=
  ⟨fun i H => ∃ (xs ys : List V) (x y : V), SqK K k H a xs ∧ SqK K k' H b ys ∧ xs[i]? = some x ∧ ys[i]? = some y,
    fun i H v H' => ∃ T x y, v = .ref T ∧ H T = none ∧ H' = upd H T (.tup [x, y]) ∧ (∀ xs, SqK K k H a xs → xs[i]? = some x) ∧ ∀ ys, SqK K k' H b ys → ys[i]? = some y,
    fun i H => ∃ xs ys : List V, SqK K k H a xs ∧ SqK K k' H b ys ∧ (xs.length ≤ i ∨ ys.length ≤ i)⟩
theorem turn_zk {Pr : Program} {w : World} {K : PySem.W.Frag} {k k' : Bool} {elts : List Expr} {kk : Nat} {tpos : Pos} {a b z TI TO i1 i2 : Addr} (D : ZipApart z TI TO i1 i2 a b) :
    Turn Pr w K (.Tuple elts kk tpos) (ItzK K k k' a b) [z, TI, TO, i1, i2] z (fun i h => IsZip h z TI TO .none ∧ IsPair h TI (.ref i1) (.ref i2) ∧ (∃ x y, IsPair h TO x y) ∧ KIt k h i1 a i ∧ KIt k' h i2 b i) where
  mem := List.mem_cons_self
  obj := fun i h st c hc => by
    obtain ⟨hz, hI, ⟨x, y, hO⟩, g1, g2⟩ := st
    obtain ⟨o1, e1, d1⟩ := g1.obj
    obtain ⟨o2, e2, d2⟩ := g2.obj
    simp only [List.mem_cons, List.not_mem_nil, or_false] at hc
    rcases hc with rfl | rfl | rfl | rfl | rfl
    · exact ⟨_, hz, fun v q => nomatch q⟩
    · exact ⟨_, hI, fun v q => nomatch q⟩
    · exact ⟨_, hO, fun v q => nomatch q⟩
    · exact ⟨o1, e1, d1⟩
    · exact ⟨o2, e2, d2⟩
  keep := fun i h h' st kp => by
    obtain ⟨hz, hI, ⟨x, y, hO⟩, g1, g2⟩ := st
    exact ⟨kp z (by simp) _ hz, kp TI (by simp) _ hI, ⟨x, y, kp TO (by simp) _ hO⟩, g1.here fun o q => kp i1 (by simp) o q, g2.here fun o q => kp i2 (by simp) o q⟩
  item := by
    intro X hP hw hK hc i pins s σ H E I hf st hg
    subst hP hw hK
    obtain ⟨hz, hI, ⟨x0, y0, hO⟩, g1, g2⟩ := st
    obtain ⟨xs, ys, x, y, hqx, hqy, hx, hy⟩ := hg
    obtain ⟨us, rv, p, _⟩ := Inv.sqK I hqx
    obtain ⟨us2, rv2, p2, _⟩ := Inv.sqK I hqy
    obtain ⟨u, hu, ru⟩ := rv.get hx
    obtain ⟨u2, hu2, ru2⟩ := rv2.get hy
    have zl : z < s.heap.objs.size := Heap.lt_size hz
    refine pn_item D hz hI hO g1 g2 p p2 (x := u) (y := u2) (by simpa using hu) (by simpa using hu2) fun h' z' O' g1' g2' hT hk => ?_
    refine ⟨_, rfl, wpAny_letOwnedTupleGo_zip (s := { s with heap := h' }) z' fun h'' z'' sb => ?_⟩
    have hT2 : h''.get? s.heap.objs.size = some { cls := .type "tuple", data := .seq #[u, u2] } := (sb.2 _ (Nat.ne_of_gt zl)).trans hT
    have new : ObjOk X.prog X.w (upd H s.heap.objs.size (.tup [x, y])) h'' s.heap.objs.size (.tup [x, y]) := ⟨(by decide : 2 ≤ sizeLine), [u, u2], .cons ru (.cons ru2 .nil), ⟨_, hT2, rfl, _, rfl⟩⟩
    have J : Inv X pins σ (upd H s.heap.objs.size (.tup [x, y])) { s with heap := h'' } :=
      I.turnedNew (ch := [z, TI, TO, i1, i2]) (t' := s.toks) (fun c o hb q => (sb.2 c (fun e => hb (by simp [e]))).trans (hk c o (fun e => hb (by simp [e])) (fun e => hb (by simp [e])) (fun e => hb (by simp [e])) (fun e => hb (by simp [e])) q)) hf (Nat.le_refl _) new
    refine ⟨.ref s.heap.objs.size, _, J, rfl, ⟨_, x, y, rfl, I.hok.fresh (Nat.le_refl _), rfl, fun l hl => by rw [Inv.sqK_inj I hl hqx]; exact hx, fun l hl => by rw [Inv.sqK_inj I hl hqy]; exact hy⟩, ⟨z'', ?_, ⟨u, u2, ?_⟩, ?_, ?_⟩, fun c hcm => ?_⟩
    · exact (sb.2 _ D.TIz).trans (hk _ _ D.TIz D.TITO D.TIi1 D.TIi2 hI)
    · exact (sb.2 _ D.TOz).trans O'
    · exact g1'.here fun o q => (sb.2 _ D.i1z).trans q
    · exact g2'.here fun o q => (sb.2 _ D.i2z).trans q
    · have hlt : c < s.heap.objs.size := by
        simp only [List.mem_cons, List.not_mem_nil, or_false] at hcm
        rcases hcm with rfl | rfl | rfl | rfl | rfl
        · exact zl
        · exact Heap.lt_size hI
        · exact Heap.lt_size hO
        · obtain ⟨_, e1, _⟩ := g1.obj; exact Heap.lt_size e1
        · obtain ⟨_, e2, _⟩ := g2.obj; exact Heap.lt_size e2
      rw [upd_ne (Nat.ne_of_lt hlt)]
      exact (hf c hcm).1
  done := by
    intro X hP hw hK hc i pins s σ H E I hf st hg
    subst hP hw hK
    obtain ⟨hz, hI, ⟨x0, y0, hO⟩, g1, g2⟩ := st
    obtain ⟨xs, ys, hqx, hqy, hn⟩ := hg
    obtain ⟨us, rv, p, _⟩ := Inv.sqK I hqx
    obtain ⟨us2, rv2, p2, _⟩ := Inv.sqK I hqy
    have l1 := rv.length
    have l2 := rv2.length
    have he : us.toArray[i]? = none ∨ us2.toArray[i]? = none := hn.imp (fun q => by simp; omega) (fun q => by simp; omega)
    exact pn_end (I.ok.hd hc) D hz hI hO g1 g2 p p2 he fun h' hk => ⟨rfl, I.turnedL (ch := [z, TI, TO, i1, i2]) (t' := s.toks) (fun c o hb q =>
      hk c o (fun e => hb (by simp [e])) (fun e => hb (by simp [e])) (fun e => hb (by simp [e])) (fun e => hb (by simp [e])) q) hf⟩
  self := fun A i s Q E st h => wpAny_pyIter_zip st.1 h
def iZk (K : PySem.W.Frag) (ta : TA) : TI := fun σ H R => ta σ H fun vs H1 => ∃ a b xs ys k k', vs = [.ref a, .ref b] ∧ SqK K k H1 a xs ∧ SqK K k' H1 b ys ∧ R (ItzK K k k' a b) H1
theorem pi_zk {X : Cx} {e e2 : Expr} {ta : TA} {p pos tpos : Pos} {elts : List Expr} {kk : Nat} (hg : Gl X "zip") (hm : X.mg "zip" = none) (ha : PA X [e, e2] ta) (hs : starEach [e, e2] X.env = (false, eval e X.env) :: starEach [e2] X.env) (hpl : (backTo pos (starEach [e2] X.env)).any (·.1) = false) :
    PI X (.Tuple elts kk tpos) (.Call (.Name "zip" p) [e, e2] [] pos) (iZk X.K ta) := by
  refine ⟨fun pins s σ H R I h => ?_⟩
  refine Call_ (ld_blt I hg hm PyProof.Rows.boot_zip (PyProof.Rows.callWith_type1 (thn (ha.run pos pins s σ H _ I h) fun us s1 ⟨vs, H1, I1, r1, q1⟩ => ?_) hs hpl))
  obtain ⟨a, b, xs, ys, k, k', ex, hqx, hqy, q⟩ := q1
  subst ex
  obtain ⟨u, u', rfl, r, r'⟩ := vals2 r1
  obtain rfl : u = Value.ref a := r
  obtain rfl : u' = Value.ref b := r'
  obtain ⟨w1, rv, p1, lt1⟩ := Inv.sqK I1 hqx
  obtain ⟨w2, rv2, p2, lt2⟩ := Inv.sqK I1 hqy
  refine zk_call p1 p2 fun h' hz hI hO g1 g2 hk => wpAny_pyIter_zip hz ?_
  have I2 : Inv X pins σ H1 { s1 with heap := h' } := I1.kept (t' := s1.toks) hk
  refine ⟨s1.heap.objs.size + 4, [s1.heap.objs.size + 4, s1.heap.objs.size + 2, s1.heap.objs.size + 3, s1.heap.objs.size, s1.heap.objs.size + 1], _, _, H1, rfl, I2, turn_zk (PySem.W.ktu_apart s1.heap.objs.size a b lt1 lt2), ⟨hz, hI, ⟨_, _, hO⟩, g1, g2⟩, fun c hcm => ?_, q⟩
  have hle : s1.heap.objs.size ≤ c := by
    simp only [List.mem_cons, List.not_mem_nil, or_false] at hcm
    rcases hcm with e | e | e | e | e <;> rw [e] <;> first | exact Nat.le_add_right _ _ | exact Nat.le_refl _
  exact I1.fpOk hle (I1.hok.fresh hle)
theorem itD_zk {K : PySem.W.Frag} {mg : Str → Option Value} {G : Hp} {k k' : Bool} {a b : Addr} {xs ys : List V} {ds es : List D} (ha : ∀ H, Gh G H → SqK K k H a xs) (h : DenL K mg G xs ds) (hb : ∀ H, Gh G H → SqK K k' H b ys) (h' : DenL K mg G ys es) : ItD K mg (ItzK K k k' a b) G (zipD ds es) := fun i G1 H1 e1 e2 => by
  have hs := ha H1 (e1.gh e2)
  have hs' := hb H1 (e1.gh e2)
  refine ⟨fun d hd => ?_, fun hl => ⟨xs, ys, hs, hs', by rw [h.1, h'.1]; exact zipD_len hl⟩⟩
  obtain ⟨x, y, hx, hy, rfl⟩ := zipD_get hd
  obtain ⟨v, hv, hden⟩ := h.get hx
  obtain ⟨v', hv', hden'⟩ := h'.get hy
  refine ⟨⟨xs, ys, v, v', hs, hs', hv, hv'⟩, fun x H' ⟨T, x1, y1, ex, hT, hH, hx1, hy1⟩ => ?_⟩
  subst ex hH
  have q1 := hx1 xs hs
  have q2 := hy1 ys hs'
  rw [hv] at q1; cases q1
  rw [hv'] at q2; cases q2
  have st : Step G1 H1 (upd G1 T (.tup [v, v'])) (upd H1 T (.tup [v, v'])) [] := .shr hT
  exact ⟨_, st, Den.tupL (SqT.of upd_same) (.cons ((hden.mono e1).mono (st.ex e2)) (.cons ((hden'.mono e1).mono (st.ex e2)) .nil))⟩
def seqD : D → Option (List D)
  | .lst ds => some ds
  | .tup ds => some ds
  | _ => none
def zipI2 (m : M (List Opd)) : M (List D) := bindM m fun os env => match dsOf os env with
  | .ok [d, e] en => (match seqD d, seqD e with
    | some ds, some es => .ok (zipD ds es) en
    | _, _ => .stk)
  | _ => .stk
theorem Den.sqK {K : PySem.W.Frag} {mg : Str → Option Value} {G : Hp} {v : V} {d : D} {ds : List D} (h : Den K mg G v d) (e : seqD d = some ds) : ∃ k a xs, v = .ref a ∧ (∀ H, Gh G H → SqK K k H a xs) ∧ DenL K mg G xs ds := by
  cases d with
  | lst l => cases e; obtain ⟨a, xs, rfl, h1, h2⟩ := h.lst_inv; exact ⟨true, a, xs, rfl, fun H ex => SqL.of (ex.on _ _ h1 nofun), h2⟩
  | tup l => cases e; obtain ⟨a, xs, rfl, h1, h2⟩ := h.tup_inv; exact ⟨false, a, xs, rfl, fun H ex => ex.sqT h1, h2⟩
  | _ => cases e
theorem qi_zip2 {X : Cx} {W : WX} {pn : List Nat} {pos : Pos} {a b : Expr} {elts : List Expr} {kk : Nat} {tpos p : Pos} {m : M (List Opd)} (hg : Gl X "zip") (hm : X.mg "zip" = none) (ha : QOs X W pn [a, b] m) (hs : starEach [a, b] X.env = (false, eval a X.env) :: starEach [b] X.env) (hpl : (backTo pos (starEach [b] X.env)).any (·.1) = false) :
    QI X W pn (.Tuple elts kk tpos) (.Call (.Name "zip" p) [a, b] [] pos) (zipI2 m) := fun Fh P hp =>
  PI.weak (pi_zk hg hm (ha Fh P hp) hs hpl) fun σ H R ⟨G, env, S, q⟩ => by
    refine ⟨G, env, S, ?_⟩
    unfold zipI2 bindM at q
    cases z : m env with
    | err x e1 => simp only [z] at q; exact q
    | stk => simp only [z] at q; exact q
    | ok os e1 =>
      simp only [z] at q
      intro vs G1 H1 ex w S1
      split at q
      · rename_i d e e2 z2
        obtain ⟨G2, x2, d2, S2⟩ := S1.dsOf w z2
        obtain ⟨v1, vs, rfl, k1, d2⟩ := d2.cons_ex
        obtain ⟨v2, vs, rfl, k2, d2⟩ := d2.cons_ex
        rw [d2.nil_inv]
        split at q
        · rename_i ds es z3 z4
          obtain ⟨kA, b1, xs, rfl, h1, h2⟩ := k1.sqK z3
          obtain ⟨kB, b2, ys, rfl, h3, h4⟩ := k2.sqK z4
          exact ⟨b1, b2, xs, ys, kA, kB, rfl, h1 _ S2.gh, h3 _ S2.gh, q _ G2 H1 (ex.trans x2) (itD_zk h1 h2 h3 h4) S2⟩
        · exact q.elim
      · exact q.elim
end Z
namespace Z
open PySem PySem.Spec PyProof.Rows L2
end Z
namespace Z
open PySem PySem.Spec PyProof.Rows L2
/-- data that holds nothing that may be changed -/
def noMut : D → Bool
  | .non => true
  | .bl _ => true
  | .int _ => true
  | .str _ => true
  | .tup xs => noMuts xs
  | _ => false
where noMuts : List D → Bool
  | [] => true
  | x :: xs => noMut x && noMuts xs
def noMutR : RV → Bool
  | .sh d => noMut d
  | .ol ds => noMut.noMuts ds
  | _ => false
def anyOwn : List RV → Bool
  | [] => false
  | r :: rs => r.own || anyOwn rs
/-- with something lent: it comes back as it was -/
def lentF (f : FnD) (rs : List RV) : FRes := match f (rs.map fun r => .sh r.d) with
  | .ok r _ => if noMutR r = true then .ok r rs else .stk
  | _ => .stk
def pureF (f : FnD) : FnD := fun rs => if anyOwn rs = true then lentF f rs else f rs
section
variable {K : PySem.W.Frag} {mg : Str → Option Value} {G G' H H' : Hp} {vs : List V} {rs : List RV}
theorem ObjR.den2 {a : Addr} {o : HO} {r : RV} (h : ObjR K mg G a o r) (e : G a = some o) : Den K mg G (.ref a) r.d := by
  cases o <;> cases r <;> first | exact h.elim | skip
  · exact .lst e h.1 h.2
  · exact .dct e h.1 h.2
  · exact .obj h.1 e h.2.1 h.2.2
  · obtain ⟨es, h1, h2⟩ := h
    subst h1
    exact .dcn e h2.1 h2.2.1 h2.2.2
open Classical in
noncomputable def allSh (G H : Hp) (vs : List V) (rs : List RV) : Hp := fun a => if OwnAt vs rs a then H a else G a
theorem allSh_ex (vw : Views K mg G H vs rs) : Ex G (allSh G H vs rs) := fun a o e => by
  unfold allSh
  rw [if_neg (fun z => by rw [own_none vw z] at e; cases e)]
  exact e
theorem own_obj (vw : Views K mg G H vs rs) {a : Addr} (h : OwnAt vs rs a) : ∃ o r, H a = some o ∧ ObjR K mg G a o r := by
  obtain ⟨j, r, h1, h2, h3⟩ := h
  obtain ⟨b, o, e, h4, h5, h6⟩ := (vw.2 j _ r h3 h1).own_inv h2
  cases e; exact ⟨o, r, h4, h6⟩
theorem allSh_tbl (vw : Views K mg G H vs rs) {a : Addr} {ps : Array Value} (e : allSh G H vs rs a = some (.tbl ps)) : G a = some (.tbl ps) := by
  unfold allSh at e
  split at e
  · rename_i z
    obtain ⟨o', r, k1, k2⟩ := own_obj vw z
    rw [e] at k1; cases k1; exact absurd rfl (k2.nt ps)
  · exact e
theorem allSh_gh (vw : Views K mg G H vs rs) (ex : Gh G H) : Gh (allSh G H vs rs) H := ⟨fun a o e n => by
  unfold allSh at e
  split at e
  · exact e
  · exact ex.on a o e n, fun a ps e => ex.mks a ps (allSh_tbl vw e)⟩
theorem allSh_views (ex : Gh G H) (vw : Views K mg G H vs rs) : Views K mg (allSh G H vs rs) H vs (rs.map fun r => .sh r.d) := by
  refine ⟨by simp [vw.1], fun i v r h1 h2 => ?_⟩
  rw [List.getElem?_map] at h2
  cases z : rs[i]? with
  | none => rw [z] at h2; cases h2
  | some r0 =>
    rw [z] at h2; cases h2
    have w := vw.2 i v r0 h1 z
    cases ho : r0.own with
    | false =>
      cases r0 with
      | sh d => exact Den.mono (allSh_ex vw) w
      | st _ => exact w.elim
      | _ => cases ho
    | true =>
      obtain ⟨a, o, rfl, g1, g2, g3⟩ := w.own_inv ho
      refine (g3.mono (allSh_ex vw)).den2 ?_
      unfold allSh
      rw [if_pos ⟨i, r0, z, ho, h1⟩]; exact g1
open Classical in
/-- what is shared behind, but for what was lent -/
noncomputable def butLent (G' : Hp) (vs : List V) (rs : List RV) : Hp := fun a => if OwnAt vs rs a then none else G' a
theorem butLent_at {a : Addr} {o : HO} (h : G' a = some o) (n : ¬ OwnAt vs rs a) : butLent G' vs rs a = some o := by unfold butLent; rw [if_neg n]; exact h
theorem butLent_some {a : Addr} {o : HO} (h : butLent G' vs rs a = some o) : G' a = some o := by
  unfold butLent at h
  split at h
  · cases h
  · exact h
theorem own_notup (vw : Views K mg G H vs rs) (ex : Ex (allSh G H vs rs) G') {a : Addr} (h : OwnAt vs rs a) {xs : List V} : ¬ Rd G' a (.tup xs) := by
  obtain ⟨o, r, h1, h2⟩ := own_obj vw h
  have e : G' a = some o := ex a o (by unfold allSh; rw [if_pos h]; exact h1)
  intro z
  rcases z with z | ⟨o', z⟩ <;> rw [e] at z <;> cases z <;> cases r <;> exact h2.elim
theorem sqT_but (vw : Views K mg G H vs rs) (ex : Ex (allSh G H vs rs) G') {a : Addr} {xs : List V} (h : SqT K G' a xs) : SqT K (butLent G' vs rs) a xs := by
  rcases h with h | h
  · have n : ¬ OwnAt vs rs a := fun z => own_notup vw ex z h
    refine .inl ?_
    rcases h with h | ⟨o, h⟩
    · exact .inl (butLent_at h n)
    · exact .inr ⟨o, butLent_at h n⟩
  · exact .inr h
theorem noMuts_get : ∀ {xs : List D} {i : Nat} {d : D}, noMut.noMuts xs = true → xs[i]? = some d → noMut d = true
  | [], i, d, h, e => by simp at e
  | x :: xs, 0, d, h, e => by simp at e; subst e; exact (Bool.and_eq_true_iff.mp h).1
  | x :: xs, i + 1, d, h, e => noMuts_get (i := i) (Bool.and_eq_true_iff.mp h).2 (by simpa using e)
theorem den_but (vw : Views K mg G H vs rs) (ex : Ex (allSh G H vs rs) G') {v : V} {d : D} (h : Den K mg G' v d) : noMut d = true → Den K mg (butLent G' vs rs) v d := by
  induction h with
  | non => exact fun _ => .non
  | bl b => exact fun _ => .bl b
  | int i => exact fun _ => .int i
  | str x => exact fun _ => .str x
  | tup h l _ ih => exact fun m => .tup (sqT_but vw ex h) l fun i v d a b => ih i v d a b (noMuts_get m b)
  | _ => exact fun m => by cases m
theorem denL_but (vw : Views K mg G H vs rs) (ex : Ex (allSh G H vs rs) G') {xs : List V} {ds : List D} (h : DenL K mg G' xs ds) (m : noMut.noMuts ds = true) : DenL K mg (butLent G' vs rs) xs ds := ⟨h.1, fun i v d a b => den_but vw ex (h.2 i v d a b) (noMuts_get m b)⟩
theorem map_own {rs : List RV} {j : Nat} {r : RV} (h : (rs.map fun r => RV.sh r.d)[j]? = some r) (o : r.own = true) : False := by
  rw [List.getElem?_map] at h
  cases z : rs[j]? with
  | none => rw [z] at h; cases h
  | some r0 => rw [z] at h; cases h; cases o
theorem lent_sp {n : Nat} {f : FnD} {Q : VK} {E : XK} (h : spOf K mg n (lentF f) vs H Q E) : spOf K mg n f vs H Q E := by
  obtain ⟨G, rs, ⟨ex, tb⟩, hl, vw, ds, q⟩ := h
  refine ⟨allSh G H vs rs, rs.map fun r => .sh r.d, ⟨allSh_gh vw ex, tb.mono (allSh_ex vw) (fun a ps e => allSh_tbl vw e)⟩, hl, allSh_views ex vw, fun i j r r' a h1 h2 o1 => (map_own h1 o1).elim, ?_⟩
  unfold lentF at q
  split at q
  · rename_i r rs' z
    by_cases fl : noMutR r = true
    · rw [if_pos fl] at q
      rw [z]
      intro v G' H' B w t
      have hh : ∀ b o, H b = some o → Grow o (H' b) := fun b o e => by
        cases y : allSh G H vs rs b with
        | some o2 =>
          by_cases nt : ∃ ps, o2 = .tbl ps
          · obtain ⟨ps, rfl⟩ := nt
            rw [B.frk b ps y, e]; exact Grow.self o
          · have n2 : ∀ ps, o2 ≠ .tbl ps := fun ps z => nt ⟨ps, z⟩
            have e2 := (allSh_gh vw ex).on b o2 y n2
            rw [e] at e2; cases e2
            rw [B.gh.1.on b o (B.ex b o y) n2]; exact Grow.self o
        | none => exact (B.frm b o e y fun ⟨j, r, h1, h2, h3⟩ => map_own h1 h2).1
      have exb : Ex G (butLent G' vs rs) := fun b o e => butLent_at (B.ex b o (allSh_ex vw b o e)) fun z => by rw [own_none vw z] at e; cases e
      have bk : Back K mg G H vs rs (butLent G' vs rs) H' rs := by
        refine ⟨exb, ⟨⟨fun b o e n => B.gh.1.on b o (butLent_some e) n, fun b ps e => B.gh.1.mks b ps (butLent_some e)⟩, ⟨fun a b ps e1 e2 => B.gh.2.uq a b ps (butLent_some e1) (butLent_some e2), B.gh.2.pres, fun P ps e => ⟨(B.gh.2.on P ps e).1, fun pos cv z => ?_⟩⟩⟩, fun b o e g nz => ⟨hh b o e, ?_⟩, ⟨vw.1, fun i u r h1 h2 => (vw.2 i u r h1 h2).keep exb fun a o ev hr g1 g2 => ⟨(hh a o g1).nt ?_, ?_⟩⟩, fun j r' h1 h2 => ⟨r', h1, h2⟩, fun a ps e => allSh_tbl vw (B.mkn a ps (butLent_some e)), fun a ps e => B.frk a ps (allSh_ex vw _ _ e)⟩
        · obtain ⟨c, q', z1, z2⟩ := (B.gh.2.on P ps e).2 pos cv z
          refine ⟨c, q', z1, butLent_at z2 fun z => ?_⟩
          obtain ⟨o, r, k1, k2⟩ := own_obj vw z
          have e2 : G' c = some o := B.ex c o (by unfold allSh; rw [if_pos z]; exact k1)
          rw [z2] at e2; cases e2; cases r <;> first | exact k2 | (obtain ⟨es, k3, _⟩ := k2; exact dcN_code k3)
        · unfold butLent
          rw [if_neg nz]
          exact (B.frm b o e (by unfold allSh; rw [if_neg nz]; exact g) fun ⟨j, r, h1, h2, h3⟩ => map_own h1 h2).2
        · subst ev
          obtain ⟨p', o', ep, k1, k2, k3⟩ := (vw.2 i _ r h1 h2).own_inv hr
          cases ep
          rw [g1] at k1; cases k1; exact k3.nt
        · unfold butLent
          subst ev
          rw [if_pos ⟨i, r, h2, hr, h1⟩]
      cases r with
      | sh d => exact q v _ H' bk (den_but vw B.ex w fl) (fun a m => by cases m)
      | ol l =>
        obtain ⟨a, o, rfl, g1, g2, g3⟩ := w
        cases o <;> first | exact g3.elim | skip
        rename_i xs
        have g3 : DenL K mg G' xs l := g3
        have tm := t a (by rw [tmps_own rfl]; exact List.mem_singleton.mpr rfl)
        have hn : H a = none := tm.1.resolve_right fun ⟨j, r, h1, h2, h3⟩ => map_own h1 h2
        have no : ¬ OwnAt vs rs a := fun z => by
          obtain ⟨o, r, k1, k2⟩ := own_obj vw z
          rw [hn] at k1; cases k1
        refine q _ _ H' bk ⟨a, _, rfl, g1, ?_, denL_but vw B.ex g3 fl⟩ fun b m => ?_
        · unfold butLent; rw [if_neg no]; exact g2
        · rw [tmps_own rfl] at m
          obtain rfl := List.mem_singleton.mp m
          exact ⟨.inl hn, no⟩
      | od _ => cases fl
      | oo _ _ => cases fl
      | st _ => cases fl
    · rw [if_neg fl] at q; exact q.elim
  · exact q.elim
theorem pure_sp {n : Nat} {f : FnD} {Q : VK} {E : XK} (h : spOf K mg n (pureF f) vs H Q E) : spOf K mg n f vs H Q E := by
  obtain ⟨G, rs, ex, hl, vw, ds, q⟩ := h
  by_cases ho : anyOwn rs = true
  · refine lent_sp ⟨G, rs, ex, hl, vw, ds, ?_⟩
    unfold pureF at q
    rw [if_pos ho] at q
    exact q
  · refine ⟨G, rs, ex, hl, vw, ds, ?_⟩
    unfold pureF at q
    rw [if_neg ho] at q
    exact q
end
theorem pure_ok {Pr : Program} {w : World} {K : PySem.W.Frag} {mg : Str → Option Value} {base : Heap} {CX : CXT} {k n : Nat} {f : Addr} {fd : FuncData} {ps : List Str} {fD : FnD} (F : FnOk Pr w K mg base CX k f fd ps (spOf K mg n fD)) : FnOk Pr w K mg base CX k f fd ps (spOf K mg n (pureF fD)) :=
  F.imp fun _ _ _ _ h => pure_sp h
end Z
namespace Z
open PySem PySem.Spec PyProof.Rows L2
theorem PA.ex {X : Cx} {e : List Expr} {α : Type} {g : α → TA} (h : ∀ a, PA X e (g a)) : PA X e (fun σ H Q => ∃ a, g a σ H Q) := ⟨fun pos pins s σ H Q I ⟨a, q⟩ => (h a).run pos pins s σ H Q I q⟩
def mutT (T : String) (f : RV → List D → Option (D × RV)) (mv : M RV) (ma : M (List Opd)) : M RV := bindM mv fun r e0 => if tyOk T r = true then bindM ma (fun os e => match dsOf os e with
  | .ok ds e2 => (match f r ds with
    | some (res, _) => .ok (.sh res) e2
    | none => .stk)
  | _ => .stk) e0 else .stk
def insO (c : Str) (o : Opd) (env : DEnv) : Bool := match (resolve env o).bind clsR with
  | some (c', _) => decide (c' = c)
  | none => false
def callOM (c : Str) (f : FnD) (arr : List Src) (mo : M Opd) (mp mk : M (List Opd)) : M RV := bindM mo fun o e1 => if insO c o e1 = true then bindM mp (fun os1 => bindM mk fun os2 e => if insO c o e = true then finA f arr (o :: (os1 ++ os2)) e else .stk) e1 else .stk
section
variable {X : Cx} {W : WX} {pn : List Nat} {pos : Pos} {Fh : FHp} {P : List (Nat × V)} {G H : Hp} {σ : L2.St} {env : DEnv}
theorem SRel.insO {c : Str} {C : Addr} {v : V} {o : Opd} {T : List Addr} (S : SRel X.K X.mg Fh P G H σ env T) (hmc : X.mg c = some (.ref C)) (w : OpdR X.K X.mg G σ v o) (h : Z.insO c o env = true) : ∃ a dx gs, v = .ref a ∧ H a = some (.ins C dx gs) := by
  unfold Z.insO at h
  split at h
  · rename_i c' fs z
    have e := of_decide_eq_true h
    subst e
    simp only [Option.bind_eq_some_iff] at z
    obtain ⟨r, y1, y2⟩ := z
    obtain ⟨a, C', dx, gs, rfl, g1, g2, g3⟩ := (S.resolve w y1).cls S.gh y2
    rw [hmc] at g1; cases g1
    exact ⟨a, dx, gs, rfl, g2⟩
  · cases h
end
end Z
namespace Z
open PySem PySem.Spec PyProof.Rows L2
section
variable {X : Cx} {W : WX} {pn : List Nat} {pos : Pos}
def lenFits (r : Res RV) : Res RV := match r with
  | .ok (.sh (.int i)) e => if (decide (0 ≤ i) && in62 i) = true then .ok (.sh (.int i)) e else .stk
  | _ => .stk
theorem lenFits_nat {n : Nat} {e : DEnv} (h : n ≤ 4611686018427387903) : lenFits (.ok (.sh (.int (n : Int))) e) = .ok (.sh (.int (n : Int))) e := by
  unfold lenFits
  have h1 : in62 (n : Int) = true := Nat.ble_eq_true_of_le (by rw [Int.natAbs_natCast]; exact h)
  simp only [h1, Bool.and_true]
  rw [if_pos (decide_eq_true (Int.natCast_nonneg n))]
def lenOM (c : Str) (f : FnD) (mo : M Opd) : M RV := bindM mo fun o e => if insO c o e = true then lenFits (finF f [o] e) else .stk
def statM (f : FnD) (arr : List Src) (mp mk : M (List Opd)) : M RV := fnA f arr mp mk
def augLM (i : Nat) (g : Int → Int → Int) (mk mv : M Opd) : MS := fun env => match slotOf env i with
  | some _ => bindS mk (fun o1 e1 => match slotOf e1 i, (resolve e1 o1).bind asInt with
    | some (.ol ds), some k => if 0 ≤ k then (match ds[k.toNat]? with
        | some (.int a) => bindS mv (fun o2 e2 => match slotOf e2 i, (resolve e2 o2).bind asInt with
          | some (.ol es), some b => (match ixN es.length k with
            | some j' => .nx (e2.set i (some (.ol (es.set j' (.int (g a b))))))
            | none => .stk)
          | _, _ => .stk) e1
        | _ => .stk) else .stk
    | _, _ => .stk) env
  | none => .stk
def negF (r : RV) : Option RV := match r with
  | .sh (.int i) => some (.sh (.int (-i)))
  | _ => none
theorem s_negF {K : PySem.W.Frag} {mg : Str → Option Value} : UnS K mg (rU fun i => .int (-i)) negF := fun G H x a c Q ex va e k => by
  unfold negF at e
  split at e
  · rename_i i; cases e
    exact ⟨i, Den.int_inv va, k _ G H .same (.int _)⟩
  · cases e
end
end Z
namespace Z
open PySem PySem.Spec PyProof.Rows L2
/-- b's type, for a comparison with an instance of c -/
def cmpT (c : Str) (r : RV) : Bool := match clsR r with
  | some (c', _) => decide (c' = c)
  | none => (tyD r).isSome
def eqRes (neg : Bool) (r : Res RV) : Res RV := match r with
  | .ok (.sh (.bl b)) e => .ok (.sh (.bl (if neg then !b else b))) e
  | _ => .stk
def eqOM (neg : Bool) (c : Str) (f : FnD) (ma mb : M Opd) : M RV := bindM ma fun o1 => bindM mb fun o2 e => match resolve e o2 with
  | some r2 => if (insO c o1 e && cmpT c r2) = true then eqRes neg (finF f [o1, o2] e) else .stk
  | none => .stk
theorem lookup_mem {α β : Type} [BEq α] [LawfulBEq α] : ∀ {l : List (α × β)} {a : α} {b : β}, l.lookup a = some b → (a, b) ∈ l
  | [], a, b, h => by cases h
  | (x, y) :: l, a, b, h => by
    rw [List.lookup_cons] at h
    cases z : a == x with
    | true => rw [z] at h; cases h; rw [eq_of_beq z]; exact List.mem_cons_self
    | false => rw [z] at h; exact List.mem_cons_of_mem _ (lookup_mem h)
section
variable {K : PySem.W.Frag} {mg : Str → Option Value} {Fh : FHp} {P : List (Nat × V)} {G H : Hp} {σ : L2.St} {env : DEnv} {T : List Addr}
theorem SRel.noT (S : SRel K mg Fh P G H σ env T) : SRel K mg Fh P G H σ env [] := ⟨S.gh, S.fh, S.dj, S.pin, S.len, S.val, S.dis, fun i r a e o h => ⟨(S.nof i r a e o h).1, List.not_mem_nil⟩, fun a m => absurd m List.not_mem_nil, S.tre.heap (Ex.refl _) (fun _ _ q => q) (fun _ _ _ f _ => ⟨rfl, f⟩) fun b _ q2 q3 _ _ => ⟨⟨rfl, q2⟩, q3, List.not_mem_nil⟩⟩
end
section
variable {X : Cx} {W : WX} {pn : List Nat} {pos : Pos}
theorem qs_parG {i j : Nat} {x y : Str} {a b : Expr} {px py pt : Pos} {kt k2 : Nat} {pt2 : Pos} {ma mb : M RV} (hc : X.calm = true) (hN : X.N.Nodup) (hi : X.N[i]? = some x) (hj : X.N[j]? = some y) (hij : i ≠ j)
    (hx : Loc X.env.scope x) (hy : Loc X.env.scope y) (hfx : X.fn x = true ∨ X.env.scope.names.lookup x = some .local) (hfy : X.fn y = true ∨ X.env.scope.names.lookup y = some .local) (ha : QV X W pn a ma) (hb : QV X W pn b mb)
    (hw : swappedStores [.Tuple [.Name x px, .Name y py] kt pt] (.Tuple [a, b] k2 pt2) X.env = pure none)
    (hs : swapsWithSole [.Tuple [.Name x px, .Name y py] kt pt] (.Tuple [a, b] k2 pt2) pos.line X.env = pure false)
    (h1 : (assignEach [.Tuple [.Name x px, .Name y py] kt pt] X.env).map (·.2) = [assign (.Tuple [.Name x px, .Name y py] kt pt) X.env])
    (hn : (assignEach [.Name x px, .Name y py] X.env).length = 2) (hst : (assignEach [.Name x px, .Name y py] X.env).findIdx? (·.1) = none)
    (he1 : (assignEach [.Name x px, .Name y py] X.env).map (·.2) = assign (.Name x px) X.env :: (assignEach [.Name y py] X.env).map (·.2)) (he2 : (assignEach [.Name y py] X.env).map (·.2) = assign (.Name y py) X.env :: (assignEach [] X.env).map (·.2))
    (hs1 : starEach [a, b] X.env = (false, eval a X.env) :: starEach [b] X.env) (hs2 : starEach [b] X.env = (false, eval b X.env) :: starEach [] X.env) :
    QS X W pn (.Assign [.Tuple [.Name x px, .Name y py] kt pt] (.Tuple [a, b] k2 pt2) pos) (par2 pn i j ma mb) := fun Fh P hp =>
  PS.weak (ps_asg (pe_tup (pa_cons (ha Fh P hp) (pa_cons (PE.ex fun Fh' => hb Fh' P hp) pa_nil hs2) hs1)) (pg_tup hc (pgs_cons (pg_name hN hi hx hfx) (pgs_cons (pg_name hN hj hy hfy) pgs_nil he2) he1) hn hst) hs hw h1) fun D σ H ⟨G, env, S, q⟩ => by
    refine ⟨G, env, S, PV_S (σ := σ) q fun r1 e1 v G1 H1 ex w S1 hk => ?_⟩
    obtain ⟨Fh', S1', back⟩ := S1.hold w
    refine ⟨Fh', G1, e1, S1', ?_⟩
    cases z : mb e1 with
    | err x e => simp only [z] at hk; exact hk.elim
    | stk => simp only [z] at hk; exact hk.elim
    | ok r2 e2 =>
      simp only [z] at hk
      intro v2 G2 H2 ex2 w2 S2
      by_cases hl : okL pn e2.length [i, j] = true
      · rw [if_pos hl] at hk
        obtain ⟨⟨i1, i2⟩, j1, j2⟩ := okL2 hl
        have S3 := S2.set w2 j1 (by rw [hp]; exact j2)
        obtain ⟨S4, w4⟩ := back _ _ _ _ ex2 S3
        have S5 := S4.set w4 (i := i) (by simpa using i1) (by rw [hp]; exact i2)
        rw [List.set_comm _ _ hij.symm, List.set_comm _ _ hij.symm] at S5
        refine ⟨(by decide : 2 ≤ sizeLine), fun p hp' => ⟨p, [v, v2], rfl, SqT.of upd_same, rfl, v, [v2], rfl, v2, [], rfl, rfl, ?_⟩⟩
        exact hk _ G2 _ ex2 (S5.step (.own (o := .tup [v, v2]) hp')).noT
      · rw [if_neg hl] at hk; exact hk.elim
end
end Z
namespace Z
open PySem PySem.Spec PyProof.Rows L2
def isStrR : RV → Bool
  | .sh (.str _) => true
  | _ => false
def sm1 (f : RV → RV → Option RV) (mo me : M Opd) : M RV := bindM mo fun o1 e1 => match resolve e1 o1 with
  | some r => if isStrR r = true then bindM me (fun o2 => fin2 f o1 o2) e1 else .stk
  | none => .stk
def fmtF (r : RV) : Option RV := match r with
  | .sh (.str y) => if y.length ≤ sizeLine then some (.sh (.str y)) else none
  | .sh (.int i) => if i.natAbs.log2 < 1920 then some (.sh (.str (toString i))) else none
  | _ => none
def fmtM (m : M Opd) : M RV := unM fmtF m
section
variable {X : Cx} {W : WX} {pn : List Nat} {pos : Pos}
def thruS (s : MS) : MS := fun env => match s env with
  | .err _ _ => .stk
  | o => o
end
def cmM (c : Str) (f : FnD) (arr : List Src) (mp : M (List Opd)) : M RV := bindM mp fun os => finA f arr (.val (.cls c) :: os)
section
variable {X : Cx} {W : WX} {pn : List Nat} {pos : Pos}
/-- x(e, ..), x a name that holds a class -/
def mkV (i : Nat) (c : Str) (f : FnD) (arr : List Src) (mp mk : M (List Opd)) : M RV := fun env => match slotOf env i with
  | some (.sh (.cls c')) => if c' = c then mkA c f arr mp mk env else .stk
  | _ => .stk
end
def lm1 (f : RV → RV → Option RV) (mo me : M Opd) : M RV := bindM mo fun o1 e1 => match resolve e1 o1 with
  | some r => if tyOk "list" r = true then bindM me (fun o2 => fin2 f o1 o2) e1 else .stk
  | none => .stk
end Z
namespace Z
open PySem PySem.Spec PyProof.Rows L2
def keyD : Key → D
  | .inl i => .int i
  | .inr x => .str x
def keyOf : RV → Option Key
  | .sh (.int i) => some (.inl i)
  | .sh (.str x) => some (.inr x)
  | _ => none
def dcF (kvs : List (Key × Key)) (r : RV) : Option RV := (keyOf r).bind fun k => (kvs.find? fun kv => decide (kv.1 = k)).map fun kv => .sh (keyD kv.2)
section
variable {X : Cx} {W : WX} {pn : List Nat} {pos : Pos}
theorem keyD_den {K : PySem.W.Frag} {mg : Str → Option Value} {G : Hp} : ∀ k : Key, Den K mg G (kV k) (keyD k)
  | .inl i => .int i
  | .inr x => .str x
theorem keyOf_inv {K : PySem.W.Frag} {mg : Str → Option Value} {G H : Hp} {v : V} {r : RV} {k : Key} (w : View K mg G H v r) (h : keyOf r = some k) : v = kV k := by
  unfold keyOf at h
  split at h
  · cases h; exact Den.int_inv w
  · cases h; exact Den.str_inv w
  · cases h
theorem pairs_c {σ : L2.St} {H : Hp} : ∀ {kvs : List (Key × Key)} {Q : List (V × V) → Hp → Prop}, Q (kvs.map fun kv => (kV kv.1, kV kv.2)) H → tPairs (kvs.map fun kv => (tC (kV kv.1), tC (kV kv.2))) σ H Q
  | [], Q, h => h
  | kv :: r, Q, h => pairs_c (kvs := r) (Q := fun ps H3 => Q ((kV kv.1, kV kv.2) :: ps) H3) h
theorem qv_dcon {keys : List (Option Expr)} {values : List Expr} {kvs : List (Key × Key)} {i : Expr} {p : Pos} {mi : M Opd} (hu : X.A.units + 1 < cLine) (hp : PPs X p keys values (kvs.map fun kv => (tC (kV kv.1), tC (kV kv.2))))
    (hall : keys.all (·.isSome) = true) (hl : keys.length = values.length) (h0 : keys ≠ []) (h15 : keys.length ≤ 15) (hk : kvs.length ≤ 15) (hm : mergeK [] (kvs.map fun kv => (kv.1, kV kv.2)) = kvs.map fun kv => (kv.1, kV kv.2))
    (hi : QO X W pn i mi) (hs : NoSl i) : QV X W pn (.Subscript (.Dict keys values p) i pos) (unM (dcF kvs) mi) := fun Fh P hpn =>
  PE.weak (pe_dget hu (pe_disp hp hall hl h0 h15) (hi Fh P hpn) hs) fun σ H Q ⟨G, env, S, q⟩ => by
    intro a ha
    refine pairs_c ⟨upd_same, kvs.map fun kv => (kv.1, kV kv.2), by simp, by simpa using hk, ?_⟩
    rw [hm]
    have e : upd (upd H a (.dK [])) a (.dK (kvs.map fun kv => (kv.1, kV kv.2))) = upd H a (.dK (kvs.map fun kv => (kv.1, kV kv.2))) := by
      funext b
      unfold upd
      split <;> rfl
    rw [e]
    have st : Step G H (upd G a (.dK (kvs.map fun kv => (kv.1, kV kv.2)))) (upd H a (.dK (kvs.map fun kv => (kv.1, kV kv.2)))) [] := .shr ha
    refine ⟨_, env, S.step st, ?_⟩
    have q' := PV.mono (st.ex S.gh) q
    refine PO_V q' fun o1 e1 y G2 H2 ex2 w2 S2 hk2 => ?_
    unfold fin1 at hk2
    split at hk2
    · rename_i r q1
      have vw := S2.resolve w2 q1
      split at hk2
      · rename_i c q3
        unfold dcF at q3
        simp only [Option.bind_eq_some_iff, Option.map_eq_some_iff] at q3
        obtain ⟨k, k1, kv, k2, rfl⟩ := q3
        refine ⟨a, kV kv.2, rfl, .inl ⟨kvs.map fun kv => (kv.1, kV kv.2), k, Rd.of ?_, keyOf_inv vw k1, ?_⟩, hk2 _ G2 H2 (Ex.refl _) (keyD_den kv.2) S2⟩
        · exact S2.gh.on _ _ (ex2 _ _ upd_same) nofun
        · unfold valV
          rw [List.find?_map]
          simp only [Function.comp_def]
          rw [k2]; rfl
      · exact hk2.elim
    · exact hk2.elim
theorem u2 {k : Nat} {A : Around} (r : Room k A) : A.units + 1 < cLine := by have := r.un; omega
end
end Z
namespace Z
open PySem PySem.Spec PyProof.Rows L2 PySem.W
section
variable {M : Model} {A : Around} {E : Value → Shared → Prop} {s : Shared} {name qual : Str} {params : Arguments} {body : Expr} {scope : Scope} {env : Env} {c P : Addr} {ps : Array Value} {pos : Pos} {fl0 : Nat} {mg : Str → Option Value} {dV : Value}
  {cls0 : List (Str × Addr)} {Q : Value → Shared → Prop}
abbrev zlaFn (name qual : Str) (params : Arguments) (body : Expr) (scope : Scope) (cl : List (Str × Addr)) (pm cdv ct dV : Value) : FuncData :=
  { name, qualname := qual, params, body := .expr body, scope, globals := mainGlobals, closure := cl, defaults := dV, kwdefaults := .none, doc := .none, pyModule := pm, annotations := none, code := cdv, closureTuple := ct, builtins := builtinsNs }
theorem zla_makeTail (zcl : closureFor scope env = pure cls0) (zge : env.globals = mainGlobals) (zg : s.heap.Ns mainGlobals mg) (zco : env.code = .ref c) (C : CodeHd s.heap c P) (zP : s.heap.get? P = some (tabObj ps)) (zt : TriplesOk ps.toList)
    (znf : codeAmong pos ps.toList = none) (zgP : mainGlobals ≠ P) (zb : s.heap.BuiltinsAt mg P)
    (zh : ∀ c' ctv h' tk, Heap.ExtBut P s.heap h' → s.heap.objs.size ≤ c' → c' < h'.objs.size → h'.CodeRec (.ref c') qual → h'.get? P = some (tabObj (ps ++ #[rawInt pos.line, rawInt pos.col, .ref c'])) →
      Q (.ref h'.objs.size) { s with heap := h'.push { cls := .type "function", data := .func (zlaFn name qual params body scope cls0 ((mg "__name__").getD .none) (.ref c') ctv dV) }, toks := tk }) :
    wpAny M A (makeTail name qual params (.expr body) scope env dV .none none pos fl0) Q E s := by
  obtain ⟨bm, ob, wbm, wn0, _, wnP, wbo, wcl, wdi, wda⟩ := zb
  unfold makeTail
  rw [zcl, zge]
  refine wpAny_bind (wpAny_pure ?_)
  cases cls0 with
  | nil =>
    simp only [List.isEmpty_nil, if_true]
    refine wpAny_bind (wpAny_pure ?_)
    refine wpAny_bind (wpAny_functionCodeX zco (C.code zP zt) (C.tab zP) znf fun c' h' tk yx yge ylt _ yre ytb _ => ?_)
    have zg' := zg.extBut yx zgP
    refine wpAny_bind (wpAny_builtinsFor zg' wbm wn0 (yx _ _ wnP wbo) wcl wdi wda ?_)
    refine wpAny_bind (wpAny_nsGet zg' ?_)
    exact wpAny_bind (wpAny_pure (wpAny_newObj_type (zh c' .none h' tk yx yge ylt yre ytb.2) (by size_fits)))
  | cons q r =>
    simp only [List.isEmpty_cons, Bool.false_eq_true, if_false]
    refine wpAny_bind (wpAny_newTextTuple ?_)
    refine wpAny_bind (wpAny_functionCodeX zco ((C.keeps fun b o e => Heap.get?_push_of_some _ e).code (Heap.get?_push_of_some _ zP) zt) ((C.keeps fun b o e => Heap.get?_push_of_some _ e).tab (Heap.get?_push_of_some _ zP)) znf fun c' h' tk yx yge ylt _ yre ytb _ => ?_)
    have zg' := (zg.push _).extBut yx zgP
    have yx' : Heap.ExtBut P s.heap h' := fun b o zb' e => yx b o zb' (Heap.get?_push_of_some _ e)
    have yge' : s.heap.objs.size ≤ c' := Nat.le_trans (by rw [Heap.size_push]; omega) yge
    refine wpAny_bind (wpAny_builtinsFor zg' wbm wn0 (yx' _ _ wnP wbo) wcl wdi wda ?_)
    refine wpAny_bind (wpAny_nsGet zg' ?_)
    exact wpAny_bind (wpAny_pure (wpAny_newObj_type (zh c' _ h' tk yx' yge' ylt yre ytb.2) (by size_fits)))
theorem zla_makeTailHit {cv : Value} (zcl : closureFor scope env = pure cls0) (zge : env.globals = mainGlobals) (zg : s.heap.Ns mainGlobals mg) (zco : env.code = .ref c) (C : CodeHd s.heap c P) (zP : s.heap.get? P = some (tabObj ps)) (zt : TriplesOk ps.toList)
    (zfo : codeAmong pos ps.toList = some cv) (zb : s.heap.BuiltinsAt mg P)
    (zh : ∀ (ctv : Value) (h' : Heap) (tk : Tok), (∀ b o, s.heap.get? b = some o → h'.get? b = some o) → s.heap.objs.size ≤ h'.objs.size →
      Q (.ref h'.objs.size) { s with heap := h'.push { cls := .type "function", data := .func (zlaFn name qual params body scope cls0 ((mg "__name__").getD .none) cv ctv dV) }, toks := tk }) :
    wpAny M A (makeTail name qual params (.expr body) scope env dV .none none pos fl0) Q E s := by
  obtain ⟨bm, ob, wbm, wn0, _, wnP, wbo, wcl, wdi, wda⟩ := zb
  unfold makeTail
  rw [zcl, zge]
  refine wpAny_bind (wpAny_pure ?_)
  cases cls0 with
  | nil =>
    simp only [List.isEmpty_nil, if_true]
    refine wpAny_bind (wpAny_pure ?_)
    refine wpAny_bind (wpAny_functionCode_hit zco (C.code zP zt) zfo ?_)
    refine wpAny_bind (wpAny_builtinsFor zg wbm wn0 wbo wcl wdi wda ?_)
    refine wpAny_bind (wpAny_nsGet zg ?_)
    exact wpAny_bind (wpAny_pure (wpAny_newObj_type (zh .none s.heap s.toks (fun _ _ e => e) (Nat.le_refl _)) (by size_fits)))
  | cons q r =>
    simp only [List.isEmpty_cons, Bool.false_eq_true, if_false]
    refine wpAny_bind (wpAny_newTextTuple ?_)
    refine wpAny_bind (wpAny_functionCode_hit zco ((C.keeps fun b o e => Heap.get?_push_of_some _ e).code (Heap.get?_push_of_some _ zP) zt) zfo ?_)
    refine wpAny_bind (wpAny_builtinsFor (zg.push _) wbm wn0 (Heap.get?_push_of_some _ wbo) wcl wdi wda ?_)
    refine wpAny_bind (wpAny_nsGet (zg.push _) ?_)
    have ysz : ∀ oT : Obj, s.heap.objs.size ≤ (s.heap.push oT).objs.size := fun oT => by rw [Heap.size_push]; omega
    exact wpAny_bind (wpAny_pure (wpAny_newObj_type (zh _ _ s.toks (fun b o e => Heap.get?_push_of_some _ e) (ysz _)) (by size_fits)))
end
theorem lamO_ok {P : Program} {w : World} {H : Hp} {h : Heap} {f : Addr} {I : LamI} {L : Addr} {doc pm ct dV : Value} {c' : Addr} (e : h.get? f = some { cls := .type "function", data := .func (lamFn I L doc pm (.ref c') ct dV) }) : ObjOk P w H h f (lamO f I L doc pm ct dV c') :=
  ⟨e, ⟨_, e⟩, fun h1 h2 z k => k _ z⟩
theorem lamO_nt {f : Addr} {I : LamI} {L : Addr} {doc pm ct dV : Value} {c' : Addr} : NT (lamO f I L doc pm ct dV c') := fun ps z => by
  unfold lamO at z; cases z
section
variable {K : PySem.W.Frag} {mg : Str → Option Value} {Fh : FHp} {P : List (Nat × V)} {G G' H H' : Hp} {σ : L2.St} {env : DEnv}
/-- a table gets an entry whose code object is shared -/
theorem SRel.table {T : Addr} {ps : Array Value} {pos : Pos} {c : Addr} {q : Str} (S : SRel K mg Fh P G H σ env []) (hP : H T = some (.tbl ps)) (hc : G c = some (LamX.CodeO c q)) :
    SRel K mg Fh P G (upd H T (.tbl (ps ++ #[rawInt pos.line, rawInt pos.col, .ref c]))) σ env [] := by
  have hG : G T = none := by
    cases z : G T with
    | none => rfl
    | some o =>
      by_cases nt : ∃ qs, o = .tbl qs
      · obtain ⟨qs, rfl⟩ := nt
        obtain ⟨u1, k, nk⟩ := S.gh.mks _ _ z
        rw [hP] at k; cases k; exact absurd rfl (nk _)
      · have := S.gh.on _ _ z (fun qs y => nt ⟨qs, y⟩)
        rw [hP] at this; cases this; exact absurd ⟨_, rfl⟩ nt
  refine ⟨S.gh.upd hG, ⟨fun a x e => ?_, S.fh.nto, S.fh.cl, S.fh.mks, ⟨S.fh.tb.uq, fun t m => by
    obtain ⟨qs, z⟩ := S.fh.tb.pres t m
    by_cases y : t.2 = T
    · exact ⟨_, by rw [y, upd_same]⟩
    · exact ⟨qs, by rw [upd_ne y]; exact z⟩, fun P' qs e => ?_⟩⟩, S.dj, S.pin, S.len, fun i r e nt => ?_, S.dis, fun i r a e hr ha => ⟨(S.nof i r a e hr ha).1, List.not_mem_nil⟩, fun a m => absurd m List.not_mem_nil, S.tre.heap (Ex.refl _) (fun _ _ q => q) (fun b i z f _ => ⟨upd_ne (ne_of_none z hG), f⟩) fun b q1 q2 q3 q4 q5 => ⟨⟨upd_ne (fun z => by
      obtain ⟨o, k1, k2⟩ := q1
      rw [z, hP] at k1; cases k1; exact k2 _ rfl), q2⟩, q3, List.not_mem_nil⟩⟩
  · have z := S.fh.on a x e
    by_cases y : a = T
    · subst y
      rw [upd_same]
      cases x with
      | obj o =>
        have z : H a = some o := z
        rw [hP] at z; cases z
        exact absurd rfl (S.fh.nto a _ e _)
      | tab p0 =>
        obtain ⟨m, z⟩ := z
        rw [hP] at z; cases z
        exact ⟨m ++ #[rawInt pos.line, rawInt pos.col, .ref c], by rw [Array.append_assoc]⟩
      | mrk q0 o =>
        have := S.fh.mks a q0 o e
        rw [hG] at this; cases this
    · rw [upd_ne y]; exact z
  · by_cases y : P' = T
    · subst y
      rw [upd_same] at e; cases e
      obtain ⟨t1, t2⟩ := S.fh.tb.on _ _ hP
      have eL : (ps ++ #[rawInt pos.line, rawInt pos.col, .ref c]).toList = ps.toList ++ [rawInt pos.line, rawInt pos.col, .ref c] := by simp
      refine ⟨by rw [eL]; exact PySem.TriplesOk_snoc _ _ _ _ t1, fun p' cv hcv => ?_⟩
      rw [eL] at hcv
      rcases LamX.among_app _ t1 hcv with z | z
      · exact t2 p' cv z
      · exact ⟨c, q, z, hc⟩
    · rw [upd_ne y] at e
      exact S.fh.tb.on _ _ e
  · obtain ⟨v, hv, w⟩ := S.val i r e nt
    refine ⟨v, hv, w.keep (Ex.refl _) fun a o ev hr h1 h2 => ?_⟩
    obtain ⟨a', o', ea, k1, k2, k3⟩ := w.own_inv hr
    rw [ev] at ea; cases ea
    rw [h1] at k1; cases k1
    rw [upd_ne (fun z => by rw [z, hP] at h1; cases h1; exact absurd rfl (k3.nt _))]
    exact ⟨h1, h2⟩
end
/-- what the making of functions asks of the frame -/
structure LamB (X : Cx) (L c P : Addr) : Prop where
  tab : LamX.TabB X.base X.mg c P
  code : X.env.code = .ref c
  cells : X.env.cells = cellsFrom (L + 1) X.env.scope.names []
  mem : (c, P) ∈ tabsK X.K
/-- a function of that frame -/
structure LamW (X : Cx) (I : LamI) : Prop where
  qual : I.qual = X.env.qual ++ I.name
  names : I.pnames = X.env.scope.names
  free : ∀ y ∈ I.scope.names, y.2 = .free → X.env.scope.names.lookup y.1 = some .cell ∨ X.env.scope.names.lookup y.1 = some .free
def lamM (k : Nat) (I : LamI) (L : Nat) : M RV := fun env => .ok (.sh (.lam k I L [])) env
section
variable {X : Cx} {W : WX} {pn : List Nat} {pos : Pos}
/-- the function object is there: its code object is new -/
theorem lam_new {I : LamI} {L c T : Addr} {pins : List (Addr × Obj)} {σ : L2.St} {H G : Hp} {s : Shared} {Fh : FHp} {P : List (Nat × V)} {env : DEnv} {dV doc ctv : Value} {Q : VK} {k : Nat} {ps : Array Value} {c' : Addr} {h' : Heap} {tk : Tok} (w : LamW X I) (B : LamB X L c T) (Iv : Inv X pins σ H s) (S : SRel X.K X.mg Fh P G H σ env []) (hd : DflR G I dV)
    (hT : H T = some (.tbl ps)) (hx : Heap.ExtBut T s.heap h') (hge : s.heap.objs.size ≤ c') (hlt : c' < h'.objs.size) (hrec : h'.CodeRec (.ref c') I.qual) (htb : h'.get? T = some (tabObj (ps ++ #[rawInt pos.line, rawInt pos.col, .ref c'])))
    (q : ∀ v G' H', Ex G G' → Den X.K X.mg G' v (.lam k I L []) → SRel X.K X.mg Fh P G' H' σ env [] → Q v H') :
    EP X pins σ Q (.ref h'.objs.size) { s with heap := h'.push { cls := .type "function", data := .func (lamFn I L doc ((X.mg "__name__").getD .none) (.ref c') ctv dV) }, toks := tk } := by
  obtain ⟨c2, oc, vs, t, e2, hoc, hdd, hv⟩ := hrec
  cases e2
  have hsz : s.heap.objs.size ≤ h'.objs.size := Nat.le_trans hge (Nat.le_of_lt hlt)
  have nC : H c' = none := Iv.hok.fresh hge
  have I1 := LamX.inv_table (t' := tk) (more := #[rawInt pos.line, rawInt pos.col, .ref c']) (h' := h') Iv hT hx htb hge ⟨oc, vs, t, hoc, hdd, hv⟩
  have nF : upd (upd H T (.tbl (ps ++ #[rawInt pos.line, rawInt pos.col, .ref c']))) c' (LamX.CodeO c' I.qual) h'.objs.size = none := I1.hok.fresh (Nat.le_refl _)
  have I2 := I1.laid (t' := tk) (a := h'.objs.size) (o := lamO h'.objs.size I L doc ((X.mg "__name__").getD .none) ctv dV c') (h' := h'.push { cls := .type "function", data := .func (lamFn I L doc ((X.mg "__name__").getD .none) (.ref c') ctv dV) }) (fun b u e => Heap.get?_push_of_some _ e) (Nat.le_refl _)
    (lamO_ok (Heap.get?_push_size _ rfl))
  have cT : c' ≠ T := fun z => by rw [z, hT] at nC; cases nC
  have S1 := S.step (Step.shr (o := LamX.CodeO c' I.qual) nC (LamX.codeO_ne))
  have x1 : Ex G (upd G c' (LamX.CodeO c' I.qual)) := Ex.new (S.gh.none nC)
  have S2 := S1.table (pos := pos) (T := T) (ps := ps) (by rw [upd_ne (Ne.symm cT)]; exact hT) (upd_same (H := G))
  have eH : upd (upd H c' (LamX.CodeO c' I.qual)) T (.tbl (ps ++ #[rawInt pos.line, rawInt pos.col, .ref c'])) = upd (upd H T (.tbl (ps ++ #[rawInt pos.line, rawInt pos.col, .ref c']))) c' (LamX.CodeO c' I.qual) := by
    funext b
    by_cases h1 : b = T
    · subst h1; rw [upd_same, upd_ne (Ne.symm cT), upd_same]
    · rw [upd_ne h1]
      by_cases h2 : b = c'
      · rw [h2, upd_same, upd_same]
      · rw [upd_ne h2, upd_ne h2, upd_ne h1]
  rw [eH] at S2
  have S3 := S2.step (Step.shr (o := lamO h'.objs.size I L doc ((X.mg "__name__").getD .none) ctv dV c') nF lamO_nt)
  have x2 : Ex (upd G c' (LamX.CodeO c' I.qual)) (upd (upd G c' (LamX.CodeO c' I.qual)) h'.objs.size (lamO h'.objs.size I L doc ((X.mg "__name__").getD .none) ctv dV c')) := Ex.new (S2.gh.none nF)
  exact ⟨.ref h'.objs.size, _, I2, rfl, q _ _ _ (x1.trans x2) (.lam (vs := []) ⟨⟨_, _, _, _, c', _, upd_same, x2 _ _ upd_same, hd.mono (x1.trans x2)⟩, fun j v z => by simp at z⟩ rfl fun i v d z => by simp at z) S3⟩
/-- .. its code object was in the table -/
theorem lam_hit {I : LamI} {L c' : Addr} {pins : List (Addr × Obj)} {σ : L2.St} {H G : Hp} {s : Shared} {Fh : FHp} {P : List (Nat × V)} {env : DEnv} {dV doc ctv : Value} {Q : VK} {k : Nat} {q' : Str} {h' : Heap} {tk : Tok} (Iv : Inv X pins σ H s) (S : SRel X.K X.mg Fh P G H σ env []) (hd : DflR G I dV)
    (hcc : G c' = some (LamX.CodeO c' q')) (hx : ∀ b o, s.heap.get? b = some o → h'.get? b = some o)
    (q : ∀ v G' H', Ex G G' → Den X.K X.mg G' v (.lam k I L []) → SRel X.K X.mg Fh P G' H' σ env [] → Q v H') :
    EP X pins σ Q (.ref h'.objs.size) { s with heap := h'.push { cls := .type "function", data := .func (lamFn I L doc ((X.mg "__name__").getD .none) (.ref c') ctv dV) }, toks := tk } := by
  have I1 := Iv.kept (t' := tk) hx
  have nF : H h'.objs.size = none := I1.hok.fresh (Nat.le_refl _)
  have I2 := I1.laid (t' := tk) (a := h'.objs.size) (o := lamO h'.objs.size I L doc ((X.mg "__name__").getD .none) ctv dV c') (h' := h'.push { cls := .type "function", data := .func (lamFn I L doc ((X.mg "__name__").getD .none) (.ref c') ctv dV) }) (fun b u e => Heap.get?_push_of_some _ e) (Nat.le_refl _)
    (lamO_ok (Heap.get?_push_size _ rfl))
  have S3 := S.step (Step.shr (o := lamO h'.objs.size I L doc ((X.mg "__name__").getD .none) ctv dV c') nF lamO_nt)
  have x2 : Ex G (upd G h'.objs.size (lamO h'.objs.size I L doc ((X.mg "__name__").getD .none) ctv dV c')) := Ex.new (S.gh.none nF)
  exact ⟨.ref h'.objs.size, _, I2, rfl, q _ _ _ x2 (.lam (vs := []) ⟨⟨_, _, _, _, c', _, upd_same, x2 _ _ hcc, hd.mono x2⟩, fun j v z => by simp at z⟩ rfl fun i v d z => by simp at z) S3⟩
theorem LamB.tbl {L c T : Addr} {Fh : FHp} {P : List (Nat × V)} {G H : Hp} {σ : L2.St} {env : DEnv} (B : LamB X L c T) (S : SRel X.K X.mg Fh P G H σ env []) : ∃ ps, H T = some (.tbl ps) ∧ TriplesOk ps.toList ∧ ∀ (pos : Pos) (cv : Value), codeAmong pos ps.toList = some cv → ∃ c q, cv = .ref c ∧ G c = some (LamX.CodeO c q) := by
  obtain ⟨ps, h⟩ := S.fh.tb.pres _ B.mem
  exact ⟨ps, h, S.fh.tb.on _ _ h⟩
theorem zla_fn {I : LamI} {e : Expr} {L : Addr} {pm cdv ct dV : Value} (hb : I.body = .expr e) : zlaFn I.name I.qual I.params e I.scope (cloOf I L) pm cdv ct dV = lamFn I L .none pm cdv ct dV := by
  show ({ name := I.name, qualname := I.qual, params := I.params, body := .expr e, scope := I.scope, globals := mainGlobals, closure := cloOf I L, defaults := dV, kwdefaults := .none, doc := .none, pyModule := pm, annotations := none, code := cdv, closureTuple := ct, builtins := builtinsNs } : FuncData) = _
  rw [← hb]
/-- behind the default -/
theorem lam_tail {I : LamI} {e : Expr} {L c T : Addr} {pins : List (Addr × Obj)} {σ : L2.St} {H G : Hp} {s : Shared} {Fh : FHp} {P : List (Nat × V)} {env : DEnv} {dV : Value} {Q : VK} {k : Nat} (B : LamB X L c T) (w : LamW X I) (hb : I.body = .expr e) (Iv : Inv X pins σ H s) (S : SRel X.K X.mg Fh P G H σ env []) (hd : DflR G I dV)
    (q : ∀ v G' H', Ex G G' → Den X.K X.mg G' v (.lam k I L []) → SRel X.K X.mg Fh P G' H' σ env [] → Q v H') :
    wpAny (model X.prog X.w) X.A (makeTail I.name (X.env.qual ++ I.name) I.params (.expr e) I.scope X.env dV .none none pos pos.line) (EP X pins σ Q) X.xe s := by
  obtain ⟨ps, hT, ht, hco⟩ := B.tbl S
  have hfree : ∀ y ∈ I.scope.names, y.2 = .free → ∃ c, X.env.cells.lookup y.1 = some c := fun y hy e => Iv.ok.has _ (w.free y hy e)
  have bP : s.heap.BuiltinsAt X.mg T := B.tab.bm.keeps Iv.bk
  have hP' : s.heap.get? T = some { cls := .none, data := .fields ps } := Iv.hok T _ hT
  have hclo : cloFrom X.env.cells I.scope.names [] = cloOf I L := by unfold cloOf; rw [B.cells, w.names]
  rw [← w.qual]
  cases hc : codeAmong pos ps.toList with
  | none =>
    refine zla_makeTail (mg := X.mg) (c := c) (P := T) (ps := ps) (closure_ok hfree) Iv.ok.glob (Iv.mod.glob.keeps Iv.bk) B.code (B.tab.code.keeps Iv.bk) hP' ht hc B.tab.gP bP fun c' ctv h' tk hx hge hlt hrec htb => ?_
    rw [hclo, zla_fn hb]
    exact lam_new w B Iv S hd hT hx hge hlt hrec htb q
  | some cv =>
    obtain ⟨c', q', e, hcc⟩ := hco pos cv hc
    subst e
    refine zla_makeTailHit (mg := X.mg) (c := c) (P := T) (ps := ps) (closure_ok hfree) Iv.ok.glob (Iv.mod.glob.keeps Iv.bk) B.code (B.tab.code.keeps Iv.bk) hP' ht hc bP fun ctv h' tk hx hsz => ?_
    rw [hclo, zla_fn hb]
    exact lam_hit Iv S hd hcc hx q
def ndefS (pn : List Nat) (i k : Nat) (I : LamI) (L : Nat) : MS := fun env => if okL pn env.length [i] = true then .nx (env.set i (some (.sh (.lam k I L [])))) else .stk
/-- lambda x, ..: e -/
theorem qv_lam {I : LamI} {e : Expr} {L c T : Addr} {k : Nat} (B : LamB X L c T) (w : LamW X I) (hn : I.name = "<lambda>") (hb : I.body = .expr e) (hdf : I.dfl = none) (hdef : defaultsOf I.params X.env = ([], [])) (hkw : I.params.kwonlyargs = []) : QV X W pn (.Lambda I.params e I.scope pos) (lamM k I L) := fun Fh P hp => ⟨fun pins s σ H Q Iv ⟨G, env, S, q⟩ => by
  rw [arm_eval_Lambda, hdef]
  show wpAny _ _ (do let dv ← evalAll []; let kdv ← holding dv (evalAllOpt []); makeFunction "<lambda>" (X.env.qual ++ "<lambda>") I.params (.expr e) I.scope X.env dv kdv [] pos pos.line) _ _ s
  refine wpAny_bind (wpAny_pure (wpAny_bind (wpAny_holding (wpAny_pure ?_))))
  rw [makeFunction_eq]
  simp only [List.zip_nil_right, List.filterMap_nil, List.isEmpty_nil, if_true, pure_bind]
  rw [← hn]
  exact lam_tail B w hb Iv S (by unfold DflR; rw [hdf]) q⟩
/-- lambda x=i: e -/
theorem qv_lam1 {I : LamI} {e : Expr} {L c T : Addr} {k j : Nat} {i : Int} {p : Pos} (B : LamB X L c T) (w : LamW X I) (hn : I.name = "<lambda>") (hb : I.body = .expr e) (hdf : I.dfl = some i) (hdef : defaultsOf I.params X.env = ([eval (.Constant (.int i) j p) X.env], [])) (hkw : I.params.kwonlyargs = []) : QV X W pn (.Lambda I.params e I.scope pos) (lamM k I L) := fun Fh P hp => ⟨fun pins s σ H Q Iv ⟨G, env, S, q⟩ => by
  rw [arm_eval_Lambda, hdef]
  show wpAny _ _ (do let dv ← evalAll [eval (.Constant (.int i) j p) X.env]; let kdv ← holding dv (evalAllOpt []); makeFunction "<lambda>" (X.env.qual ++ "<lambda>") I.params (.expr e) I.scope X.env dv kdv [] pos pos.line) _ _ s
  refine wpAny_bind (wpAny_evalAll_cons (thn (pe_int.run pins s σ H (fun v H' => v = .int i ∧ H' = H) Iv ⟨rfl, rfl⟩) fun u s1 ⟨v, H1, I1, r1, e1, e2⟩ => wpAny_evalAll_nil ?_))
  subst e1 e2
  obtain ⟨t, rfl⟩ := (show ∃ t, u = Value.int i t from r1)
  refine wpAny_bind (wpAny_holding (wpAny_pure ?_))
  rw [makeFunction_eq]
  simp only [List.zip_nil_right, List.filterMap_nil, List.isEmpty_nil, List.isEmpty_cons, Bool.false_eq_true, if_false, if_true, pure_bind]
  rw [← hn]
  refine wpAny_bind (wpAny_newTextTuple ?_)
  have nT : H1 s1.heap.objs.size = none := I1.hok.fresh (Nat.le_refl _)
  have I2 : Inv X pins σ (upd H1 s1.heap.objs.size (.tup [.int i])) { s1 with heap := s1.heap.push { cls := .type "tuple", data := .seq [Value.int i t].toArray } } := I1.laid (t' := s1.toks) (fun b u e => Heap.get?_push_of_some _ e) (Nat.le_refl _) ⟨by rw [sizeLine_eq]; exact Nat.le_of_ble_eq_true rfl, [Value.int i t], .cons ⟨t, rfl⟩ .nil, ⟨_, Heap.get?_push_size _ rfl, rfl, _, rfl⟩⟩
  have S2 := S.step (Step.shr (o := .tup [.int i]) nT)
  have x2 : Ex G (upd G s1.heap.objs.size (.tup [.int i])) := Ex.new (S.gh.none nT)
  exact lam_tail B w hb I2 S2 (by unfold DflR; rw [hdf]; exact ⟨_, rfl, upd_same⟩) fun v G' H' x d S' => q v G' H' (x2.trans x) d S'⟩
end
end Z
namespace Z
open PySem PySem.Spec PyProof.Rows L2
open Classical in
noncomputable def But (C : Addr → Prop) (G : Hp) : Hp := fun b => if C b then none else G b
open Classical in
noncomputable def Plus (C : Addr → Prop) (G0 G : Hp) : Hp := fun b => if C b then G0 b else G b
def Cells (C : Addr → Prop) (G : Hp) : Prop := ∀ c, C c → ∃ o, G c = some (cellO c o) ∧ o.data ≠ .freed
mutual
theorem noLam_key : ∀ k : NestedKey, noLam (nkD k) = true
  | .none => by rw [nkD, noLam]
  | .num _ => by rw [nkD, noLam]
  | .text _ => by rw [nkD, noLam]
  | .tup ks => by rw [nkD, noLam]; exact noLam_keys ks
theorem noLam_keys : ∀ ks : List NestedKey, noLams (nkDs ks) = true
  | [] => by rw [nkDs, noLams]
  | k :: ks => by rw [nkDs, noLams, noLam_key k, noLam_keys ks]; rfl
end
section
variable {C : Addr → Prop} {G G0 G' H H' : Hp} {a b : Addr} {o : HO} {K : PySem.W.Frag} {mg : Str → Option Value}
theorem but_in (h : C b) : But C G b = none := by unfold But; rw [if_pos h]
theorem but_out (h : ¬ C b) : But C G b = G b := by unfold But; rw [if_neg h]
theorem but_some (h : But C G b = some o) : ¬ C b ∧ G b = some o := by
  by_cases z : C b
  · rw [but_in z] at h; cases h
  · rw [but_out z] at h; exact ⟨z, h⟩
theorem plus_in (h : C b) : Plus C G0 G b = G0 b := by unfold Plus; rw [if_pos h]
theorem plus_out (h : ¬ C b) : Plus C G0 G b = G b := by unfold Plus; rw [if_neg h]
theorem Gh.but {G H : Hp} (g : Gh G H) : Gh (But C G) (But C H) := ⟨fun a o h n => by
  obtain ⟨z, h⟩ := but_some h
  rw [but_out z]; exact g.on a o h n, fun a ps h => by
  obtain ⟨z, h⟩ := but_some h
  rw [but_out z]; exact g.mks a ps h⟩
theorem Gh.plus {G H G' H' : Hp} (g : Gh G H) (g' : Gh G' H') : Gh (Plus C G G') (Plus C H H') := ⟨fun a o h n => by
  by_cases z : C a
  · rw [plus_in z] at h ⊢; exact g.on a o h n
  · rw [plus_out z] at h ⊢; exact g'.on a o h n, fun a ps h => by
  by_cases z : C a
  · rw [plus_in z] at h ⊢; exact g.mks a ps h
  · rw [plus_out z] at h ⊢; exact g'.mks a ps h⟩
def NC (o : HO) : Prop := ∀ b ob, ob.data ≠ .freed → o ≠ .ext fun h => h.get? b = some ob
theorem NC.of {o : HO} (h : ∀ φ, o ≠ .ext φ) : NC o := fun _ _ _ => h _
theorem dcO_nc {a : Addr} {es : List (NestedKey × Addr × V)} : NC (dcO a es) := fun _ _ n => dcO_ne n
theorem Cells.out (h : Cells C G) (e : G b = some o) (n : NC o) : ¬ C b := fun z => by
  obtain ⟨ob, q, nf⟩ := h b z
  rw [e] at q; cases q; exact n _ _ nf rfl
theorem But.ex : Ex (But C G) G := fun b o h => (but_some h).2
theorem but_rd (hC : Cells C G) {u : HO} (n : NC u) (h : Rd G a u) : Rd (But C G) a u := by
  rcases h with h | ⟨o, h⟩
  · exact .inl (by rw [but_out (hC.out h n)]; exact h)
  · exact .inr ⟨o, by rw [but_out (hC.out h (.of nofun))]; exact h⟩
theorem but_sqT (hC : Cells C G) {xs : List V} (h : SqT K G a xs) : SqT K (But C G) a xs := by
  rcases h with h | h
  · exact .inl (but_rd hC (.of nofun) h)
  · exact .inr h
theorem but_sqL (hC : Cells C G) {xs : List V} (h : SqL K G a xs) : SqL K (But C G) a xs := by
  rcases h with h | h
  · exact .inl (but_rd hC (.of nofun) h)
  · exact .inr h
theorem Den.but (hC : Cells C G) {v : V} {d : D} (h : Den K mg G v d) : noLam d = true → Den K mg (But C G) v d := by
  induction h with
  | non => exact fun _ => .non
  | bl b => exact fun _ => .bl b
  | int i => exact fun _ => .int i
  | str x => exact fun _ => .str x
  | tup h l _ ih => exact fun m => .tup (but_sqT hC h) l fun i v d a b => ih i v d a b (noLams_get (by rw [noLam] at m; exact m) b)
  | lst h l _ ih => exact fun m => .lst (by rw [but_out (hC.out h (.of nofun))]; exact h) l fun i v d a b => ih i v d a b (noLams_get (by rw [noLam] at m; exact m) b)
  | fls h l _ ih => exact fun m => .fls (but_sqL hC h) l fun i v d a b => ih i v d a b (noLams_get (by rw [noLam] at m; exact m) b)
  | dct h l _ ih => exact fun m => .dct (by rw [but_out (hC.out h (.of nofun))]; exact h) l fun i p q a b => ih i p q a b (noLamK_get (by rw [noLam] at m; exact m) b)
  | dcn h l _ _ ik ih => exact fun m => .dcn (by rw [but_out (hC.out h dcO_nc)]; exact h) l (fun i p a => ik i p a (noLam_key _)) fun i p q a b => ih i p q a b (noLamK_get (by rw [noLam] at m; exact m) b)
  | dcf h l _ _ ik ih => exact fun m => .dcf (by rw [but_out (hC.out h (.of nofun))]; exact h) l (fun i p a => ik i p a (noLam_key _)) fun i p q a b => ih i p q a b (noLamK_get (i := i + 1) (by rw [noLam] at m; exact m) (by simpa using b))
  | dcg h l _ ih => exact fun m => .dcg (by rw [but_out (hC.out h (.of nofun))]; exact h) l fun i p q a b => ih i p q a b (noLamK_get (i := i + 1) (by rw [noLam] at m; exact m) (by simpa using b))
  | obj m0 h l _ ih => exact fun m => .obj m0 (by rw [but_out (hC.out h (.of nofun))]; exact h) l fun i p q a b => ih i p q a b (noLamF_get (by rw [noLam] at m; exact m) b)
  | cls m => exact fun _ => .cls m
  | lam _ _ _ _ => exact fun m => by rw [noLam] at m; cases m
  | xob _ _ _ _ _ => exact fun m => by rw [noLam] at m; cases m
  | loc h => exact fun _ => .loc (by rw [but_out (hC.out h (.of nofun))]; exact h)
theorem DenL.but (hC : Cells C G) {vs : List V} {ds : List D} (h : DenL K mg G vs ds) (m : noLams ds = true) : DenL K mg (But C G) vs ds := ⟨h.1, fun i v d a b => (h.2 i v d a b).but hC (noLams_get m b)⟩
theorem ObjR.but (hC : Cells C G) {a : Addr} {o : HO} {r : RV} (h : ObjR K mg G a o r) (m : noLamR r = true) : ObjR K mg (But C G) a o r := by
  cases o <;> cases r <;> first | exact h.elim | skip
  · exact DenL.but hC h m
  · exact ⟨h.1, fun i p q a b => (h.2 i p q a b).but hC (noLamK_get m b)⟩
  · exact ⟨h.1, h.2.1, fun i p q a b => (h.2.2 i p q a b).but hC (noLamF_get m b)⟩
  · obtain ⟨es, h1, h2⟩ := h
    exact ⟨es, h1, h2.1, fun i p a => (h2.2.1 i p a).but hC (noLam_key _), fun i p q a b => (h2.2.2 i p q a b).but hC (noLamK_get m b)⟩
theorem View.but (hC : Cells C G) (ex : Gh G H) {v : V} {r : RV} (h : View K mg G H v r) (m : noLamR r = true) : View K mg (But C G) (But C H) v r := by
  cases hr : r.own with
  | false =>
    cases r with
    | sh d => exact Den.but hC h m
    | st _ => exact False.elim h
    | _ => cases hr
  | true =>
    obtain ⟨a, o, rfl, h1, h2, h3⟩ := h.own_inv hr
    have na : ¬ C a := fun z => by obtain ⟨ob, q, _⟩ := hC a z; rw [h2] at q; cases q
    exact View.of_own (by rw [but_out na]; exact h1) (by rw [but_out na]; exact h2) (h3.but hC m)
/-- a code object is no cell -/
theorem code_nocell {P : Program} {w : World} {h : Heap} (ok : HOk P w H h) (ex : Gh G H) (hC : ∀ c, C c → ∃ ob, G c = some (cellO c ob) ∧ ∃ v, ob.data = .cell v) {q : Str} (e : G a = some (LamX.CodeO a q)) : ¬ C a := fun z => by
  obtain ⟨ob, k1, v, k2⟩ := hC a z
  have x1 : ObjOk P w H h a (cellO a ob) := ok a _ (ex.on _ _ k1 nofun)
  have x2 : ObjOk P w H h a (LamX.CodeO a q) := ok a _ (ex.on _ _ e nofun)
  have y1 : h.get? a = some ob := x1.1
  obtain ⟨⟨oc, vs, t, y2, y3, _⟩, _⟩ := x2
  rw [y1] at y2; cases y2; rw [k2] at y3; cases y3
theorem TabInv.but {P : Program} {w : World} {h : Heap} (t : TabInv K G H) (ok : HOk P w H h) (ex : Gh G H) (hC : ∀ c, C c → ∃ ob, G c = some (cellO c ob) ∧ ∃ v, ob.data = .cell v) : TabInv K (But C G) (But C H) := ⟨fun a b ps e1 e2 => t.uq a b ps (but_some e1).2 (but_some e2).2, fun p m => (t.pres p m).imp fun ps z => (but_out fun y => by obtain ⟨ob, k1, _⟩ := hC _ y; exact absurd ((ex.on _ _ k1 nofun).symm.trans z) nofun).trans z, fun P' ps e => by
  obtain ⟨t1, t2⟩ := t.on P' ps (but_some e).2
  refine ⟨t1, fun pos cv z => ?_⟩
  obtain ⟨c, q, e1, e2⟩ := t2 pos cv z
  exact ⟨c, q, e1, by rw [but_out (code_nocell ok ex hC e2)]; exact e2⟩⟩
end
theorem cellsFrom_acc : ∀ (names : List (Str × NameKind)) (n : Nat) (acc : List (Str × Addr)), cellsFrom n names acc = cellsFrom n names [] ++ acc
  | [], n, acc => rfl
  | (m, k) :: r, n, acc => by
    unfold cellsFrom
    split
    · rw [cellsFrom_acc r (n + 1) ((m, n) :: acc), cellsFrom_acc r (n + 1) [(m, n)]]; simp
    · exact cellsFrom_acc r n acc
theorem cellsFrom_memN : ∀ {names : List (Str × NameKind)} {n : Nat} {acc : List (Str × Addr)} {y : Str} {c : Addr}, (y, c) ∈ cellsFrom n names acc → (y, c) ∈ acc ∨ (y, NameKind.cell) ∈ names
  | [], n, acc, y, c, h => .inl h
  | (m, k) :: r, n, acc, y, c, h => by
    unfold cellsFrom at h
    split at h
    · rename_i hk
      have hk : k = .cell := by cases k <;> first | rfl | (simp at hk)
      rcases cellsFrom_memN h with h | h
      · rcases List.mem_cons.mp h with e | h
        · cases e; subst hk; exact .inr List.mem_cons_self
        · exact .inl h
      · exact .inr (List.mem_cons_of_mem _ h)
    · rcases cellsFrom_memN h with h | h
      · exact .inl h
      · exact .inr (List.mem_cons_of_mem _ h)
section
variable {M : Model} {A : Around} {E : Value → Shared → Prop} {s₀ s : Shared} {m cm : Str → Option Value} {env : Env} {own : List (Str × Addr)}
theorem stLM {n : Str} {v : Value} {Q : Unit → Shared → Prop} (x : InCallC s₀ env.locals m own cm s) (hk : env.scope.kind = .function) (hl : env.kindOf n = some .local)
    (h : ∀ s', InCallC s₀ env.locals (fun y => if y = n then some v else m y) own cm s' → Q () s') : wpAny M A (storeName env n v) Q E s := by
  refine wpAny_storeName_local hl x.toInCall.ns (fun h' hn' hs' => h _ ⟨⟨?_, hn', fun b o e => ?_, x.toInCall.fresh⟩, fun k c hc => ?_, x.apart, x.above⟩) (by rw [hk]; rfl)
  · obtain ⟨h₁, tk, rfl⟩ := x.toInCall.same
    exact ⟨h', _, rfl⟩
  · exact hs'.extBut b o (Nat.ne_of_lt (Nat.lt_of_lt_of_le (Heap.lt_size e) x.toInCall.fresh)) (x.toInCall.keep b o e)
  · exact (x.cell k c hc).sameBut hs' (Nat.ne_of_gt (x.above k c (PySem.mem_of_lookup hc)))
theorem stCM {n : Str} {c : Addr} {v : Value} {Q : Unit → Shared → Prop} (x : InCallC s₀ env.locals m own cm s) (hk : env.scope.kind = .function) (hl : env.kindOf n = some .cell)
    (hc : own.lookup n = some c) (hce : env.cells.lookup n = some c)
    (h : ∀ s', InCallC s₀ env.locals m own (fun y => if y = n then some v else cm y) s' → Q () s') : wpAny M A (storeName env n v) Q E s := by
  have hLc := x.above n c (PySem.mem_of_lookup hc)
  refine wpAny_storeName_cell hk hl hce (x.cell n c hc) fun h' hc' hs' => h _ ⟨⟨?_, x.toInCall.ns.sameBut hs' (Nat.ne_of_lt hLc), fun b o e => ?_, x.toInCall.fresh⟩, fun k c' hk' => ?_, x.apart, x.above⟩
  · obtain ⟨h₁, tk, rfl⟩ := x.toInCall.same
    exact ⟨h', _, rfl⟩
  · exact hs'.extBut b o (Nat.ne_of_lt (Nat.lt_trans (Nat.lt_of_lt_of_le (Heap.lt_size e) x.toInCall.fresh) hLc)) (x.toInCall.keep b o e)
  · by_cases hkn : k = n
    · subst hkn
      rw [hc] at hk'; cases hk'
      simpa using hc'
    · rw [if_neg hkn]
      exact (x.cell k c' hk').sameBut hs' fun e => hkn (name_of_addr x.apart (PySem.mem_of_lookup hk') (e ▸ PySem.mem_of_lookup hc))
theorem wpAny_bindParamsM (f : Str × Value → PUnit → Sem (ForInStep PUnit)) (hf : ∀ n v u, f (n, v) u = (do storeName env n v; pure (.yield ⟨⟩))) (hk : env.scope.kind = .function) (hce : ∀ n c, own.lookup n = some c → env.cells.lookup n = some c) :
    ∀ (binds : List (Str × Value)) (m cm : Str → Option Value) (s : Shared) (Q : PUnit → Shared → Prop), InCallC s₀ env.locals m own cm s →
      (∀ x ∈ binds, env.kindOf x.1 = some .local ∨ (env.kindOf x.1 = some .cell ∧ (own.lookup x.1).isSome = true)) →
      (∀ s', InCallC s₀ env.locals (bindL env.kindOf binds m) own (bindC env.kindOf binds cm) s' → Q ⟨⟩ s') → wpAny M A (forIn binds ⟨⟩ f) Q E s
  | [], m, cm, s, Q, x, _, h => by rw [List.forIn_nil]; exact wpAny_pure (h s x)
  | (n, v) :: r, m, cm, s, Q, x, hkind, h => by
    rw [List.forIn_cons, hf]
    have hr : ∀ y ∈ r, env.kindOf y.1 = some .local ∨ (env.kindOf y.1 = some .cell ∧ (own.lookup y.1).isSome = true) := fun y hy => hkind y (List.mem_cons_of_mem _ hy)
    rcases hkind (n, v) List.mem_cons_self with hl | ⟨hl, hc⟩
    · refine wpAny_bind (wpAny_bind (stLM x hk hl fun s' x' => wpAny_pure (wpAny_bindParamsM f hf hk hce r _ _ s' Q x' hr fun s'' x'' => h s'' ?_)))
      unfold bindL bindC; rw [if_pos hl, if_pos hl]; exact x''
    · obtain ⟨c, hc⟩ := Option.isSome_iff_exists.mp hc
      have hnl : ¬ env.kindOf n = some .local := by rw [hl]; decide
      refine wpAny_bind (wpAny_bind (stCM x hk hl hc (hce _ _ hc) fun s' x' => wpAny_pure (wpAny_bindParamsM f hf hk hce r _ _ s' Q x' hr fun s'' x'' => h s'' ?_)))
      unfold bindL bindC; rw [if_neg hnl, if_neg hnl]; exact x''
theorem own_first {n : Nat} {names : List (Str × NameKind)} {clo : List (Str × Addr)} {y : Str} {c : Addr} (h : (cellsFrom n names []).lookup y = some c) : (cellsFrom n names clo).lookup y = some c := by
  rw [cellsFrom_acc, List.lookup_append, h]; rfl
theorem wpAny_newFunctionEnv_mix {scope : Scope} {globals : Addr} {clo : List (Str × Addr)} {binds : List (Str × Value)} {qual : Str} {func : Option Addr} {code : Value} {builtins : Addr} {Q : Env → Shared → Prop}
    (hk : scope.kind = .function)
    (hkind : ∀ x ∈ binds, scope.names.lookup x.1 = some .local ∨ (scope.names.lookup x.1 = some .cell ∧ ((cellsFrom (s.heap.objs.size + 1) scope.names []).lookup x.1).isSome = true))
    (hQ : ∀ env, env = newEnv scope s.heap.objs.size globals (cellsFrom (s.heap.objs.size + 1) scope.names clo) qual func code none builtins →
      ∀ s', InCallC s env.locals (bindL env.kindOf binds fun _ => none) (cellsFrom (s.heap.objs.size + 1) scope.names []) (bindC env.kindOf binds fun _ => none) s' → Q env s') :
    wpAny M A (newFunctionEnv scope globals clo binds qual func code none builtins) Q E s := by
  simp only [newFunctionEnv, Option.isSome_none, Bool.false_eq_true, if_false]
  refine wpAny_bind (wpAny_alloc ?_)
  refine wpAny_bind (wpAny_layCells _ (fun name kind cells => by cases hkc : kind == NameKind.cell <;> simp [hkc]) _ _ _ _ ?_)
  have ok := cellsFrom_ok scope.names (s.heap.push { cls := .type "frame", data := .dict #[] }) (s.heap.objs.size + 1) [] ⟨fun _ _ hm => (nomatch hm), List.Pairwise.nil⟩ (by rw [Heap.size_push]; exact Nat.le_refl _)
  rw [Heap.size_push] at ok
  rw [show ({ s with heap := s.heap.push { cls := .type "frame", data := .dict #[] } } : Shared).heap.objs.size = s.heap.objs.size + 1 from Heap.size_push ..]
  refine wpAny_bind (wpAny_bindParamsM (s₀ := s) (env := newEnv scope s.heap.objs.size globals (cellsFrom (s.heap.objs.size + 1) scope.names clo) qual func code none builtins) (own := cellsFrom (s.heap.objs.size + 1) scope.names [])
    _ (fun _ _ _ => rfl) hk (fun n c h => own_first h) binds (fun _ => none) (fun _ => none) _ _
    ⟨⟨⟨_, _, rfl⟩, (Heap.Ns.new s.heap (.type "frame")).keeps (pushCells_keeps _ _), fun b o e => pushCells_keeps _ _ b o (Heap.get?_push_of_some _ e), Nat.le_refl _⟩,
      fun n c hc => (ok.empty n c (PySem.mem_of_lookup hc)).1, ok.apart, fun n c hm => (ok.empty n c hm).2⟩
    hkind fun s' x => wpAny_pure (hQ _ rfl s' x))
end
def parN (I : LamI) : List Str := I.params.args.map (·.arg)
def dflR (I : LamI) : List RV := match I.dfl with
  | none => []
  | some i => [.sh (.int i)]
def lamEnvC (qn : Str) (I : LamI) (L f c' N0 : Addr) : Env := PySem.W.envX qn I.scope N0 f (.ref c') (cellsFrom (N0 + 1) I.scope.names (cloOf I L))
def ownC (I : LamI) (N0 : Addr) : List (Str × Addr) := cellsFrom (N0 + 1) I.scope.names []
def lamC (P : Program) (w : World) (K : PySem.W.Frag) (mg : Str → Option Value) (base : Heap) (qn : Str) (I : LamI) (L f c' : Addr) (A : Around) (outer : List Env) (s : Shared) (H : Hp) (E : XK) : Cx where
  prog := P
  w := w
  K := K
  mg := mg
  base := base
  A := A.deeper (lamEnvC qn I L f c' s.heap.objs.size)
  N := fre I ++ parN I ++ I.loc
  s_0 := s
  H_0 := H
  env := lamEnvC qn I L f c' s.heap.objs.size
  outer := outer
  stack := lamEnvC qn I L f c' s.heap.objs.size :: outer
  ex := []
  fn := fun x => match I.scope.names.lookup x with
    | some .cell => true
    | _ => false
  calm := true
  pn := []
  xe := fun e s' => wpAny (model P w) (A.deeper (lamEnvC qn I L f c' s.heap.objs.size)) (leaving (lamEnvC qn I L f c' s.heap.objs.size) e) (fun _ s'' => L2.CX P w outer H s E e s'') (fun e' s'' => L2.CX P w outer H s E e' s'') s'
/-- how a lambda is written -/
structure LamSc (I : LamI) : Prop where
  kind : I.scope.kind = .function
  co : I.scope.isCoroutine = false
  gen : I.scope.isGenerator = false
  cap : ∀ y ∈ I.scope.names, y.2 = .free → I.pnames.lookup y.1 = some .cell
  uniq : ∀ y ∈ I.scope.names, y.2 = .free → I.scope.names.lookup y.1 = some .free
  par : ∀ x ∈ parN I, I.scope.names.lookup x = some .local ∨ I.scope.names.lookup x = some .cell
  cuniq : ∀ y ∈ I.scope.names, y.2 = .cell → I.scope.names.lookup y.1 = some .cell
  bind0 : I.dfl = none → ∀ (L : Addr) (doc pm cd ct : Value) (us : List Value), us.length = (parN I).length → bindArgs (lamFn I L doc pm cd ct .none) ⟨us, []⟩ = pure ((parN I).zip us)
  bind1 : ∀ i, I.dfl = some i → (parN I).length = 1 ∧ ∀ (L t : Addr) (doc pm cd ct u : Value), ∃ k, bindArgs (lamFn I L doc pm cd ct (.ref t)) ⟨[], []⟩ = seqItems? (.ref t) >>= k ∧ k (some #[u]) = pure ((parN I).zip [u])
theorem cellsFrom_apart : ∀ (names : List (Str × NameKind)) (n : Nat) (acc : List (Str × Addr)), (acc.Pairwise fun x y => x.2 ≠ y.2) → (∀ p ∈ acc, p.2 < n) → ((cellsFrom n names acc).Pairwise fun x y => x.2 ≠ y.2)
  | [], n, acc, h, _ => h
  | (m, k) :: r, n, acc, h, hl => by
    unfold cellsFrom
    split
    · refine cellsFrom_apart r (n + 1) _ (List.pairwise_cons.mpr ⟨fun p hp => ?_, h⟩) fun p hp => ?_
      · exact Ne.symm (Nat.ne_of_lt (hl p hp))
      · rcases List.mem_cons.mp hp with e | hp
        · subst e; exact Nat.lt_succ_self _
        · exact Nat.lt_succ_of_lt (hl p hp)
    · exact cellsFrom_apart r n acc h hl
theorem clo_mem {I : LamI} {L : Addr} {x : Str} {c : Addr} (h : (cloOf I L).lookup x = some c) : (x, NameKind.free) ∈ I.scope.names ∧ c = ((cellsFrom (L + 1) I.pnames []).lookup x).getD 0 := by
  rcases cloFrom_mem (PySem.mem_of_lookup h) with z | z
  · cases z
  · exact z
theorem clo_inj {I : LamI} {L : Addr} (S : LamSc I) {x y : Str} {c : Addr} (h1 : (cloOf I L).lookup x = some c) (h2 : (cloOf I L).lookup y = some c) : x = y := by
  obtain ⟨m1, e1⟩ := clo_mem h1
  obtain ⟨m2, e2⟩ := clo_mem h2
  obtain ⟨c1, k1⟩ := cell_has (sc := { I.scope with names := I.pnames }) (n := L + 1) (S.cap _ m1 rfl)
  obtain ⟨c2, k2⟩ := cell_has (sc := { I.scope with names := I.pnames }) (n := L + 1) (S.cap _ m2 rfl)
  have k1 : (cellsFrom (L + 1) I.pnames []).lookup x = some c1 := k1
  have k2 : (cellsFrom (L + 1) I.pnames []).lookup y = some c2 := k2
  rw [k1] at e1; rw [k2] at e2
  have e1 : c = c1 := e1
  have e2 : c = c2 := e2
  subst e1
  subst e2
  exact name_of_addr (cellsFrom_apart I.pnames (L + 1) [] .nil (fun p hp => by cases hp)) (PySem.mem_of_lookup k1) (PySem.mem_of_lookup k2)
theorem clo_has {I : LamI} {L : Addr} {x : Str} (h : (x, NameKind.free) ∈ I.scope.names) : ∃ c, (cloOf I L).lookup x = some c := mem_lookup (cloFrom_has (cells := cellsFrom (L + 1) I.pnames []) (acc := []) h)
theorem fre_mem {I : LamI} {x : Str} : x ∈ fre I ↔ (x, NameKind.free) ∈ I.scope.names := by
  unfold fre
  constructor
  · intro h
    obtain ⟨p, hp, e⟩ := List.mem_map.mp h
    obtain ⟨h1, h2⟩ := List.mem_filter.mp hp
    obtain ⟨n, k⟩ := p
    have h2 : k = .free := by simpa using h2
    subst h2; subst e; exact h1
  · intro h
    exact List.mem_map.mpr ⟨(x, .free), List.mem_filter.mpr ⟨h, rfl⟩, rfl⟩
def CC (I : LamI) (L : Addr) : Addr → Prop := fun b => ∃ x, (cloOf I L).lookup x = some b
/-- every cell of the lambda is told -/
theorem LamR.all {G : Hp} {f : Addr} {I : LamI} {L : Addr} {vs : List V} (h : LamR G f I L vs) (hl : vs.length = (fre I).length) {x : Str} {c : Addr} (e : (cloOf I L).lookup x = some c) : ∃ (j : Nat) (v : V) (o : Obj) (u : Value), (fre I)[j]? = some x ∧ vs[j]? = some v ∧ G c = some (cellO c o) ∧ o.data = .cell (some u) ∧ RelV v u := by
  obtain ⟨m, _⟩ := clo_mem e
  obtain ⟨j, hj, ej⟩ := List.mem_iff_getElem.mp (fre_mem.mpr m)
  have hjv : j < vs.length := by rw [hl]; exact hj
  obtain ⟨x', c', o, u, k1, k2, k3, k4, k5⟩ := h.cells j vs[j] (by simp [hjv])
  have e1 : (fre I)[j]? = some x := by rw [List.getElem?_eq_getElem hj, ej]
  rw [e1] at k1; cases k1
  rw [e] at k2; cases k2
  exact ⟨j, vs[j], o, u, e1, by simp [hjv], k3, k4, k5⟩
section
variable {P : Program} {w : World} {K : PySem.W.Frag} {mg : Str → Option Value} {base : Heap}
theorem env0_but {A : Around} {outer : List Env} {s : Shared} {H : Hp} {C : Addr → Prop} (hC : Cells C H) (e0 : Env0 P w K mg base A outer s H) : Env0 P w K mg base A outer s (But C H) := by
  have bn : ∀ {b : Addr}, H b = none → But C H b = none := fun {b} h => by
    by_cases z : C b
    · exact but_in z
    · rw [but_out z]; exact h
  refine ⟨e0.frames, e0.mod, fun b o e => ⟨(e0.bs b o e).1, bn (e0.bs b o e).2⟩, e0.bsz, e0.funs, fun b hb => bn (e0.frf b hb), fun b o e => ?_, e0.bare⟩
  exact (e0.hok b o (but_some e).2).stay (fun c v _ q => q) (fun c q => by rw [but_out (hC.out q (.of nofun))]; exact q) (fun c xs q => by rw [but_out (hC.out q (.of nofun))]; exact q)
/-- what a name of the lambda's frame lies in -/
theorem mix_clo {I : LamI} {L : Addr} (S : LamSc I) {N0 : Nat} {x : Str} {c : Addr} (h : (cloOf I L).lookup x = some c) : (cellsFrom (N0 + 1) I.scope.names (cloOf I L)).lookup x = some c := by
  obtain ⟨m, _⟩ := clo_mem h
  rw [cellsFrom_acc, List.lookup_append]
  cases z : (cellsFrom (N0 + 1) I.scope.names []).lookup x with
  | none => rw [Option.none_or]; exact h
  | some c2 =>
    rcases cellsFrom_memN (PySem.mem_of_lookup z) with y | y
    · cases y
    · have e1 := S.uniq _ m rfl
      have e2 := S.cuniq _ y rfl
      rw [e1] at e2; cases e2
theorem mix_inv {I : LamI} {L : Addr} {N0 : Nat} {x : Str} {c : Addr} (h : (cellsFrom (N0 + 1) I.scope.names (cloOf I L)).lookup x = some c) : (ownC I N0).lookup x = some c ∨ (cloOf I L).lookup x = some c := by
  rw [cellsFrom_acc, List.lookup_append] at h
  unfold ownC
  cases z : (cellsFrom (N0 + 1) I.scope.names []).lookup x with
  | none => rw [z, Option.none_or] at h; exact .inr h
  | some c2 => rw [z] at h; cases h; exact .inl rfl
theorem lam_start {qn : Str} {I : LamI} {L f c' : Addr} {A : Around} {outer : List Env} {s s1 : Shared} {H : Hp} {E : XK} {vs ws : List V} {us : List Value} (S : LamSc I) (hd : A.handled = none) (e0 : Env0 P w K mg base A outer s (But (CC I L) H))
    (hl : vs.length = (fre I).length) (hw : ws.length = (parN I).length) (rw_ : Vals ws us) (nd : (parN I).Nodup) (hcell : ∀ x c, (cloOf I L).lookup x = some c → ∃ (j : Nat) (v : V) (o : Obj) (u : Value), (fre I)[j]? = some x ∧ vs[j]? = some v ∧ s.heap.get? c = some o ∧ o.data = .cell (some u) ∧ RelV v u)
    (ndf : (fre I).Nodup) (x : InCallC s s.heap.objs.size (bindL (lamEnvC qn I L f c' s.heap.objs.size).kindOf ((parN I).zip us) fun _ => none) (ownC I s.heap.objs.size) (bindC (lamEnvC qn I L f c' s.heap.objs.size).kindOf ((parN I).zip us) fun _ => none) s1) :
    Inv (lamC P w K mg base qn I L f c' A outer s (But (CC I L) H) E) [] (L2.start (fre I ++ parN I ++ I.loc) (vs ++ ws)) (But (CC I L) H) s1 := by
  obtain ⟨h1, tk, rfl, kp⟩ := x.done
  have noA : ∀ b : Addr, b ∉ (lamC P w K mg base qn I L f c' A outer s (But (CC I L) H) E).ex := fun b z => absurd (show b ∈ ([] : List Addr) from z) (by simp)
  have cloOld : ∀ {y : Str} {c : Addr}, (cloOf I L).lookup y = some c → c < s.heap.objs.size := fun {y c} h => by
    obtain ⟨j, v, o, u, k1, k2, k3, k4, k5⟩ := hcell y c h
    exact Heap.lt_size k3
  have ownNew : ∀ {y : Str} {c : Addr}, (ownC I s.heap.objs.size).lookup y = some c → s.heap.objs.size < c := fun {y c} h => x.above y c (PySem.mem_of_lookup h)
  refine ⟨⟨e0.mod, S.kind, rfl, rfl, Nat.le_refl _, fun y z c h1 h2 => ?_, fun y wy => ?_, fun y c hy h => ?_, fun _ => hd, Around.frames_deeper e0.frames, .inr ⟨rfl, rfl⟩, fun b z => absurd z (noA b), e0.bs, e0.bsz, fun b _ _ => noA b, fun b z => absurd z (noA b), e0.funs, e0.frf⟩,
    rfl, e0.bare, Un.kept kp, ⟨_, x.toInCall.ns, fun i y v h1 h2 h3 => ?_⟩, fun y c h => ?_, e0.hok.fresh (Nat.le_refl _), fun y c h => ?_, fun p hp => absurd (show p ∈ ([] : List (Addr × Obj)) from hp) (by simp), e0.hok.kept kp, ?_⟩
  · have h1 : (cellsFrom (s.heap.objs.size + 1) I.scope.names (cloOf I L)).lookup y = some c := h1
    have h2 : (cellsFrom (s.heap.objs.size + 1) I.scope.names (cloOf I L)).lookup z = some c := h2
    rcases mix_inv h1 with h1 | h1 <;> rcases mix_inv h2 with h2 | h2
    · exact name_of_addr x.apart (PySem.mem_of_lookup h1) (PySem.mem_of_lookup h2)
    · exact absurd (Nat.lt_trans (ownNew h1) (cloOld h2)) (Nat.lt_irrefl _)
    · exact absurd (Nat.lt_trans (ownNew h2) (cloOld h1)) (Nat.lt_irrefl _)
    · exact clo_inj S h1 h2
  · have wy : I.scope.names.lookup y = some .cell ∨ I.scope.names.lookup y = some .free := wy
    rcases wy with wy | wy
    · obtain ⟨c, hc⟩ := cell_has (n := s.heap.objs.size + 1) wy
      exact ⟨c, own_first hc⟩
    · obtain ⟨c, hc⟩ := clo_has (L := L) (PySem.mem_of_lookup wy)
      exact ⟨c, mix_clo S hc⟩
  · have hy : (match I.scope.names.lookup y with
      | some .cell => true
      | _ => false) = true := hy
    have h : (cellsFrom (s.heap.objs.size + 1) I.scope.names (cloOf I L)).lookup y = some c := h
    split at hy
    · rename_i wy
      rcases mix_inv h with h | h
      · exact Nat.le_of_lt (ownNew h)
      · obtain ⟨m, _⟩ := clo_mem h
        rw [S.uniq _ m rfl] at wy; cases wy
    · cases hy
  · have wi : i < (vs ++ ws).length := by
      unfold L2.start at h2
      by_cases wi : i < (vs ++ ws).length
      · exact wi
      · rw [List.getElem?_append_right (by simpa using wi), List.getElem?_replicate] at h2
        split at h2 <;> cases h2
    have wa : (vs ++ ws)[i]? = some v := by
      unfold L2.start at h2
      rw [List.getElem?_append_left (by simpa using wi), List.getElem?_map] at h2
      cases e' : (vs ++ ws)[i]? with
      | none => rw [e'] at h2; cases h2
      | some a => rw [e'] at h2; cases h2; rfl
    have h1 : (fre I ++ parN I)[i]? = some y := by
      rwa [show (lamC P w K mg base qn I L f c' A outer s (But (CC I L) H) E).N = fre I ++ parN I ++ I.loc from rfl, List.getElem?_append_left (by rw [List.length_append, ← hl, ← hw, ← List.length_append]; exact wi)] at h1
    by_cases hif : i < (fre I).length
    · rw [List.getElem?_append_left hif] at h1
      rw [List.getElem?_append_left (by rw [hl]; exact hif)] at wa
      have hm := fre_mem.mp (List.mem_of_getElem? h1)
      obtain ⟨c, hc⟩ := clo_has (L := L) hm
      obtain ⟨j, v', o, u, k1, k2, k3, k4, k5⟩ := hcell y c hc
      have := nodup_ix ndf h1 k1
      subst this
      rw [wa] at k2; cases k2
      refine ⟨u, k5, .inr ⟨.inr ?_, c, mix_clo S hc, o, kp _ _ k3, k4⟩⟩
      exact S.uniq _ hm rfl
    · rw [List.getElem?_append_right (by omega)] at h1
      rw [List.getElem?_append_right (by rw [hl]; omega), hl] at wa
      obtain ⟨u, hu, rv⟩ := rw_.get wa
      refine ⟨u, rv, ?_⟩
      rcases S.par y (List.mem_of_getElem? h1) with k | k
      · exact .inl ⟨k, bindL_get nd h1 hu k⟩
      · obtain ⟨c, e⟩ := cell_has (n := s.heap.objs.size + 1) k
        refine .inr ⟨.inl k, c, own_first e, ?_⟩
        have q := x.cell y c e
        rw [bindC_get nd h1 hu (by show I.scope.names.lookup y ≠ _; rw [k]; decide)] at q
        exact q
  · have h : (cellsFrom (s.heap.objs.size + 1) I.scope.names (cloOf I L)).lookup y = some c := h
    rcases mix_inv h with h | h
    · exact ⟨_, x.cell y c h⟩
    · obtain ⟨j, v, o, u, k1, k2, k3, k4, k5⟩ := hcell y c h
      exact ⟨some u, o, kp _ _ k3, k4⟩
  · have h : (cellsFrom (s.heap.objs.size + 1) I.scope.names (cloOf I L)).lookup y = some c := h
    rcases mix_inv h with h | h
    · exact e0.hok.fresh (Nat.le_of_lt (ownNew h))
    · exact but_in ⟨y, h⟩
  · show (L2.start (fre I ++ parN I ++ I.loc) (vs ++ ws)).length = (fre I ++ parN I ++ I.loc).length
    unfold L2.start
    simp only [List.length_append, List.length_map, List.length_replicate]; omega
end
end Z
namespace Z
open PySem PySem.Spec PyProof.Rows L2
def bodyCode : FuncBody → Env → Code
  | .expr e, ev => .expr e ev
  | .stmts b, ev => .func b ev
section
variable {prog : Program} {w : World} {A : Around} {R : Result → Shared → Prop} {s : Shared}
theorem zla_callFunE {qn : Str} {a : Addr} {args : Args} {o : Obj} {fd : FuncData} {body : Expr} (wr : A.depth < recursionLimit)
    (wo : s.heap.get? a = some o)
    (wd : o.data = .func fd) (wco : fd.scope.isCoroutine = false) (wge : fd.scope.isGenerator = false) (wbo : fd.body = .expr body) (wcd : s.heap.CodeRec fd.code qn)
    (wh : wpAny (model prog w) A.in1 (bindArgs fd args) (fun bn sa =>
      wpAny (model prog w) A.in1 (newFunctionEnv fd.scope fd.globals fd.closure bn (qn ++ ".<locals>.") (some a) fd.code none fd.builtins)
        (fun ev sb => sb.heap.NoLimit ∧ codeAny (model prog w) A (.expr body ev) R sb) (fun e s' => R (.error e) s') sa) (fun e s' => R (.error e) s') s) :
    codeAny (model prog w) A (.call (.ref a) args) R s := by
  refine codeAny_of_tree ?_
  show wpAny _ A.in1 (callAny (.ref a) args) _ _ s
  simp only [callAny]
  refine wpAny_bind (wpAny_load wo ?_)
  obtain ⟨c, oc, vs, tz, hc, woc, wdc, wq⟩ := wcd
  simp only [wd, callFunction, wco, wge, wbo, hc]
  rw [hc] at wh
  refine wpAny_bind (m := field (.ref c) 1) (wpAny_field woc wdc wq (wpAny_bind (wpAny_pure ?_)))
  exact wpAny_bind (wpAny_mono wh (fun bn sa ha => wpAny_bind (wpAny_mono ha (fun ev sb hb2 => wpAny_bind (wpAny_enterFrame hb2.1 wr
    (wpAny_pure (And.intro rfl hb2.2)))) fun _ _ h' => h')) fun _ _ h' => h')
theorem zla_callFun {qn : Str} {a : Addr} {args : Args} {o : Obj} {fd : FuncData} (wr : A.depth < recursionLimit)
    (wo : s.heap.get? a = some o)
    (wd : o.data = .func fd) (wco : fd.scope.isCoroutine = false) (wge : fd.scope.isGenerator = false) (wcd : s.heap.CodeRec fd.code qn)
    (wh : wpAny (model prog w) A.in1 (bindArgs fd args) (fun bn sa =>
      wpAny (model prog w) A.in1 (newFunctionEnv fd.scope fd.globals fd.closure bn (qn ++ ".<locals>.") (some a) fd.code none fd.builtins)
        (fun ev sb => sb.heap.NoLimit ∧ codeAny (model prog w) A (bodyCode fd.body ev) R sb) (fun e s' => R (.error e) s') sa) (fun e s' => R (.error e) s') s) :
    codeAny (model prog w) A (.call (.ref a) args) R s := by
  cases hb : fd.body with
  | expr e => exact zla_callFunE (qn := qn) wr wo wd wco wge hb wcd (by rw [hb] at wh; exact wh)
  | stmts b =>
    rw [hb] at wh
    refine codeAny_of_tree ?_
    show wpAny _ A.in1 (callAny (.ref a) args) _ _ s
    simp only [callAny]
    refine wpAny_bind (wpAny_load wo ?_)
    obtain ⟨c, oc, vs, tz, hc, woc, wdc, wq⟩ := wcd
    simp only [wd, callFunction, wco, wge, hb, hc]
    rw [hc] at wh
    refine wpAny_bind (m := field (.ref c) 1) (wpAny_field woc wdc wq (wpAny_bind (wpAny_pure ?_)))
    exact wpAny_bind (wpAny_mono wh (fun bn sa ha => wpAny_bind (wpAny_mono ha (fun ev sb hb2 => wpAny_bind (wpAny_enterFrame hb2.1 wr
      (wpAny_pure (And.intro rfl hb2.2)))) fun _ _ h' => h')) fun _ _ h' => h')
end
def rsEnv (n : Nat) (rs : List RV) : DEnv := rs.map some ++ List.replicate (n - rs.length) none
def lamRun (n : Nat) (m : M RV) (rs : List RV) : FRes := match m (rsEnv n rs) with
  | .ok r _ => .ok r []
  | .err x _ => .err x []
  | .stk => .stk
/-- by what it is, what it caught, what it is given -/
abbrev LamT := Nat → LamI → List D → List D → FRes
abbrev lamN (I : LamI) : List Str := fre I ++ parN I ++ I.loc
/-- a body is worth m -/
def BodyOk (P : Program) (w : World) (K : PySem.W.Frag) (mg : Str → Option Value) (base : Heap) (kk : Nat) (I : LamI) (m : List RV → FRes) : Prop :=
  ∀ (qn : Str) (L f c' : Addr) (A : Around) (outer : List Env) (s : Shared) (H : Hp) (E : XK) (sb : Shared) (σ : L2.St) (G : Hp) (Fh : FHp) (rs : List RV) (R : Result → Shared → Prop), Room kk (A.deeper (lamEnvC qn I L f c' s.heap.objs.size)) →
    Inv (lamC P w K mg base qn I L f c' A outer s H E) [] σ H sb → SRel K mg Fh [] G H σ (rsEnv (lamN I).length rs) [] →
    (match m rs with
      | .ok r _ => ∀ v σ' e G' H', Ex G G' → View K mg G' H' v r → SRel K mg Fh [] G' H' σ' e (tmps v r) → ∀ u s' σ2, Inv (lamC P w K mg base qn I L f c' A outer s H E) [] σ2 H' s' → RelV v u → R (.ok (.ret u)) s'
      | .err x _ => ∀ cls d σ' e G' H', Ex G G' → XR K mg G' cls d x → SRel K mg Fh [] G' H' σ' e [] → E cls d H'
      | .stk => False) →
    (∀ e s'', L2.CX P w outer H s E e s'' → R (.error e) s'') → codeAny (model P w) A (bodyCode I.body (lamEnvC qn I L f c' s.heap.objs.size)) R sb
section
variable {P : Program} {w : World} {K : PySem.W.Frag} {mg : Str → Option Value} {base : Heap} {kk : Nat} {I : LamI}
theorem bodyOk_expr {e : Expr} {m : M RV} (hb : I.body = .expr e) (h : ∀ (qn : Str) (L f c' : Addr) (A : Around) (outer : List Env) (s : Shared) (H : Hp) (E : XK), Room kk (A.deeper (lamEnvC qn I L f c' s.heap.objs.size)) →
    QV (lamC P w K mg base qn I L f c' A outer s H E) (fun cls d _ H => E cls d H) [] e m) : BodyOk P w K mg base kk I (lamRun (lamN I).length m) := fun qn L f c' A outer s H E sb σ G Fh rs R hr J S q hx => by
  rw [hb]
  show codeAny _ _ (.expr e (lamEnvC qn I L f c' s.heap.objs.size)) _ _
  have body := h qn L f c' A outer s H E hr Fh [] rfl
  refine PySem.W.kla_codeExpr (wpAny_mono (body.run [] sb σ H (fun v H' => ∃ (r : RV) (e : DEnv) (G' : Hp), m (rsEnv (lamN I).length rs) = .ok r e ∧ Ex G G' ∧ View K mg G' H' v r ∧ SRel K mg Fh [] G' H' σ e (tmps v r)) J ⟨G, _, S, ?_⟩) (fun u s' hq => ?_) fun e s' hq => ?_)
  · cases y : m (rsEnv (lamN I).length rs) with
    | stk => unfold lamRun at q; rw [y] at q; exact q.elim
    | ok r e => exact fun v G' H' ex w S' => ⟨r, e, G', rfl, ex, w, S'⟩
    | err x e =>
      unfold lamRun at q; rw [y] at q
      exact fun cls d G' H' ex hx S' => q cls d σ e G' H' ex hx S'
  · obtain ⟨v, H', J', rv, r, e, G', y, ex, vw, S'⟩ := hq
    unfold lamRun at q; rw [y] at q
    exact q v σ e G' H' ex vw S' u s' _ J' rv
  · exact wpAny_mono hq (fun _ s'' h => hx _ _ h) fun e' s'' h => hx _ _ h
end
/-- the functions that are made: what each is worth -/
def LamOk (P : Program) (w : World) (K : PySem.W.Frag) (mg : Str → Option Value) (base : Heap) (kk : Nat) (lt : LamT) : Prop := ∀ (k : Nat) (I : LamI) (ds as : List D), lt k I ds as = .stk ∨ ∃ m : List RV → FRes, lt k I ds as = m ((ds ++ as).map .sh ++ dflR I) ∧ ds.length = (fre I).length ∧ as.length + (dflR I).length = (parN I).length ∧ noLams ds = true ∧ noLams as = true ∧ LamSc I ∧ (fre I).Nodup ∧ (parN I).Nodup ∧ BodyOk P w K mg base kk I m
def lcallM (lt : LamT) (i : Nat) (ma : M (List Opd)) : M RV := fun env => match slotOf env i with
  | some (.sh (.lam k I _ ds)) => (match ma env with
    | .ok os e1 => (match dsOf os e1 with
      | .ok as e2 => (match lt k I ds as with
        | .ok r _ => .ok r e2
        | .err x _ => .err x e2
        | .stk => .stk)
      | _ => .stk)
    | .err x e1 => .err x e1
    | .stk => .stk)
  | _ => .stk
theorem pins_sh : ∀ {k : Nat} {vs : List V} {rs : List RV}, (∀ r ∈ rs, r.own = false) → pinsOf k vs rs = []
  | k, [], rs, _ => by unfold pinsOf; rfl
  | k, v :: vs, [], _ => by unfold pinsOf; rfl
  | k, v :: vs, r :: rs, h => by
    unfold pinsOf
    rw [if_neg (by rw [h r List.mem_cons_self]; exact Bool.false_ne_true)]
    exact pins_sh fun r' hr => h r' (List.mem_cons_of_mem _ hr)
theorem ownAt_sh {vs : List V} {rs : List RV} {a : Addr} (h : ∀ r ∈ rs, r.own = false) : ¬ OwnAt vs rs a := fun ⟨j, r, h1, h2, _⟩ => by
  rw [h r (List.mem_of_getElem? h1)] at h2; cases h2
/-- the lambda's end, as its caller sees it -/
theorem lam_back {K : PySem.W.Frag} {mg : Str → Option Value} {C : Addr → Prop} {G H G' H' : Hp} {vs : List V} {rs : List RV} {σ' : L2.St} {e : DEnv} {T : List Addr} (hsh : ∀ r ∈ rs, r.own = false)
    (gh : GH K G H) (hC : ∀ c, C c → ∃ ob, G c = some (cellO c ob) ∧ ∃ v, ob.data = .cell v) (hn : ∀ c, C c → H' c = none) (ex' : Ex (But C G) G') (S : SRel K mg (foreign (But C G) (But C H) vs rs) [] G' H' σ' e T) :
    Back K mg G H [] [] (Plus C G G') (Plus C H H') [] := by
  have cel : Cells C G := fun c z => (hC c z).imp fun o q => ⟨q.1, fun y => by obtain ⟨v, hv⟩ := q.2; rw [hv] at y; cases y⟩
  have ne : ∀ {b : Addr} {o : HO}, G' b = some o → ¬ C b := fun {b o} h z => by
    obtain ⟨u, k⟩ := S.gh.some h
    rw [hn b z] at k; cases k
  have nh : ∀ {b : Addr} {o : HO}, H' b = some o → ¬ C b := fun {b o} h z => by rw [hn b z] at h; cases h
  have exG : Ex G (Plus C G G') := fun b o h => by
    by_cases z : C b
    · rw [plus_in z]; exact h
    · rw [plus_out z]; exact ex' _ _ (by rw [but_out z]; exact h)
  have exG' : Ex G' (Plus C G G') := fun b o h => by rw [plus_out (ne h)]; exact h
  have nc : ∀ {b : Addr} {ps : Array Value}, G b = some (.tbl ps) → ¬ C b := fun {b ps} h z => by
    obtain ⟨ob, k1, _⟩ := hC b z
    rw [h] at k1; cases k1
  refine ⟨exG, ⟨gh.1.plus S.gh, ⟨fun a b ps e1 e2 => ?_, fun p m => (S.fh.tb.pres p m).imp fun ps z => (plus_out fun y => by rw [hn _ y] at z; cases z).trans z, fun P' ps h => ?_⟩⟩, fun b o h1 h2 _ => ?_, .nil, fun j r' h => by simp at h, fun a ps q => ?_, fun a ps q => ?_⟩
  · have k : ∀ {x : Addr}, Plus C G G' x = some (.tbl ps) → G' x = some (.tbl ps) := fun {x} e => by
      by_cases z : C x
      · rw [plus_in z] at e; exact absurd z (nc e)
      · rw [plus_out z] at e; exact e
    exact S.fh.tb.uq a b ps (k e1) (k e2)
  · have nz : ¬ C P' := fun z => by
      rw [plus_in z] at h
      obtain ⟨ob, k1, _⟩ := hC P' z
      rw [gh.1.on _ _ k1 nofun] at h; cases h
    rw [plus_out nz] at h
    obtain ⟨t1, t2⟩ := S.fh.tb.on _ _ h
    exact ⟨t1, fun pos cv z => by
      obtain ⟨c, q, z1, z2⟩ := t2 pos cv z
      exact ⟨c, q, z1, exG' _ _ z2⟩⟩
  · have nz : ¬ C b := fun z => by
      obtain ⟨ob, k1, _⟩ := hC b z
      rw [h2] at k1; cases k1
    have hf := foreign_at (rs := rs) (vs := vs) (G := But C G) (H := But C H) (b := b) (o := o) (by rw [but_out nz]; exact h1) (by rw [but_out nz]; exact h2) (ownAt_sh hsh)
    rw [plus_out nz, plus_out nz]
    refine ⟨?_, (S.dj b _ hf).resolve_right fun ⟨_, _, z⟩ => toFO_nm z⟩
    have z := S.fh.on b _ hf
    cases o <;> exact z
  · by_cases z : C a
    · rw [plus_in z] at q; exact q
    · rw [plus_out z] at q
      obtain ⟨o, k⟩ := S.fh.cl rfl a ps q
      rcases foreign_some k with ⟨_, _, u, e, hu⟩ | ⟨ps', u, g, e, hu⟩
      · exact absurd e.symm toFO_nm
      · cases e; exact (but_some g).2
  · by_cases z : C a
    · exact plus_in z
    · rw [plus_out z]
      obtain ⟨u1, y, _⟩ := gh.1.mks a ps q
      have k := S.fh.on a _ (foreign_mrk (rs := rs) (vs := vs) (G := But C G) (H := But C H) (by rw [but_out z]; exact y) (by rw [but_out z]; exact q))
      exact (show H' a = _ from k).trans y.symm
theorem lam_un {C : Addr → Prop} {fs : List Addr} {H H' : Hp} {h h' : Heap} (cel : Cells C H) (un : Un fs [] (But C H) H' h h') : Un fs [] H (Plus C H H') h h' := by
  have bn : ∀ {b : Addr}, H b = none → ¬ C b ∧ But C H b = none := fun {b} h => by
    have z : ¬ C b := fun z => by obtain ⟨o, q, _⟩ := cel b z; rw [h] at q; cases q
    exact ⟨z, by rw [but_out z]; exact h⟩
  have bo : ∀ {b : Addr} {o : HO}, H b = some o → NC o → ¬ C b ∧ But C H b = some o := fun {b o} h n => by
    have z := cel.out h n
    exact ⟨z, by rw [but_out z]; exact h⟩
  exact ⟨fun b o e n hb hx => un.keep b o e (bn n).2 hb hx, fun b o e n hb hx => un.slot b o e (bn n).2 hb hx, fun b o e n hx => by rw [plus_out (bn n).1]; exact un.free b o e (bn n).2 hx, un.there,
    fun b xs q => by rw [plus_out (bo q (.of nofun)).1]; exact un.tups b xs (bo q (.of nofun)).2, fun b o u q => by rw [plus_out (bo q (.of nofun)).1]; exact un.frzs b o u (bo q (.of nofun)).2,
    fun b ps q => by rw [plus_out (bo q (.of nofun)).1]; exact un.tbls b ps (bo q (.of nofun)).2⟩
theorem lam_hok {P : Program} {w : World} {C : Addr → Prop} {H H' : Hp} {h' : Heap} (hn : ∀ c, C c → H' c = none) (hk : ∀ c, C c → ∃ ob, H c = some (cellO c ob) ∧ h'.get? c = some ob) (ok : HOk P w H' h') : HOk P w (Plus C H H') h' := fun b o e => by
  by_cases z : C b
  · obtain ⟨ob, k1, k2⟩ := hk b z
    rw [plus_in z, k1] at e; cases e
    exact ⟨k2, ⟨_, k2⟩, fun h1 h2 y k => k _ y⟩
  · rw [plus_out z] at e
    have nz : ∀ {c : Addr} {u : HO}, H' c = some u → ¬ C c := fun {c u} q y => by rw [hn c y] at q; cases q
    exact (ok b o e).stay (fun _ _ _ q => q) (fun c q => by rw [plus_out (nz q)]; exact q) (fun c xs q => by rw [plus_out (nz q)]; exact q)
theorem lam_cx {P : Program} {w : World} {C : Addr → Prop} {outer : List Env} {H : Hp} {s s' : Shared} {E E' : XK} {u : Value} (hk : ∀ c, C c → ∃ ob, H c = some (cellO c ob) ∧ s.heap.get? c = some ob) (nfr : ∀ c, C c → c ∉ frs outer)
    (h : L2.CX P w outer (But C H) s E u s') (hE : ∀ cls d H', (∀ c, C c → H' c = none) → E cls d H' → E' cls d (Plus C H H')) : L2.CX P w outer H s E' u s' := by
  obtain ⟨a, B, H', cls, d, rfl, fl, ok, ub, na, os, ag, he⟩ := h
  have cel : Cells C H := fun c z => (hk c z).imp fun o q => ⟨q.1, get_nf q.2⟩
  have hn : ∀ c, C c → H' c = none := fun c z => by
    obtain ⟨ob, _, k⟩ := hk c z
    exact ub.free c ob k (but_in z)
  have hB : ∀ c, C c → ∃ ob, H c = some (cellO c ob) ∧ B.get? c = some ob := fun c z => by
    obtain ⟨ob, k1, k2⟩ := hk c z
    exact ⟨ob, k1, ub.keep c ob k2 (but_in z) (nfr c z)⟩
  have bn : ∀ {b : Addr}, H b = none → ¬ C b ∧ But C H b = none := fun {b} h => by
    have z : ¬ C b := fun z => by obtain ⟨o, q, _⟩ := cel b z; rw [h] at q; cases q
    exact ⟨z, by rw [but_out z]; exact h⟩
  have bo : ∀ {b : Addr} {o : HO}, H b = some o → NC o → ¬ C b ∧ But C H b = some o := fun {b o} h n => by
    have z := cel.out h n
    exact ⟨z, by rw [but_out z]; exact h⟩
  refine ⟨a, B, Plus C H H', cls, d, rfl, fl, lam_hok hn hB ok, ⟨fun b o e n hb => ub.keep b o e (bn n).2 hb, ub.slot, fun b o e n => by rw [plus_out (bn n).1]; exact ub.free b o e (bn n).2, ub.there,
    fun b xs q => by rw [plus_out (bo q (.of nofun)).1]; exact ub.tups b xs (bo q (.of nofun)).2, fun b o u q => by rw [plus_out (bo q (.of nofun)).1]; exact ub.frzs b o u (bo q (.of nofun)).2,
    fun b ps q => by rw [plus_out (bo q (.of nofun)).1]; exact ub.tbls b ps (bo q (.of nofun)).2⟩, ?_, os, ag, hE cls d H' hn he⟩
  have nz : ¬ C a := fun z => by
    obtain ⟨ob, _, k⟩ := hB a z
    rw [fl.2.1] at k; cases k
  rw [plus_out nz]; exact na
section
variable {X : Cx} {W : WX} {pn : List Nat}
/-- the call of a made function -/
theorem lam_call {lt : LamT} {kk : Nat} (LO : LamOk X.prog X.w X.K X.mg X.base kk lt) (tk : Takes X W) (hr : Room (kk + 1) X.A) {pins : List (Addr × Obj)} {s1 : Shared} {σ : L2.St} {H1 G : Hp} {Q : VK} {Fh : FHp} {P : List (Nat × V)} {env : DEnv} {f : Addr} {k L : Nat} {I : LamI} {ds as : List D} {va : List V} {ua : List Value}
    (I1 : Inv X pins σ H1 s1) (S : SRel X.K X.mg Fh P G H1 σ env []) (vw : Den X.K X.mg G (.ref f) (.lam k I L ds)) (dva : DenL X.K X.mg G va as) (ra : Vals va ua)
    (q : PV X.K X.mg W Fh P σ G Q (match lt k I ds as with
      | .ok r _ => .ok r env
      | .err x _ => .err x env
      | .stk => .stk)) : wpAny (model X.prog X.w) X.A (call (.ref f) ua) (EP X pins σ Q) X.xe s1 := by
  cases vw with
  | @lam _ _ _ _ vs _ LR hlen hden =>
  rcases LO k I ds as with hz | ⟨m, hm, hdl, hal, hnl, hna, SC, nf, np, hbody⟩
  · rw [hz] at q; exact q.elim
  rw [hm] at q
  obtain ⟨⟨doc, pm, ct, dV, c', qn, gf, gc, gd⟩, _⟩ := id LR
  have of1 : s1.heap.get? f = some { cls := .type "function", data := .func (lamFn I L doc pm (.ref c') ct dV) } := (show ObjOk X.prog X.w H1 s1.heap f (lamO f I L doc pm ct dV c') from I1.hok f _ (S.gh.on _ _ gf nofun)).1
  obtain ⟨⟨oc, cvs, t, hoc, hdc, hvc⟩, _, _⟩ := (show ObjOk X.prog X.w H1 s1.heap c' (LamX.CodeO c' qn) from I1.hok c' _ (S.gh.on _ _ gc nofun))
  have hlv : vs.length = (fre I).length := by rw [hlen, hdl]
  have hC : ∀ c, CC I L c → ∃ ob, G c = some (cellO c ob) ∧ ∃ v, ob.data = .cell v := fun c ⟨x, hx⟩ => by
    obtain ⟨j, v, o, u, _, _, k3, k4, _⟩ := LR.all hlv hx
    exact ⟨o, k3, _, k4⟩
  have cel : Cells (CC I L) G := fun c z => (hC c z).imp fun o q => ⟨q.1, fun y => by obtain ⟨v, hv⟩ := q.2; rw [hv] at y; cases y⟩
  have celH : Cells (CC I L) H1 := fun c z => (hC c z).imp fun o q => ⟨S.gh.on _ _ q.1 nofun, fun y => by obtain ⟨v, hv⟩ := q.2; rw [hv] at y; cases y⟩
  have hcells : ∀ x c, (cloOf I L).lookup x = some c → ∃ (j : Nat) (v : V) (o : Obj) (u : Value), (fre I)[j]? = some x ∧ vs[j]? = some v ∧ s1.heap.get? c = some o ∧ o.data = .cell (some u) ∧ RelV v u := fun x c hx => by
    obtain ⟨j, v, o, u, k1, k2, k3, k4, k5⟩ := LR.all hlv hx
    exact ⟨j, v, o, u, k1, k2, (show ObjOk X.prog X.w H1 s1.heap c (cellO c o) from I1.hok c _ (S.gh.on _ _ k3 nofun)).1, k4, k5⟩
  have gh : GH X.K G H1 := ⟨S.gh, S.fh.tb⟩
  have e0 := env0_but celH I1.env0
  -- the values of the parameters
  have hdv : ∃ ws us, Vals ws us ∧ ws.length = (parN I).length ∧ Views X.K X.mg (But (CC I L) G) (But (CC I L) H1) ws (as.map .sh ++ dflR I) ∧ ∀ (Q : List (Str × Value) → Shared → Prop) (E : Value → Shared → Prop) (A : Around), Q ((parN I).zip us) s1 → wpAny (model X.prog X.w) A (bindArgs (lamFn I L doc pm (.ref c') ct dV) ⟨ua, []⟩) Q E s1 := by
    unfold DflR at gd
    cases hdf : I.dfl with
    | none =>
      rw [hdf] at gd
      subst gd
      have hr0 : dflR I = [] := by unfold dflR; rw [hdf]
      rw [hr0] at hal
      have hal : as.length = (parN I).length := by simpa using hal
      have hul : ua.length = (parN I).length := by rw [← ra.length, dva.1, hal]
      refine ⟨va, ua, ra, by rw [dva.1, hal], ?_, fun Q E A hq => ?_⟩
      · rw [hr0, List.append_nil]
        refine ⟨by rw [List.length_map]; exact dva.1, fun j v r a b => ?_⟩
        rw [List.getElem?_map] at b
        cases y : as[j]? with
        | none => rw [y] at b; cases b
        | some d => rw [y] at b; cases b; exact Den.but cel (dva.2 j v d a y) (noLams_get hna y)
      · rw [SC.bind0 hdf L doc pm (.ref c') ct ua hul]
        exact wpAny_pure hq
    | some i =>
      rw [hdf] at gd
      obtain ⟨t, rfl, gt⟩ := gd
      have hr0 : dflR I = [.sh (.int i)] := by unfold dflR; rw [hdf]
      obtain ⟨one, b0⟩ := SC.bind1 i hdf
      have has : as = [] := by
        rw [hr0, one] at hal
        have : as.length = 0 := by simpa using hal
        exact List.eq_nil_of_length_eq_zero this
      subst has
      have hva : va = [] := dva.nil_inv
      subst hva
      have hua : ua = [] := by
        have := ra.length
        exact List.eq_nil_of_length_eq_zero (by simpa using this.symm)
      subst hua
      obtain ⟨_, its, rv, ob, ho, hcl, nn, hdt⟩ := (show ObjOk X.prog X.w H1 s1.heap t (.tup [.int i]) from I1.hok t _ (S.gh.on _ _ gt nofun))
      cases rv with
      | @cons _ u _ us' ru rn =>
      cases rn
      obtain ⟨k, b1, b2⟩ := b0 L t doc pm (.ref c') ct u
      refine ⟨[.int i], [u], .cons ru .nil, one.symm, by rw [hr0]; exact .cons (Den.int i) .nil, fun Q E A hq => ?_⟩
      rw [b1]
      refine wpAny_bind (wpAny_seqItems ho hdt ?_)
      rw [show k (some [u].toArray) = pure ((parN I).zip [u]) from b2]
      exact wpAny_pure hq
  obtain ⟨ws, us, rws, hwl, vws, hbind⟩ := hdv
  have vwsAll : Views X.K X.mg (But (CC I L) G) (But (CC I L) H1) (vs ++ ws) (ds.map .sh ++ (as.map .sh ++ dflR I)) := by
    refine ⟨by rw [List.length_append, List.length_append, List.length_map, hlen, vws.1], fun j v r a b => ?_⟩
    by_cases hj : j < vs.length
    · rw [List.getElem?_append_left hj] at a
      rw [List.getElem?_append_left (by rw [List.length_map, ← hlen]; exact hj), List.getElem?_map] at b
      cases y : ds[j]? with
      | none => rw [y] at b; cases b
      | some d => rw [y] at b; cases b; exact Den.but cel (hden j v d a y) (noLams_get hnl y)
    · rw [List.getElem?_append_right (by omega)] at a
      rw [List.getElem?_append_right (by rw [List.length_map, ← hlen]; omega), List.length_map, ← hlen] at b
      exact vws.2 _ v r a b
  rw [← List.append_assoc, ← List.map_append] at vwsAll
  have hsh : ∀ r ∈ (ds ++ as).map RV.sh ++ dflR I, r.own = false := fun r hr => by
    rcases List.mem_append.mp hr with h | h
    · obtain ⟨d, _, rfl⟩ := List.mem_map.mp h; rfl
    · unfold dflR at h
      split at h
      · cases h
      · obtain rfl := List.mem_singleton.mp h; rfl
  have hNl : (vs ++ ws).length = (fre I ++ parN I).length := by rw [List.length_append, List.length_append, hlv, hwl]
  have gh2 : GH X.K (But (CC I L) G) (But (CC I L) H1) := ⟨S.gh.but, S.fh.tb.but I1.hok S.gh hC⟩
  have S0 := start_rel (N := lamN I) gh2 vwsAll (fun i j r r' a h1 h2 o1 => by rw [hsh r (List.mem_of_getElem? h1)] at o1; cases o1) (by rw [hNl, List.length_append (bs := I.loc)]; exact Nat.le_add_right _ _)
  rw [pins_sh hsh] at S0
  have nfr : ∀ c, CC I L c → c ∉ frs X.stack := fun c hc hm => by
    have := I1.stkFree c hm
    obtain ⟨o, q, _⟩ := celH c hc
    rw [this] at q; cases q
  have rc : codeAny (model X.prog X.w) X.A (.call (.ref f) ⟨ua, []⟩) (CR (L2.CX X.prog X.w) X.stack X.prog X.w H1 s1 Q (WE W σ)) s1 := by
    refine zla_callFun (qn := qn) hr.depth of1 rfl SC.co SC.gen ⟨c', oc, cvs, t, rfl, hoc, hdc, hvc⟩ (hbind _ _ _ ?_)
    refine wpAny_newFunctionEnv_mix SC.kind (fun y hy => ?_) fun env' he sb xC => ?_
    · rcases SC.par _ (List.of_mem_zip hy).1 with k | k
      · exact .inl k
      · exact .inr ⟨k, PySem.W.cellsFrom_some _ _ _ (.inl k)⟩
    subst he
    refine ⟨I1.nolimit.keeps xC.toInCall.keep, ?_⟩
    show codeAny _ _ (bodyCode I.body (lamEnvC qn I L f c' s1.heap.objs.size)) _ _
    have hk1 : ∀ c, CC I L c → ∃ ob, H1 c = some (cellO c ob) ∧ s1.heap.get? c = some ob := fun c ⟨x, hx⟩ => by
      obtain ⟨j, v, o, u, k1, k2, k3, k4, k5⟩ := LR.all hlv hx
      exact ⟨o, S.gh.on _ _ k3 nofun, (show ObjOk X.prog X.w H1 s1.heap c (cellO c o) from I1.hok c _ (S.gh.on _ _ k3 nofun)).1⟩
    -- what is wished of an exception within
    obtain ⟨E2, hE2⟩ : ∃ E2 : XK, ∀ cls d H', E2 cls d H' ↔ ∃ (x : Exn) (fr : List RV), m ((ds ++ as).map RV.sh ++ dflR I) = .err x fr ∧ ∃ G' σ' e, Ex (But (CC I L) G) G' ∧ XR X.K X.mg G' cls d x ∧ SRel X.K X.mg (foreign (But (CC I L) G) (But (CC I L) H1) (vs ++ ws) ((ds ++ as).map RV.sh ++ dflR I)) [] G' H' σ' e [] := ⟨_, fun _ _ _ => Iff.rfl⟩
    have J : Inv (lamC X.prog X.w X.K X.mg X.base qn I L f c' X.A X.stack s1 (But (CC I L) H1) E2) [] (L2.start (lamN I) (vs ++ ws)) (But (CC I L) H1) sb :=
      lam_start SC hr.hd e0 hlv hwl rws np hcells nf xC
    refine hbody qn L f c' X.A X.stack s1 (But (CC I L) H1) E2 _ _ _ _ _ _ (hr.deeper _) J S0 ?_ fun e s'' h => ?_
    · cases y : m ((ds ++ as).map RV.sh ++ dflR I) with
      | stk => rw [y] at q; exact q.elim
      | err x fr => exact fun cls d σ' e G' H' ex hx S' => (hE2 cls d H').mpr ⟨x, fr, y, G', σ', e, ex, hx, S'⟩
      | ok r fr =>
        rw [y] at q
        intro w' σ' e G' H' ex vw' S' u s' σ2 J' rv
        have hn : ∀ c, CC I L c → H' c = none := fun c ⟨x, hx⟩ => J'.freeC x c (mix_clo SC hx)
        have B := lam_back hsh gh hC hn ex S'
        refine ⟨w', Plus (CC I L) H1 H', J'.os, J'.bare, lam_un celH J'.base, lam_hok hn (fun c hc => ?_) J'.hok, rv, ?_⟩
        · obtain ⟨o, k1, k2⟩ := hk1 c hc
          exact ⟨o, k1, J'.base.keep c o k2 (but_in hc) (nfr c hc) (by simp [lamC])⟩
        · have ne : ∀ {b : Addr} {o : HO}, H' b = some o → ¬ CC I L b := fun {b o} h z => by rw [hn b z] at h; cases h
          have exP : Ex G' (Plus (CC I L) G G') := fun b o h => by rw [plus_out (have ⟨_, k⟩ := S'.gh.some h; ne k)]; exact h
          have vw2 : View X.K X.mg (Plus (CC I L) G G') (Plus (CC I L) H1 H') w' r := vw'.keep exP fun a o ev hr h1 h2 => by
            rw [plus_out (ne h1), plus_out (ne h1)]; exact ⟨h1, h2⟩
          refine q w' _ _ B.ex vw2 ?_
          have tmp : TmpOk H1 [] [] [] w' r := fun a ma => by
            obtain ⟨t1, t2, o, t3⟩ := S'.tmp a ma
            have nz := ne t3
            refine ⟨.inl ?_, fun ⟨j, _, h, _⟩ => by simp at h⟩
            cases y2 : H1 a with
            | none => rfl
            | some o2 =>
              have : OwnAt (vs ++ ws) ((ds ++ as).map RV.sh ++ dflR I) a := foreign_none t1 (by rw [but_out nz, y2]; simp) (by
                cases y3 : But (CC I L) G a with
                | none => rfl
                | some o3 => rw [ex _ _ y3] at t2; cases t2)
              exact absurd this (ownAt_sh hsh)
          exact S.back (os := []) (vs := []) (rs := []) (rs' := []) .nil rfl rfl B vw2 tmp
    · -- it raises
      refine lam_cx hk1 nfr h fun cls d H' hn he => ?_
      obtain ⟨x, fr, y, G', σ', e3, ex, hx, S'⟩ := (hE2 cls d H').mp he
      rw [y] at q
      have B := lam_back hsh gh hC hn ex S'
      have ne : ∀ {b : Addr} {o : HO}, H' b = some o → ¬ CC I L b := fun {b o} h z => by rw [hn b z] at h; cases h
      have exP : Ex G' (Plus (CC I L) G G') := fun b o h => by rw [plus_out (have ⟨_, k⟩ := S'.gh.some h; ne k)]; exact h
      obtain ⟨C0, dd, gs, k1, k2, k3, k4, k5⟩ := hx
      have tmp : TmpOk H1 [] [] [] .non (.sh .non) := fun a m => by cases m
      exact q cls d _ _ B.ex ⟨C0, dd, gs, k1, k2, k3, exP _ _ k4, k5.mono exP⟩ (S.back (os := []) (vs := []) (rs := []) (rs' := []) .nil rfl rfl B (v := .non) (r := .sh .non) Den.non tmp)
  refine wpAny_call (codeAny_mono rc fun r s' hq => ?_)
  cases r with
  | error e => exact passAt tk σ pins _ _ _ _ I1 hq
  | ok fl =>
    cases fl with
    | ret u => exact I1.after hq
    | next => exact False.elim hq
    | brk => exact False.elim hq
    | cont => exact False.elim hq
/-- x(e, ..) where x holds a made function -/
theorem qv_lcall {lt : LamT} {kk i : Nat} {a : Str} {p1 p2 : Pos} (LO : LamOk X.prog X.w X.K X.mg X.base kk lt) (tk : Takes X W) (hr : Room (kk + 1) X.A) (hN : X.N[i]? = some a) (hv : Vis X.env.scope a) (hd : (a == ("__debug__" : Str)) = false) (hcd : (a == ("__classdict__" : Str)) = false) :
    QV X W pn (.Call (.Name a p1) [] [] p2) (lcallM lt i nilO) := fun Fh P hp => ⟨fun pins s σ H Q Iv ⟨G, env, S, q⟩ => by
  unfold lcallM at q
  cases z : slotOf env i with
  | none => simp only [z] at q; exact q.elim
  | some rv =>
  cases rv with
  | ol _ => simp only [z] at q; exact q.elim
  | od _ => simp only [z] at q; exact q.elim
  | st _ => simp only [z] at q; exact q.elim
  | oo _ _ => simp only [z] at q; exact q.elim
  | sh d =>
  cases d with
  | lam k I L ds =>
    simp only [z, nilO, dsOf] at q
    obtain ⟨v, hsv, vw⟩ := S.sval z
    have vw : Den X.K X.mg G v (.lam k I L ds) := vw
    obtain ⟨f, rfl⟩ : ∃ f, v = .ref f := by cases vw; exact ⟨_, rfl⟩
    refine wpAny_Call_Name_kw (thn ((pe_var (pos := p1) (i := i) hN hv hd hcd).run pins s σ H (fun v H1 => v = .ref f ∧ H1 = H) Iv ⟨.ref f, hsv, rfl, rfl⟩) fun u s1 ⟨v, H1, I1, r1, e1, e2⟩ => ?_)
    subst e1; subst e2
    obtain rfl : u = Value.ref f := r1
    have fnat : PySem.W.FnAt f s1.heap := by
      cases vw with
      | lam LR _ _ =>
        obtain ⟨doc, pm, ct, dV, c', qn, gf, _⟩ := LR.fn
        exact ⟨_, _, _, _, (show ObjOk X.prog X.w H1 s1.heap f (lamO f I L doc pm ct dV c') from I1.hok f _ (S.gh.on _ _ gf nofun)).1⟩
    exact PySem.W.callWith_F0 fnat (lam_call LO tk hr I1 S vw .nil .nil q)
  | _ => simp only [z] at q; exact q.elim⟩
end
end Z
namespace Z
open PySem PySem.Spec PyProof.Rows L2
def capD (env : DEnv) : List Nat → Option (List D)
  | [] => some []
  | j :: js => match slotOf env j, capD env js with
    | some (.sh d), some ds => some (d :: ds)
    | _, _ => none
abbrev CapT := Nat → LamI → Option (List Nat)
def cv0 (L : Nat) (cap : CapT) (env : DEnv) (k : Nat) (I : LamI) : D := match cap k I with
  | some js => (match capD env js with
    | some ds => .lam k I L ds
    | none => .lam k I L [])
  | none => .lam k I L []
def cv1 (L : Nat) (cap : CapT) (env : DEnv) : D → D
  | .lam k I L' [] => if L' = L then cv0 L cap env k I else .lam k I L' []
  | d => d
def cvD (L : Nat) (cap : CapT) (env : DEnv) : D → D
  | .lst ds => .lst (ds.map (cv1 L cap env))
  | d => cv1 L cap env d
def lendM (L : Nat) (cap : CapT) (f : FnD) (m : M (List Opd)) : M RV := bindM m fun os env => match dsOf os env with
  | .ok ds e => (match f ((ds.map (cvD L cap e)).map .sh) with
    | .ok r _ => if noLamR r = true then .ok r e else .stk
    | .err x _ => if noLamF x.fs = true then .err x e else .stk
    | .stk => .stk)
  | .err x e => .err x e
  | .stk => .stk
theorem capD_get : ∀ {env : DEnv} {js : List Nat} {ds : List D}, capD env js = some ds → ds.length = js.length ∧ ∀ (n j : Nat) (d : D), js[n]? = some j → ds[n]? = some d → env[j]? = some (some (.sh d))
  | env, [], ds, h => by cases h; exact ⟨rfl, fun n j d a => by simp at a⟩
  | env, j :: js, ds, h => by
    unfold capD at h
    split at h
    · rename_i d ds' h1 h2
      cases h
      obtain ⟨k1, k2⟩ := capD_get h2
      refine ⟨by simp [k1], fun n j' d' a b => ?_⟩
      cases n with
      | zero => simp at a b; subst a; subst b; exact slotOf_some h1
      | succ n => exact k2 n j' d' (by simpa using a) (by simpa using b)
    · cases h
/-- how the lambdas' captured names lie in the frame -/
def CapOk (X : Cx) (cap : CapT) : Prop := ∀ k I js, cap k I = some js → I.pnames = X.env.scope.names ∧ js.length = (fre I).length ∧ ∀ (n j : Nat) (x : Str), js[n]? = some j → (fre I)[n]? = some x → X.N[j]? = some x ∧ X.env.scope.names.lookup x = some .cell
theorem clo_lookup {I : LamI} {L : Addr} {x : Str} {c : Addr} (h : (x, NameKind.free) ∈ I.scope.names) (e : (cellsFrom (L + 1) I.pnames []).lookup x = some c) : (cloOf I L).lookup x = some c := by
  obtain ⟨c', h'⟩ := clo_has (L := L) h
  obtain ⟨_, e'⟩ := clo_mem h'
  rw [e] at e'
  rw [h', e']; rfl
theorem list_choose {α : Type} {R : Nat → α → Prop} : ∀ {n : Nat}, (∀ i, i < n → ∃ a, R i a) → ∃ l : List α, l.length = n ∧ ∀ (i : Nat) (a : α), l[i]? = some a → R i a
  | 0, _ => ⟨[], rfl, fun i a h => by simp at h⟩
  | n + 1, h => by
    obtain ⟨l, h1, h2⟩ := list_choose (n := n) fun i hi => h i (Nat.lt_succ_of_lt hi)
    obtain ⟨a, ha⟩ := h n (Nat.lt_succ_self n)
    refine ⟨l ++ [a], by simp [h1], fun i b hb => ?_⟩
    by_cases hi : i < l.length
    · rw [List.getElem?_append_left hi] at hb; exact h2 i b hb
    · rw [List.getElem?_append_right (by omega)] at hb
      by_cases e : i = l.length
      · subst e; simp at hb; subst hb; rw [h1]; exact ha
      · rw [List.getElem?_eq_none (by simp; omega)] at hb; cases hb
section
variable {X : Cx} {W : WX} {pn : List Nat}
theorem lend_cx {P : Program} {w : World} {C : Addr → Prop} {Z : Hp} {outer : List Env} {H : Hp} {s s' : Shared} {E E' : XK} {u : Value} (hZC : ∀ c, C c → ∃ ob, Z c = some (cellO c ob) ∧ s.heap.get? c = some ob) (hH : ∀ c, C c → H c = none)
    (h : L2.CX P w outer (Plus C Z H) s E u s') (hE : ∀ cls d H' B, HOk P w H' B → E cls d H' → (∀ c, C c → ∃ ob, H' c = some (cellO c ob) ∧ s.heap.get? c = some ob) ∧ E' cls d (But C H')) : L2.CX P w outer H s E' u s' := by
  obtain ⟨a, B, H', cls, d, rfl, fl, ok, ub, na, os, ag, he⟩ := h
  obtain ⟨hk, he⟩ := hE cls d H' B ok he
  have cel : Cells C H' := fun c hc => (hk c hc).imp fun o q => ⟨q.1, get_nf q.2⟩
  have nH : ∀ {b : Addr} {o : HO}, H b = some o → ¬ C b := fun {b o} h z => by rw [hH b z] at h; cases h
  have keepC : ∀ c, C c → ∀ o, s.heap.get? c = some o → B.get? c = some o := fun c hc o ho => by
    obtain ⟨ob, k1, k3⟩ := hk c hc
    rw [ho] at k3; cases k3
    exact (show ObjOk P w H' B c (cellO c o) from ok c _ k1).1
  refine ⟨a, B, But C H', cls, d, rfl, fl, fun b o e0 => (ok b o (but_some e0).2).stay (fun _ _ _ q => q) (fun c q => by rw [but_out (cel.out q (.of nofun))]; exact q) (fun c xs q => by rw [but_out (cel.out q (.of nofun))]; exact q), ⟨fun b o e0 n0 hb0 => ?_, ub.slot, fun b o e0 n0 => ?_, ub.there, fun b xs q0 => ?_, fun b o u q0 => ?_, fun b qs q0 => ?_⟩, ?_, os, ag, he⟩
  · by_cases hc : C b
    · exact keepC b hc o e0
    · exact ub.keep b o e0 (by rw [plus_out hc]; exact n0) hb0
  · by_cases hc : C b
    · exact but_in hc
    · rw [but_out hc]; exact ub.free b o e0 (by rw [plus_out hc]; exact n0)
  · rw [but_out (nH q0)]; exact ub.tups b xs (by rw [plus_out (nH q0)]; exact q0)
  · rw [but_out (nH q0)]; exact ub.frzs b o u (by rw [plus_out (nH q0)]; exact q0)
  · rw [but_out (nH q0)]; exact ub.tbls b qs (by rw [plus_out (nH q0)]; exact q0)
  · by_cases hc : C a
    · exact but_in hc
    · rw [but_out hc]; exact na
theorem qv_lend {k n : Nat} {L : Nat} {cap : CapT} {f : Addr} {fd : FuncData} {ps : List Str} {x : Str} {p pos : Pos} {e : Expr} {es : List Expr} {fD : FnD} {m : M (List Opd)} (F : FnOk X.prog X.w X.K X.mg X.base (L2.CX X.prog X.w) k f fd ps (spOf X.K X.mg n fD)) (tk : Takes X W) (hr : Room k X.A) (hg : Gl X x) (hm : X.mg x = some (.ref f))
    (hk : PySem.W.keepIn X.K (.ref f) = true) (hb : Binds X.K fd ps []) (ha : QOs X W pn (e :: es) m) (hn : ∀ env os e', m env = .ok os e' → os.length = n) (hcl : X.env.cells = cellsFrom (L + 1) X.env.scope.names []) (hfn : ∀ y, X.fn y = true) (hcap : CapOk X cap) (hdb : (x == ("__debug__" : Str)) = false)
    (he : starEach (e :: es) X.env = (false, eval e X.env) :: starEach es X.env) (hpl : (backTo pos (starEach es X.env)).any (·.1) = false) :
    QV X W pn (.Call (.Name x p) (e :: es) [] pos) (lendM L cap fD m) := fun Fh P hp => ⟨fun pins s σ H Q I ⟨G, env, S, q⟩ => by
  refine wpAny_Call_Name_kw (ld_glob I hg hm ?_ hdb)
  unfold lendM bindM at q
  refine PySem.W.callWith_K (h₀ := X.base) I.ok.mod.kin hk (thn ((ha Fh P hp).run pos pins s σ H (fun vs H1 => ∃ os e1 G1, m env = .ok os e1 ∧ Ex G G1 ∧ OpdRs X.K X.mg G1 σ vs os ∧ SRel X.K X.mg Fh P G1 H1 σ e1 []) I ⟨G, env, S, ?_⟩) fun us s1 ⟨vs, H1, I1, r, os, e1, G1, hme, x1, w1, S1⟩ => ⟨I1.kIn, ?_⟩) he hpl
  · cases z : m env with
    | ok os e1 => exact fun vs G1 H1 ex w S1 => ⟨os, e1, G1, rfl, ex, w, S1⟩
    | err x e1 => simp only [z] at q; exact q
    | stk => simp only [z] at q; exact q
  simp only [hme] at q
  cases z : dsOf os e1 with
  | err y e2 => exact (dsOf_noerr z).elim
  | stk => simp only [z] at q; exact q.elim
  | ok ds e2 =>
  simp only [z] at q
  obtain ⟨G2, x2, d2, S2⟩ := S1.dsOf w1 z
  obtain ⟨C, hCd⟩ : ∃ C : Addr → Prop, ∀ b, C b ↔ ∃ y, X.env.cells.lookup y = some b := ⟨fun b => ∃ y, X.env.cells.lookup y = some b, fun _ => Iff.rfl⟩
  obtain ⟨Z, hZ⟩ : ∃ Z : Hp, ∀ b, Z b = (s1.heap.get? b).map (cellO b) := ⟨_, fun _ => rfl⟩
  have hZC : ∀ c, C c → ∃ ob, Z c = some (cellO c ob) ∧ s1.heap.get? c = some ob ∧ ∃ v, ob.data = .cell v := fun c hc => by
    obtain ⟨y, hy⟩ := (hCd c).mp hc
    obtain ⟨v, o, ho, hd⟩ := I1.cell y c hy
    exact ⟨o, by rw [hZ, ho]; rfl, ho, v, hd⟩
  have hH : ∀ c, C c → H1 c = none := fun c hc => by
    obtain ⟨y, hy⟩ := (hCd c).mp hc
    exact I1.freeC y c hy
  have hG : ∀ c, C c → G2 c = none := fun c hc => S2.gh.none (hH c hc)
  have nG : ∀ {b : Addr} {o : HO}, G2 b = some o → ¬ C b := fun {b o} h z => by rw [hG b z] at h; cases h
  have nH : ∀ {b : Addr} {o : HO}, H1 b = some o → ¬ C b := fun {b o} h z => by rw [hH b z] at h; cases h
  have xG : Ex G2 (Plus C Z G2) := fun b o h => by rw [plus_out (nG h)]; exact h
  have nCm : ∀ {b : Addr} {ps : Array Value}, Plus C Z G2 b = some (.tbl ps) → ¬ C b := fun {b ps} h y => by
    rw [plus_in y] at h
    obtain ⟨ob, k1, _⟩ := hZC b y
    rw [k1] at h; cases h
  have pGm : ∀ {b : Addr} {ps : Array Value}, Plus C Z G2 b = some (.tbl ps) → G2 b = some (.tbl ps) := fun {b ps} h => by
    rw [plus_out (nCm h)] at h; exact h
  have xGH : Gh (Plus C Z G2) (Plus C Z H1) := ⟨fun b o h n => by
    by_cases y : C b
    · rw [plus_in y] at h ⊢; exact h
    · rw [plus_out y] at h ⊢; exact S2.gh.on _ _ h n, fun b ps h => by
    rw [plus_out (nCm h)]; exact S2.gh.mks b ps (pGm h)⟩
  have hC3 : ∀ c, C c → ∃ ob, Plus C Z G2 c = some (cellO c ob) ∧ ∃ v, ob.data = .cell v := fun c hc => by
    obtain ⟨ob, k1, _, k3⟩ := hZC c hc
    exact ⟨ob, by rw [plus_in hc]; exact k1, k3⟩
  have hok3 : HOk X.prog X.w (Plus C Z H1) s1.heap := lam_hok hH (fun c hc => by obtain ⟨ob, k1, k2, _⟩ := hZC c hc; exact ⟨ob, k1, k2⟩) I1.hok
  have tb3 : TabInv X.K (Plus C Z G2) (Plus C Z H1) := ⟨fun a b ps e1 e2 => S2.fh.tb.uq a b ps (pGm e1) (pGm e2), fun t m => (S2.fh.tb.pres t m).imp fun ps z => (plus_out fun y => by rw [hH _ y] at z; cases z).trans z, fun P' qs h => by
      have y : ¬ C P' := fun y => by
        rw [plus_in y] at h
        obtain ⟨ob, k1, _⟩ := hZC P' y
        rw [k1] at h; cases h
      rw [plus_out y] at h
      obtain ⟨t1, t2⟩ := S2.fh.tb.on _ _ h
      exact ⟨t1, fun ps cv hcv => by obtain ⟨c, q', z1, z2⟩ := t2 ps cv hcv; exact ⟨c, q', z1, xG _ _ z2⟩⟩⟩
  have cab : ∀ c, C c → X.s_0.heap.objs.size ≤ c := fun c hc => by
    obtain ⟨y, hy⟩ := (hCd c).mp hc
    exact I1.ok.cab y c (hfn y) hy
  have nfr : ∀ c, C c → c ∉ frs X.stack := fun c hc hmm => by
    obtain ⟨y, hy⟩ := (hCd c).mp hc
    rcases List.mem_cons.mp (I1.stkSub c hmm) with e' | e'
    · exact I1.cne y c hy e'
    · obtain ⟨_, o, ho, _⟩ := I1.ok.funs.mem e'
      exact absurd (Nat.lt_of_lt_of_le (Heap.lt_size ho) (cab c hc)) (Nat.lt_irrefl _)
  have e03 : Env0 X.prog X.w X.K X.mg X.base X.A X.stack s1 (Plus C Z H1) := by
    have e0 := I1.env0
    refine ⟨e0.frames, e0.mod, fun b o hbo => ⟨(e0.bs b o hbo).1, ?_⟩, e0.bsz, e0.funs, fun b hbb => ?_, hok3, e0.bare⟩
    · have y : ¬ C b := fun y => absurd (Nat.lt_of_lt_of_le (Heap.lt_size hbo) (Nat.le_trans I1.ok.bsz (cab b y))) (Nat.lt_irrefl _)
      rw [plus_out y]; exact (e0.bs b o hbo).2
    · rw [plus_out (fun y => nfr b y hbb)]; exact e0.frf b hbb
  -- the lambdas, with what they caught
  have den0 : ∀ {v : V} {k : Nat} {J : LamI}, Den X.K X.mg G2 v (.lam k J L []) → Den X.K X.mg (Plus C Z G2) v (cv0 L cap e2 k J) := fun {v k J} h => by
    unfold cv0
    cases y1 : cap k J with
    | none => exact h.mono xG
    | some js =>
      simp only
      cases y2 : capD e2 js with
      | none => exact h.mono xG
      | some cs =>
        obtain ⟨hpn, hjl, hjs⟩ := hcap k J js y1
        obtain ⟨k1, k2⟩ := capD_get y2
        cases h with
        | @lam f' _ _ _ vs' _ LR hlen hden =>
        -- the values
        have val : ∀ n, n < js.length → ∃ (v : V) (d : D) (y : Str) (c : Addr) (o : Obj) (u : Value), cs[n]? = some d ∧ Den X.K X.mg G2 v d ∧ (fre J)[n]? = some y ∧ (cloOf J L).lookup y = some c ∧ Plus C Z G2 c = some (cellO c o) ∧ o.data = .cell (some u) ∧ RelV v u := fun n hn' => by
          have hjn : js[n]? = some js[n] := by simp [hn']
          have hfn' : n < (fre J).length := by omega
          have hfx : (fre J)[n]? = some (fre J)[n] := by simp [hfn']
          have hcn : n < cs.length := by omega
          have hcx : cs[n]? = some cs[n] := by simp [hcn]
          obtain ⟨g1, g2⟩ := hjs n _ _ hjn hfx
          have hslot := k2 n _ _ hjn hcx
          obtain ⟨v, hv, w⟩ := S2.val _ _ hslot rfl
          obtain ⟨mm, hnn, hl⟩ := I1.loc
          obtain ⟨u, ru, look⟩ := hl _ _ v g1 hv (.inr (.inl g2))
          rcases look with ⟨kk, _⟩ | ⟨_, c, hc, o, ho, hdd⟩
          · have kk : X.env.scope.names.lookup (fre J)[n] = some .local := kk
            rw [g2] at kk; cases kk
          · refine ⟨v, cs[n], (fre J)[n], c, o, u, hcx, w, hfx, clo_lookup (fre_mem.mp (List.mem_of_getElem? hfx)) (by rw [hpn, ← hcl]; exact hc), ?_, hdd, ru⟩
            have hCc : C c := (hCd c).mpr ⟨_, hc⟩
            rw [plus_in hCc, hZ, ho]; rfl
        obtain ⟨ws, hws⟩ : ∃ ws : List V, ws.length = js.length ∧ ∀ n v, ws[n]? = some v → ∃ (d : D) (y : Str) (c : Addr) (o : Obj) (u : Value), cs[n]? = some d ∧ Den X.K X.mg G2 v d ∧ (fre J)[n]? = some y ∧ (cloOf J L).lookup y = some c ∧ Plus C Z G2 c = some (cellO c o) ∧ o.data = .cell (some u) ∧ RelV v u := by
          exact list_choose val
        refine .lam (vs := ws) ⟨?_, fun j v hv => ?_⟩ (by rw [hws.1, k1]) fun i v d a b => ?_
        · obtain ⟨doc, pm, ct, dV, c', q', a1, a2, a3⟩ := LR.fn
          exact ⟨doc, pm, ct, dV, c', q', xG _ _ a1, xG _ _ a2, a3.mono xG⟩
        · obtain ⟨d, y, c, o, u, _, _, b1, b2, b3, b4, b5⟩ := hws.2 j v hv
          exact ⟨y, c, o, u, b1, b2, b3, b4, b5⟩
        · obtain ⟨d', y, c, o, u, b1, b2, _⟩ := hws.2 i v a
          rw [b] at b1; cases b1
          exact b2.mono xG
  have den1 : ∀ {v : V} {d : D}, Den X.K X.mg G2 v d → Den X.K X.mg (Plus C Z G2) v (cv1 L cap e2 d) := fun {v d} h => by
    unfold cv1
    split
    · split
      · rename_i k J L' hL; subst hL; exact den0 h
      · exact h.mono xG
    · exact h.mono xG
  have denD : ∀ {v : V} {d : D}, Den X.K X.mg G2 v d → Den X.K X.mg (Plus C Z G2) v (cvD L cap e2 d) := fun {v d} h => by
    cases d with
    | lst ds' =>
      obtain ⟨a, xs, rfl, h1, h2⟩ := h.lst_inv
      refine .lst (xG _ _ h1) (by rw [List.length_map]; exact h2.1) fun i v d a b => ?_
      rw [List.getElem?_map] at b
      cases y : ds'[i]? with
      | none => rw [y] at b; cases b
      | some d0 => rw [y] at b; cases b; exact den1 (h2.2 i v d0 a y)
    | _ => exact den1 h
  have vw3 : Views X.K X.mg (Plus C Z G2) (Plus C Z H1) vs ((ds.map (cvD L cap e2)).map .sh) := ⟨by rw [List.length_map, List.length_map]; exact d2.1, fun i v r a b => by
    rw [List.getElem?_map, List.getElem?_map] at b
    cases y : ds[i]? with
    | none => rw [y] at b; cases b
    | some d0 => rw [y] at b; cases b; exact denD (d2.2 i v d0 a y)⟩
  have hsh : ∀ r ∈ (ds.map (cvD L cap e2)).map RV.sh, r.own = false := fun r hr => by obtain ⟨d, _, rfl⟩ := List.mem_map.mp hr; rfl
  have hvl : vs.length = n := by rw [w1.1]; exact hn env os e1 hme
  obtain ⟨E3, hE3⟩ : ∃ E3 : XK, ∀ cls d H4, E3 cls d H4 ↔ ∃ x rs' G4, fD ((ds.map (cvD L cap e2)).map .sh) = .err x rs' ∧ Back X.K X.mg (Plus C Z G2) (Plus C Z H1) vs ((ds.map (cvD L cap e2)).map .sh) G4 H4 rs' ∧ XR X.K X.mg G4 cls d x := ⟨_, fun _ _ _ => Iff.rfl⟩
  have hsp : spOf X.K X.mg n fD vs (Plus C Z H1) (fun v H4 => ∃ rv rs' G4, fD ((ds.map (cvD L cap e2)).map .sh) = .ok rv rs' ∧ Back X.K X.mg (Plus C Z G2) (Plus C Z H1) vs ((ds.map (cvD L cap e2)).map .sh) G4 H4 rs' ∧ View X.K X.mg G4 H4 v rv ∧ TmpOk (Plus C Z H1) vs ((ds.map (cvD L cap e2)).map .sh) rs' v rv) E3 := by
    refine ⟨Plus C Z G2, (ds.map (cvD L cap e2)).map .sh, ⟨xGH, tb3⟩, hvl, vw3, fun i j r r' a h1 h2 o1 => (by rw [hsh r (List.mem_of_getElem? h1)] at o1; cases o1), ?_⟩
    cases y : fD ((ds.map (cvD L cap e2)).map .sh) with
    | ok rv rs' => exact fun v G4 H4 B w t => ⟨rv, rs', G4, rfl, B, w, t⟩
    | err x rs' => exact fun cls d G4 H4 B hx => (hE3 cls d H4).mpr ⟨x, rs', G4, y, B, hx⟩
    | stk => simp only [y] at q; exact q.elim
  have hl : (us ++ []).length = ps.length := by rw [List.append_nil, ← r.length]; exact F.len _ _ _ _ hsp
  have b2 := hb s1 us I1.kIn hl
  rw [List.append_nil] at b2
  have mk5 : ∀ {G4 H4 : Hp} {rs' : List RV}, Back X.K X.mg (Plus C Z G2) (Plus C Z H1) vs ((ds.map (cvD L cap e2)).map .sh) G4 H4 rs' → (∀ c, C c → ∃ ob, G4 c = some (cellO c ob) ∧ (∃ v, ob.data = .cell v) ∧ s1.heap.get? c = some ob) := fun {G4 H4 rs'} B c hc => by
    obtain ⟨ob, k1, k2, k3⟩ := hZC c hc
    exact ⟨ob, B.ex _ _ (by rw [plus_in hc]; exact k1), k3, k2⟩
  have mkB : ∀ {G4 H4 : Hp} {rs' : List RV} {h : Heap}, HOk X.prog X.w H4 h → Back X.K X.mg (Plus C Z G2) (Plus C Z H1) vs ((ds.map (cvD L cap e2)).map .sh) G4 H4 rs' → Back X.K X.mg G2 H1 [] [] (But C G4) (But C H4) [] := fun {G4 H4 rs' h} hok4 B => by
    have x5 : Ex G2 (But C G4) := fun b o h => by rw [but_out (nG h)]; exact B.ex _ _ (xG _ _ h)
    refine ⟨x5, ⟨B.gh.1.but, B.gh.2.but hok4 B.gh.1 fun c hc => ?_⟩, fun b o h1 h2 _ => ?_, .nil, fun j r' h => by simp at h, fun a ps e => pGm (B.mkn a ps (but_some e).2), fun a ps e => by
      have na := nG e
      rw [but_out na, B.frk a ps (by rw [plus_out na]; exact e), plus_out na]⟩
    · obtain ⟨ob, k1, k2, _⟩ := mk5 B c hc
      exact ⟨ob, k1, k2⟩
    · have nb := nH h1
      obtain ⟨f1, f2⟩ := B.frm b o (by rw [plus_out nb]; exact h1) (by rw [plus_out nb]; exact h2) (ownAt_sh hsh)
      rw [but_out nb, but_out nb]; exact ⟨f1, f2⟩
  refine wpAny_call (codeAny_mono (F.run X.A X.stack s1 (Plus C Z H1) ⟨us, []⟩ us vs _ E3 hr e03 b2 r hsp) fun r' s' hq => ?_)
  cases r' with
  | error er =>
    refine passAt tk σ pins _ _ _ _ I1 (lend_cx (E' := WE W σ) (fun c hc => by obtain ⟨ob, k1, k2, _⟩ := hZC c hc; exact ⟨ob, k1, k2⟩) hH hq fun cls d H' B0 ok0 he => ?_)
    obtain ⟨x, rs', G4, y, B, hx⟩ := (hE3 cls d H').mp he
    simp only [y] at q
    by_cases hnl : noLamF x.fs = true
    · rw [if_pos hnl] at q
      have hC4 := mk5 B
      have cel4 : Cells C G4 := fun c hc => (hC4 c hc).imp fun o q => ⟨q.1, get_nf q.2.2⟩
      refine ⟨fun c hc => by obtain ⟨o, k, _, k3⟩ := hC4 c hc; exact ⟨o, B.gh.1.on _ _ k nofun, k3⟩, ?_⟩
      obtain ⟨C0, dd, gs, k1, k2, k3, k4, k5⟩ := hx
      have B5 := mkB ok0 B
      have tmp : TmpOk H1 [] [] [] .non (.sh .non) := fun a m => by cases m
      exact q cls d _ _ ((x1.trans x2).trans B5.ex) ⟨C0, dd, gs, k1, k2, k3, by rw [but_out (cel4.out k4 (.of nofun))]; exact k4, ⟨k5.1, fun i p q' a b => (k5.2 i p q' a b).but cel4 (noLamF_get hnl b)⟩⟩ (S2.back (os := []) (vs := []) (rs := []) (rs' := []) .nil rfl rfl B5 (v := .non) (r := .sh .non) Den.non tmp)
    · rw [if_neg hnl] at q; exact q.elim
  | ok fl =>
    cases fl with
    | next => exact False.elim hq
    | brk => exact False.elim hq
    | cont => exact False.elim hq
    | ret u =>
      obtain ⟨v, H4, os4, bare4, un4, hok4, rv4, rv, rs', G4, y, B, w4, t4⟩ := hq
      simp only [y] at q
      by_cases hnl : noLamR rv = true
      · rw [if_pos hnl] at q
        have hC4 : ∀ c, C c → ∃ ob, G4 c = some (cellO c ob) ∧ (∃ v, ob.data = .cell v) ∧ s1.heap.get? c = some ob := fun c hc => by
          obtain ⟨ob, k1, k2, k3⟩ := hZC c hc
          exact ⟨ob, B.ex _ _ (by rw [plus_in hc]; exact k1), k3, k2⟩
        have cel4 : Cells C G4 := fun c hc => (hC4 c hc).imp fun o q => ⟨q.1, get_nf q.2.2⟩
        have cel4H : Cells C H4 := fun c hc => by obtain ⟨o, k, _, k3⟩ := hC4 c hc; exact ⟨o, B.gh.1.on _ _ k nofun, get_nf k3⟩
        have keepC : ∀ c, C c → ∀ o, s1.heap.get? c = some o → s'.heap.get? c = some o := fun c hc o ho => by
          obtain ⟨ob, k1, _, k3⟩ := hC4 c hc
          rw [ho] at k3; cases k3
          exact (show ObjOk X.prog X.w H4 s'.heap c (cellO c o) from hok4 c _ (B.gh.1.on _ _ k1 nofun)).1
        have un5 : Un (frs X.stack) [] H1 (But C H4) s1.heap s'.heap := by
          refine ⟨fun b o e0 n0 hb0 hx => ?_, fun b o e0 n0 hb0 hx => ?_, fun b o e0 n0 hx => ?_, un4.there, fun b xs q0 => ?_, fun b o u q0 => ?_, fun b qs q0 => ?_⟩
          · by_cases hc : C b
            · exact keepC b hc o e0
            · exact un4.keep b o e0 (by rw [plus_out hc]; exact n0) hb0 hx
          · exact un4.slot b o e0 (by rw [plus_out (fun hc => nfr b hc hb0)]; exact n0) hb0 hx
          · by_cases hc : C b
            · exact but_in hc
            · rw [but_out hc]; exact un4.free b o e0 (by rw [plus_out hc]; exact n0) hx
          · rw [but_out (nH q0)]; exact un4.tups b xs (by rw [plus_out (nH q0)]; exact q0)
          · rw [but_out (nH q0)]; exact un4.frzs b o u (by rw [plus_out (nH q0)]; exact q0)
          · rw [but_out (nH q0)]; exact un4.tbls b qs (by rw [plus_out (nH q0)]; exact q0)
        have hok5 : HOk X.prog X.w (But C H4) s'.heap := fun b o e0 => (hok4 b o (but_some e0).2).stay (fun _ _ _ q => q) (fun c q => by rw [but_out (cel4H.out q (.of nofun))]; exact q) (fun c xs q => by rw [but_out (cel4H.out q (.of nofun))]; exact q)
        have I5 : Inv X pins σ (But C H4) s' := I1.call' (ch := []) os4 un5 hok5 bare4 (fun b z => absurd z (by simp))
        have vw5 := w4.but cel4 B.gh.1 hnl
        have B5 := mkB hok4 B
        have x5 := B5.ex
        have tmp5 : TmpOk H1 [] [] [] v rv := fun a ma => by
          obtain ⟨t1, t2⟩ := t4 a ma
          refine ⟨.inl ?_, fun ⟨j, _, h, _⟩ => by simp at h⟩
          have h3 := t1.resolve_right (ownAt_sh hsh)
          by_cases hc : C a
          · exact hH a hc
          · rw [plus_out hc] at h3; exact h3
        exact ⟨v, But C H4, I5, rv4, q v _ _ ((x1.trans x2).trans x5) vw5 (S2.back (os := []) (vs := []) (rs := []) (rs' := []) .nil rfl rfl B5 vw5 tmp5)⟩
      · rw [if_neg hnl] at q; exact q.elim⟩
end
end Z
namespace Z
open PySem PySem.Spec PyProof.Rows L2
end Z
namespace Z
open PySem PySem.Spec PyProof.Rows L2
section
variable {X : Cx} {W : WX} {pn : List Nat} {pos : Pos} {K : PySem.W.Frag} {mg : Str → Option Value}
theorem DenL.back {G : Hp} {xs : List V} {ds : List D} (h : DenL K mg G xs ds) : DenL K mg G xs.reverse ds.reverse := by
  refine ⟨by rw [List.length_reverse, List.length_reverse, h.1], fun i v d a b => ?_⟩
  have hi : i < xs.reverse.length := (List.getElem?_eq_some_iff.mp a).1
  rw [List.length_reverse] at hi
  rw [List.getElem?_reverse hi] at a
  rw [List.getElem?_reverse (by rw [← h.1]; exact hi), ← h.1] at b
  exact h.2 _ v d a b
end
theorem mulT_one (l : Addr) (items : Array Value) (n : Nat) (dd : Option Addr) (sl : Array (Option Value)) (u : Tok) :
    Meets (Builtin.«tuple.__mul__» ⟨[.ref l, .int 1 u], []⟩) (fun _ R s => s.heap.get? l = some { cls := .type "tuple", dict := dd, data := .seq items n, slots := sl } ∧ R (.ok (.ret (Value.ref l))) s) :=
  .of_wp fun prog w A R s h => by
    obtain ⟨hp, g, d, tk, os⟩ := s
    obtain ⟨hl, h⟩ := h
    have f1 := AutoSeq1.idx_int
    have c1 : (items.isEmpty || (1 : Int) == 1) = true := by rw [show ((1 : Int) == 1) = true by decide, Bool.or_true]
    wp_walk using wpAny_loadPart' hl
    repeat (first
      | (refine wpAny_ite_false (decide_eq_false (by decide)) ?_; wp_walk using wpAny_loadPart' hl)
      | (refine wpAny_ite_true (decide_eq_true c1) ?_; wp_walk using wpAny_loadPart' hl)
      | (refine wpAny_ite_true (decide_eq_true (by decide)) ?_; wp_walk using wpAny_loadPart' hl))
    exact ⟨_, rfl, h⟩
theorem mulT_zero (l : Addr) (items : Array Value) (n : Nat) (dd : Option Addr) (sl : Array (Option Value)) (x : Int) (u : Tok) (c0 : (decide (x < -(2 ^ 63)) || decide (x ≥ 2 ^ 63)) = false) (c1 : (items.isEmpty || x == 1) = false) (c2 : (decide (x ≤ 0) || items.isEmpty) = true) :
    Meets (Builtin.«tuple.__mul__» ⟨[.ref l, .int x u], []⟩) (fun _ R s => s.heap.get? l = some { cls := .type "tuple", dict := dd, data := .seq items n, slots := sl } ∧
      R (.ok (.ret (Value.ref s.heap.objs.size))) { s with heap := s.heap.push { cls := Value.type "tuple", data := Data.seq #[] }, toks := s.toks }) :=
  .of_wp fun prog w A R s h => by
    obtain ⟨hp, g, d, tk, os⟩ := s
    obtain ⟨hl, h⟩ := h
    have f1 := AutoSeq1.idx_int
    wp_walk using wpAny_loadPart' hl
    repeat (first
      | (refine wpAny_ite_false (decide_eq_false (by rw [c0]; exact Bool.false_ne_true)) ?_; wp_walk using wpAny_loadPart' hl)
      | (refine wpAny_ite_false (decide_eq_false (by rw [c1]; exact Bool.false_ne_true)) ?_; wp_walk using wpAny_loadPart' hl)
      | (refine wpAny_ite_true (decide_eq_true c2) ?_; wp_walk using wpAny_loadPart' hl))
    exact ⟨_, rfl, h⟩
def rRepU (K : PySem.W.Frag) : R2 := fun x y H Q => ∃ l k xs, x = .ref l ∧ y = .int k ∧ SqT K H l xs ∧ xs ≠ [] ∧ -1000 ≤ k ∧ ((k = 1 ∧ Q (.ref l) H) ∨ (k ≤ 0 ∧ ∀ p, H p = none → Q (.ref p) (upd H p (.tup []))))
section
variable {X : Cx} {K : PySem.W.Frag} {mg : Str → Option Value}
theorem op_repU : OpR X (binaryOp .Mult) (rRepU X.K) := by
  intro pins s σ H x y v u Q I rx ry h
  obtain ⟨l, k, xs, rfl, rfl, hT, hne, h1, q⟩ := h
  cases rx
  obtain ⟨t, rfl⟩ := ry
  obtain ⟨its, r, ⟨⟨cls, dd, data, sl⟩, ho, hc, n, hd⟩, hs⟩ := I.tuple hT
  simp only at hc hd
  subst hc hd
  have wle : its.length = xs.length := r.length.symm
  have wn : its ≠ [] := fun e => hne (by
    rw [e] at wle
    exact List.eq_nil_of_length_eq_zero wle.symm)
  have wi : its.toArray.isEmpty = false := by
    cases its with
    | nil => exact absurd rfl wn
    | cons a b => rfl
  rcases q with ⟨rfl, q⟩ | ⟨h2, q⟩
  · exact wpAny_binaryOp_repeat_ref (T := "tuple") (U := "int") (by decide) ⟨_, ho, rfl⟩ (fun s' => typeIs_int s' 1 t) noFill_tuple_mul F.fills_int_mul F.slot_int_rmul repeat_tuple F.slot_int_index.lookup
      (call_meets F.slot_int_rmul (typeIs_int s 1 t) F.entry_int_rmul (F.args_int_rmul_2 _ _) (int_rmul_tuple 1 t l its.toArray n dd sl)
        ⟨ho, rfl, ⟨_, ho, rfl⟩, call_meets F.slot_tuple_mul ⟨_, ho, rfl⟩ F.entry_tuple_mul (F.args_tuple_mul_2 _ _) (mulT_one l its.toArray n dd sl t) ⟨ho, ⟨.ref l, H, I, rfl, q⟩⟩⟩)
  · have c0 : (decide (k < -(2 ^ 63)) || decide (k ≥ 2 ^ 63)) = false := by
      rw [decide_eq_false (by omega), decide_eq_false (by omega)] <;> rfl
    have c1 : (its.toArray.isEmpty || k == 1) = false := by
      rw [wi, Bool.false_or]
      exact beq_eq_false_iff_ne.mpr (by omega)
    have c2 : (decide (k ≤ 0) || its.toArray.isEmpty) = true := by rw [decide_eq_true h2]; rfl
    refine wpAny_binaryOp_repeat_ref (T := "tuple") (U := "int") (by decide) ⟨_, ho, rfl⟩ (fun s' => typeIs_int s' k t) noFill_tuple_mul F.fills_int_mul F.slot_int_rmul repeat_tuple F.slot_int_index.lookup
      (call_meets F.slot_int_rmul (typeIs_int s k t) F.entry_int_rmul (F.args_int_rmul_2 _ _) (int_rmul_tuple k t l its.toArray n dd sl)
        ⟨ho, rfl, ⟨_, ho, rfl⟩, call_meets F.slot_tuple_mul ⟨_, ho, rfl⟩ F.entry_tuple_mul (F.args_tuple_mul_2 _ _) (mulT_zero l its.toArray n dd sl k t c0 c1 c2) ⟨ho, ?_⟩⟩)
    refine ⟨.ref s.heap.objs.size, _, I.laid (t' := s.toks) (o := .tup []) (fun b ob q => Heap.get?_push_of_some _ q) (Nat.le_refl _) ?_, rfl, q _ (I.hok.fresh (Nat.le_refl _))⟩
    exact ⟨Nat.zero_le _, _, .nil, IsTup.new _ _⟩
def repU (a b : RV) : Option RV := match tupOf a, b with
  | some x, .sh (.int k) => if x ≠ [] ∧ -1000 ≤ k ∧ k ≤ 1 then (if k = 1 then some (.sh (.tup x)) else some (.sh (.tup []))) else none
  | _, _ => none
theorem s_repU : OpS K mg (rRepU K) repU := fun G H x y a b c Q ex va vb e k => by
  unfold repU at e
  split at e
  · rename_i ds n q1
    split at e
    · rename_i h
      obtain ⟨h0, h2, h3⟩ := h
      obtain ⟨p, xs, rfl, h1, l1⟩ := va.tup ex q1
      refine ⟨p, n, xs, rfl, Den.int_inv vb, h1, fun z => h0 (by subst z; have := l1.1; simpa using this.symm), h2, ?_⟩
      split at e
      · rename_i hn; cases e
        have ea : a = .sh (.tup ds) := by
          unfold tupOf at q1
          split at q1 <;> first | (cases q1; done) | skip
          cases q1; rfl
        subst ea
        exact .inl ⟨hn, k _ G H .same va⟩
      · rename_i hn; cases e
        refine .inr ⟨by omega, fun b hb => ?_⟩
        have st : Step G H (upd G b (.tup [])) (upd H b (.tup [])) [] := .shr hb
        exact k _ _ _ st (Den.tupL (SqT.of upd_same) DenL.nil)
    · cases e
  · cases e
def mulX : RV → RV → Option RV := orF mulD repU
theorem o_mulU : OpR X (binaryOp .Mult) (fun x y H Q => rMulX X.K x y H Q ∨ rRepU X.K x y H Q) := Z.OpR.or o_mul op_repU
theorem s_mulU : OpS K mg (fun x y H Q => rMulX K x y H Q ∨ rRepU K x y H Q) mulX := OpS.or s_mulX s_repU
theorem mulX_of {a b z : RV} (h : mulD a b = some z) : mulX a b = some z := by unfold mulX orF; rw [h]
end
end Z
namespace Z
open PySem PySem.Spec PyProof.Rows L2
section
variable {X : Cx} {W : WX} {pn : List Nat} {pos : Pos}
def strRes (r : Res RV) : Res RV := match r with
  | .ok (.sh (.str y)) e => .ok (.sh (.str y)) e
  | _ => .stk
def reprOM (c : Str) (f : FnD) (mo : M Opd) : M RV := bindM mo fun o e => if insO c o e = true then strRes (finF f [o] e) else .stk
end
section
variable {X : Cx} {W : WX} {pn : List Nat} {pos : Pos}
def objRes (r : Res RV) : Res RV := match r with
  | .ok (.sh (.obj c fs)) e => .ok (.sh (.obj c fs)) e
  | .err x e => .err x e
  | _ => .stk
def mulOM (c : Str) (f : FnD) (ma mb : M Opd) : M RV := bindM ma fun o1 => bindM mb fun o2 e => if (insO c o1 e && insO c o2 e) = true then objRes (finF f [o1, o2] e) else .stk
end
end Z
namespace Z
open PySem PySem.Spec PyProof.Rows L2
end Z
namespace PySem
open Sem (wp)
open AutoSeq1 (wpAny_loadPart')
end PySem
namespace Z
open PySem PySem.Spec PyProof.Rows L2
/-- enumerate of a list or a tuple -/
def enumJ (m : M Opd) : M (List D) := bindM m fun o env => match dOf o env with
  | .ok (.lst ds) e => .ok (enumFrom 0 ds) e
  | .ok (.tup ds) e => .ok (enumFrom 0 ds) e
  | .ok (.fls ds) e => .ok (enumFrom 0 ds) e
  | _ => .stk
end Z
namespace Z
open PySem PySem.Spec PyProof.Rows L2
section
variable {α β : Type}
def valN (kvs : List (NestedKey × α)) (k : NestedKey) : Option α := (kvs.find? fun kv => decide (kv.1 = k)).map (·.2)
def putN (kvs : List (NestedKey × α)) (k : NestedKey) (v : α) : List (NestedKey × α) :=
  if kvs.any (fun kv => decide (kv.1 = k)) then kvs.map (fun kv => if kv.1 = k then (kv.1, v) else kv) else kvs ++ [(k, v)]
def putE (es : List (NestedKey × Addr × V)) (k : NestedKey) (b : Addr) (v : V) : List (NestedKey × Addr × V) :=
  if es.any (fun kv => decide (kv.1 = k)) then es.map (fun kv => if kv.1 = k then (kv.1, kv.2.1, v) else kv) else es ++ [(k, b, v)]
end
section
variable {X : Cx} {pins : List (Addr × Obj)} {σ : L2.St} {H : Hp} {s : Shared} {a : Addr} {es : List (NestedKey × Addr × V)}
/-- entries, by keys, with their tuples -/
abbrev EX (es : List (NestedKey × Addr × V)) (xs : List (NestedKey × Addr × Value)) : Prop := Paired (fun (p : NestedKey × Addr × V) (q : NestedKey × Addr × Value) => p.1 = q.1 ∧ p.2.1 = q.2.1 ∧ RelV p.2.2 q.2.2) es xs
theorem EX.at {es : List (NestedKey × Addr × V)} {xs : List (NestedKey × Addr × Value)} (r : EX es xs) (k : NestedKey) : RelO ((es.find? fun kv => decide (kv.1 = k)).map (·.2.2)) ((atKey xs k).map (·.2)) := by
  induction r with
  | nil => exact True.intro
  | @cons p q ps qs h t ih =>
    obtain ⟨h1, h2, h3⟩ := h
    by_cases e : p.1 = k
    · have e' : q.1 = k := h1.symm.trans e
      have b : atKey (q :: qs) k = some q.2 := by simp [atKey, List.find?_cons, e']
      rw [b]; simp [List.find?_cons, e]; exact h3
    · have e' : ¬ q.1 = k := fun z => e (h1.trans z)
      have b : atKey (q :: qs) k = atKey qs k := by simp [atKey, List.find?_cons, e']
      rw [b]; simp [List.find?_cons, e]; simpa using ih
theorem EX.all {es : List (NestedKey × Addr × V)} {xs : List (NestedKey × Addr × Value)} {P : NestedKey → Addr → Prop} (r : EX es xs) (h : ∀ e ∈ es, P e.1 e.2.1) : ∀ x ∈ xs, P x.1 x.2.1 := by
  induction r with
  | nil => intro x hx; cases hx
  | @cons p q ps qs hq t ih =>
    intro x hx
    rcases List.mem_cons.mp hx with e | hx
    · subst e
      rw [← hq.1, ← hq.2.1]; exact h p List.mem_cons_self
    · exact ih (fun e he => h e (List.mem_cons_of_mem _ he)) x hx
theorem EX.repl {es : List (NestedKey × Addr × V)} {xs : List (NestedKey × Addr × Value)} (r : EX es xs) (k : NestedKey) {y : V} {u : Value} (ry : RelV y u) :
    EX (es.map fun kv => if kv.1 = k then (kv.1, kv.2.1, y) else kv) (xs.map (putAt k u)) := by
  induction r with
  | nil => exact .nil
  | @cons p q ps qs h t ih =>
    rw [List.map_cons, List.map_cons]
    refine .cons ?_ ih
    obtain ⟨h1, h2, h3⟩ := h
    unfold putAt
    by_cases e : p.1 = k
    · rw [if_pos e, if_pos (h1.symm.trans e)]; exact ⟨h1, h2, ry⟩
    · rw [if_neg e, if_neg (fun z => e (h1.trans z))]; exact ⟨h1, h2, h3⟩
theorem find_any {α : Type} (p : α → Bool) : ∀ l : List α, l.any p = (l.find? p).isSome
  | [] => rfl
  | x :: l => by
    rw [List.any_cons, List.find?_cons]
    cases h : p x with
    | true => rfl
    | false => simpa using find_any p l
theorem EX.put {es : List (NestedKey × Addr × V)} {xs : List (NestedKey × Addr × Value)} (r : EX es xs) (k : NestedKey) {b : Addr} {y : V} {u : Value} (ry : RelV y u) : EX (putE es k b y) (storedH xs k b u) := by
  have e : (es.any fun kv => decide (kv.1 = k)) = (atKey xs k).isSome := by
    rw [find_any]
    have := (r.at k).isSome_eq
    rwa [Option.isSome_map, Option.isSome_map] at this
  unfold putE storedH
  rw [e]
  by_cases q : (atKey xs k).isSome = true
  · rw [if_pos q, if_pos q]; exact r.repl k ry
  · rw [if_neg q, if_neg q]; exact Paired.snoc r ⟨rfl, rfl, ry⟩
end
def flatK : NestedKey → Bool
  | .num _ => true
  | .text _ => true
  | _ => false
/-- the keys of a dict are of one kind -/
def fitK {α : Type} (kvs : List (NestedKey × α)) (k : NestedKey) : Bool := match kvs with
  | [] => flatK k || tupKey k
  | kv :: _ => (flatK k && flatK kv.1) || (tupKey k && tupKey kv.1)
section
variable {K : PySem.W.Frag} {mg : Str → Option Value} {G H : Hp}
theorem DenA.cons_ex {ks : List (NestedKey × V)} {k : NestedKey} {d : D} {kvs : List (NestedKey × D)} (h : DenA K mg G ks ((k, d) :: kvs)) : ∃ v vs, ks = (k, v) :: vs ∧ Den K mg G v d ∧ DenA K mg G vs kvs := by
  obtain ⟨h1, h2⟩ := h
  cases ks with
  | nil => simp at h1
  | cons p ks =>
    obtain ⟨pk, pv⟩ := p
    simp only [List.map_cons, List.cons.injEq] at h1
    obtain ⟨rfl, h1⟩ := h1
    exact ⟨pv, ks, rfl, h2 0 (pk, pv) (pk, d) rfl rfl, h1, fun i p q a b => h2 (i + 1) p q (by simpa using a) (by simpa using b)⟩
theorem DenA.nil_inv {ks : List (NestedKey × V)} (h : DenA K mg G ks ([] : List (NestedKey × D))) : ks = [] := by
  have := h.1
  simpa using this
theorem DenA.nilK : DenA K mg G ([] : List (NestedKey × V)) ([] : List (NestedKey × D)) := ⟨rfl, fun i p q a => by simp at a⟩
theorem DenA.consK {k : NestedKey} {v : V} {d : D} {vs : List (NestedKey × V)} {kvs : List (NestedKey × D)} (h : Den K mg G v d) (t : DenA K mg G vs kvs) : DenA K mg G ((k, v) :: vs) ((k, d) :: kvs) := by
  refine ⟨by simp [t.1], fun i p q a b => ?_⟩
  cases i with
  | zero => simp at a b; subst a; subst b; exact h
  | succ i => simp at a b; exact t.2 i p q a b
theorem DenA.val {kvs : List (NestedKey × D)} : ∀ {ks : List (NestedKey × V)}, DenA K mg G ks kvs → ∀ k, (valN ks k).isSome = (valN kvs k).isSome ∧ ∀ d, valN kvs k = some d → ∃ v, valN ks k = some v ∧ Den K mg G v d := by
  induction kvs with
  | nil =>
    intro ks h k
    rw [h.nil_inv]; exact ⟨rfl, fun d e => by cases e⟩
  | cons p kvs ih =>
    intro ks h k
    obtain ⟨pk, pd⟩ := p
    obtain ⟨v, vs, rfl, h1, h2⟩ := h.cons_ex
    unfold valN
    by_cases e : pk = k
    · simp [e]; exact h1
    · have := ih h2 k
      unfold valN at this
      simpa [e] using this
theorem DenA.any {kvs : List (NestedKey × D)} {ks : List (NestedKey × V)} (h : DenA K mg G ks kvs) (k : NestedKey) : (ks.any fun kv => decide (kv.1 = k)) = kvs.any fun kv => decide (kv.1 = k) := by
  have := (h.val k).1
  unfold valN at this
  rw [find_any, find_any, ← Option.isSome_map (f := (·.2)), this, Option.isSome_map]
theorem DenA.repl {kvs : List (NestedKey × D)} : ∀ {ks : List (NestedKey × V)}, DenA K mg G ks kvs → ∀ {k : NestedKey} {v : V} {d : D}, Den K mg G v d → DenA K mg G (ks.map fun kv => if kv.1 = k then (kv.1, v) else kv) (kvs.map fun kv => if kv.1 = k then (kv.1, d) else kv) := by
  induction kvs with
  | nil => intro ks h k v d hd; rw [h.nil_inv]; exact .nilK
  | cons p kvs ih =>
    intro ks h k v d hd
    obtain ⟨pk, pd⟩ := p
    obtain ⟨v', vs, rfl, h1, h2⟩ := h.cons_ex
    rw [List.map_cons, List.map_cons]
    by_cases e : pk = k
    · simp only [e, if_true]; exact .consK hd (ih h2 hd)
    · simp only [e, if_false]; exact .consK h1 (ih h2 hd)
theorem DenA.snoc {kvs : List (NestedKey × D)} : ∀ {ks : List (NestedKey × V)}, DenA K mg G ks kvs → ∀ {k : NestedKey} {v : V} {d : D}, Den K mg G v d → DenA K mg G (ks ++ [(k, v)]) (kvs ++ [(k, d)]) := by
  induction kvs with
  | nil => intro ks h k v d hd; rw [h.nil_inv]; exact .consK hd .nilK
  | cons p kvs ih =>
    intro ks h k v d hd
    obtain ⟨pk, pd⟩ := p
    obtain ⟨v', vs, rfl, h1, h2⟩ := h.cons_ex
    exact .consK h1 (ih h2 hd)
end
mutual
def toK : D → Option NestedKey
  | .int i => some (.num i)
  | .str x => some (.text x)
  | .tup ds => (toKs ds).map .tup
  | _ => none
def toKs : List D → Option (List NestedKey)
  | [] => some []
  | d :: ds => (toK d).bind fun k => (toKs ds).map fun ks => k :: ks
end
def keyR : RV → Option NestedKey
  | .sh d => toK d
  | _ => none
def dctOf : RV → Option (List (NestedKey × D))
  | .od kvs => some kvs
  | .sh (.dct ((.none, _) :: kvs)) => some kvs
  | .sh (.dct kvs) => some kvs
  | _ => none
def setDM (i : Nat) (mv : M Opd) (mk : M Opd) : MS := bindS mv fun o1 e1 => match dOf o1 e1 with
  | .ok d e2 => (match slotOf e2 i with
    | some _ => bindS mk (fun o2 e3 => match slotOf e3 i, (resolve e3 o2).bind keyR with
      | some (.od kvs), some k => if fitK kvs k = true ∧ kvs.length < sizeLine then .nx (e3.set i (some (.od (putN kvs k d)))) else .stk
      | _, _ => .stk) e2
    | none => .stk)
  | _ => .stk
def newD : M RV := fun env => .ok (.od []) env
def dispM (mk mv : M Opd) : M RV := fun env => match mk env with
  | .ok o1 e1 => (match mv e1 with
    | .ok o2 e2 => (match (resolve e2 o1).bind keyR with
      | some k => (match dOf o2 e2 with
        | .ok d e3 => if (flatK k || tupKey k) = true then .ok (.od [(k, d)]) e3 else .stk
        | _ => .stk)
      | none => .stk)
    | _ => .stk)
  | _ => .stk
def shrS (i : Nat) (s : MS) : MS := fun env => match slotOf env i with
  | some r => s (env.set i (some (.sh r.d)))
  | none => .stk
end Z
namespace Z
open PySem PySem.Spec PySem.W PyProof.Rows L2
end Z
namespace Z
open PySem PySem.Spec PyProof.Rows L2
def starO (mo : M Opd) (ms : M (List Opd)) : M (List Opd) := bindM mo fun o env => match (resolve env o).bind seqOf with
  | some ds => (bindM ms fun os env => .ok (ds.map Opd.val ++ os) env) env
  | none => .stk
def lrgM (mo : M Opd) : M RV := bindM mo fun o env => match resolve env o with
  | some (.sh (.int n)) => if (in62 n && Nat.ble n.toNat 16777216) = true then .ok (.ol (rangeD 0 n.toNat)) env else .stk
  | _ => .stk
end Z
namespace Z
open PySem PySem.Spec PyProof.Rows L2
end Z
namespace Z
open PySem PySem.Spec PyProof.Rows L2
/-- super().__init__(..): what the base's __init__ does to the object in slot 0, of the class c -/
def superM (c : Str) (f : FnD) (ms : M (List Opd)) : MS := fun env => match slotOf env 0 with
  | some (.oo c' fs) => if c' = c then (match ms env with
    | .ok os e => (match finF f (.slot 0 :: os) e with
      | .ok _ e2 => .nx e2
      | _ => .stk)
    | _ => .stk) else .stk
  | _ => .stk
end Z
namespace Z
open PySem PySem.Spec PyProof.Rows L2
section
variable {X : Cx} {W : WX} {pn : List Nat} {pos : Pos}
def fld2S (cs : List Str) (i : Nat) (f g : Str) (ms : M (List Opd)) : MS := bindS ms fun os e => match dsOf os e with
  | .ok [d1, d2] e2 => (match slotOf e2 i with
    | some (.oo c fs) => if c ∈ cs ∧ fs.length < 999 then .nx (e2.set i (some (.oo c (putD g d2 (putD f d1 fs))))) else .stk
    | _ => .stk)
  | _ => .stk
end
/-- the first meaning that does not stick -/
def altM {α : Type} (a b : M α) : M α := fun env => match a env with
  | .stk => b env
  | r => r
end Z
namespace Z
open PySem PySem.Spec PyProof.Rows L2
def par4 (pn : List Nat) (i j l m : Nat) (ma mb mc md : M RV) : MS := bindS ma fun r1 e1 => match mb e1 with
  | .ok r2 e2 => (match mc e2 with
    | .ok r3 e3 => (match md e3 with
      | .ok r4 e4 => if okL pn e4.length [i, j, l, m] = true then .nx ((((e4.set i (some r1)).set j (some r2)).set l (some r3)).set m (some r4)) else .stk
      | _ => .stk)
    | _ => .stk)
  | _ => .stk
end Z
namespace Z
open PySem PySem.Spec PyProof.Rows L2
section
variable {X : Cx} {W : WX} {pn : List Nat} {pos : Pos}
def bolRes (r : Res RV) : Res Bool := match r with
  | .ok (.sh (.bl b)) e => .ok b e
  | _ => .stk
def truOM (c : Str) (f : FnD) (mo : M Opd) : M Bool := bindM mo fun o e => if insO c o e = true then bolRes (finF f [o] e) else .stk
end
def boolF (as : List RV) : Option RV := match as with
  | [.sh (.int i)] => some (.sh (.bl (i != 0)))
  | [.sh (.bl b)] => some (.sh (.bl b))
  | _ => none
theorem boolF_bl {b : Bool} : boolF [.sh (.bl b)] = some (.sh (.bl b)) := rfl
end Z
namespace Z
open PySem PySem.Spec PyProof.Rows L2
end Z
namespace Z
open PySem PySem.Spec PyProof.Rows L2
end Z
namespace Z
open PySem PySem.Spec PyProof.Rows L2
section
variable {K : PySem.W.Frag} {mg : Str → Option Value} {G G' H H' : Hp} {vs : List V} {rs rs' : List RV} {h : Heap}
def FrzAt (vs : List V) (rs : List RV) (a : Addr) : Prop := ∃ (j : Nat) (ds : List D), rs[j]? = some (.ol ds) ∧ vs[j]? = some (.ref a)
theorem FrzAt.own {a : Addr} (z : FrzAt vs rs a) : OwnAt vs rs a := by
  obtain ⟨j, ds, h1, h2⟩ := z
  exact ⟨j, _, h1, rfl, h2⟩
end
end Z
namespace Z
open PySem PySem.Spec PyProof.Rows L2 PySem.W
structure LamB1 (X : Cx) (c P : Addr) : Prop where
  tab : LamX.TabB X.base X.mg c P
  code : X.env.code = .ref c
  mem : (c, P) ∈ tabsK X.K
theorem LamB1.there {X : Cx} {c T : Addr} (B : LamB1 X c T) : ∃ o, X.base.get? c = some o := by
  obtain ⟨o, _, _, _, _, _, _, _, _, h, _⟩ := B.tab.code
  exact ⟨o, h⟩
section
variable {X : Cx} {W : WX} {pn : List Nat} {pos : Pos}
theorem LamB1.tbl {c T : Addr} {Fh : FHp} {P : List (Nat × V)} {G H : Hp} {σ : L2.St} {env : DEnv} (B : LamB1 X c T) (S : SRel X.K X.mg Fh P G H σ env []) : ∃ ps, H T = some (.tbl ps) ∧ TriplesOk ps.toList ∧ ∀ (pos : Pos) (cv : Value), codeAmong pos ps.toList = some cv → ∃ c q, cv = .ref c ∧ G c = some (LamX.CodeO c q) := by
  obtain ⟨ps, h⟩ := S.fh.tb.pres _ B.mem
  exact ⟨ps, h, S.fh.tb.on _ _ h⟩
end
end Z
namespace Z
open PySem PySem.Spec PyProof.Rows L2
def lentLt (f : FnD) (os : List Opd) (o : Opd) : M RV := fun env => match o, resolves env os with
  | .val d, some rs => (match f [.sh (.lst (rs.map RV.d)), .sh d] with
    | .ok (.sh r) _ => if noMut r = true then .ok (.sh r) env else .stk
    | _ => .stk)
  | _, _ => .stk
def lentL (f : FnD) (mi : M (List Opd)) (me : M Opd) : M RV := bindM mi fun os env1 => if os.length ≤ sizeLine then bindM me (lentLt f os) env1 else .stk
end Z
namespace Z
open PySem PySem.Spec PyProof.Rows L2
def disCM (kvs : List (Key × Key)) : M RV := fun env => .ok (.od (kvs.map fun kv => (kN kv.1, keyD kv.2))) env
/-- a dict with flat keys (or none) -/
def flatD1 (r : RV) : Option (List (NestedKey × D)) := match dctOf r with
  | some kvs => if fitK kvs (.text "") = true then some kvs else none
  | none => none
def getM (mo me mf : M Opd) : M RV := bindM mo fun o1 e1 => match (resolve e1 o1).bind flatD1 with
  | some _ => bindM me (fun o2 => bindM mf fun o3 env => match (resolve env o1).bind flatD1, (resolve env o2).bind keyR, o3 with
    | some kvs, some k, .val d => if flatK k = true then .ok (.sh ((valN kvs k).getD d)) env else .stk
    | _, _, _ => .stk) e1
  | none => .stk
def kgetM (kvs : List (Str × Int)) (me mf : M Opd) : M RV := bindM me fun o2 => bindM mf fun o3 env => match resolve env o2, o3 with
  | some (.sh (.str x)), .val d => .ok (.sh (match kvs.lookup x with
    | some i => .int i
    | none => d)) env
  | _, _ => .stk
end Z
namespace Z
open PySem PySem.Spec PyProof.Rows L2
end Z
namespace Z
open PySem PySem.Spec PyProof.Rows L2
/-- pairs are made, one behind another; S is another address -/
inductive Lz (S : Addr) : List V → List V → Hp → List V → Hp → Prop
  | done {xs ys : List V} {H : Hp} : xs = [] ∨ ys = [] → Lz S xs ys H [] H
  | cons {x y : V} {xs ys : List V} {H H' : Hp} {T : Addr} {out : List V} : H T = none → T ≠ S → Lz S xs ys (upd H T (.tup [x, y])) out H' → Lz S (x :: xs) (y :: ys) H (.ref T :: out) H'
theorem Lz.none {S : Addr} {xs ys out : List V} {H H' : Hp} (h : Lz S xs ys H out H') (n : H S = none) : H' S = Option.none := by
  induction h with
  | done _ => exact n
  | cons _ hT _ ih => exact ih (by rw [upd_ne (Ne.symm hT)]; exact n)
section
variable {X : Cx} {pins : List (Addr × Obj)} {σ : L2.St}
theorem SqK.keep {K : PySem.W.Frag} {k : Bool} {H : Hp} {a p : Addr} {o : HO} {xs : List V} (h : SqK K k H a xs) (n : H p = none) : SqK K k (upd H p o) a xs := by
  cases k
  · exact (Ex.new n).sqT h
  · exact (Ex.new n).sqL h
end
def lzM (m : M (List Opd)) : M RV := bindM m fun os env => match dsOf os env with
  | .ok [d, e] en => (match seqD d, seqD e with
    | some ds, some es => if Nat.ble (min ds.length es.length) 16777216 = true then .ok (.ol (zipD ds es)) en else .stk
    | _, _ => .stk)
  | _ => .stk
end Z
namespace Z
open PySem PySem.Spec PyProof.Rows L2
end Z
namespace Z
open PySem PySem.Spec PyProof.Rows L2
section
variable {X : Cx} {W : WX} {pn : List Nat} {pos : Pos}
def xobR : RV → Option (Str × List (Str × D))
  | .sh (.xob c fs) => some (c, fs)
  | _ => none
theorem View.xob {K : PySem.W.Frag} {mg : Str → Option Value} {G H : Hp} {v : V} {r : RV} {c : Str} {fs : List (Str × D)} (w : View K mg G H v r) (ex : Gh G H) (e : xobR r = some (c, fs)) : ∃ a C dx gs, v = .ref a ∧ mg c = some (.ref C) ∧ H a = some (exo a C (some dx)) ∧ H dx = some (exd dx gs) ∧ DenA K mg G gs fs := by
  unfold xobR at e
  split at e
  · cases e
    have w : Den K mg G v (.xob c fs) := w
    cases w with
    | xob m h k l q => exact ⟨_, _, _, _, rfl, m, ex.on _ _ h nofun, ex.on _ _ k nofun, l, q⟩
  · cases e
end
section
variable {X : Cx} {W : WX} {pn : List Nat} {pos : Pos}
def exc1M (c f : Str) (m : M (List Opd)) : M RV := bindM m fun os env => match dsOf os env with
  | .ok [d] e => .ok (.sh (.xob c [("details", .tup [d]), ("code", .str c), (f, d)])) e
  | _ => .stk
def exc0M (c : Str) : M RV := fun env => .ok (.sh (.xob c [("details", .tup []), ("code", .str c)])) env
end
end Z
namespace Z
open PySem PySem.Spec PyProof.Rows L2
/-- the frame of a def that touches the store: the parameters, the other names, the store -/
def envW (N : Nat) (rs : List RV) (st : List LO) : DEnv := rs.map some ++ List.replicate (N - rs.length - 1) none ++ [some (.st st)]
def stAt (k : Nat) (e : DEnv) : Option (List LO) := match e[k]? with
  | some (some (.st s)) => some s
  | _ => none
theorem stAt_some {k : Nat} {e : DEnv} {s : List LO} (h : stAt k e = some s) : e[k]? = some (some (.st s)) := by
  unfold stAt at h
  split at h
  · rename_i q; cases h; exact q
  · cases h
end Z
namespace Z
open PySem PySem.Spec PyProof.Rows L2
def splS (n : Nat) (as : List RV) : Option (List RV × List LO) := match as[n]? with
  | some (.st s) => if as.length = n + 1 then some (as.take n, s) else none
  | _ => none
/-- f(..) where f touches the store, which is in the frame's slot k -/
def finW (k : Nat) (f : FnD) (os : List Opd) (env : DEnv) : Res RV := match resolves env os, stAt k env with
  | some rs, some st => if (lent os rs).Nodup then (match f (rs ++ [.st st]) with
    | .ok r as => (match splS rs.length as with
      | some (rs', st') => .ok r ((wb os rs rs' env).set k (some (.st st')))
      | none => .stk)
    | .err x as => (match splS rs.length as with
      | some (rs', st') => .err x ((wb os rs rs' env).set k (some (.st st')))
      | none => .stk)
    | .stk => .stk) else .stk
  | _, _ => .stk
def finAW (k : Nat) (f : FnD) (arr : List Src) (os : List Opd) : M RV := fun env => match arrO os arr with
  | some r => finW k f r env
  | none => .stk
def fnAW (k : Nat) (f : FnD) (arr : List Src) (mp mk : M (List Opd)) : M RV := bindM mp fun os1 => bindM mk fun os2 => finAW k f arr (os1 ++ os2)
/-- an operand's value, seen through the store -/
def resolveL (k : Nat) (env : DEnv) (o : Opd) : Option RV := match resolve env o with
  | some (.sh (.loc i)) => (match stAt k env with
    | some s => (s[i]?).map LO.rv
    | none => none)
  | r => r
def resolvesL (k : Nat) (env : DEnv) : List Opd → Option (List RV)
  | [] => some []
  | o :: os => match resolveL k env o, resolvesL k env os with
    | some r, some rs => some (r :: rs)
    | _, _ => none
/-- the number of the place that an operand names -/
def locN (env : DEnv) (o : Opd) : Option Nat := match resolve env o with
  | some (.sh (.loc i)) => some i
  | _ => none
section
variable {K : PySem.W.Frag} {mg : Str → Option Value} {Fh : FHp} {P : List (Nat × V)} {G H : Hp} {σ : L2.St} {env : DEnv} {T : List Addr} {v : V} {o : Opd} {k : Nat} {st : List LO} {lo lo' : LO} {i : Nat}
theorem SRel.place (S : SRel K mg Fh P G H σ env T) (hk : env[k]? = some (some (.st st))) (hi : st[i]? = some lo) (d : Den K mg G v (.loc i)) : ∃ a o, v = .ref a ∧ G a = some (mkO i) ∧ H a = some o ∧ ObjR K mg G a o lo.rv ∧ noLamR lo.rv = true := by
  cases d with
  | loc ha =>
    obtain ⟨nl, a', o, h1, h2, h3⟩ := (S.tre.1 k st hk).2.1.2 i lo hi
    obtain rfl := S.fh.tb.uq _ _ _ ha h1
    exact ⟨_, o, rfl, ha, h2, h3, nl⟩
theorem SRel.resolveL {r : RV} (S : SRel K mg Fh P G H σ env T) (h : OpdR K mg G σ v o) (e : Z.resolveL k env o = some r) : ViewW K mg G H v r := by
  unfold Z.resolveL at e
  split at e
  · rename_i i q
    split at e
    · rename_i s hs
      obtain ⟨lo, h1, rfl⟩ := Option.map_eq_some_iff.mp e
      obtain ⟨a, o, rfl, g1, g2, g3, _⟩ := S.place (stAt_some hs) h1 (show Den K mg G v (.loc i) from S.resolve h q)
      exact .of_own g2 (.inr ⟨_, g1⟩) g3
    · cases e
  · exact (S.resolve h e).w
theorem SRel.resolvesL (S : SRel K mg Fh P G H σ env T) : ∀ {os : List Opd} {vs : List V} {rs : List RV}, OpdRs K mg G σ vs os → Z.resolvesL k env os = some rs → ViewsW K mg G H vs rs
  | [], vs, rs, h, e => by cases e; rw [h.nil_inv]; exact .nil
  | o :: os, vs, rs, h, e => by
    obtain ⟨v, vs, rfl, h1, h2⟩ := h.cons_ex
    unfold Z.resolvesL at e
    split at e
    · rename_i r rs' q1 q2
      cases e
      exact .cons (S.resolveL h1 q1) (S.resolvesL h2 q2)
    · cases e
theorem Gh.root {a : Addr} {ps : Array Value} {o : HO} (g : Gh G H) (hm : G a = Option.some (.tbl ps)) (n : NoTb o) : Gh G (L2.upd H a o) := ⟨fun b u e m => by
  rw [upd_ne (fun z => by rw [z, hm] at e; cases e; exact m ps rfl)]; exact g.on b u e m, fun b qs e => by
  by_cases z : b = a
  · subst z; exact ⟨o, upd_same, n⟩
  · rw [upd_ne z]; exact g.mks b qs e⟩
/-- another object stands at a place -/
theorem SRel.putL {a : Addr} {o' : HO} (S : SRel K mg Fh P G H σ env []) (hk : env[k]? = some (some (.st st))) (hi : st[i]? = some lo) (hm : G a = some (mkO i)) (q : ObjR K mg G a o' lo'.rv) (nl : noLamR lo'.rv = true) :
    SRel K mg Fh P G (upd H a o') σ (env.set k (some (.st (st.set i lo')))) [] := by
  obtain ⟨opn, ⟨s1, s2⟩, mfh⟩ := S.tre.1 k st hk
  obtain ⟨hF, o, ho, no⟩ := mfh a _ hm
  have hil : i < st.length := (List.getElem?_eq_some_iff.mp hi).1
  have oldN : ∀ {n : Nat} {r : RV}, (env.set k (some (.st (st.set i lo'))))[n]? = some (some r) → r.isT = false → env[n]? = some (some r) := fun {n r} e nt => by
    rcases set_get e with ⟨_, z, _⟩ | ⟨_, e⟩
    · cases z; cases nt
    · exact e
  have nea : ∀ {b : Addr}, G b = none → b ≠ a := fun {b} g z => by rw [z, hm] at g; cases g
  refine ⟨S.gh.root hm q.nt, S.fh.upd hF (nt_some ho no) q.nt, S.dj, S.pin, by rw [List.length_set]; exact S.len, fun n r e nt => ?_, fun n m r r' b h1 h2 o1 o2 => S.dis n m r r' b (oldN h1 (RV.own_nt o1)) (oldN h2 (RV.own_nt o2)) o1 o2, fun n r b e o h => ⟨(S.nof n r b (oldN e (RV.own_nt o)) o h).1, List.not_mem_nil⟩, fun b m => absurd m List.not_mem_nil, ⟨fun j s e => ?_, fun j j' s s' e e' => ?_⟩⟩
  · obtain ⟨u, hu, w⟩ := S.val n r (oldN e nt) nt
    exact ⟨u, hu, w.keep (Ex.refl _) fun b o ev hr h1 h2 => ⟨by rw [upd_ne (nea h2)]; exact h1, h2⟩⟩
  · rcases set_get e with ⟨rfl, z, _⟩ | ⟨ne, e⟩
    · cases z
      refine ⟨opn, ⟨fun b ps g => ?_, fun i' lo2 e2 => ?_⟩, fun b ps g => ?_⟩
      · obtain ⟨n, h1, h2⟩ := s1 b ps g
        exact ⟨n, by rw [List.length_set]; exact h1, h2⟩
      · rcases set_get e2 with ⟨rfl, rfl, _⟩ | ⟨ne, e2⟩
        · exact ⟨nl, a, o', hm, upd_same, q⟩
        · obtain ⟨nl2, b, u, h1, h2, h3⟩ := s2 i' lo2 e2
          have nb : b ≠ a := fun z => by
            rw [z, hm] at h1
            exact ne (mkO_inj (Option.some.inj h1)).symm
          exact ⟨nl2, b, u, h1, by rw [upd_ne nb]; exact h2, h3⟩
      · obtain ⟨h1, u, h2, h3⟩ := mfh b ps g
        refine ⟨h1, ?_⟩
        by_cases z : b = a
        · subst z; exact ⟨o', upd_same, q.nt⟩
        · rw [upd_ne z]; exact ⟨u, h2, h3⟩
    · exact (ne (S.tre.2 j k s st e hk)).elim
  · have one : ∀ {n : Nat} {s : List LO}, (env.set k (some (.st (st.set i lo'))))[n]? = some (some (.st s)) → n = k := fun {n s} e => by
      rcases set_get e with ⟨z, _, _⟩ | ⟨_, e⟩
      · exact z
      · exact S.tre.2 n k s st e hk
    rw [one e, one e']
end
/-- an object of one's own, as something that stands at a place -/
def loOf : RV → Option LO
  | .ol ds => some (.ls ds)
  | .od kvs => some (.dk kvs)
  | .oo c fs => some (.ob c fs)
  | _ => none
/-- e, whose value comes to a new place of the store -/
def newLM (k : Nat) (m : M RV) : M RV := bindM m fun r e => match loOf r, stAt k e with
  | some lo, some s => if noLamR r = true then .ok (.sh (.loc s.length)) (e.set k (some (.st (s ++ [lo])))) else .stk
  | _, _ => .stk
end Z
namespace Z
open PySem PySem.Spec PyProof.Rows L2
section
variable {X : Cx} {W : WX} {pn : List Nat} {pos : Pos} {k0 : Nat} {K : PySem.W.Frag} {mg : Str → Option Value} {Fh : FHp} {P : List (Nat × V)} {G H : Hp} {σ : L2.St} {env : DEnv}
def insOW (k0 : Nat) (c : Str) (o : Opd) (env : DEnv) : Bool := match (resolveL k0 env o).bind clsR with
  | some (c', _) => decide (c' = c)
  | none => false
theorem SRel.insOW {c : Str} {C : Addr} {v : V} {o : Opd} {T : List Addr} (S : SRel X.K X.mg Fh P G H σ env T) (hmc : X.mg c = some (.ref C)) (w : OpdR X.K X.mg G σ v o) (h : Z.insOW k0 c o env = true) : ∃ a dx gs, v = .ref a ∧ H a = some (.ins C dx gs) := by
  unfold Z.insOW at h
  split at h
  · rename_i c' fs z
    have e := of_decide_eq_true h
    subst e
    simp only [Option.bind_eq_some_iff] at z
    obtain ⟨r, y1, y2⟩ := z
    obtain ⟨a, C', dx, gs, rfl, g1, g2, g3⟩ := (S.resolveL w y1).cls S.gh y2
    rw [hmc] at g1; cases g1
    exact ⟨a, dx, gs, rfl, g2⟩
  · cases h
def methAW (k0 : Nat) (c m : Str) (f : FnD) (arr : List Src) (mo : M Opd) (mp mk : M (List Opd)) : M RV := bindM mo fun o e => match (resolveL k0 e o).bind clsR with
  | some (c', fs) => if c' = c ∧ fs.lookup m = none then bindM mp (fun os1 => bindM mk fun os2 => finAW k0 f arr (o :: (os1 ++ os2))) e else .stk
  | none => .stk
def propMW (k0 : Nat) (c : Str) (f : FnD) (mo : M Opd) : M RV := bindM mo fun o e => match (resolveL k0 e o).bind clsR with
  | some (c', _) => if c' = c then noErr (finW k0 f [o] e) else .stk
  | none => .stk
def lenOMW (k0 : Nat) (c : Str) (f : FnD) (mo : M Opd) : M RV := bindM mo fun o e => if insOW k0 c o e = true then lenFits (finW k0 f [o] e) else .stk
def reprOMW (k0 : Nat) (c : Str) (f : FnD) (mo : M Opd) : M RV := bindM mo fun o e => if insOW k0 c o e = true then strRes (finW k0 f [o] e) else .stk
def eqOMW (k0 : Nat) (neg : Bool) (c : Str) (f : FnD) (ma mb : M Opd) : M RV := bindM ma fun o1 => bindM mb fun o2 e => match resolveL k0 e o2 with
  | some r2 => if (insOW k0 c o1 e && cmpT c r2) = true then eqRes neg (finW k0 f [o1, o2] e) else .stk
  | none => .stk
def fin2L (k0 : Nat) (f : RV → RV → Option RV) (o1 o2 : Opd) (env : DEnv) : Res RV := match resolveL k0 env o1, resolveL k0 env o2 with
  | some a, some b => (match f a b with
    | some c => .ok c env
    | none => .stk)
  | _, _ => .stk
def fin1L (k0 : Nat) (f : RV → Option RV) (o1 : Opd) (env : DEnv) : Res RV := match resolveL k0 env o1 with
  | some a => (match f a with
    | some c => .ok c env
    | none => .stk)
  | none => .stk
def finNL (k0 : Nat) (f : List RV → Option RV) (os : List Opd) (env : DEnv) : Res RV := match resolvesL k0 env os with
  | some as => (match f as with
    | some c => .ok c env
    | none => .stk)
  | none => .stk
def opML (k0 : Nat) (f : RV → RV → Option RV) (ma mb : M Opd) : M RV := bindM ma fun o1 => bindM mb fun o2 => fin2L k0 f o1 o2
def unML (k0 : Nat) (f : RV → Option RV) (ma : M Opd) : M RV := bindM ma fun o1 => fin1L k0 f o1
def callML (k0 : Nat) (f : List RV → Option RV) (ma : M (List Opd)) : M RV := bindM ma fun os => finNL k0 f os
end
end Z
namespace Z
open PySem PySem.Spec PyProof.Rows L2
/-- the object that an operand names, where it may be changed -/
def mutAt (k0 : Nat) (e : DEnv) (o : Opd) : Option RV := match resolve e o with
  | some (.sh (.loc n)) => (match stAt k0 e with
    | some s => (s[n]?).map LO.rv
    | none => none)
  | some r => (match o with
    | .slot _ => if r.own = true then some r else none
    | .val _ => none)
  | none => none
/-- .. and the frame behind the change -/
def mutPut (k0 : Nat) (e : DEnv) (o : Opd) (r : RV) : DEnv := match resolve e o with
  | some (.sh (.loc n)) => (match stAt k0 e, loOf r with
    | some s, some lo => e.set k0 (some (.st (s.set n lo)))
    | _, _ => e)
  | _ => (match o with
    | .slot i => e.set i (some r)
    | .val _ => e)
theorem loOf_own {r : RV} (h : r.own = true) : ∃ lo, loOf r = some lo ∧ lo.rv = r := by
  cases r with
  | ol ds => exact ⟨_, rfl, rfl⟩
  | od kvs => exact ⟨_, rfl, rfl⟩
  | oo c fs => exact ⟨_, rfl, rfl⟩
  | _ => cases h
section
variable {K : PySem.W.Frag} {mg : Str → Option Value} {Fh : FHp} {P : List (Nat × V)} {G H : Hp} {σ : L2.St} {e : DEnv} {v : V} {o : Opd} {k0 : Nat} {r : RV}
theorem SRel.mutAt (S : SRel K mg Fh P G H σ e []) (w : OpdR K mg G σ v o) (h : Z.mutAt k0 e o = some r) :
    ∃ a ob, v = .ref a ∧ H a = some ob ∧ ObjR K mg G a ob r ∧ (G a = none ∨ ∃ ps, G a = some (.tbl ps)) ∧ ∀ ob' r', ObjR K mg G a ob' r' → (noLamR r = true → noLamR r' = true) → SRel K mg Fh P G (upd H a ob') σ (mutPut k0 e o r') [] := by
  unfold Z.mutAt at h
  cases q : Z.resolve e o with
  | none => rw [q] at h; cases h
  | some r0 =>
    rw [q] at h
    by_cases il : ∃ n, r0 = .sh (.loc n)
    · obtain ⟨n, rfl⟩ := il
      simp only at h
      cases hs : stAt k0 e with
      | none => rw [hs] at h; cases h
      | some s =>
        rw [hs] at h
        simp only at h
        obtain ⟨lo, h1, rfl⟩ := Option.map_eq_some_iff.mp h
        obtain ⟨a, ob, rfl, g1, g2, g3, nl⟩ := S.place (stAt_some hs) h1 (show Den K mg G v (.loc n) from S.resolve w q)
        refine ⟨a, ob, rfl, g2, g3, .inr ⟨_, g1⟩, fun ob' r' hr hn => ?_⟩
        obtain ⟨lo', y1, y2⟩ := loOf_own hr.own
        unfold mutPut
        simp only [q, hs, y1]
        exact S.putL (stAt_some hs) h1 g1 (y2 ▸ hr) (y2 ▸ hn nl)
    · have h' : (match o with | .slot _ => if r0.own = true then some r0 else none | .val _ => none) = some r := by
        cases o <;> (cases r0 with
        | sh d => cases d <;> first | exact h | exact absurd ⟨_, rfl⟩ il
        | _ => exact h)
      have mp : ∀ r', mutPut k0 e o r' = (match o with | .slot i => e.set i (some r') | .val _ => e) := fun r' => by
        unfold mutPut
        rw [q]
        cases o <;> (cases r0 with
        | sh d => cases d <;> first | rfl | exact absurd ⟨_, rfl⟩ il
        | _ => rfl)
      cases o with
      | val d => cases h'
      | slot i =>
        simp only at h'
        by_cases ho : r0.own = true
        · rw [if_pos ho] at h'
          cases h'
          have hv : σ[i]? = some (some v) := w
          obtain ⟨a, ob, rfl, g1, g2, g3⟩ := (S.resolve w q).own_inv ho
          refine ⟨a, ob, rfl, g1, g3, .inl g2, fun ob' r' hr hn => ?_⟩
          rw [mp]
          exact S.mut (slotOf_some q) ho hv hr
        · rw [if_neg ho] at h'; cases h'
end
def fldL (k0 : Nat) (cs : List Str) (f : Str) (mo mv : M Opd) : MS := bindS mv fun o e => match dOf o e with
  | .ok d e2 => bindS mo (fun o2 e3 => match mutAt k0 e3 o2 with
    | some (.oo c fs) => if c ∈ cs ∧ fs.length < 1000 ∧ noLam d = true then .nx (mutPut k0 e3 o2 (.oo c (putD f d fs))) else .stk
    | _ => .stk) e2
  | _ => .stk
def mutML (k0 : Nat) (T : String) (f : RV → List D → Option (D × RV)) (mo : M Opd) (m : M (List Opd)) : M RV := bindM mo fun o e0 => match mutAt k0 e0 o with
  | some r0 => if tyOk T r0 = true then bindM m (fun os e => match dsOf os e with
    | .ok ds e2 => (match mutAt k0 e2 o with
      | some r => if noLams ds = true then (match f r ds with
        | some (res, r') => .ok (.sh res) (mutPut k0 e2 o r')
        | none => .stk) else .stk
      | none => .stk)
    | _ => .stk) e0 else .stk
  | none => .stk
end Z
namespace Z
open PySem PySem.Spec PyProof.Rows L2
def setDL (k0 : Nat) (mo mv mk : M Opd) : MS := bindS mv fun o1 e1 => match dOf o1 e1 with
  | .ok d e2 => bindS mo (fun ob e3 => bindS mk (fun o2 e4 => match mutAt k0 e4 ob, (resolve e4 o2).bind keyR with
    | some (.od kvs), some k => if fitK kvs k = true ∧ kvs.length < sizeLine ∧ noLam d = true then .nx (mutPut k0 e4 ob (.od (putN kvs k d))) else .stk
    | _, _ => .stk) e3) e2
  | _ => .stk
def setLL (k0 : Nat) (mo mv mk : M Opd) : MS := bindS mv fun o1 e1 => match dOf o1 e1 with
  | .ok d e2 => bindS mo (fun ob e3 => bindS mk (fun o2 e4 => match mutAt k0 e4 ob, (resolve e4 o2).bind asInt with
    | some (.ol ds), some k => (match ixN ds.length k with
      | some j => if noLam d = true then .nx (mutPut k0 e4 ob (.ol (ds.set j d))) else .stk
      | none => .stk)
    | _, _ => .stk) e3) e2
  | _ => .stk
end Z
namespace Z
open PySem PySem.Spec PyProof.Rows L2
def putsL (k0 : Nat) (cs : List Str) (mo : M Opd) : List Str → List D → MS
  | [], [] => fun e => .nx e
  | f :: fs, d :: ds => bindS mo fun o e => match mutAt k0 e o with
    | some (.oo c g) => if c ∈ cs ∧ g.length < 1000 ∧ noLam d = true then putsL k0 cs mo fs ds (mutPut k0 e o (.oo c (putD f d g))) else .stk
    | _ => .stk
  | _, _ => fun _ => .stk
def fldsL (k0 : Nat) (cs : List Str) (mo : M Opd) (fs : List Str) (ms : M (List Opd)) : MS := bindS ms fun os e => match dsOf os e with
  | .ok ds e2 => if ds.length ≤ sizeLine ∧ ds.length = fs.length then putsL k0 cs mo fs ds e2 else .stk
  | _ => .stk
section
variable {X : Cx} {W : WX} {pn : List Nat} {pos : Pos} {k0 : Nat}
def fldAugL (k0 : Nat) (cs : List Str) (f : Str) (g : Int → Int → Int) (mo mv : M Opd) : MS := bindS mo fun o e1 => match mutAt k0 e1 o with
  | some (.oo c fs) => if c ∈ cs then (match fs.lookup f with
    | some (.int i) => bindS mv (fun o2 e2 => match (resolve e2 o2).bind asInt, mutAt k0 e2 o with
      | some j, some (.oo c2 fs2) => if c2 = c ∧ fs2.length < 1000 then .nx (mutPut k0 e2 o (.oo c2 (putD f (.int (g i j)) fs2))) else .stk
      | _, _ => .stk) e1
    | _ => .stk) else .stk
  | _ => .stk
end
def finMkW (k0 : Nat) (c : Str) (f : FnD) (arr : List Src) (os : List Opd) (env : DEnv) : Res RV := match arrO os arr with
  | none => .stk
  | some r => match resolves env r, stAt k0 env with
    | some rs, some st => if (lent r rs).Nodup then (match f (.oo c [] :: rs ++ [.st st]) with
      | .ok v as => (match splS (rs.length + 1) as with
        | some (r0 :: rs', st') => if rs'.length = rs.length ∧ isNon v = true then .ok r0 ((wb r rs rs' env).set k0 (some (.st st'))) else .stk
        | _ => .stk)
      | .err x as => (match splS (rs.length + 1) as with
        | some (_ :: rs', st') => if rs'.length = rs.length then .err x ((wb r rs rs' env).set k0 (some (.st st'))) else .stk
        | _ => .stk)
      | _ => .stk) else .stk
    | _, _ => .stk
def mkAW (k0 : Nat) (c : Str) (f : FnD) (arr : List Src) (mp mk : M (List Opd)) : M RV := bindM mp fun os1 => bindM mk fun os2 => finMkW k0 c f arr (os1 ++ os2)
end Z
namespace Z
open PySem PySem.Spec PyProof.Rows L2
def lresW (k0 : Nat) (e : DEnv) : FRes → Res RV
  | .ok r [.st s] => .ok r (e.set k0 (some (.st s)))
  | .err x [.st s] => .err x (e.set k0 (some (.st s)))
  | _ => .stk
/-- the store, the cells left out -/
theorem StoR.but {K : PySem.W.Frag} {mg : Str → Option Value} {C : Addr → Prop} {G H : Hp} {s : List LO} (hC : Cells C G) (h : StoR K mg G H s) : StoR K mg (But C G) (But C H) s :=
  ⟨fun a ps q => h.1 a ps (but_some q).2, fun i lo e => by
    obtain ⟨nl, a, o, h1, h2, h3⟩ := h.2 i lo e
    have nz : ¬ C a := hC.out h1 (.of nofun)
    exact ⟨nl, a, o, by rw [but_out nz]; exact h1, by rw [but_out nz]; exact h2, h3.but hC nl⟩⟩
end Z
namespace Z
open PySem PySem.Spec PyProof.Rows L2
end Z
namespace Z
open PySem PySem.Spec PyProof.Rows L2
end Z
namespace Z
open PySem PySem.Spec PyProof.Rows L2
def finWS (k0 : Nat) (f : FnD) (o : Opd) (os : List Opd) (env : DEnv) : Res RV := match dsOf os env with
  | .ok ds e => (match resolve e o, stAt k0 e with
    | some (.sh d0), some st => if ds.length ≤ sizeLine then (match f [.sh d0, .sh (.tup ds), .st st] with
      | .ok r [_, _, .st st'] => .ok r (e.set k0 (some (.st st')))
      | .err x [_, _, .st st'] => .err x (e.set k0 (some (.st st')))
      | _ => .stk) else .stk
    | _, _ => .stk)
  | _ => .stk
def methSW (k0 : Nat) (c m : Str) (f : FnD) (mo : M Opd) (mp : M (List Opd)) : M RV := bindM mo fun o e => match (resolveL k0 e o).bind clsR with
  | some (c', fs) => if c' = c ∧ fs.lookup m = none then bindM mp (fun os => finWS k0 f o os) e else .stk
  | none => .stk
end Z
namespace Z
open PySem PySem.Spec PyProof.Rows L2
open L2H (RoomH roomH_of)
/-- __exit__: what stands behind self is not looked at -/
def envX (N : Nat) (d0 : D) (st : List LO) : DEnv := some (.sh d0) :: List.replicate (N - 2) none ++ [some (.st st)]
def finX (k0 : Nat) (f : FnD) (d : D) (e : DEnv) : Option DEnv := match stAt k0 e with
  | some st => (match f [.sh d, .st st] with
    | .ok (.sh .non) [_, .st st'] => some (e.set k0 (some (.st st')))
    | _ => none)
  | none => none
/-- with C(..): suite -/
def withS (k0 : Nat) (c : Str) (fe fx : FnD) (mc : M RV) (s : MS) : MS := fun env => match mc env with
  | .ok r e => (match r.d with
    | .obj c' fs => if c' = c then (match finW k0 fe [.val (.obj c' fs)] e with
      | .ok _ e1 => (match s e1 with
        | .nx e2 => (match finX k0 fx (.obj c' fs) e2 with
          | some e3 => .nx e3
          | none => .stk)
        | .err x e2 => (match finX k0 fx (.obj c' fs) e2 with
          | some e3 => .err x e3
          | none => .stk)
        | _ => .stk)
      | _ => .stk) else .stk
    | _ => .stk)
  | .err x e => .err x e
  | .stk => .stk
end Z
namespace Z
open PySem PySem.Spec PyProof.Rows L2
section
variable {K : PySem.W.Frag} {mg : Str → Option Value} {W : WX} {Fh : FHp} {P : List (Nat × V)} {G G' H H' : Hp} {σ : L2.St} {env : DEnv} {T : List Addr}
theorem PErr.guard {p : Addr} {o : HO} (hF : Fh p = none) {x : Exn} {e : DEnv} (h : PErr K mg W Fh P σ G x e) : PErr K mg W (updF Fh p o) P σ G x e := fun cls d G' H' ex xr S => h cls d G' H' ex xr (S.unguard hF).drop
def flatK1 (kvs : List (NestedKey × D)) : Bool := kvs.all fun kv => flatK kv.1
/-- the pairs of a shared dict with flat keys -/
def flatS : RV → Option (List (NestedKey × D))
  | .sh (.dct ((.none, _) :: kvs)) => if flatK1 kvs = true then some kvs else none
  | .sh (.dct kvs) => if flatK1 kvs = true then some kvs else none
  | _ => none
/-- {**d, k: v} -/
def sprM (md mk mv : M Opd) : M RV := bindM md fun o1 e1 => match (resolve e1 o1).bind flatS with
  | some kvs => if kvs.length < sizeLine then bindM mk (fun o2 => bindM mv fun o3 e3 => match (resolve e3 o2).bind keyR with
    | some k => if flatK k = true then (match dOf o3 e3 with
      | .ok d e4 => .ok (.od (putN kvs k d)) e4
      | _ => .stk) else .stk
    | none => .stk) e1 else .stk
  | none => .stk
end
end Z
namespace Z
open PySem PySem.Spec PyProof.Rows L2
def resS : Res RV → Out
  | .ok _ e => .nx e
  | .err x e => .err x e
  | .stk => .stk
def setOMW (k0 : Nat) (c : Str) (f : FnD) (mo mv : M Opd) : MS := bindS mv fun o1 => bindS mo fun o2 e => if insOW k0 c o2 e = true then resS (finW k0 f [o2, o1] e) else .stk
section
variable {K : PySem.W.Frag} {mg : Str → Option Value} {W : WX} {Fh : FHp} {P : List (Nat × V)} {G G' H H' : Hp} {σ : L2.St} {env : DEnv}
/-- an own dict: locked for good and shared -/
def lockV (m : M RV) : M RV := bindM m fun r e => match r with
  | .od kvs => .ok (.sh (.dct ((.none, .non) :: kvs))) e
  | .sh (.dct ((.none, .non) :: kvs)) => .ok (.sh (.dct ((.none, .non) :: kvs))) e
  | _ => .stk
end
def dc0M (k0 j : Nat) : M RV := fun env => match mutAt k0 env (.slot j) with
  | some (.od []) => .ok (.od []) env
  | _ => .stk
end Z
namespace Z
open PySem PySem.Spec PyProof.Rows L2
end Z
namespace Z
open PySem PySem.Spec PyProof.Rows L2
end Z
namespace Z
open PySem PySem.Spec PyProof.Rows L2
end Z
namespace Z
open PySem PySem.Spec PyProof.Rows L2
/-- try: s, except (A, B, C) as e: x = f"t{e.f}"; es: the classes that are caught; i: e's slot, j: x's -/
def tellF (es : List Str) (pn : List Nat) (i j : Nat) (t f : Str) (s : MS) : MS := fun env => if i ∈ pn ∨ j ∈ pn ∨ i = j then .stk else match s env with
  | .err x e => if x.c ∈ es then (match x.fs.lookup f with
    | some (.str y) => if j < e.length ∧ i < e.length ∧ (Str.empty ++ t).length ≤ 16777216 ∧ y.length ≤ 16777216 ∧ (Str.empty ++ t ++ y).length ≤ 16777216 then .nx (((e.set i none).set j (some (.sh (.str (Str.empty ++ t ++ y))))).set i none) else .stk
    | _ => .stk) else .stk
  | o => o
end Z
namespace Z
open PySem PySem.Spec PyProof.Rows L2
open PySem.W (kun_collect)
section
variable {X : Cx} {pos : Pos}
def star3S (pn : List Nat) (i0 i1 i2 j : Nat) (mo : M Opd) : MS := bindS mo fun o e => match dOf o e with
  | .ok (.tup (d0 :: d1 :: d2 :: ds)) e' => if ((i0 < e'.length ∧ i1 < e'.length) ∧ (i2 < e'.length ∧ j < e'.length)) ∧ ((i0 ∉ pn ∧ i1 ∉ pn) ∧ (i2 ∉ pn ∧ j ∉ pn)) ∧ ds.length ≤ 10000 then .nx ((((e'.set i0 (some (.sh d0))).set i1 (some (.sh d1))).set i2 (some (.sh d2))).set j (some (.ol ds))) else .stk
  | _ => .stk
end
end Z
namespace Z
open PySem PySem.Spec PyProof.Rows L2
end Z
namespace Z
open PySem PySem.Spec PySem.W PyProof.Rows L2
end Z
namespace Z
open PySem PySem.Spec PyProof.Rows L2
end Z
namespace Z
open PySem PySem.Spec PyProof.Rows L2
end Z
namespace Z
open PySem PySem.Spec PyProof.Rows L2
/-- what holds behind a comparison -/
def EqP (X : Cx) (Fh : FHp) (P : List (Nat × V)) (pins : List (Addr × Obj)) (σ : L2.St) (env : DEnv) (G : Hp) (s' : Shared) : Prop := ∃ G' H', Inv X pins σ H' s' ∧ Ex G G' ∧ SRel X.K X.mg Fh P G' H' σ env []
section
variable {X : Cx} {Fh : FHp} {P : List (Nat × V)} {pins : List (Addr × Obj)} {σ : L2.St} {env : DEnv} {k : Nat} {c : Str} {fD : FnD} {n : Nat}
theorem EqP.step {G G1 : Hp} {s' : Shared} (h : EqP X Fh P pins σ env G1 s') (e : Ex G G1) : EqP X Fh P pins σ env G s' := by
  obtain ⟨G', H', a, b, d⟩ := h
  exact ⟨G', H', a, e.trans b, d⟩
end
end Z
namespace Z
open PySem PySem.Spec PyProof.Rows L2
/-- the objects that such data rests on -/
def okH (C : Addr) (k n : Nat) (lk : Bool) (o : HO) : Prop := o ≠ mkO k ∧ o ≠ mkO n ∧ (∀ dx gs, o ≠ .ins C dx gs) ∧ (lk = false → ∀ od, (∀ gs, o ≠ .frz od (.dK gs)) ∧ ∀ φ, o ≠ .frz od (.ext φ))
section
variable {K : PySem.W.Frag} {mg : Str → Option Value} {G G1 : Hp} {C : Addr} {c : Str} {cs : List Str} {k n : Nat} {lk : Bool}
def Keeps (C : Addr) (k n : Nat) (lk : Bool) (G G1 : Hp) : Prop := ∀ b o, G b = some o → okH C k n lk o → G1 b = some o
theorem Keeps.sqT (e : Keeps C k n lk G G1) {a : Addr} {xs : List V} (h : SqT K G a xs) : SqT K G1 a xs := by
  rcases h with (h | ⟨o, h⟩) | h
  · exact .inl (.inl (e _ _ h ⟨nofun, nofun, nofun, fun _ od => ⟨nofun, nofun⟩⟩))
  · exact .inl (.inr ⟨o, e _ _ h ⟨nofun, nofun, nofun, fun _ od => ⟨nofun, nofun⟩⟩⟩)
  · exact .inr h
theorem Keeps.sqL (e : Keeps C k n lk G G1) {a : Addr} {xs : List V} (h : SqL K G a xs) : SqL K G1 a xs := by
  rcases h with (h | ⟨o, h⟩) | h
  · exact .inl (.inl (e _ _ h ⟨nofun, nofun, nofun, fun _ od => ⟨nofun, nofun⟩⟩))
  · exact .inl (.inr ⟨o, e _ _ h ⟨nofun, nofun, nofun, fun _ od => ⟨nofun, nofun⟩⟩⟩)
  · exact .inr h
end
end Z
namespace Z
open PySem PySem.Spec PyProof.Rows L2
end Z
namespace Z
open PySem PySem.Spec PyProof.Rows L2
end Z
namespace Z
open PySem PySem.Spec PyProof.Rows L2
end Z
namespace Z
open PySem PySem.Spec PyProof.Rows L2
end Z
namespace Z
open PySem PySem.Spec PyProof.Rows L2
end Z
namespace Z
open PySem PySem.Spec PyProof.Rows L2
open PySem.W (kun_collect kun_draw)
end Z
namespace Z
open PySem PySem.Spec PyProof.Rows L2
/-- the text of an entry -/
def keyT (e : Int × Value) : Str := match e.2 with | .str k _ => k | _ => Str.empty
def GoodT (w : World) (e : Int × Value) : Prop := ∃ k tk, e.2 = Value.str k tk ∧ e.1 = hashStr w k
/-- the set of texts at a -/
def SetTx (w : World) (h : Heap) (a : Addr) (S : Str → Bool) (n : Nat) : Prop :=
  ∃ o es ep t, h.get? a = some o ∧ o.ExactSet ∧ o.data = .set es ep t ∧ (∀ e ∈ es.toList, GoodT w e) ∧ (es.toList.map keyT).Nodup ∧ (∀ k, S k = true ↔ k ∈ es.toList.map keyT) ∧
    es.size < scanBound ∧ t.fits es.size = true ∧ es.size = n ∧ Ris t.place.toList ∧ (w.params.followText "set-order" = true ∨ t.led = true)
section
variable {P : Program} {w : World} {h h' : Heap} {a : Addr} {S : Str → Bool} {n : Nat}
theorem SetTx.at (R : SetTx w h a S n) (k : ∀ o, h.get? a = some o → h'.get? a = some o) : SetTx w h' a S n := by
  obtain ⟨o, es, ep, t, ho, r⟩ := R
  exact ⟨o, es, ep, t, k o ho, r⟩
end
end Z
namespace Z
open PySem PySem.Spec PyProof.Rows L2
end Z
namespace Z
open PySem PyProof.Rows
open Sem (wp)
def numb : GenState → GenState
  | .suspended _ l c p fs cl => .suspended (fun _ => .unsupported "numb") l c p fs cl
  | x => x
def Asleep : GenState → Prop
  | .suspended .. => True
  | _ => False
def Plain : GenState → Prop
  | .suspended _ _ _ _ fs _ => splitAtGen fs = none
  | _ => True
def PlainE : End → Prop
  | .susp _ _ _ _ _ _ fs => splitAtGen fs = none
  | _ => True
theorem PlainE.st {e : End} (h : PlainE e) : Plain e.genState := by cases e <;> exact h
theorem numb_seen {y : GenState} : (numb y).seen = y.seen := by cases y <;> rfl
theorem numb_bare {y : GenState} : (numb y).bare = y.bare := by cases y <;> rfl
/-- b: the real sleepers, a: some of them numb -/
def NumAt (x y : GenState) : Prop := (x = y ∧ Plain x) ∨ (x = numb y ∧ Asleep y)
theorem NumAt.seen {x y : GenState} (h : NumAt x y) : x.seen = y.seen := by
  rcases h with ⟨rfl, _⟩ | ⟨rfl, _⟩
  · rfl
  · exact numb_seen
theorem NumAt.fresh {c : Code} {y : GenState} (h : NumAt (.fresh c) y) : y = .fresh c := by
  rcases h with ⟨rfl, _⟩ | ⟨h1, h2⟩
  · rfl
  · cases y <;> first | exact False.elim h2 | cases h1
structure Num (a b : Array GenState) : Prop where
  sz : a.size = b.size
  at_ : ∀ (i : Nat) (x : GenState), a[i]? = some x → ∃ y, b[i]? = some y ∧ NumAt x y
def Kept (a a' b b' : Array GenState) : Prop := ∀ (i : Nat) (y : GenState), Asleep y → b[i]? = some y → a[i]? = some (numb y) → b'[i]? = some y ∧ a'[i]? = some (numb y)
theorem Kept.refl {a b : Array GenState} : Kept a a b b := fun _ _ _ h1 h2 => ⟨h1, h2⟩
theorem Kept.trans {a a1 a2 b b1 b2 : Array GenState} (h : Kept a a1 b b1) (k : Kept a1 a2 b1 b2) : Kept a a2 b b2 := fun i y q h1 h2 => k i y q (h i y q h1 h2).1 (h i y q h1 h2).2
theorem setAt {a : Array GenState} {g i : Nat} {x z : GenState} (h : (a.setIfInBounds g x)[i]? = some z) : (i = g ∧ z = x ∧ g < a.size) ∨ (i ≠ g ∧ a[i]? = some z) := by
  by_cases e : i = g
  · subst e
    by_cases l : i < a.size
    · have : (a.setIfInBounds i x)[i]? = some x := by simp [l]
      rw [this] at h; exact .inl ⟨rfl, (Option.some.inj h).symm, l⟩
    · have : (a.setIfInBounds i x)[i]? = none := by simp [l]
      rw [this] at h; cases h
  · rw [Array.getElem?_setIfInBounds_ne (Ne.symm e)] at h; exact .inr ⟨e, h⟩
theorem Num.set {a b : Array GenState} {g : Nat} {x : GenState} (h : Num a b) (p : Plain x) : Num (a.setIfInBounds g x) (b.setIfInBounds g x) := by
  refine ⟨by simp [h.sz], fun i z e => ?_⟩
  rcases setAt e with ⟨rfl, rfl, l⟩ | ⟨n, e⟩
  · exact ⟨z, by simp [← h.sz, l], .inl ⟨rfl, p⟩⟩
  · obtain ⟨y, q, r⟩ := h.at_ i z e
    exact ⟨y, by rw [Array.getElem?_setIfInBounds_ne (Ne.symm n)]; exact q, r⟩
theorem Num.push {a b : Array GenState} {x : GenState} (h : Num a b) (p : Plain x) : Num (a.push x) (b.push x) := by
  refine ⟨by simp [h.sz], fun i z e => ?_⟩
  rw [Array.getElem?_push] at e ⊢
  rw [← h.sz]
  split at e
  · rename_i l; rw [if_pos l]; exact ⟨x, rfl, .inl ⟨(Option.some.inj e).symm, by rw [← Option.some.inj e]; exact p⟩⟩
  · rename_i l; rw [if_neg l]; exact h.at_ i z e
theorem Kept.push {a b : Array GenState} {x : GenState} (h : a.size = b.size) : Kept a (a.push x) b (b.push x) := fun i y q h1 h2 => by
  have l1 := (Array.getElem?_eq_some_iff.mp h1).1
  have l2 := (Array.getElem?_eq_some_iff.mp h2).1
  rw [Array.getElem?_push, Array.getElem?_push, if_neg (Nat.ne_of_lt l1), if_neg (Nat.ne_of_lt l2)]
  exact ⟨h1, h2⟩
/-- a sleeper that may be woken is no numb one -/
theorem Kept.set {a b : Array GenState} {g : Nat} {x z : GenState} (n : ∀ y, Asleep y → a[g]? ≠ some (numb y)) : Kept a (a.setIfInBounds g x) b (b.setIfInBounds g z) := fun i y q h1 h2 => by
  have e : g ≠ i := fun e => by subst e; exact n y q h2
  rw [Array.getElem?_setIfInBounds_ne e, Array.getElem?_setIfInBounds_ne e]
  exact ⟨h1, h2⟩
theorem runs_uns0 {M : Model} {Γ : Ctx} {p : Pos} {w : String} {s s' : Shared} {e : End} (h : Runs M Γ p (.unsupported w) [] s e s') : False := by cases h
theorem runs_uns {M : Model} {Γ : Ctx} {p : Pos} {w : String} {fs : List Frame} {s s' : Shared} {e : End} (h : Runs M Γ p (.unsupported w) fs s e s') : False := by
  cases h <;> exact runs_uns0 (by assumption)
theorem split_app : ∀ {a b : List Frame}, splitAtGen a = none → splitAtGen b = none → splitAtGen (a ++ b) = none
  | [], b, _, h => h
  | .gen .. :: a, b, h, _ => by cases h
  | .ret .. :: a, b, h, k => by
    have h' : splitAtGen a = none := by
      show splitAtGen a = none
      have h0 : (splitAtGen a).map _ = none := h
      exact Option.map_eq_none_iff.mp h0
    show (splitAtGen (a ++ b)).map _ = none
    rw [split_app h' k]; rfl
theorem split_tl {F : Frame} {fs : List Frame} (h : splitAtGen (F :: fs) = none) : splitAtGen fs = none := by
  cases F with
  | gen => cases h
  | ret =>
    have h0 : (splitAtGen fs).map _ = none := h
    exact Option.map_eq_none_iff.mp h0
abbrev Shared.gn (s : Shared) (b : Array GenState) : Shared := { s with gens := b }
theorem runs_num {M : Model} {Γ : Ctx} {p : Pos} {t : Sem PySem.Fin} {fs : List Frame} {s s' : Shared} {e : End} (h : Runs M Γ p t fs s e s') : ∀ b, splitAtGen fs = none → Num s.gens b →
    ∃ b', Runs M Γ p t fs (Shared.gn s b) e (Shared.gn s' b') ∧ Num s'.gens b' ∧ PlainE e ∧ Kept s.gens s'.gens b b' := by
  induction h with
  | done => intro b _ n; exact ⟨b, .done, n, trivial, .refl⟩
  | raise => intro b _ n; exact ⟨b, .raise, n, trivial, .refl⟩
  | again hq _ ih => intro b _ n; obtain ⟨b', r, q⟩ := ih b rfl n; exact ⟨b', .again hq r, q⟩
  | rule _ ih => intro b _ n; obtain ⟨b', r, q⟩ := ih b rfl n; exact ⟨b', .rule r, q⟩
  | «at» _ ih => intro b _ n; obtain ⟨b', r, q⟩ := ih b rfl n; exact ⟨b', .at r, q⟩
  | load ho _ ih => intro b _ n; obtain ⟨b', r, q⟩ := ih b rfl n; exact ⟨b', .load (s := Shared.gn _ b) ho r, q⟩
  | update ho _ ih => intro b _ n; obtain ⟨b', r, q⟩ := ih b rfl n; exact ⟨b', .update (s := Shared.gn _ b) ho r, q⟩
  | loadIfAlive _ ih => intro b _ n; obtain ⟨b', r, q⟩ := ih b rfl n; exact ⟨b', .loadIfAlive (s := Shared.gn _ b) r, q⟩
  | point _ ih => intro b _ n; obtain ⟨b', r, q⟩ := ih b rfl n; exact ⟨b', .point r, q⟩
  | alloc _ ih => intro b _ n; obtain ⟨b', r, q⟩ := ih b rfl n; exact ⟨b', .alloc (s := Shared.gn _ b) r, q⟩
  | fresh _ ih => intro b _ n; obtain ⟨b', r, q⟩ := ih b rfl n; exact ⟨b', .fresh (s := Shared.gn _ b) r, q⟩
  | ask _ ih => intro b _ n; obtain ⟨b', r, q⟩ := ih b rfl n; exact ⟨b', .ask r, q⟩
  | choose hn _ ih => intro b _ n; obtain ⟨b', r, q⟩ := ih b rfl n; exact ⟨b', .choose (s := Shared.gn _ b) hn r, q⟩
  | os _ ih => intro b _ n; obtain ⟨b', r, q⟩ := ih b rfl n; exact ⟨b', .os (s := Shared.gn _ b) r, q⟩
  | handled _ ih => intro b _ n; obtain ⟨b', r, q⟩ := ih b rfl n; exact ⟨b', .handled r, q⟩
  | genState hg _ ih =>
    intro b _ n
    obtain ⟨b', r, q⟩ := ih b rfl n
    obtain ⟨y, hy, hz⟩ := n.at_ _ _ hg
    rw [hz.seen] at r
    exact ⟨b', .genState (s := Shared.gn _ b) hy r, q⟩
  | stack _ ih => intro b _ n; obtain ⟨b', r, q⟩ := ih b rfl n; exact ⟨b', .stack r, q⟩
  | thread _ ih => intro b _ n; obtain ⟨b', r, q⟩ := ih b rfl n; exact ⟨b', .thread r, q⟩
  | newGen _ ih =>
    intro b _ n
    obtain ⟨b', r, q1, q2, q3⟩ := ih (b.push (.fresh _)) rfl (n.push (x := .fresh _) trivial)
    rw [n.sz] at r
    exact ⟨b', .newGen (s := Shared.gn _ b) r, q1, q2, (Kept.push n.sz).trans q3⟩
  | call _ _ ih1 ih2 =>
    intro b _ n
    obtain ⟨b1, r1, n1, _, k1⟩ := ih1 b rfl n
    obtain ⟨b2, r2, n2, p2, k2⟩ := ih2 b1 rfl n1
    exact ⟨b2, .call r1 r2, n2, p2, k1.trans k2⟩
  | callSusp _ ih =>
    intro b _ n
    obtain ⟨b1, r1, n1, p1, k1⟩ := ih b rfl n
    exact ⟨b1, .callSusp r1, n1, split_app p1 rfl, k1⟩
  | yield => intro b _ n; exact ⟨b, .yield, n, rfl, .refl⟩
  | @resumeFresh Γ p g l k s c e₁ s₁ e s' hg _ hq _ ih1 ih2 =>
    intro b _ n
    obtain ⟨y, hy, hz⟩ := n.at_ _ _ hg
    have ey : y = .fresh c := by
      rcases hz with ⟨rfl, _⟩ | ⟨h1, h2⟩
      · rfl
      · cases y <;> first | exact False.elim h2 | cases h1
    subst ey
    have nn : ∀ y, Asleep y → s.gens[g]? ≠ some (numb y) := fun y q z => by
      rw [hg] at z
      cases y <;> first | exact False.elim q | cases z
    obtain ⟨b1, r1, n1, p1, k1⟩ := ih1 (b.setIfInBounds g .running) rfl (n.set trivial)
    obtain ⟨b2, r2, n2, p2, k2⟩ := ih2 (b1.setIfInBounds g e₁.genState) rfl (n1.set p1.st)
    refine ⟨b2, .resumeFresh (s := Shared.gn _ b) hy r1 hq r2, n2, p2, ?_⟩
    intro i y q h1 h2
    have e0 : g ≠ i := fun e => by subst e; exact nn y q h2
    have m1 := k1 i y q (by rw [Array.getElem?_setIfInBounds_ne e0]; exact h1) (by show (s.gens.setIfInBounds g .running)[i]? = _; rw [Array.getElem?_setIfInBounds_ne e0]; exact h2)
    exact k2 i y q (by rw [Array.getElem?_setIfInBounds_ne e0]; exact m1.1) (by show (s₁.gens.setIfInBounds g _)[i]? = _; rw [Array.getElem?_setIfInBounds_ne e0]; exact m1.2)
  | @resumeSuspended Γ p g r l k s k₀ l₀ c₀ p₀ fs cl e₁ s₁ e s' hg hr hq _ ih1 ih2 =>
    intro b _ n
    obtain ⟨y, hy, hz⟩ := n.at_ _ _ hg
    have nn : ∀ y, Asleep y → s.gens[g]? ≠ some (numb y) := fun y q z => by
      rw [hg] at z
      cases y with
      | suspended k' l' c' p' fs' cl' =>
        cases z
        exact runs_uns hr
      | _ => exact False.elim q
    rcases hz with ⟨rfl, hp⟩ | ⟨h1, h2⟩
    · obtain ⟨b1, r1, n1, p1, k1⟩ := ih1 (b.setIfInBounds g .running) hp (n.set trivial)
      obtain ⟨b2, r2, n2, p2, k2⟩ := ih2 (b1.setIfInBounds g e₁.genState) rfl (n1.set p1.st)
      refine ⟨b2, .resumeSuspended (s := Shared.gn _ b) hy r1 hq r2, n2, p2, ?_⟩
      intro i y q h1 h2
      have e0 : g ≠ i := fun e => by subst e; exact nn y q h2
      have m1 := k1 i y q (by rw [Array.getElem?_setIfInBounds_ne e0]; exact h1) (by show (s.gens.setIfInBounds g .running)[i]? = _; rw [Array.getElem?_setIfInBounds_ne e0]; exact h2)
      exact k2 i y q (by rw [Array.getElem?_setIfInBounds_ne e0]; exact m1.1) (by show (s₁.gens.setIfInBounds g _)[i]? = _; rw [Array.getElem?_setIfInBounds_ne e0]; exact m1.2)
    · exact (nn y h2 (by rw [hg, h1])).elim
  | resumeJustStarted hg hv _ ih =>
    intro b _ n
    obtain ⟨y, hy, hz⟩ := n.at_ _ _ hg
    obtain ⟨b', r, q⟩ := ih b rfl n
    rw [hz.fresh] at hy
    exact ⟨b', .resumeJustStarted (s := Shared.gn _ b) hy hv r, q⟩
  | resumeThrowFresh hg _ ih =>
    intro b _ n
    obtain ⟨y, hy, hz⟩ := n.at_ _ _ hg
    rw [hz.fresh] at hy
    obtain ⟨b', r, n1, p1, k1⟩ := ih (b.setIfInBounds _ .finished) rfl (n.set (x := .finished) trivial)
    refine ⟨b', .resumeThrowFresh (s := Shared.gn _ b) hy r, n1, p1, (Kept.set fun y q z => ?_).trans k1⟩
    rw [hg] at z
    cases y <;> first | exact False.elim q | cases z
  | resumeRunning hg _ ih =>
    intro b _ n
    obtain ⟨y, hy, hz⟩ := n.at_ _ _ hg
    obtain ⟨b', r, q⟩ := ih b rfl n
    refine ⟨b', .resumeRunning (s := Shared.gn _ b) ?_ r, q⟩
    rcases hz with ⟨rfl, _⟩ | ⟨h1, h2⟩
    · exact hy
    · cases y <;> first | exact False.elim h2 | cases h1
  | resumeFinished hg _ ih =>
    intro b _ n
    obtain ⟨y, hy, hz⟩ := n.at_ _ _ hg
    obtain ⟨b', r, q⟩ := ih b rfl n
    refine ⟨b', .resumeFinished (s := Shared.gn _ b) ?_ r, q⟩
    rcases hz with ⟨rfl, _⟩ | ⟨h1, h2⟩
    · exact hy
    · cases y <;> first | exact False.elim h2 | cases h1
  | segRet _ _ ih1 ih2 =>
    intro b hf n
    obtain ⟨b1, r1, n1, _, k1⟩ := ih1 b rfl n
    obtain ⟨b2, r2, n2, p2, k2⟩ := ih2 b1 (split_tl hf) n1
    exact ⟨b2, .segRet r1 r2, n2, p2, k1.trans k2⟩
  | segGen _ _ _ _ => intro b hf _; cases hf
  | segSuspOut hs _ ih =>
    intro b hf n
    obtain ⟨b1, r1, n1, p1, k1⟩ := ih b rfl n
    exact ⟨b1, .segSuspOut hs r1, n1, split_app p1 hs, k1⟩
  | segSuspGen hs _ _ _ _ _ => intro b hf _; rw [hs] at hf; cases hf
theorem wakes_num {M : Model} {Γ : Ctx} {p : Pos} {g : Nat} {r : Resume} {s s' : Shared} {res : GenResult} (h : Wakes M Γ p g r s res s') {b : Array GenState} (n : Num s.gens b) :
    ∃ b', Wakes M Γ p g r (Shared.gn s b) res (Shared.gn s' b') ∧ Num s'.gens b' ∧ Kept s.gens s'.gens b b' := by
  have key : Runs M Γ p (.resume g r [] fun _ => .pure (.done .next)) [] s (.ret (.ok .next)) s' := by
    rw [Sem.runs_resume_iff]
    exact ⟨res, s', h, .done⟩
  unfold Wakes at h
  cases hg : s.gens[g]? with
  | none => rw [hg] at h; exact h.elim
  | some x =>
    rw [hg] at h
    obtain ⟨y, hy, hz⟩ := n.at_ _ _ hg
    have nn : (x = y ∧ Plain x) ∧ ∀ y, Asleep y → s.gens[g]? ≠ some (numb y) ∨ x = .running ∨ x = .finished := by
      rcases hz with z | ⟨h1, h2⟩
      · refine ⟨z, fun y' q => ?_⟩
        cases x with
        | suspended k' l' c' p' fs' cl' =>
          refine .inl fun e => ?_
          rw [hg] at e
          cases y' with
          | suspended k2 l2 c2 p2 fs2 cl2 =>
            cases e
            obtain ⟨e₁, s₁, hr, _⟩ := h
            exact runs_uns hr
          | _ => exact False.elim q
        | fresh c =>
          refine .inl fun e => ?_
          rw [hg] at e
          cases y' <;> first | exact False.elim q | cases e
        | running => exact .inr (.inl rfl)
        | finished => exact .inr (.inr rfl)
      · cases y with
        | suspended k2 l2 c2 p2 fs2 cl2 =>
          subst h1
          obtain ⟨e₁, s₁, hr, _⟩ := h
          exact (runs_uns hr).elim
        | _ => exact False.elim h2
    obtain ⟨⟨rfl, hp⟩, nn⟩ := nn
    have fin : ∀ {e₁ : End} {s₁ : Shared} {b1 : Array GenState}, (x ≠ .running ∧ x ≠ .finished) → Kept (s.gens.setIfInBounds g .running) s₁.gens (b.setIfInBounds g .running) b1 → Kept s.gens (s₁.gens.setIfInBounds g e₁.genState) b (b1.setIfInBounds g e₁.genState) := fun {e₁ s₁ b1} hx k1 i y q h1 h2 => by
      have e0 : g ≠ i := fun e => by
        subst e
        rcases nn y q with z | z | z
        · exact z h2
        · exact hx.1 z
        · exact hx.2 z
      have m1 := k1 i y q (by rw [Array.getElem?_setIfInBounds_ne e0]; exact h1) (by rw [Array.getElem?_setIfInBounds_ne e0]; exact h2)
      rw [Array.getElem?_setIfInBounds_ne e0, Array.getElem?_setIfInBounds_ne e0]
      exact m1
    cases x with
    | fresh c =>
      cases r with
      | send v =>
        by_cases hv : v = .none
        · subst hv
          obtain ⟨e₁, s₁, hr, hq, rfl, rfl⟩ := h
          obtain ⟨b1, r1, n1, p1, k1⟩ := runs_num hr (b.setIfInBounds g .running) rfl (n.set trivial)
          refine ⟨b1.setIfInBounds g e₁.genState, ?_, n1.set p1.st, fin ⟨nofun, nofun⟩ k1⟩
          unfold Wakes
          rw [show (Shared.gn s b).gens[g]? = _ from hy]
          exact ⟨e₁, _, r1, hq, rfl, rfl⟩
        · have h' : res = .justStarted ∧ s' = s := by
            cases v <;> first | exact absurd rfl hv | exact h
          obtain ⟨rfl, rfl⟩ := h'
          refine ⟨b, ?_, n, .refl⟩
          unfold Wakes
          rw [show (Shared.gn s' b).gens[g]? = _ from hy]
          cases v <;> first | exact absurd rfl hv | exact ⟨rfl, rfl⟩
      | throw v =>
        obtain ⟨rfl, rfl⟩ := h
        refine ⟨b.setIfInBounds g .finished, ?_, n.set trivial, Kept.set fun y q => (nn y q).resolve_right (fun z => by rcases z with z | z <;> cases z)⟩
        unfold Wakes
        rw [show (Shared.gn s b).gens[g]? = _ from hy]
        exact ⟨rfl, rfl⟩
    | suspended k₀ l₀ c₀ p₀ fs cl =>
      obtain ⟨e₁, s₁, hr, hq, rfl, rfl⟩ := h
      obtain ⟨b1, r1, n1, p1, k1⟩ := runs_num hr (b.setIfInBounds g .running) hp (n.set trivial)
      refine ⟨b1.setIfInBounds g e₁.genState, ?_, n1.set p1.st, fin ⟨nofun, nofun⟩ k1⟩
      unfold Wakes
      rw [show (Shared.gn s b).gens[g]? = _ from hy]
      exact ⟨e₁, _, r1, hq, rfl, rfl⟩
    | running =>
      obtain ⟨rfl, rfl⟩ := h
      refine ⟨b, ?_, n, .refl⟩
      unfold Wakes
      rw [show (Shared.gn s' b).gens[g]? = _ from hy]
      exact ⟨rfl, rfl⟩
    | finished =>
      obtain ⟨rfl, rfl⟩ := h
      refine ⟨b, ?_, n, .refl⟩
      unfold Wakes
      rw [show (Shared.gn s' b).gens[g]? = _ from hy]
      exact ⟨rfl, rfl⟩
/-- the same way with the real sleepers -/
def NumQ {α : Type} (s : Shared) (b : Array GenState) (Q : α → Shared → Prop) (a : α) (s2 : Shared) : Prop := ∃ s1 b1, Q a s1 ∧ s2 = Shared.gn s1 b1 ∧ Num s1.gens b1 ∧ Kept s.gens s1.gens b b1
theorem wp_num {α : Type} (M : Model) (Γ : Ctx) (t : Sem α) : ∀ (Q : α → Pos → Shared → Prop) (E : Value → Pos → Shared → Prop) (p : Pos) (s : Shared) (b : Array GenState), Num s.gens b → wp M Γ t Q E p s →
    wp M Γ t (fun a p' s2 => NumQ s b (fun a s' => Q a p' s') a s2) (fun e p' s2 => NumQ s b (fun e s' => E e p' s') e s2) p (Shared.gn s b) := by
  have go : ∀ {s s1 : Shared} {b b1 : Array GenState} {β : Type} {R : β → Shared → Prop} {a : β} {s2 : Shared}, Kept s.gens s1.gens b b1 → NumQ s1 b1 R a s2 → NumQ s b R a s2 := fun k ⟨s3, b3, h1, h2, h3, h4⟩ => ⟨s3, b3, h1, h2, h3, k.trans h4⟩
  induction t with
  | pure a => intro Q E p s b n h; exact ⟨s, b, h, rfl, n, .refl⟩
  | raise e => intro Q E p s b n h; exact ⟨s, b, h, rfl, n, .refl⟩
  | unsupported _ => intro Q E p s b n h; exact h
  | finish _ => intro Q E p s b n h; exact h
  | rule _ k ih => intro Q E p s b n h; exact ih () Q E p s b n h
  | «at» p' k ih => intro Q E p s b n h; exact ih () Q E p' s b n h
  | load a _ k ih => intro Q E p s b n h; obtain ⟨o, ho, h⟩ := h; exact ⟨o, ho, ih o Q E p s b n h⟩
  | update a _ f k ih => intro Q E p s b n h; exact ⟨h.1, ih () Q E p { s with heap := s.heap.update a f } b n h.2⟩
  | loadIfAlive a k ih => intro Q E p s b n h; exact ih _ Q E p s b n h
  | point _ k ih => intro Q E p s b n h; exact ih () Q E p s b n h
  | register _ _ => intro Q E p s b n h; exact h
  | alloc o k ih => intro Q E p s b n h; exact ih _ Q E p { s with heap := s.heap.push o } b n h
  | fresh k ih => intro Q E p s b n h; exact ih _ Q E p { s with toks := s.toks + 1 } b n h
  | ask k ih => intro Q E p s b n h; exact ih _ Q E p s b n h
  | choose src m k ih => intro Q E p s b n h; exact ⟨h.1, ih _ Q E p { s with drawn := s.drawn.bump src } b n h.2⟩
  | os q _ k ih => intro Q E p s b n h; exact ih _ Q E p { s with os := (Os.step s.os q).1 } b n h
  | call c hd _ _ k ih =>
    intro Q E p s b n h
    obtain ⟨r, s1, hr, h⟩ := h
    obtain ⟨b1, r1, n1, _, k1⟩ := runs_num hr b rfl n
    exact ⟨r, _, r1, Sem.wp_mono M Γ (k r) (fun _ _ _ z => go k1 z) (fun _ _ _ z => go k1 z) p _ (ih r Q E p s1 b1 n1 h)⟩
  | handled own k ih => intro Q E p s b n h; exact ih _ Q E p s b n h
  | genState g k ih =>
    intro Q E p s b n h
    obtain ⟨st, hg, h⟩ := h
    obtain ⟨y, hy, hz⟩ := n.at_ _ _ hg
    rw [hz.seen] at h
    exact ⟨y, hy, ih _ Q E p s b n h⟩
  | newGen c k ih =>
    intro Q E p s b n h
    have z := ih _ Q E p ({ s with gens := s.gens.push (.fresh c) } : Shared) (b.push (.fresh c)) (n.push trivial) h
    have q := Sem.wp_mono M Γ (k s.gens.size) (fun _ _ _ z => go (s := s) (b := b) (Kept.push n.sz) z) (fun _ _ _ z => go (s := s) (b := b) (Kept.push n.sz) z) p _ z
    show wp M Γ (k (Shared.gn s b).gens.size) _ _ p _
    rw [show (Shared.gn s b).gens.size = s.gens.size from n.sz.symm]
    exact q
  | resume g r _ k ih =>
    intro Q E p s b n h
    obtain ⟨res, s1, hw, h⟩ := h
    obtain ⟨b1, w1, n1, k1⟩ := wakes_num hw n
    exact ⟨res, _, w1, Sem.wp_mono M Γ (k res) (fun _ _ _ z => go k1 z) (fun _ _ _ z => go k1 z) p _ (ih res Q E p s1 b1 n1 h)⟩
  | yield _ _ _ _ => intro Q E p s b n h; exact h
  | stack k ih => intro Q E p s b n h; exact ih _ Q E p s b n h
  | fork _ _ => intro Q E p s b n h; exact h
  | thread k ih => intro Q E p s b n h; exact ih _ Q E p s b n h
  | await _ _ _ _ _ => intro Q E p s b n h; exact h
theorem wpAny_num {α : Type} {M : Model} {A : Around} {t : Sem α} {Q : α → Shared → Prop} {E : Value → Shared → Prop} {s : Shared} {b : Array GenState} (n : Num s.gens b) (h : wpAny M A t Q E s) :
    wpAny M A t (NumQ s b Q) (NumQ s b E) (Shared.gn s b) := fun Γ p hΓ => wp_num M Γ t _ _ p s b n (h Γ p hΓ)
/-- all sleepers numb -/
def numbs (b : Array GenState) : Array GenState := b.map numb
theorem num_all (b : Array GenState) : Num (numbs b) b := by
  refine ⟨by simp [numbs], fun i x h => ?_⟩
  unfold numbs at h
  rw [Array.getElem?_map] at h
  cases q : b[i]? with
  | none => rw [q] at h; cases h
  | some y =>
    rw [q] at h
    have e : numb y = x := by simpa using h
    subst e
    refine ⟨y, rfl, ?_⟩
    cases y with
    | suspended => exact .inr ⟨rfl, trivial⟩
    | _ => exact .inl ⟨rfl, trivial⟩
theorem numbs_at {b : Array GenState} {i : Nat} {y : GenState} (h : b[i]? = some y) : (numbs b)[i]? = some (numb y) := by
  unfold numbs; rw [Array.getElem?_map, h]; rfl
theorem numbs_bare {b : Array GenState} (h : AllBare b) : AllBare (numbs b) := fun y hy => by
  unfold numbs at hy
  obtain ⟨z, hz, e⟩ := Array.mem_map.mp hy
  subst e
  rw [numb_bare]; exact h z hz
theorem Num.bare {a b : Array GenState} (n : Num a b) (h : AllBare a) : AllBare b := fun y hy => by
  obtain ⟨i, hi, e⟩ := Array.mem_iff_getElem.mp hy
  have hi' : i < a.size := by rw [n.sz]; exact hi
  obtain ⟨z, hz, q⟩ := n.at_ i a[i] (by simp [hi'])
  have : z = y := by rw [← e]; simpa [hi] using hz.symm
  subst this
  have hb := h a[i] (Array.getElem_mem hi')
  rcases q with ⟨q, _⟩ | ⟨q, _⟩
  · rw [← q]; exact hb
  · rw [q, numb_bare] at hb; exact hb
end Z
namespace Z
open PySem PyProof.Rows L2 GenW
open Sem (wp)
/-- the code runs on to an end of which Φ is true -/
def Sg (M : Model) (A : Around) (Φ : End → Shared → Prop) (c : Code) (t : Sem PySem.Fin) (fs : List Frame) (s : Shared) : Prop :=
  ∀ Γ p, Γ.code = c → Γ.Woken A → ∃ e s', Runs M Γ p t fs s e s' ∧ Φ e s'
section
variable {M : Model} {A : Around} {Φ : End → Shared → Prop} {c : Code} {fs : List Frame} {s : Shared}
theorem sg_wrap {α : Type} {m : Sem α} {K : α → Sem PySem.Fin} {H : Value → Sem PySem.Fin} {gd lv}
    (h : wpAny M (A.over c fs) m (fun a s' => Sg M A Φ c (K a) fs s') (fun x s' => Sg M A Φ c (H x) fs s') s) : Sg M A Φ c (m.wrap K H gd lv) fs s := by
  rintro Γ p rfl hΓ
  exact runs_wrap_of_wp K H gd lv m (h (Γ.over fs) p (hΓ.over fs)) (fun a p' s' h' => h' Γ p' rfl hΓ) (fun x p' s' h' => h' Γ p' rfl hΓ)
theorem sg_bindw {α β : Type} {m : Sem α} {f : α → Sem β} {K : β → Sem PySem.Fin} {H : Value → Sem PySem.Fin} {gd lv}
    (h : wpAny M (A.over c fs) m (fun a s' => Sg M A Φ c ((f a).wrap K H gd lv) fs s') (fun x s' => Sg M A Φ c (H x) fs s') s) : Sg M A Φ c ((m >>= f).wrap K H gd lv) fs s := by
  rw [Sem.bind_eq_wrap', Sem.wrap_wrap]
  exact sg_wrap h
theorem sg_at {p' : Pos} {k : Unit → Sem PySem.Fin} (h : Sg M A Φ c (k ()) fs s) : Sg M A Φ c (.at p' k) fs s :=
  sg_wrap (m := standAt p') (K := k) (H := .raise) (gd := id) (lv := id) (wpAny_standAt h)
theorem sg_point {l : List Value} {k : Unit → Sem PySem.Fin} (h : Sg M A Φ c (k ()) fs s) : Sg M A Φ c (.point l k) fs s :=
  sg_wrap (m := point) (K := k) (H := .raise) (gd := id) (lv := fun _ => l) (wpAny_point h)
theorem sg_call {c' : Code} {h g l} {k : Result → Sem PySem.Fin} (hc : ∀ p, Sg M A Φ c' (M.den c') (.ret k h g l c p [] :: fs) s) : Sg M A Φ c (.call c' h g l k) fs s := by
  rintro Γ p rfl hΓ
  obtain ⟨e, s', hr, he⟩ := hc p (Γ.goto c') p rfl (hΓ.goto c')
  exact ⟨e, s', runs_call_seg hr, he⟩
theorem sg_leaf {k h g l c₁ p₁ kp} (r : Result) (hk : Sg M A Φ c₁ (k r) fs s) : Sg M A Φ c (leafOf r) (.ret k h g l c₁ p₁ kp :: fs) s := by
  rintro Γ p rfl hΓ
  obtain ⟨e, s', hr, he⟩ := hk (Γ.goto c₁) p₁ rfl (hΓ.goto c₁)
  exact ⟨e, s', Runs.pop r hr, he⟩
theorem sg_again {c' : Code} (hq : c'.quiet = true) (hc : Sg M A Φ c' (M.den c') fs s) : Sg M A Φ c (.pure (.again c')) fs s := by
  rintro Γ p rfl hΓ
  obtain ⟨e, s', hr, he⟩ := hc (Γ.goto c') p rfl (hΓ.goto c')
  exact ⟨e, s', Runs.head (c₁ := c') (fun _ _ x => .again hq x) hr, he⟩
theorem sg_end (r : Result) (h : Φ (.ret r) s) : Sg M A Φ c (leafOf r) [] s := by
  rintro Γ p rfl _
  exact ⟨.ret r, s, Runs.leaf r, h⟩
theorem sg_yield {v g l} {k : Resume → Sem PySem.Fin} (hfs : splitAtGen fs = none) (h : ∀ p, Φ (.susp v g l k c p fs) s) : Sg M A Φ c (.yield v g l k) fs s := by
  rintro Γ p rfl _
  exact ⟨_, s, Runs.yield' fs hfs, h p⟩
theorem wp_false {α : Type} {M : Model} {Γ : Ctx} : ∀ {t : Sem α} {p : Pos} {s : Shared}, wp M Γ t (fun _ _ _ => False) (fun _ _ _ => False) p s → False := by
  intro t
  induction t with
  | pure a => intro p s h; exact h
  | raise e => intro p s h; exact h
  | unsupported _ => intro p s h; exact h
  | finish _ => intro p s h; exact h
  | rule _ k ih => intro p s h; exact ih () h
  | «at» p' k ih => intro p s h; exact ih () h
  | load a _ k ih => intro p s h; obtain ⟨o, ho, h⟩ := h; exact ih o h
  | update a _ f k ih => intro p s h; exact ih () h.2
  | loadIfAlive a k ih => intro p s h; exact ih _ h
  | point _ k ih => intro p s h; exact ih () h
  | register _ _ => intro p s h; exact h
  | alloc o k ih => intro p s h; exact ih _ h
  | fresh k ih => intro p s h; exact ih _ h
  | ask k ih => intro p s h; exact ih _ h
  | choose src m k ih => intro p s h; exact ih _ h.2
  | os q _ k ih => intro p s h; exact ih _ h
  | call c hd _ _ k ih => intro p s h; obtain ⟨r, s', hr, h⟩ := h; exact ih r h
  | handled own k ih => intro p s h; exact ih _ h
  | genState g k ih => intro p s h; obtain ⟨st, hs, h⟩ := h; exact ih _ h
  | newGen c k ih => intro p s h; exact ih _ h
  | resume g r _ k ih => intro p s h; obtain ⟨res, s', hw, h⟩ := h; exact ih res h
  | yield _ _ _ _ => intro p s h; exact h
  | stack k ih => intro p s h; exact ih _ h
  | fork _ _ => intro p s h; exact h
  | thread k ih => intro p s h; exact ih _ h
  | await _ _ _ _ _ => intro p s h; exact h
theorem sg_false {α : Type} {t : Sem α} {t' : Sem PySem.Fin} (h : wpAny M (A.over c fs) t (fun _ _ => False) (fun _ _ => False) s) : Sg M A Φ c t' fs s := by
  rintro Γ p rfl hΓ
  exact (wp_false (h (Γ.over fs) p (hΓ.over fs))).elim
variable {env : Env} {K : Flow → Sem PySem.Fin} {H : Value → Sem PySem.Fin} {gd : Bool → Bool} {lv : List Value → List Value}
theorem sg_nil (h : Sg M A Φ c (K .next) fs s) : Sg M A Φ c ((execs [] env).wrap K H gd lv) fs s := h
theorem sg_cons {st : Stmt} {rest : List Stmt} (h : Sg M A Φ c ((exec st env).wrap (fun f => match f with | .next => (execs rest env).wrap K H gd lv | f => K f) H gd lv) fs s) :
    Sg M A Φ c ((execs (st :: rest) env).wrap K H gd lv) fs s := by rw [execs_cons_wrap]; exact h
theorem sg_Yield {e : Expr} {ypos pos : Pos} (hfs : splitAtGen fs = none) (h : wpAny M (A.over c fs) (eval e env) (fun v s' => ∀ p k, (∀ (A' : Around) (Φ' : End → Shared → Prop) (s'' : Shared), Sg M A' Φ' c (K .next) fs s'' → Sg M A' Φ' c (k (.send .none)) fs s'') →
      Φ (.susp v (gd false) (lv []) k c p fs) s') (fun x s' => Sg M A Φ c (H x) fs s') s) (hco : env.scope.isCoroutine = false) (hi : interactive env = false) :
    Sg M A Φ c ((exec (.Expr (.Yield (some e) ypos) pos) env).wrap K H gd lv) fs s := by
  rw [exec_Expr env _ pos hi rfl]
  show Sg M A Φ c (.at pos fun _ => ((eval e env >>= fun v => (standAt ypos >>= fun _ => yieldOut env v)) >>= fun x => dropValue (.Yield (some e) ypos) pos x).wrap K H gd lv) fs s
  have hy : ∀ v, yieldOut env v = yieldValue v := fun v => by simp only [yieldOut, hco, Bool.false_eq_true, if_false]
  simp only [hy]
  refine sg_at ?_
  rw [Sem.bind_eq_wrap', Sem.bind_eq_wrap', Sem.wrap_wrap, Sem.wrap_wrap]
  refine sg_wrap (wpAny_mono h (fun v s' h' => ?_) fun _ _ x => x)
  refine sg_at (sg_yield hfs fun p => ?_)
  exact h' p _ fun A' Φ' s'' q => q
theorem sg_For {tg iter : Expr} {body : List Stmt} {pos : Pos} (hs : ∀ x, foldedSetIterable iter env x = pure x)
    (h : wpAny M (A.over c fs) (eval iter env) (fun x s₁ => wpAny M (A.over c fs) (pyIter x) (fun it s₂ => ∀ p, Sg M A Φ (.forLoop tg it body [] env) (M.den (.forLoop tg it body [] env))
      (.ret (fun r => ((match r with | .ok f => (.pure f : Sem Flow) | .error e => .raise e).onRaise (cameBack env)).wrap K H gd lv) none (gd false) (lv []) c p [] :: fs) s₂) (fun x s' => Sg M A Φ c (H x) fs s') s₁) (fun x s' => Sg M A Φ c (H x) fs s') s) :
    Sg M A Φ c ((exec (.For tg iter body [] pos) env).wrap K H gd lv) fs s := by
  rw [exec_For]
  refine sg_bindw (wpAny_standAt ?_)
  refine sg_bindw (wpAny_mono h (fun x s₁ h₁ => ?_) fun _ _ z => z)
  refine sg_bindw (wpAny_of_eq (hs x) ?_)
  refine sg_bindw (wpAny_standAt ?_)
  refine sg_bindw (wpAny_holding (wpAny_mono h₁ (fun it s₂ h₂ => ?_) fun _ _ z => z))
  exact sg_call h₂
end
section
variable {prog : Program} {w : World} {A : Around} {Φ : End → Shared → Prop} {c : Code} {fs : List Frame} {s : Shared} {env : Env}
/-- a turn of for -/
theorem sg_forLoop {tg : Expr} {it : Value} {body : List Stmt} {J : Value → Sem PySem.Fin} (hJ : J = fun e => (do noteFrame e env; theTreesLotGoes e : Sem Unit).wrap (fun _ => .raise e) .raise id id)
    (h : wpAny (model prog w) (A.over (.forLoop tg it body [] env) fs) (pyNext it) (fun r s' => match r with
        | none => Sg (model prog w) A Φ (.forLoop tg it body [] env) (.pure (.again (.block [] env))) fs s'
        | some v => wpAny (model prog w) (A.over (.forLoop tg it body [] env) fs) (letOwnedTupleGo tg it v) (fun _ s1 =>
            wpAny (model prog w) (A.over (.forLoop tg it body [] env) fs) (assign tg env v) (fun _ s2 =>
              Sg (model prog w) A Φ (.forLoop tg it body [] env) ((execs body env).wrap (fun f => match f with
                | .next | .cont => .pure (.again (.forLoop tg it body [] env))
                | .brk => .pure (.done .next)
                | .ret v => .pure (.done (.ret v))) J id id) fs s2) (fun x s' => Sg (model prog w) A Φ (.forLoop tg it body [] env) (J x) fs s') s1) (fun x s' => Sg (model prog w) A Φ (.forLoop tg it body [] env) (J x) fs s') s')
      (fun x s' => Sg (model prog w) A Φ (.forLoop tg it body [] env) (J x) fs s') s) :
    Sg (model prog w) A Φ (.forLoop tg it body [] env) ((model prog w).den (.forLoop tg it body [] env)) fs s := by
  subst hJ
  show Sg _ A Φ _ ((forTurn tg it body [] env).onRaise (fun x => do noteFrame x env; theTreesLotGoes x)) fs s
  unfold forTurn
  rw [Sem.onRaise_eq_wrap]
  have eH : ∀ (x : Value) (s' : Shared), Sg (model prog w) A Φ (.forLoop tg it body [] env) ((do noteFrame x env; theTreesLotGoes x : Sem Unit).wrap (fun _ => .raise x) .raise id id) fs s' →
      Sg (model prog w) A Φ (.forLoop tg it body [] env) ((do noteFrame x env; theTreesLotGoes x : Sem Unit).bind fun _ => .raise x) fs s' := fun x s' hx => by rw [Sem.bind_eq_wrap]; exact hx
  refine sg_bindw (wpAny_standAt ?_)
  refine sg_bindw (wpAny_onRaise (wpAny_mono h (fun r s' hr => ?_) fun x s' hx => wpAny_standAt (eH x s' hx)))
  cases r with
  | none => exact hr
  | some v =>
    refine sg_bindw (wpAny_mono hr (fun _ s1 h1 => ?_) eH)
    refine sg_bindw (wpAny_mono h1 (fun _ s2 h2 => ?_) eH)
    rw [Sem.bind_eq_wrap', Sem.wrap_wrap]
    rw [Sem.wrap_congr (execs body env) _ _ (K' := fun f => match f with
            | .next | .cont => .pure (.again (.forLoop tg it body [] env))
            | .brk => .pure (.done .next)
            | .ret v => .pure (.done (.ret v))) (H' := (fun e => (do noteFrame e env; theTreesLotGoes e : Sem Unit).wrap (fun _ => .raise e) .raise id id))
        (fun f => by cases f <;> rfl)
        (fun e => by first | exact Sem.bind_eq_wrap _ _ | (show (do noteFrame e env; theTreesLotGoes e : Sem Unit).bind (fun _ => .raise e) = _; rw [Sem.bind_eq_wrap]))]
    exact h2
theorem sg_block (h : Sg (model prog w) A Φ (.block [] env) (.pure (.done .next)) fs s) : Sg (model prog w) A Φ c (.pure (.again (.block [] env))) fs s := sg_again rfl h
theorem sg_func {body : List Stmt}
    (h : Sg (model prog w) A Φ (.func body env) ((execs body env).wrap (fun f => .pure (.done (.ret (match f with | .ret v => v | _ => .none))))
      (fun e => (leaving env e).wrap (fun _ => .raise e) .raise id id) id id) fs s) :
    Sg (model prog w) A Φ (.func body env) ((model prog w).den (.func body env)) fs s := by
  show Sg _ A Φ _ (.point [] fun _ => ((execs body env).onRaise (leaving env)) >>= _) fs s
  refine sg_point ?_
  rw [Sem.onRaise_eq_wrap, Sem.bind_eq_wrap', Sem.wrap_wrap]
  rw [Sem.wrap_congr (execs body env) _ _ (K' := fun f => .pure (.done (.ret (match f with | .ret v => v | _ => .none))))
    (H' := fun e => (leaving env e).wrap (fun _ => .raise e) .raise id id) (fun f => by cases f <;> rfl)
    (fun e => by rw [Sem.bind_eq_wrap, Sem.wrap_wrap]; rfl)]
  exact h
end
end Z
namespace Z
open PySem PySem.Spec PyProof.Rows L2 GenW
structure GB where
  Pr : Program
  w : World
  K : PySem.W.Frag
  mg : Str → Option Value
  base : Heap
/-- a generator that was made: its names, its frame at L, its object at a, its number -/
structure GIn where
  N : List Str
  qual : Str
  scope : Scope
  f : Addr
  cdv : Value
  L : Addr
  a : Addr
  go : Obj
  g : Nat
abbrev GIn.env (I : GIn) : Env := envOfC I.qual I.scope I.L I.f I.cdv
/-- the heap's first objects -/
def cutS (s : Shared) (L : Nat) : Shared := { s with heap := { s.heap with objs := s.heap.objs.extract 0 L } }
theorem cut_size {s : Shared} {L : Nat} (h : L ≤ s.heap.objs.size) : (cutS s L).heap.objs.size = L := by
  unfold cutS; simp; omega
theorem cut_get {s : Shared} {L b : Nat} (h : b < L) : (cutS s L).heap.get? b = s.heap.get? b := by
  unfold cutS Heap.get?
  simp only
  have e : (s.heap.objs.extract 0 L)[b]? = s.heap.objs[b]? := by
    rw [Array.getElem?_extract]
    simp only [Nat.sub_zero, Nat.zero_add]
    by_cases q : b < s.heap.objs.size
    · rw [if_pos (Nat.lt_min.mpr ⟨h, q⟩)]
    · rw [if_neg (fun z => q (Nat.lt_min.mp z).2), Array.getElem?_eq_none (by omega)]
  rw [e]
theorem cut_of {s : Shared} {L b : Nat} {o : Obj} (h : (cutS s L).heap.get? b = some o) : b < L ∧ s.heap.get? b = some o := by
  have l := Heap.lt_size h
  have : b < L := by
    have l2 : b < (s.heap.objs.extract 0 L).size := l
    rw [Array.size_extract, Nat.sub_zero] at l2
    exact (Nat.lt_min.mp l2).1
  exact ⟨this, by rw [← cut_get this]; exact h⟩
theorem cut_keep {s : Shared} {L : Nat} : ∀ b o, (cutS s L).heap.get? b = some o → s.heap.get? b = some o := fun b o h => (cut_of h).2
/-- who wakes it, where -/
structure Wk where
  A : Around
  outer : List Env
  s : Shared
  G : Hp
  H : Hp
  cp : List (Addr × Obj)
inductive GFin where
  | ok
  | err (x : Exn)
  | stk
abbrev gNoE : XK := fun _ _ _ => False
def gE (B : GB) (G H : Hp) (x : Exn) : XK := fun cls d H' => ∃ G', Back B.K B.mg G H [] [] G' H' [] ∧ XR B.K B.mg G' cls d x
abbrev gcx (B : GB) (I : GIn) (wk : Wk) (E : XK) : Cx := gcxOf B.Pr B.w B.K B.mg B.base I.N I.qual I.scope I.f I.cdv wk.A wk.outer (cutS wk.s I.L) wk.H E [(I.a, I.go)]
structure Post (B : GB) (I : GIn) (wk : Wk) (G' H' : Hp) (s' : Shared) : Prop where
  os : s'.os = wk.s.os
  bare : AllBare s'.gens
  un : Un (frs wk.outer) [] wk.H H' (cutS wk.s I.L).heap s'.heap
  hok : HOk B.Pr B.w H' s'.heap
  back : Back B.K B.mg wk.G wk.H [] [] G' H' []
  cp : ∀ p ∈ wk.cp, s'.heap.get? p.1 = some p.2 ∧ H' p.1 = none
/-- the sleeper's own objects -/
structure Own (I : GIn) (ip : List (Addr × Obj)) (oL : Obj) (H : Hp) (h : Heap) : Prop where
  fr : h.get? I.L = some oL ∧ H I.L = none
  ip : ∀ p ∈ (I.a, I.go) :: ip, h.get? p.1 = some p.2 ∧ H p.1 = none
structure WkOk (B : GB) (I : GIn) (k : Nat) (ip : List (Addr × Obj)) (oL : Obj) (Gs : Hp) (wk : Wk) : Prop where
  room : Room (k + 1) wk.A
  frames : wk.A.frames = some wk.outer
  mod : Mod B.K B.mg B.base
  bs : ∀ b o, B.base.get? b = some o → wk.s.heap.get? b = some o ∧ wk.H b = none
  bsz : B.base.objs.size ≤ I.L
  sz : I.L ≤ wk.s.heap.objs.size
  funs : wk.s.heap.FunFrames B.base wk.outer
  frl : ∀ b ∈ frs wk.outer, b < I.L ∧ wk.H b = none
  hok : HOk B.Pr B.w wk.H wk.s.heap
  bare : AllBare wk.s.gens
  gh : GH B.K wk.G wk.H
  ex : Ex Gs wk.G
  own : Own I ip oL wk.H wk.s.heap
  cp : ∀ p ∈ wk.cp, wk.s.heap.get? p.1 = some p.2 ∧ wk.H p.1 = none ∧ p.1 ≠ I.L ∧ p.1 ∉ frs wk.outer ∧ ∀ v, p.2.data ≠ .cell v
  dis : ∀ p ∈ (I.a, I.go) :: ip, ∀ q ∈ wk.cp, q.1 ≠ p.1
/-- what is wanted of a turn's end: the items to come, how it ends -/
def Phi (B : GB) (I : GIn) (k : Nat) (fin : GFin) : List D → Wk → End → Shared → Prop
  | [], wk, .ret (.ok fl), s' => fin = .ok ∧ (fl = .ret .none ∨ fl = .next) ∧ ∃ G' H', Post B I wk G' H' s'
  | [], wk, .ret (.error e), s' => ∃ x, fin = .err x ∧ CX B.Pr B.w wk.outer wk.H (cutS wk.s I.L) (gE B wk.G wk.H x) e s' ∧ s'.heap.get? I.a = some I.go
  | d :: zs, wk, .susp v gd l kk c p fs, s' => (End.susp v gd l kk c p fs).quiet = true ∧ splitAtGen fs = none ∧ ∃ u G' H' ip' oL', RelV u v ∧ Den B.K B.mg G' u d ∧ Post B I wk G' H' s' ∧ Own I ip' oL' H' s'.heap ∧ (∀ p ∈ (I.a, I.go) :: ip', I.L < p.1 ∧ ∀ v, p.2.data ≠ .cell v) ∧ (∀ v, oL'.data ≠ .cell v) ∧ (∀ p ∈ (I.a, I.go) :: ip', ∀ q ∈ wk.cp, q.1 ≠ p.1) ∧
      ∀ wk', WkOk B I k ip' oL' G' wk' → Sg (model B.Pr B.w) wk'.A (Phi B I k fin zs wk') c (kk (.send .none)) fs wk'.s
  | _, _, _, _ => False
/-- it sleeps in the state gs; ys are to come -/
def Slp (B : GB) (I : GIn) (k : Nat) (fin : GFin) (ys : List D) (ip : List (Addr × Obj)) (oL : Obj) (Gs : Hp) : GenState → Prop
  | .fresh c => ∀ wk, WkOk B I k ip oL Gs wk → Sg (model B.Pr B.w) wk.A (Phi B I k fin ys wk) c ((model B.Pr B.w).den c) [] wk.s
  | .suspended kk _ c _ fs _ => splitAtGen fs = none ∧ ∀ wk, WkOk B I k ip oL Gs wk → Sg (model B.Pr B.w) wk.A (Phi B I k fin ys wk) c (kk (.send .none)) fs wk.s
  | _ => False
/-- in the midst of a turn -/
structure GAt (B : GB) (I : GIn) (k : Nat) (wk : Wk) (ip : List (Addr × Obj)) (σ : L2.St) (G H : Hp) (env : DEnv) (s : Shared) : Prop where
  room : Room (k + 1) wk.A
  sz : (cutS wk.s I.L).heap.objs.size = I.L
  inv : Inv (gcx B I wk gNoE) (ip ++ wk.cp) σ H s
  rel : SRel B.K B.mg (foreign wk.G wk.H [] []) [] G H σ env []
  ex : Ex wk.G G
  ghw : GH B.K wk.G wk.H
  dis : ∀ p ∈ (I.a, I.go) :: ip, ∀ q ∈ wk.cp, q.1 ≠ p.1
  low : ∀ b ∈ frs wk.outer, b < I.L
  ipL : ∀ p ∈ (I.a, I.go) :: ip, I.L < p.1
section
variable {B : GB} {I : GIn} {k : Nat} {wk : Wk} {ip : List (Addr × Obj)} {σ : L2.St} {G H : Hp} {env : DEnv} {s : Shared}
theorem reE {E E' : XK} {pins : List (Addr × Obj)} (h : Inv (gcx B I wk E) pins σ H s) : Inv (gcx B I wk E') pins σ H s :=
  ⟨⟨h.ok.mod, h.ok.kind, h.ok.glob, h.ok.blt, h.ok.above, h.ok.inj, h.ok.has, h.ok.cab, h.ok.hd, h.ok.frames, h.ok.stk, h.ok.exf, h.ok.bs, h.ok.bsz, h.ok.noex, h.ok.exfs, h.ok.funs, h.ok.frf⟩, h.os, h.bare, h.base, h.loc, h.cell, h.free, h.freeC, h.pin, h.hok, h.len⟩
theorem gcx_env {E : XK} (sz : (cutS wk.s I.L).heap.objs.size = I.L) : (gcx B I wk E).env = I.env := by
  show envOfC I.qual I.scope (cutS wk.s I.L).heap.objs.size I.f I.cdv = _
  rw [sz]
theorem gcx_A {E : XK} (sz : (cutS wk.s I.L).heap.objs.size = I.L) : (gcx B I wk E).A = wk.A.deeper I.env := by
  show wk.A.deeper (envOfC I.qual I.scope (cutS wk.s I.L).heap.objs.size I.f I.cdv) = _
  rw [sz]
theorem vw0 {K : PySem.W.Frag} {mg : Str → Option Value} {G H : Hp} : Views K mg G H [] [] := ⟨rfl, fun j v r h => by simp at h⟩
theorem GAt.back (g : GAt B I k wk ip σ G H env s) : Back B.K B.mg wk.G wk.H [] [] G H [] := end_back (e := env) g.ghw.1 vw0 g.ex g.rel rfl
theorem GAt.post (g : GAt B I k wk ip σ G H env s) : Post B I wk G H s :=
  ⟨g.inv.os, g.inv.bare, g.inv.base, g.inv.hok, g.back, fun p hp => let z := g.inv.pin p (List.mem_append_right _ (List.mem_append_right _ hp)); ⟨z.1, z.2.1⟩⟩
theorem GAt.own (g : GAt B I k wk ip σ G H env s) : ∃ oL, Own I ip oL H s.heap ∧ ∀ v, oL.data ≠ .cell v := by
  obtain ⟨m, hn, _⟩ := g.inv.loc
  obtain ⟨oL, es, ep, ho, hd, _⟩ := hn
  have eL : (gcx B I wk gNoE).env.locals = I.L := by rw [gcx_env g.sz]; rfl
  rw [eL] at ho
  refine ⟨oL, ⟨⟨ho, by rw [← eL]; exact g.inv.free⟩, fun p hp => ?_⟩, fun v z => by rw [hd] at z; cases z⟩
  have z : p ∈ (gcx B I wk gNoE).pn ++ (ip ++ wk.cp) := by
    rcases List.mem_cons.mp hp with e | e
    · exact List.mem_append_left _ (by rw [e]; exact List.mem_singleton.mpr rfl)
    · exact List.mem_append_right _ (List.mem_append_left _ e)
  exact ⟨(g.inv.pin p z).1, (g.inv.pin p z).2.1⟩
theorem GAt.cells (g : GAt B I k wk ip σ G H env s) : ∀ p ∈ (I.a, I.go) :: ip, ∀ v, p.2.data ≠ .cell v := fun p hp => by
  have z : p ∈ (gcx B I wk gNoE).pn ++ (ip ++ wk.cp) := by
    rcases List.mem_cons.mp hp with e | e
    · exact List.mem_append_left _ (by rw [e]; exact List.mem_singleton.mpr rfl)
    · exact List.mem_append_right _ (List.mem_append_left _ e)
  exact (g.inv.pin p z).2.2.2.2
end
/-- its names are all local -/
def onlyLoc (sc : Scope) : Bool := sc.names.all fun y => match y.2 with | .cell => false | .free => false | _ => true
theorem onlyLoc_cells {sc : Scope} {n : Nat} (h : onlyLoc sc = true) : cellsFrom n sc.names [] = [] := by
  unfold onlyLoc at h
  have key : ∀ (l : List (Str × NameKind)) (n : Nat) (acc : List (Str × Addr)), (l.all fun y => match y.2 with | .cell => false | .free => false | _ => true) = true → cellsFrom n l acc = acc := by
    intro l
    induction l with
    | nil => intro n acc _; rfl
    | cons y l ih =>
      intro n acc h
      obtain ⟨x, kd⟩ := y
      rw [List.all_cons, Bool.and_eq_true] at h
      unfold cellsFrom
      cases kd <;> first | (exact absurd h.1 Bool.false_ne_true) | exact ih _ _ h.2
  exact key _ _ _ h
abbrev GS := DEnv → List D × Out
def gPl (m : MS) : GS := fun env => ([], m env)
def isSh : Option RV → Bool
  | some (.sh _) => true
  | none => true
  | _ => false
def gYl (m : M Opd) : GS := fun env => match m env with
  | .ok o e => (match dOf o e with
    | .ok d e' => if e'.all isSh = true then ([d], .nx e') else ([], .stk)
    | _ => ([], .stk))
  | _ => ([], .stk)
def gNil : GS := fun env => ([], .nx env)
def gSeq (a b : GS) : GS := fun env => match a env with
  | (ys, .nx e) => (ys ++ (b e).1, (b e).2)
  | r => r
def gFor (t : Tgt) (b : GS) : List D → GS
  | [] => fun env => ([], .nx env)
  | d :: ds => fun env => match asgT [] t d env with
    | none => ([], .stk)
    | some e1 => match b e1 with
      | (ys, .nx e) => (ys ++ (gFor t b ds e).1, (gFor t b ds e).2)
      | _ => ([], .stk)
def gForS (t : Tgt) (mi : M (List D)) (b : GS) : GS := fun env => match mi env with
  | .ok ds e => gFor t b ds e
  | _ => ([], .stk)
/-- where its code stands -/
structure Fs (I : GIn) (c : Code) (fs : List Frame) (gd : Bool → Bool) : Prop where
  over : ∀ A : Around, A.over c fs = A.deeper I.env
  split : splitAtGen fs = none
  guard : fs.any Frame.guarded = false
  gd : gd false = false
theorem Fs.loop {I : GIn} {c c' : Code} {fs : List Frame} {gd : Bool → Bool} {k : Result → Sem PySem.Fin} {l kp : List Value} {p : Pos} (h : Fs I c fs gd) (hw : c'.weight = 0) (hu : c'.cUnits = 0) : Fs I c' (.ret k none (gd false) l c p kp :: fs) id where
  over := fun A => (over_loop hw hu).trans (h.over A)
  split := by
    show (splitAtGen fs).map _ = none
    rw [h.split]; rfl
  guard := by
    show (gd false || fs.any Frame.guarded) = false
    rw [h.gd, h.guard]; rfl
  gd := rfl
/-- behind the tree: the rest is to come -/
def GK (B : GB) (I : GIn) (k : Nat) (fin : GFin) (rest : List D) (c : Code) (fs : List Frame) (Kt : Flow → Sem PySem.Fin) (J : Value → Sem PySem.Fin) (ip : List (Addr × Obj)) (Gm : Hp) : Out → Prop
  | .nx e' => ∀ wk σ G H s, Ex Gm G → GAt B I k wk ip σ G H e' s → Sg (model B.Pr B.w) wk.A (Phi B I k fin rest wk) c (Kt .next) fs s
  | .err x _ => rest = [] ∧ fin = .err x ∧ ∀ wk s e, (cutS wk.s I.L).heap.objs.size = I.L → (gcx B I wk (gE B wk.G wk.H x)).xe e s → Sg (model B.Pr B.w) wk.A (Phi B I k fin [] wk) c (J e) fs s
  | _ => False
def GJ (B : GB) (I : GIn) (k : Nat) (tree : Sem Flow) (m : GS) : Prop := ∀ (fin : GFin) (rest : List D) (c : Code) (fs : List Frame) (Kt : Flow → Sem PySem.Fin) (J : Value → Sem PySem.Fin) (gd : Bool → Bool) (lv : List Value → List Value) (ip : List (Addr × Obj)) (Gm : Hp) (env : DEnv),
  Fs I c fs gd → GK B I k fin rest c fs Kt J ip Gm (m env).2 → ∀ wk σ G H s, Ex Gm G → GAt B I k wk ip σ G H env s → Sg (model B.Pr B.w) wk.A (Phi B I k fin ((m env).1 ++ rest) wk) c (tree.wrap Kt J gd lv) fs s
/-- in every such context -/
def GX (B : GB) (I : GIn) (k : Nat) (R : Cx → WX → Prop) : Prop := ∀ (A : Around) (outer : List Env) (sh : Shared) (H : Hp) (E : XK) (pn : List (Addr × Obj)), Room k (A.deeper (envOfC I.qual I.scope sh.heap.objs.size I.f I.cdv)) →
  R (gcxOf B.Pr B.w B.K B.mg B.base I.N I.qual I.scope I.f I.cdv A outer sh H E pn) (fun cls d _ H => E cls d H)
section
variable {B : GB} {I : GIn} {k : Nat} {pos : Pos}
theorem GX.at {R : Cx → WX → Prop} {wk : Wk} (h : GX B I k R) (hr : Room (k + 1) wk.A) (E : XK) : R (gcx B I wk E) (fun cls d _ H => E cls d H) := h wk.A wk.outer (cutS wk.s I.L) wk.H E [(I.a, I.go)] (hr.deeper _)
theorem gNoE_xe {wk : Wk} {e : Value} {s : Shared} (h : (gcx B I wk gNoE).xe e s) : wpAny (model B.Pr B.w) (gcx B I wk gNoE).A (leaving (gcx B I wk gNoE).env e) (fun _ _ => False) (fun _ _ => False) s :=
  wpAny_mono h (fun _ _ z => by
    obtain ⟨⟨_, _, _, _, _, _, _, _, _, _, _, _, q⟩, _⟩ := z
    exact q) fun _ _ z => z
theorem gj_plain {st : Stmt} {m : MS} (h : GX B I k fun X W => QS X W [] st m) : GJ B I k (exec st I.env) (gPl m) := fun fin rest c fs Kt J gd lv ip Gm env F hk wk σ G H s gm g => by
  show Sg _ _ (Phi B I k fin ([] ++ rest) wk) _ _ _ _
  rw [List.nil_append]
  unfold GK gPl at hk
  simp only at hk
  have key : ∀ (E : XK) (D : Ends), PSt B.K B.mg (fun cls d _ H => E cls d H) (foreign wk.G wk.H [] []) [] D G (m env) → (∀ f s', SP (gcx B I wk E) (ip ++ wk.cp) D f s' → Sg (model B.Pr B.w) wk.A (Phi B I k fin rest wk) c (Kt f) fs s') →
      (∀ e s', (gcx B I wk E).xe e s' → Sg (model B.Pr B.w) wk.A (Phi B I k fin rest wk) c (J e) fs s') → Sg (model B.Pr B.w) wk.A (Phi B I k fin rest wk) c ((exec st I.env).wrap Kt J gd lv) fs s := fun E D q h1 h2 => by
    have z := (h.at g.room E _ [] rfl).run (ip ++ wk.cp) s σ H D (reE g.inv) ⟨G, env, g.rel, q⟩
    refine sg_wrap ?_
    rw [F.over]
    rw [gcx_env g.sz, gcx_A g.sz] at z
    exact wpAny_mono z h1 h2
  cases z : m env with
  | nx e' =>
    rw [z] at hk
    refine key gNoE ⟨fun σ' H' => ∃ G', Ex G G' ∧ SRel B.K B.mg (foreign wk.G wk.H [] []) [] G' H' σ' e' [], fun _ _ => False, fun _ _ => False, fun _ _ => False⟩ (by rw [z]; exact fun σ' G' H' ex S => ⟨G', ex, S⟩) (fun f s' hs => ?_) fun e s' hx => ?_
    · cases f with
      | next => obtain ⟨σ', H', I', G', ex, S⟩ := hs; exact hk wk σ' G' H' s' (gm.trans ex) ⟨g.room, g.sz, I', S, g.ex.trans ex, g.ghw, g.dis, g.low, g.ipL⟩
      | brk => obtain ⟨_, _, _, q⟩ := hs; exact q.elim
      | cont => obtain ⟨_, _, _, q⟩ := hs; exact q.elim
      | ret u => obtain ⟨_, _, _, _, _, q⟩ := hs; exact q.elim
    · have w := gNoE_xe hx
      rw [gcx_A g.sz] at w
      refine sg_false (by rw [F.over]; exact w)
  | err x e' =>
    rw [z] at hk
    obtain ⟨rfl, rfl, hk⟩ := hk
    refine key (gE B wk.G wk.H x) ⟨fun _ _ => False, fun _ _ => False, fun _ _ => False, fun _ _ => False⟩ (by rw [z]; exact fun cls d σ' G' H' ex hx S => ⟨G', end_back (e := e') g.ghw.1 vw0 (g.ex.trans ex) S rfl, hx⟩) (fun f s' hs => ?_) fun e s' hx => hk wk s' e g.sz hx
    cases f with
    | next => obtain ⟨_, _, _, q⟩ := hs; exact q.elim
    | brk => obtain ⟨_, _, _, q⟩ := hs; exact q.elim
    | cont => obtain ⟨_, _, _, q⟩ := hs; exact q.elim
    | ret u => obtain ⟨_, _, _, _, _, q⟩ := hs; exact q.elim
  | rt r e' => rw [z] at hk; exact hk.elim
  | bk e' => rw [z] at hk; exact hk.elim
  | ct e' => rw [z] at hk; exact hk.elim
  | stk => rw [z] at hk; exact hk.elim
theorem gj_nil : GJ B I k (execs [] I.env) gNil := fun fin rest c fs Kt J gd lv ip Gm env F hk wk σ G H s gm g => by
  show Sg _ _ (Phi B I k fin ([] ++ rest) wk) _ _ _ _
  rw [List.nil_append]
  exact sg_nil (hk wk σ G H s gm g)
theorem gj_cons {st : Stmt} {more : List Stmt} {a b : GS} (h : GJ B I k (exec st I.env) a) (h' : GJ B I k (execs more I.env) b) : GJ B I k (execs (st :: more) I.env) (gSeq a b) := fun fin rest c fs Kt J gd lv ip Gm env F hk wk σ G H s gm g => by
  refine sg_cons ?_
  unfold gSeq at hk ⊢
  cases z : a env with
  | mk ys o =>
    rw [z] at hk
    cases o with
    | nx e =>
      simp only at hk ⊢
      have e1 : (a env).1 = ys := by rw [z]
      have e2 : (a env).2 = .nx e := by rw [z]
      rw [List.append_assoc, ← e1]
      refine h fin ((b e).1 ++ rest) c fs _ J gd lv ip Gm env F ?_ wk σ G H s gm g
      rw [e2]
      intro wk' σ' G' H' s' gm' g'
      exact h' fin rest c fs Kt J gd lv ip Gm e F hk wk' σ' G' H' s' gm' g'
    | err x e =>
      simp only at hk ⊢
      have e1 : (a env).1 = ys := by rw [z]
      have e2 : (a env).2 = .err x e := by rw [z]
      rw [← e1]
      refine h fin rest c fs _ J gd lv ip Gm env F ?_ wk σ G H s gm g
      rw [e2]
      exact hk
    | rt r e => simp only at hk; exact hk.elim
    | bk e => simp only at hk; exact hk.elim
    | ct e => simp only at hk; exact hk.elim
    | stk => simp only at hk; exact hk.elim
end
end Z
namespace Z
open PySem PySem.Spec PyProof.Rows L2 GenW
section
variable {B : GB} {I : GIn} {k : Nat} {pos : Pos}
/-- where all slots are shared, the state is there again when it is woken -/
theorem woken {wk wk' : Wk} {ip : List (Addr × Obj)} {σ : L2.St} {G H : Hp} {env : DEnv} {s : Shared} {oL : Obj} (hl : onlyLoc I.scope = true) (g : GAt B I k wk ip σ G H env s) (hsh : env.all isSh = true) (ho : Own I ip oL H s.heap) (hw : WkOk B I k ip oL G wk') :
    GAt B I k wk' ip σ wk'.G wk'.H env wk'.s := by
  have sz : (cutS wk'.s I.L).heap.objs.size = I.L := cut_size hw.sz
  have ec : I.env.cells = [] := onlyLoc_cells hl
  have eE : ∀ E, (gcx B I wk' E).env = I.env := fun E => gcx_env sz
  have eE0 : (gcx B I wk gNoE).env = I.env := gcx_env g.sz
  have nce : ∀ x c, I.env.cells.lookup x = some c → False := fun x c e => by rw [ec] at e; cases e
  have lF : ∀ b ∈ frs wk'.outer, b < I.L := fun b hb => (hw.frl b hb).1
  have fr0 : FhOk B.K (foreign wk'.G wk'.H [] []) wk'.G wk'.H := (start_rel (mg := B.mg) (N := []) (vs := []) (rs := []) hw.gh vw0 (fun i j r r' a h => by simp at h) (Nat.le_refl _)).fh
  have shg : ∀ {i : Nat} {r : RV}, env[i]? = some (some r) → ∃ d, r = .sh d := fun {i r} e => by
    have := List.all_eq_true.mp hsh _ (List.mem_of_getElem? e)
    cases r <;> first | exact ⟨_, rfl⟩ | cases this
  refine ⟨hw.room, sz, ?_, ?_, Ex.refl _, hw.gh, hw.dis, lF, g.ipL⟩
  · refine ⟨⟨hw.mod, g.inv.ok.kind, rfl, rfl, ?_, fun x y c e _ => ?_, fun x hx => ?_, fun x c _ e => ?_, fun _ => hw.room.hd, Around.frames_deeper hw.frames, .inr ⟨rfl, rfl⟩, fun b hb => absurd (show b ∈ ([] : List Addr) from hb) (by simp), fun b o e => ?_, ?_, fun b _ _ => (by simp : b ∉ ([] : List Addr)), fun b hb => absurd (show b ∈ ([] : List Addr) from hb) (by simp), ?_, fun b hb => (hw.frl b hb).2⟩,
      rfl, hw.bare, Un.kept cut_keep, ?_, fun x c e => ?_, ?_, fun x c e => ?_, fun p hp => ?_, hw.hok, g.inv.len⟩
    · show (cutS wk'.s I.L).heap.objs.size ≤ (gcx B I wk' gNoE).env.locals
      rw [eE, sz]; exact Nat.le_refl _
    · rw [eE] at e; exact (nce x c e).elim
    · have hx' : (gcx B I wk gNoE).env.kindOf x = some .cell ∨ (gcx B I wk gNoE).env.kindOf x = some .free := by rw [eE0]; rw [eE] at hx; exact hx
      obtain ⟨c, e⟩ := g.inv.ok.has x hx'
      rw [eE0] at e; exact (nce x c e).elim
    · rw [eE] at e; exact (nce x c e).elim
    · have := (Heap.lt_size e)
      have lt : b < I.L := Nat.lt_of_lt_of_le this hw.bsz
      exact ⟨by show (cutS wk'.s I.L).heap.get? b = _; rw [cut_get lt]; exact (hw.bs b o e).1, (hw.bs b o e).2⟩
    · show B.base.objs.size ≤ (cutS wk'.s I.L).heap.objs.size
      rw [sz]; exact hw.bsz
    · have all : ∀ (l : List Env), (∀ b ∈ frs l, b < I.L) → wk'.s.heap.FunFrames B.base l → (cutS wk'.s I.L).heap.FunFrames B.base l := by
        intro l
        induction l with
        | nil => intro _ _; trivial
        | cons e1 r ih =>
          intro hs hr
          obtain ⟨hk, ⟨L1, o, hf, hn, ho1, hd⟩, hr⟩ := hr
          have m1 : L1 < I.L := hs L1 (by unfold frs; rw [List.filterMap_cons, hf]; exact List.mem_cons_self)
          exact ⟨hk, ⟨L1, o, hf, hn, by rw [cut_get m1]; exact ho1, hd⟩, ih (fun b hb => hs b (by unfold frs; rw [List.filterMap_cons, hf]; exact List.mem_cons_of_mem _ hb)) hr⟩
      exact all wk'.outer lF hw.funs
    · obtain ⟨m, hn, hloc⟩ := g.inv.loc
      rw [eE0] at hn hloc
      have same : ∀ o, s.heap.get? I.L = some o → wk'.s.heap.get? I.L = some o := fun o e => by
        rw [ho.fr.1] at e; cases e; exact hw.own.fr.1
      rw [eE]
      refine ⟨m, hn.at' same, fun i x v e1 e2 e3 => ?_⟩
      obtain ⟨u, r, q⟩ := hloc i x v e1 e2 e3
      refine ⟨u, r, ?_⟩
      rcases q with q | ⟨_, c, e, _⟩
      · exact .inl q
      · exact (nce x c e).elim
    · rw [eE] at e; exact (nce x c e).elim
    · rw [eE]; exact hw.own.fr.2
    · rw [eE] at e; exact (nce x c e).elim
    · rw [eE]
      have z : p ∈ (I.a, I.go) :: (ip ++ wk'.cp) := hp
      have z2 : p ∈ (I.a, I.go) :: ip ∨ p ∈ wk'.cp := by
        rcases List.mem_cons.mp z with e | e
        · exact .inl (by rw [e]; exact List.mem_cons_self)
        · rcases List.mem_append.mp e with e | e
          · exact .inl (List.mem_cons_of_mem _ e)
          · exact .inr e
      rcases z2 with z2 | z2
      · obtain ⟨h1, h2⟩ := hw.own.ip p z2
        have l := g.ipL p z2
        exact ⟨h1, h2, Nat.ne_of_gt l, fun hb => absurd (lF p.1 hb) (Nat.lt_asymm l), g.cells p z2⟩
      · exact ⟨(hw.cp p z2).1, (hw.cp p z2).2.1, (hw.cp p z2).2.2.1, (hw.cp p z2).2.2.2.1, (hw.cp p z2).2.2.2.2⟩
  · refine ⟨hw.gh.1, fr0, fun b o e => ?_, fun p hp => absurd hp List.not_mem_nil, g.rel.len, fun i r e nt => ?_, fun i j r r' a h1 _ o1 _ => ?_, fun i r a e o => ?_, fun a m => absurd m List.not_mem_nil, .no fun i r e => ?_⟩
    · rcases foreign_some e with ⟨q, _⟩ | ⟨ps', u, _, q, _⟩
      · exact .inl q
      · exact .inr ⟨ps', u, q⟩
    · obtain ⟨d, rfl⟩ := shg e
      obtain ⟨v, hv, w⟩ := g.rel.val i _ e nt
      exact ⟨v, hv, Den.mono hw.ex w⟩
    · obtain ⟨d, rfl⟩ := shg h1; cases o1
    · obtain ⟨d, rfl⟩ := shg e; cases o
    · obtain ⟨d, rfl⟩ := shg e; rfl
theorem gj_yield {e : Expr} {yp : Pos} {m : M Opd} (hl : onlyLoc I.scope = true) (h : GX B I k fun X W => QO X W [] e m) (hco : I.scope.isCoroutine = false) (hi : interactive I.env = false) : GJ B I k (exec (.Expr (.Yield (some e) yp) pos) I.env) (gYl m) :=
  fun fin rest c fs Kt J gd lv ip Gm env F hk wk σ G H s gm g => by
  unfold gYl at hk ⊢
  cases z : m env with
  | err x e1 => rw [z] at hk; exact hk.elim
  | stk => rw [z] at hk; exact hk.elim
  | ok o e1 =>
    simp only [z] at hk ⊢
    cases z2 : dOf o e1 with
    | err x e2 => simp only [z2] at hk; exact hk.elim
    | stk => simp only [z2] at hk; exact hk.elim
    | ok d e2 =>
      simp only [z2] at hk ⊢
      by_cases hsh : e2.all isSh = true
      · rw [if_pos hsh] at hk ⊢
        have q := (h.at g.room gNoE _ [] rfl).run (ip ++ wk.cp) s σ H (fun v H' => ∃ G', Ex G G' ∧ Den B.K B.mg G' v d ∧ SRel B.K B.mg (foreign wk.G wk.H [] []) [] G' H' σ e2 []) g.inv ⟨G, env, g.rel, by
          rw [z]
          intro v G' H' ex w S
          obtain ⟨G2, x2, d2, S2⟩ := S.dOf w z2
          exact ⟨G2, ex.trans x2, d2, S2⟩⟩
        refine sg_Yield F.split ?_ hco hi
        rw [F.over]
        rw [gcx_env g.sz, gcx_A g.sz] at q
        refine wpAny_mono q (fun v s' hv => ?_) fun x s' hx => ?_
        · obtain ⟨u, H', Iv, r, G', ex, dn, S⟩ := hv
          have g' : GAt B I k wk ip σ G' H' e2 s' := ⟨g.room, g.sz, Iv, S, g.ex.trans ex, g.ghw, g.dis, g.low, g.ipL⟩
          obtain ⟨oL, ow, hoL⟩ := g'.own
          intro p kk hkk
          refine ⟨by simp [End.quiet, F.gd, F.guard], F.split, u, G', H', ip, oL, r, dn, g'.post, ow, fun p hp => ⟨g'.ipL p hp, g'.cells p hp⟩, hoL, g'.dis, fun wk' hw => ?_⟩
          refine hkk wk'.A _ wk'.s ?_
          exact hk wk' σ wk'.G wk'.H wk'.s ((gm.trans ex).trans hw.ex) (woken hl g' hsh ow hw)
        · have w := gNoE_xe hx
          rw [gcx_A g.sz] at w
          exact sg_false (by rw [F.over]; exact w)
      · rw [if_neg hsh] at hk; exact hk.elim
theorem gj_for {tg iter : Expr} {body : List Stmt} {t : Tgt} {mi : M (List D)} {b : GS} (hi : GX B I k fun X W => QI X W [] tg iter mi) (hg : GX B I k fun X W => QG X [] tg t) (hb : GJ B I k (execs body I.env) b) (hs : ∀ x, foldedSetIterable iter I.env x = pure x) :
    GJ B I k (exec (.For tg iter body [] pos) I.env) (gForS t mi b) :=
  fun fin rest c fs Kt J gd lv ip Gm env F hk wk σ G H s gm g => by
  unfold gForS at hk ⊢
  cases z : mi env with
  | err x e1 => rw [z] at hk; exact hk.elim
  | stk => rw [z] at hk; exact hk.elim
  | ok ds e1 =>
    simp only [z] at hk ⊢
    have bad0 : ∀ {x : Value} {s' : Shared} {t : Sem PySem.Fin} {Φ : End → Shared → Prop}, (gcx B I wk gNoE).xe x s' → Sg (model B.Pr B.w) wk.A Φ c t fs s' := fun {x s' t Φ} hx => by
      have w := gNoE_xe hx
      rw [gcx_A g.sz] at w
      exact sg_false (by rw [F.over]; exact w)
    have q := (hi.at g.room gNoE _ [] rfl).run (ip ++ wk.cp) s σ H (fun Jt H' => ∃ G', Ex G G' ∧ ItD B.K B.mg Jt G' ds ∧ SRel B.K B.mg (foreign wk.G wk.H [] []) [] G' H' σ e1 []) g.inv ⟨G, env, g.rel, by
      rw [z]
      exact fun Jt G' H' ex it S => ⟨G', ex, it, S⟩⟩
    rw [gcx_env g.sz, gcx_A g.sz] at q
    refine sg_For hs ?_
    rw [F.over]
    refine wpAny_mono q (fun v s1 h1 => wpAny_mono h1 (fun itv s2 h2 => ?_) fun x s' hx => bad0 hx) fun x s' hx => bad0 hx
    obtain ⟨it, fp, tn, Jt, H2, rfl, Iv, T, st, fpk, G2, ex2, itd, S2⟩ := h2
    intro p
    have Fl := fun (kk : Result → Sem PySem.Fin) => F.loop (k := kk) (c' := .forLoop tg (.ref it) body [] I.env) (l := lv []) (kp := []) (p := p) rfl rfl
    have gm2 := gm.trans ex2
    -- the iterator's objects: young, no cells, none of the waker's pins
    have young : ∀ b ∈ fp, I.L < b ∧ b ∉ (ip.map (·.1)) ∧ b ≠ I.a := fun b hb => by
      obtain ⟨f0, f1, f2, f3, f4, f5⟩ := fpk b hb
      rw [gcx_env g.sz] at f1
      have l : I.L ≤ b := by
        rcases f3 with f3 | f3
        · exact absurd (show b ∈ ([] : List Addr) from f3) (by simp)
        · have : (cutS wk.s I.L).heap.objs.size ≤ b := f3
          rw [g.sz] at this; exact this
      refine ⟨Nat.lt_of_le_of_ne l (Ne.symm f1), fun m => ?_, fun e => f5 (I.a, I.go) (List.mem_append_left _ (List.mem_singleton.mpr rfl)) e.symm⟩
      obtain ⟨q, hq, e⟩ := List.mem_map.mp m
      exact f5 q (List.mem_append_right _ (List.mem_append_left _ hq)) e
    have loop : ∀ (r : List D) (i : Nat), r = ds.drop i → ∀ (env : DEnv) (hh : Heap), GK B I k fin rest c fs Kt J ip Gm (gFor t b r env).2 → ∀ wk σ G H s, Ex G2 G → GAt B I k wk (ip ++ pinsAt fp hh) σ G H env s → tn i s.heap → (∀ b ∈ fp, ∃ o, hh.get? b = some o) →
        Sg (model B.Pr B.w) wk.A (Phi B I k fin ((gFor t b r env).1 ++ rest) wk) (.forLoop tg (.ref it) body [] I.env) ((model B.Pr B.w).den (.forLoop tg (.ref it) body [] I.env))
          (.ret (fun r => ((match r with | .ok f => (.pure f : Sem Flow) | .error e => .raise e).onRaise (cameBack I.env)).wrap Kt J gd lv) none (gd false) (lv []) c p [] :: fs) s := by
      intro r
      induction r with
      | nil =>
        intro i hr env hh hk wk σ G H s exg g st hobj
        refine sg_forLoop rfl ?_
        rw [(Fl _).over]
        have hlen : ds.length ≤ i := by
          have : (ds.drop i).length = 0 := by rw [← hr]; rfl
          rw [List.length_drop] at this; omega
        have fpo : ∀ b ∈ fp, FpOk (gcx B I wk gNoE) (ip ++ wk.cp) H b := fun b hb => by
          obtain ⟨o, ho⟩ := hobj b hb
          have pp := g.inv.pin (b, o) (List.mem_append_right _ (List.mem_append_left _ (List.mem_append_right _ (mem_pinsAt hb ho))))
          refine ⟨pp.2.1, pp.2.2.1, pp.2.2.2.1, .inr ?_, fun x c' e => ?_, fun q hq e => ?_⟩
          · show (cutS wk.s I.L).heap.objs.size ≤ b
            rw [g.sz]; exact Nat.le_of_lt (young b hb).1
          · intro e'
            obtain ⟨v, ob, hob, hd⟩ := g.inv.cell x c' e
            rw [e', pp.1] at hob; cases hob
            exact pp.2.2.2.2 v hd
          · rcases List.mem_append.mp hq with hq | hq
            · have : q = (I.a, I.go) := List.mem_singleton.mp hq
              rw [this] at e; exact (young b hb).2.2 e.symm
            · rcases List.mem_append.mp hq with hq | hq
              · exact (young b hb).2.1 (by rw [← e]; exact List.mem_map_of_mem hq)
              · exact g.dis (b, o) (List.mem_cons_of_mem _ (List.mem_append_right _ (mem_pinsAt hb ho))) q hq e
        have I0 : Inv (gcx B I wk gNoE) (ip ++ wk.cp) σ H s := g.inv.pins_of fun q hq => g.inv.pin q (List.mem_append_right _ (by
          rcases List.mem_append.mp hq with hq | hq
          · exact List.mem_append_left _ (List.mem_append_left _ hq)
          · exact List.mem_append_right _ hq))
        have td := T.done (gcx B I wk gNoE) rfl rfl rfl (by rfl) i (ip ++ wk.cp) s σ H (fun _ _ => False) I0 fpo st ((itd i G H exg g.rel.gh).2 hlen)
        rw [gcx_A g.sz] at td
        refine wpAny_mono td (fun r s1 ⟨hr1, I1⟩ => ?_) fun _ _ z => z.elim
        subst hr1
        refine sg_block ?_
        show Sg _ _ (Phi B I k fin ([] ++ rest) wk) _ _ _ _
        rw [List.nil_append]
        refine sg_leaf (.ok .next) (hk wk σ G H s1 (gm2.trans exg) ⟨g.room, g.sz, I1, g.rel, g.ex, g.ghw, fun p hp => g.dis p ?_, g.low, fun p hp => g.ipL p ?_⟩)
        · rcases List.mem_cons.mp hp with e | e
          · rw [e]; exact List.mem_cons_self
          · exact List.mem_cons_of_mem _ (List.mem_append_left _ e)
        · rcases List.mem_cons.mp hp with e | e
          · rw [e]; exact List.mem_cons_self
          · exact List.mem_cons_of_mem _ (List.mem_append_left _ e)
      | cons d r ih =>
        intro i hr env hh hk wk σ G H s exg g st hobj
        refine sg_forLoop rfl ?_
        rw [(Fl _).over]
        have hi' : i < ds.length := by
          have : (ds.drop i).length = r.length + 1 := by rw [← hr]; rfl
          rw [List.length_drop] at this; omega
        have hd : ds[i]? = some d := by
          have e := congrArg List.head? hr
          rw [List.head?_cons, List.head?_drop] at e
          exact e.symm
        have hr' : r = ds.drop (i + 1) := by
          have e := congrArg List.tail hr
          rw [List.tail_cons, List.tail_drop] at e
          exact e
        have fpo : ∀ b ∈ fp, FpOk (gcx B I wk gNoE) (ip ++ wk.cp) H b := fun b hb => by
          obtain ⟨o, ho⟩ := hobj b hb
          have pp := g.inv.pin (b, o) (List.mem_append_right _ (List.mem_append_left _ (List.mem_append_right _ (mem_pinsAt hb ho))))
          refine ⟨pp.2.1, pp.2.2.1, pp.2.2.2.1, .inr ?_, fun x c' e => ?_, fun q hq e => ?_⟩
          · show (cutS wk.s I.L).heap.objs.size ≤ b
            rw [g.sz]; exact Nat.le_of_lt (young b hb).1
          · intro e'
            obtain ⟨v, ob, hob, hd⟩ := g.inv.cell x c' e
            rw [e', pp.1] at hob; cases hob
            exact pp.2.2.2.2 v hd
          · rcases List.mem_append.mp hq with hq | hq
            · have : q = (I.a, I.go) := List.mem_singleton.mp hq
              rw [this] at e; exact (young b hb).2.2 e.symm
            · rcases List.mem_append.mp hq with hq | hq
              · exact (young b hb).2.1 (by rw [← e]; exact List.mem_map_of_mem hq)
              · exact g.dis (b, o) (List.mem_cons_of_mem _ (List.mem_append_right _ (mem_pinsAt hb ho))) q hq e
        have I0 : Inv (gcx B I wk gNoE) (ip ++ wk.cp) σ H s := g.inv.pins_of fun q hq => g.inv.pin q (List.mem_append_right _ (by
          rcases List.mem_append.mp hq with hq | hq
          · exact List.mem_append_left _ (List.mem_append_left _ hq)
          · exact List.mem_append_right _ hq))
        obtain ⟨go, yl⟩ := (itd i G H exg g.rel.gh).1 d hd
        have ti := T.item (gcx B I wk gNoE) rfl rfl rfl (by rfl) i (ip ++ wk.cp) s σ H (fun _ _ => False) I0 fpo st go
        rw [gcx_A g.sz] at ti
        refine wpAny_mono ti (fun r1 s1 ⟨u, hr1, h1⟩ => ?_) fun _ _ z => z.elim
        subst hr1
        refine wpAny_mono h1 (fun _ s2 h2 => ?_) fun _ _ z => z.elim
        obtain ⟨x, H2', I2, rx, y2, st2, n2⟩ := h2
        obtain ⟨G3, stp, dn⟩ := yl x H2' y2
        have S3 := g.rel.step stp
        have ex3 := stp.ex g.rel.gh
        unfold gFor at hk ⊢
        cases za : asgT [] t d env with
        | none => simp only [za] at hk; exact hk.elim
        | some e3 =>
          simp only [za] at hk ⊢
          have hobj2 : ∀ b ∈ fp, ∃ o, s2.heap.get? b = some o := fun b hb => let ⟨o, e, _⟩ := T.obj _ _ st2 b hb; ⟨o, e⟩
          have I3 : Inv (gcx B I wk gNoE) (ip ++ pinsAt fp s2.heap ++ wk.cp) σ H2' s2 := by
            have z := I2.pinned (fp := fp) (fun b hb => ⟨n2 b hb, (fpo b hb).2⟩) (T.obj _ _ st2)
            refine z.pins_of fun q hq => z.pin q (List.mem_append_right _ ?_)
            rcases List.mem_append.mp hq with hq | hq
            · rcases List.mem_append.mp hq with hq | hq
              · exact List.mem_append_left _ (List.mem_append_left _ hq)
              · exact List.mem_append_right _ hq
            · exact List.mem_append_left _ (List.mem_append_right _ hq)
          have hga := (hg.at g.room gNoE (foreign wk.G wk.H [] []) [] rfl).run _ s2 σ H2' x u (fun σ' H' => ∃ G', Ex G3 G' ∧ SRel B.K B.mg (foreign wk.G wk.H [] []) [] G' H' σ' e3 []) I3 rx ⟨G3, env, d, e3, S3, dn, za, fun σ' S' _ => ⟨G3, Ex.refl _, S'⟩⟩
          rw [gcx_env g.sz, gcx_A g.sz] at hga
          refine wpAny_mono hga (fun _ s3 h3 => ?_) fun x s' hx => by
            have w := gNoE_xe hx
            rw [gcx_A g.sz] at w
            exact sg_false (by rw [(Fl _).over]; exact w)
          obtain ⟨σ3, H3, I4, G4, ex4, S4⟩ := h3
          have g4 : GAt B I k wk (ip ++ pinsAt fp s2.heap) σ3 G4 H3 e3 s3 := by
            refine ⟨g.room, g.sz, I4, S4, (g.ex.trans ex3).trans ex4, g.ghw, fun p hp q hq => ?_, g.low, fun p hp => ?_⟩
            · rcases List.mem_cons.mp hp with e | e
              · rw [e]; exact g.dis _ List.mem_cons_self q hq
              · rcases List.mem_append.mp e with e | e
                · exact g.dis p (List.mem_cons_of_mem _ (List.mem_append_left _ e)) q hq
                · obtain ⟨hb, _⟩ := of_pinsAt e
                  exact (fpo p.1 hb).2.2.2.2.2 q (List.mem_append_right _ (List.mem_append_right _ hq))
            · rcases List.mem_cons.mp hp with e | e
              · rw [e]; exact g.ipL _ List.mem_cons_self
              · rcases List.mem_append.mp e with e | e
                · exact g.ipL p (List.mem_cons_of_mem _ (List.mem_append_left _ e))
                · exact (young p.1 (of_pinsAt e).1).1
          cases z2 : b e3 with
          | mk ys o =>
            rw [z2] at hk
            cases o with
            | nx e5 =>
              simp only at hk ⊢
              have q1 : (b e3).1 = ys := by rw [z2]
              have q2 : (b e3).2 = .nx e5 := by rw [z2]
              rw [List.append_assoc, ← q1]
              refine hb fin ((gFor t b r e5).1 ++ rest) _ _ _ _ id id (ip ++ pinsAt fp s2.heap) G4 e3 (Fl _) ?_ wk σ3 G4 H3 s3 (Ex.refl _) g4
              rw [q2]
              intro wk5 σ5 G5 H5 s5 gm5 g5
              refine sg_again rfl (ih (i + 1) hr' e5 s2.heap hk wk5 σ5 G5 H5 s5 (((exg.trans ex3).trans ex4).trans gm5) g5 ?_ hobj2)
              · exact T.keep _ _ _ st2 fun b hb o e => (g5.inv.pin (b, o) (List.mem_append_right _ (List.mem_append_left _ (List.mem_append_right _ (mem_pinsAt hb e))))).1
            | err x e => simp only at hk; exact hk.elim
            | rt r e => simp only at hk; exact hk.elim
            | bk e => simp only at hk; exact hk.elim
            | ct e => simp only at hk; exact hk.elim
            | stk => simp only at hk; exact hk.elim
    have hobj2 : ∀ b ∈ fp, ∃ o, s2.heap.get? b = some o := fun b hb => let ⟨o, e, _⟩ := T.obj _ _ st b hb; ⟨o, e⟩
    refine loop ds 0 rfl e1 s2.heap hk wk σ G2 H2 s2 (Ex.refl _) ⟨g.room, g.sz, ?_, S2, g.ex.trans ex2, g.ghw, fun p hp q hq => ?_, g.low, fun p hp => ?_⟩ st hobj2
    · have z := Iv.pinned fpk (T.obj _ _ st)
      refine z.pins_of fun q hq => z.pin q (List.mem_append_right _ ?_)
      rcases List.mem_append.mp hq with hq | hq
      · rcases List.mem_append.mp hq with hq | hq
        · exact List.mem_append_left _ (List.mem_append_left _ hq)
        · exact List.mem_append_right _ hq
      · exact List.mem_append_left _ (List.mem_append_right _ hq)
    · rcases List.mem_cons.mp hp with e | e
      · rw [e]; exact g.dis _ List.mem_cons_self q hq
      · rcases List.mem_append.mp e with e | e
        · exact g.dis p (List.mem_cons_of_mem _ e) q hq
        · obtain ⟨hb, _⟩ := of_pinsAt e
          exact (fpk p.1 hb).2.2.2.2.2 q (List.mem_append_right _ (List.mem_append_right _ hq))
    · rcases List.mem_cons.mp hp with e | e
      · rw [e]; exact g.ipL _ List.mem_cons_self
      · rcases List.mem_append.mp e with e | e
        · exact g.ipL p (List.mem_cons_of_mem _ e)
        · exact (young p.1 (of_pinsAt e).1).1
end
end Z
namespace Z
open PySem PySem.Spec PyProof.Rows L2 GenW
def SgGo (M : Model) (A : Around) (Φ : End → Shared → Prop) (s : Shared) : GenState → Prop
  | .fresh c => Sg M A Φ c (M.den c) [] s
  | .suspended kk _ c _ fs _ => Sg M A Φ c (kk (.send .none)) fs s
  | _ => False
theorem wpAny_wakeZ {M : Model} {A : Around} {Φ : End → Shared → Prop} {E : Value → Shared → Prop} {s : Shared} {g : Nat} {gs : GenState} {l : List Value} {α : Type} {k : GenResult → Sem α} {Q : α → Shared → Prop}
    (hg : s.gens[g]? = some gs) (hgo : SgGo M A Φ (s.setGen g .running) gs) (h : ∀ e s1, Φ e s1 → e.quiet = true ∧ wpAny M A (k e.result) Q E (s1.setGen g e.genState)) : wpAny M A (.resume g (.send .none) l k) Q E s := by
  intro Γ p hΓ
  rw [Sem.wp_resume]
  cases gs with
  | fresh c =>
    obtain ⟨e₁, s₁, hr, he⟩ := hgo (Γ.wake c p) p rfl (hΓ.wake c p)
    obtain ⟨q1, q2⟩ := h e₁ s₁ he
    exact ⟨_, _, by unfold Wakes; rw [hg]; exact ⟨e₁, s₁, hr, q1, rfl, rfl⟩, q2 Γ p hΓ⟩
  | suspended k₀ l₀ c₀ p₀ fs₀ cl =>
    obtain ⟨e₁, s₁, hr, he⟩ := hgo (Γ.wake c₀ p) p₀ rfl (hΓ.wake c₀ p)
    obtain ⟨q1, q2⟩ := h e₁ s₁ he
    exact ⟨_, _, by unfold Wakes; rw [hg]; exact ⟨e₁, s₁, hr, q1, rfl, rfl⟩, q2 Γ p hΓ⟩
  | running => exact hgo.elim
  | finished => exact hgo.elim
/-- what next(g) gives -/
def NextR (B : GB) (I : GIn) (k : Nat) (fin : GFin) (wk : Wk) : List D → Option Value → Shared → Prop
  | [], r, s' => r = none ∧ fin = .ok ∧ ∃ G' H' s1 h', Post B I wk G' H' s1 ∧ (∀ b o, s1.heap.get? b = some o → h'.get? b = some o) ∧ s' = { s1.setGen I.g .finished with heap := h' }
  | d :: zs, r, s' => ∃ v u G' H' ip' oL' gs', r = some v ∧ RelV u v ∧ Den B.K B.mg G' u d ∧ Post B I wk G' H' s' ∧ Own I ip' oL' H' s'.heap ∧ (∀ p ∈ (I.a, I.go) :: ip', I.L < p.1 ∧ ∀ v, p.2.data ≠ .cell v) ∧ (∀ v, oL'.data ≠ .cell v) ∧
      (∀ p ∈ (I.a, I.go) :: ip', ∀ q ∈ wk.cp, q.1 ≠ p.1) ∧ (I.g < s'.gens.size → s'.gens[I.g]? = some gs') ∧ Slp B I k fin zs ip' oL' G' gs' ∧ Asleep gs'
def NextE (B : GB) (I : GIn) (fin : GFin) (wk : Wk) (ys : List D) (e : Value) (s' : Shared) : Prop := ys = [] ∧ ∃ x s1, fin = .err x ∧ CX B.Pr B.w wk.outer wk.H (cutS wk.s I.L) (gE B wk.G wk.H x) e s1 ∧ s' = s1.setGen I.g .finished
/-- its exceptions end no iterator -/
def NoStopG (K : PySem.W.Frag) (mg : Str → Option Value) (x : Exn) : Prop := ∀ C, mg x.c = some (.ref C) → PySem.W.subIn K (.ref C) (.type "StopIteration") = some false
theorem turn_z {B : GB} {I : GIn} {k : Nat} {fin : GFin} {ys : List D} {ip : List (Addr × Obj)} {oL : Obj} {Gs : Hp} {gs : GenState} {A : Around} {s : Shared} {outer : List Env} {G H : Hp} {cp : List (Addr × Obj)}
    (hgo : ∀ h : Heap, h.get? I.a = some I.go → h.IsGen I.a I.g) (hg : s.gens[I.g]? = some gs) (hs : Slp B I k fin ys ip oL Gs gs) (hw : WkOk B I k ip oL Gs ⟨A.in1, outer, s.setGen I.g .running, G, H, cp⟩) (hstop : ∀ x, fin = .err x → NoStopG B.K B.mg x) :
    wpAny (model B.Pr B.w) A (pyNext (.ref I.a)) (NextR B I k fin ⟨A.in1, outer, s.setGen I.g .running, G, H, cp⟩ ys) (NextE B I fin ⟨A.in1, outer, s.setGen I.g .running, G, H, cp⟩ ys) s := by
  have ga : s.heap.get? I.a = some I.go := (hw.own.ip _ List.mem_cons_self).1
  have gg := hgo _ ga
  have hh : A.in1.handled = none := hw.room.hd
  have lim : s.heap.NoLimit := hw.mod.nolimit.keeps fun b o e => (hw.bs b o e).1
  have room : A.depth < recursionLimit := by
    have := hw.room.dp
    have e : A.in1.depth = A.depth := rfl
    rw [e] at this
    omega
  unfold pyNext
  refine wpAny_bind (wpAny_attempt (wpAny_callSpecial?_slot (name := Str.ofString "__next__") gg.typeIs slot_gen_next (wpAny_call_entry slot_gen_next gg.typeIs entry_gen_next ?_ (args_gen_next _))))
  show wpAny _ A.in1 (Builtin.Generator.genWake (.ref I.a) (.send .none)) _ _ s
  unfold Builtin.Generator.genWake
  refine wpAny_bind (wpAny_holding (wpAny_genNumber gg (wpAny_bind (wpAny_genState hg ?_))))
  cases gs
  case running => exact hs.elim
  case finished => exact hs.elim
  all_goals refine wpAny_bind (wpAny_roomToWake lim room ?_)
  all_goals show wpAny _ A.in1 (.resume I.g (.send .none) [] _) _ _ s
  all_goals refine wpAny_wakeZ hg (Φ := Phi B I k fin ys ⟨A.in1, outer, s.setGen I.g .running, G, H, cp⟩) (by first | exact hs _ hw | exact hs.2 _ hw) fun e s1 he => ?_
  all_goals
    cases ys with
    | nil =>
      cases e with
      | susp v gd l kk c p fs => exact False.elim he
      | ret r =>
        cases r with
        | ok fl =>
          obtain ⟨h1, h2, G', H', hp⟩ := he
          refine ⟨rfl, ?_⟩
          have hres : End.result (.ret (.ok fl)) = .returned .none := by
            rcases h2 with z | z <;> rw [z] <;> rfl
          first | rw [hres] | simp only [hres]
          show wpAny _ A.in1 (newExc (.type "StopIteration") [] >>= _) _ _ _
          refine wpAny_bind ?_
          unfold newExc newTuple
          refine wpAny_bind (wpAny_newObj_type ?_ (by size_fits))
          refine wpAny_bind (m := firstArgMember _ _) (wpAny_of_eq (a := Value.none) (by first | rfl | (simp only [firstArgMember]; rfl)) ?_)
          refine wpAny_newObj_type ?_ (by size_fits)
          unfold raiseNew
          refine wpAny_bind (wpAny_bind (wpAny_handled ?_))
          rw [hh]
          refine wpAny_throw ?_
          refine wpAny_bind (wpAny_isInstance (T := "StopIteration") (b := true) ⟨_, Heap.get?_push_size _ rfl, rfl⟩ isSubtype_stop ?_)
          exact wpAny_pure ⟨rfl, h1, G', H', s1, _, hp, fun b o hb => Heap.get?_push_of_some _ (Heap.get?_push_of_some _ hb), rfl⟩
        | error e =>
          obtain ⟨x, h1, h2, h3⟩ := he
          refine ⟨rfl, ?_⟩
          obtain ⟨o, nm, qn, ho, hcl, hd, hsl⟩ := hgo _ h3
          have kin : B.K.In s1.heap := by
            obtain ⟨_, Bh, _, _, _, _, fl, _, ub, _⟩ := h2
            refine hw.mod.kin.keeps fun b o e => fl.1 b o (ub.keep b o ?_ (hw.bs b o e).2 fun hb => ?_)
            · rw [cut_get (Nat.lt_of_lt_of_le (Heap.lt_size e) hw.bsz)]; exact (hw.bs b o e).1
            · have := (hw.funs.mem hb).1
              rw [e] at this; cases this
          have hns : NotStop (model B.Pr B.w) e s1.heap := notStop_of (fun cls d H1 ⟨G1, _, C, dd, gs, e1, e2, _⟩ => by
            rw [e1]; exact hstop x h1 C e2) kin h2
          show wpAny _ A.in1 (Builtin.Generator.genLeft (.ref I.a) e) _ _ _
          unfold Builtin.Generator.genLeft Builtin.Generator.madeByALambda
          refine wpAny_bind (wpAny_bind (wpAny_load (o := o) ho (wpAny_pure ?_)))
          refine wpAny_bind (hns _ _ _ _ rfl ?_)
          rw [Bool.and_false, if_neg Bool.false_ne_true]
          unfold Builtin.Generator.genEscaped
          first
            | refine wpAny_bind (hns _ _ _ _ rfl ?_)
            | refine wpAny_bind (wpAny_pure (wpAny_bind (hns _ _ _ _ rfl ?_)))
          rw [if_pos (show (!false) = true from rfl)]
          first
            | refine wpAny_throw ?_
            | refine wpAny_bind (wpAny_throw ?_)
          refine wpAny_bind (hns _ _ _ _ rfl ?_)
          rw [if_neg Bool.false_ne_true]
          exact wpAny_throw ⟨rfl, x, s1, h1, h2, rfl⟩
    | cons d zs =>
      cases e with
      | ret r => cases r <;> exact False.elim he
      | susp v gd l kk c p fs =>
        obtain ⟨q1, q2, u, G', H', ip', oL', r, dn, po, ow, ic, oc, di, go⟩ := he
        refine ⟨q1, wpAny_pure ⟨v, rfl, wpAny_pure ⟨v, u, G', H', ip', oL', (End.susp v gd l kk c p fs).genState, rfl, r, dn, ⟨po.os, allBare_setGen po.bare (End.bare_of_quiet q1), po.un, po.hok, po.back, po.cp⟩, ow, ic, oc, di, fun hz => setGen_at ?_, ⟨q2, go⟩, trivial⟩⟩⟩
        have : (s1.setGen I.g (End.susp v gd l kk c p fs).genState).gens.size = s1.gens.size := setGen_size _ _ _
        rw [this] at hz; exact hz
def runG (nN : Nat) (m : GS) : List RV → List D × GFin := fun rs => if (rs.map some).all isSh = true then (match m (rs.map some ++ List.replicate (nN - rs.length) none) with
  | (ys, .nx _) => (ys, .ok)
  | (ys, .err x _) => (ys, .err x)
  | _ => ([], .stk)) else ([], .stk)
/-- it was made: it has not begun -/
def GMd (B : GB) (k : Nat) (outer : List Env) (G : Hp) (s : Shared) (r : List D × GFin) (u : Value) (s' : Shared) : Prop :=
  ∃ (I : GIn) (c : Code) (oL : Obj), I.L = s.heap.objs.size ∧ u = .ref I.a ∧ I.L < I.a ∧ (∀ h : Heap, h.get? I.a = some I.go → h.IsGen I.a I.g) ∧ s'.gens[I.g]? = some (.fresh c) ∧ s'.os = s.os ∧ AllBare s'.gens ∧ (∀ b o, s.heap.get? b = some o → s'.heap.get? b = some o) ∧
    s'.heap.get? I.L = some oL ∧ (∀ v, oL.data ≠ .cell v) ∧ s'.heap.get? I.a = some I.go ∧ (∀ v, I.go.data ≠ .cell v) ∧ (r.2 ≠ .stk → Slp B I k r.2 r.1 [] oL G (.fresh c))
structure GnOk (B : GB) (k : Nat) (f : Addr) (fd : FuncData) (ps : List Str) (gD : List RV → List D × GFin) : Prop where
  run : ∀ (A : Around) (outer : List Env) (s : Shared) (G H : Hp) (args : Args) (us : List Value) (vs : List V) (rs : List RV), Room (k + 1) A → Env0 B.Pr B.w B.K B.mg B.base A outer s H → BindsTo s fd args (ps.zip us) → Vals vs us → vs.length = ps.length → GH B.K G H → Views B.K B.mg G H vs rs →
    codeAny (model B.Pr B.w) A (.call (.ref f) args) (fun r s' => match r with | .ok (.ret u) => GMd B k outer G s (gD rs) u s' | _ => False) s
theorem cut_self {s : Shared} : cutS s s.heap.objs.size = s := by
  unfold cutS
  simp
theorem gen_ok {B : GB} {x qual : Str} {params : Arguments} {body : List Stmt} {scope : Scope} {dvs : List V} {kws : List (Str × V)} {f : Addr} {fd : FuncData} {N ps : List Str} {k : Nat} {m : GS}
    (F : FunD B.K x qual params body scope dvs kws f fd) (S : GScope N ps scope) (hl : onlyLoc scope = true)
    (hbody : ∀ (cdv : Value) (L a : Addr) (go : Obj) (g : Nat), GJ B ⟨N, qual, scope, f, cdv, L, a, go, g⟩ k (execs body (GIn.env ⟨N, qual, scope, f, cdv, L, a, go, g⟩)) m) : GnOk B k f fd ps (runG N.length m) := by
  obtain ⟨oc, od, dV, kV, doc, pm, an, cdv, ct, osl, rfl, lk, hcd, _, _⟩ := F.ex
  refine ⟨fun A outer s G H args us vs rs hr e0 hb r hlen gh vw => ?_⟩
  have KX : B.K.In s.heap := e0.mod.kin.keeps fun b o e => (e0.bs b o e).1
  have lim : s.heap.NoLimit := e0.mod.nolimit.keeps fun b o e => (e0.bs b o e).1
  have hkind : ∀ y ∈ ps.zip us, scope.names.lookup y.1 = some .local ∨ (scope.names.lookup y.1 = some .cell ∧ ((cellsFrom (s.heap.objs.size + 1) scope.names []).lookup y.1).isSome = true) := fun ⟨n, v⟩ hy => by
    rcases S.par n (List.of_mem_zip hy).1 with q | q
    · exact .inl q
    · exact .inr ⟨q, PySem.W.cellsFrom_some _ _ _ (.inl q)⟩
  have depth : A.depth < recursionLimit := by have := hr.dp; omega
  refine codeAny_call_generator depth (KX _ _ lk) rfl S.co S.gen rfl (PySem.W.codeRec_of KX hcd) (hb _ _ _ _ ?_)
  refine wpAny_newFunctionEnv_cells S.kind hkind fun env he s1 xx => ?_
  subst he
  have kp1 : ∀ b o, s.heap.get? b = some o → s1.heap.get? b = some o := xx.toInCall.keep
  refine ⟨lim.keeps kp1, ?_⟩
  obtain ⟨h1, tk, es1, hk1⟩ := xx.done
  have os1 : s1.os = s.os := by rw [es1]
  have gen1 : s1.gens = s.gens := by rw [es1]
  have lt1 : s.heap.objs.size < s1.heap.objs.size := xx.toInCall.ns.lt
  have main : ∀ (go : Obj) (nm qn : Value) (tk2 : Nat), go.cls = .type "generator" → go.data = .fields #[.int s1.gens.size 0, nm, qn] → go.slots = #[] → (∀ h : Heap, (h.push go).get? h.objs.size = some go) →
      GMd B k outer G s (runG N.length m rs) (.ref s1.heap.objs.size) { s1 with gens := s1.gens.push (.fresh (.func body (envOfC qual scope s.heap.objs.size f cdv))), toks := tk2, heap := s1.heap.push go } := by
    intro go nm qn tk2 hgc hgd0 hgs hgp
    have bare2 : AllBare (s1.gens.push (.fresh (.func body (envOfC qual scope s.heap.objs.size f cdv)))) := AllBare.push (by rw [gen1]; exact e0.bare) rfl
    obtain ⟨m0, hn0, _⟩ := show ∃ m0, s1.heap.Ns s.heap.objs.size m0 ∧ True from ⟨_, xx.toInCall.ns, trivial⟩
    obtain ⟨oL, es, ep, hoL, hdL, _⟩ := hn0
    let I : GIn := ⟨N, qual, scope, f, cdv, s.heap.objs.size, s1.heap.objs.size, go, s1.gens.size⟩
    have hgen : ∀ h : Heap, h.get? I.a = some I.go → h.IsGen I.a I.g := fun h e => ⟨go, nm, qn, e, hgc, hgd0, hgs⟩
    have hpushed : (s1.heap.push go).get? s1.heap.objs.size = some go := hgp _
    have oL2 : (s1.heap.push go).get? s.heap.objs.size = some oL := Heap.get?_push_of_some _ hoL
    have noc : ∀ v, oL.data ≠ .cell v := fun v z => by rw [hdL] at z; cases z
    have nog : ∀ v, go.data ≠ .cell v := fun v z => by rw [hgd0] at z; cases z
    refine ⟨I, _, oL, rfl, rfl, lt1, hgen, Array.getElem?_push_size .., os1, bare2, fun b o e => Heap.get?_push_of_some _ (kp1 b o e), oL2, noc, hpushed, nog, fun hst => ?_⟩
    · -- at the making
      have e0A : Env0 B.Pr B.w B.K B.mg B.base A outer s H := e0
      have I1 : Inv (gcxOf B.Pr B.w B.K B.mg B.base N qual scope f cdv A outer s H gNoE []) [] (L2.start N vs) H s1 := inv_startG S hr.hd e0A hlen r xx
      let s2 : Shared := { s1 with gens := s1.gens.push (.fresh (.func body (envOfC qual scope s.heap.objs.size f cdv))), toks := tk2, heap := s1.heap.push go }
      have I2 : Inv (gcxOf B.Pr B.w B.K B.mg B.base N qual scope f cdv A outer s H gNoE []) [] (L2.start N vs) H s2 :=
        I1.call' (s' := s2) (ch := []) (show s2.os = s1.os from rfl) (Un.kept fun b o e => Heap.get?_push_of_some _ e) (I1.hok.kept fun b o e => Heap.get?_push_of_some _ e) bare2 fun b z => by simp at z
      have aN : H s1.heap.objs.size = none := I1.hok.fresh (Nat.le_refl _)
      have I3 : Inv (gcxOf B.Pr B.w B.K B.mg B.base N qual scope f cdv A outer s H gNoE [(s1.heap.objs.size, go)]) [] (L2.start N vs) H s2 := Inv.pinnedG I2 fun p hp => by
        have e : p = (s1.heap.objs.size, go) := by simpa using hp
        rw [e]
        exact ⟨hpushed, aN, Nat.ne_of_gt lt1, I1.nofs (Nat.le_refl _), nog⟩
      unfold runG at hst ⊢
      by_cases hsh : (rs.map some).all isSh = true
      · rw [if_pos hsh] at hst ⊢
        have allsh : ((rs.map some ++ List.replicate (N.length - rs.length) none : DEnv)).all isSh = true := by
          rw [List.all_append, hsh, Bool.true_and, List.all_eq_true]
          intro y hy
          rw [(List.mem_replicate.mp hy).2]; rfl
        have lowo : ∀ b ∈ frs outer, b < s.heap.objs.size := fun b hb => by
          obtain ⟨_, o, ho, _⟩ := e0.funs.mem hb
          exact Heap.lt_size ho
        have hpl : ps.length ≤ N.length := by have := congrArg List.length S.pre; rw [List.length_take] at this; omega
        have dist0 : Dist vs rs := fun i j r r' a h1 _ o1 _ _ _ => by
          have := List.all_eq_true.mp hsh (some r) (List.mem_map_of_mem (List.mem_of_getElem? h1))
          cases r <;> first | (cases o1; done) | (cases this; done)
        have rel0 : SRel B.K B.mg (foreign G H [] []) [] G H (L2.start N vs) (rs.map some ++ List.replicate (N.length - rs.length) none) [] := by
          have z := start_rel (N := N) gh vw dist0 (by rw [hlen]; exact hpl)
          have e1 : foreign G H vs rs = foreign G H [] [] := by
            have no : ∀ b, ¬ OwnAt vs rs b := fun b ⟨j, r, h1, h2, _⟩ => by
              have := List.all_eq_true.mp hsh (some r) (List.mem_map_of_mem (List.mem_of_getElem? h1))
              cases r <;> first | (cases h2; done) | (cases this; done)
            have no2 : ∀ b, ¬ OwnAt [] [] b := fun b ⟨j, r, h1, _, _⟩ => by simp at h1
            unfold foreign
            simp only [no, no2]
          have e2 : pinsOf 0 vs rs = [] := by
            have key : ∀ (l : List RV) (k : Nat) (vs : List V), (l.map some).all isSh = true → pinsOf k vs l = [] := by
              intro l
              induction l with
              | nil => intro k vs _; cases vs <;> rfl
              | cons r l ih =>
                intro k vs h
                rw [List.map_cons, List.all_cons, Bool.and_eq_true] at h
                cases vs with
                | nil => rfl
                | cons v vs =>
                  unfold pinsOf
                  have : r.own = false := by cases r <;> first | rfl | (cases h.1; done)
                  rw [this, if_neg Bool.false_ne_true]
                  exact ih _ _ h.2
            exact key rs 0 vs hsh
          rw [e1, e2] at z
          exact z
        have g0 : GAt B I k ⟨A, outer, s, G, H, []⟩ [] (L2.start N vs) G H (rs.map some ++ List.replicate (N.length - rs.length) none) s2 := by
          have ec : cutS s s.heap.objs.size = s := cut_self
          refine ⟨hr, by show (cutS s s.heap.objs.size).heap.objs.size = _; rw [ec], ?_, rel0, Ex.refl _, gh, fun p _ q hq => absurd hq List.not_mem_nil, lowo, fun p hp => ?_⟩
          · show Inv (gcxOf B.Pr B.w B.K B.mg B.base N qual scope f cdv A outer (cutS s s.heap.objs.size) H gNoE [(s1.heap.objs.size, go)]) [] _ _ _
            rw [ec]; exact I3
          · have e : p = (s1.heap.objs.size, go) := by simpa using hp
            rw [e]; exact lt1
        have ow : Own I [] oL H s2.heap := ⟨⟨oL2, I1.free⟩, fun p hp => by
          have e : p = (s1.heap.objs.size, go) := by simpa using hp
          rw [e]; exact ⟨hpushed, aN⟩⟩
        have J : GJ B I k (execs body I.env) m := hbody _ _ _ _ _
        have Fb : Fs I (.func body I.env) [] id := ⟨fun A => over_func, rfl, rfl, rfl⟩
        have go2 : ∀ (fin : GFin) (wk : Wk), GK B I k fin [] (.func body I.env) [] (fun f => .pure (.done (.ret (match f with | .ret v => v | _ => .none)))) (fun e => (leaving I.env e).wrap (fun _ => .raise e) .raise id id) [] G (m (rs.map some ++ List.replicate (N.length - rs.length) none)).2 →
            WkOk B I k [] oL G wk → Sg (model B.Pr B.w) wk.A (Phi B I k fin ((m (rs.map some ++ List.replicate (N.length - rs.length) none)).1 ++ []) wk) (.func body I.env) ((model B.Pr B.w).den (.func body I.env)) [] wk.s := fun fin wk hk hw =>
          sg_func (J fin [] _ [] _ _ id id [] G _ Fb hk wk (L2.start N vs) wk.G wk.H wk.s hw.ex (woken hl g0 allsh ow hw))
        cases z : m (rs.map some ++ List.replicate (N.length - rs.length) none) with
        | mk ys o =>
          rw [z] at hst
          cases o with
          | nx e' =>
            intro wk hw
            have q := go2 .ok wk (by
              rw [z]
              exact fun wk' σ' G' H' s' _ g' => sg_end (.ok (.ret .none)) ⟨rfl, .inl rfl, G', H', g'.post⟩) hw
            rw [z, List.append_nil] at q
            exact q
          | err e e' =>
            intro wk hw
            have q := go2 (.err e) wk (by
              rw [z]
              refine ⟨rfl, rfl, fun wk' s' v sz hx => sg_wrap ?_⟩
              rw [Fb.over]
              have hx' : wpAny (model B.Pr B.w) (gcx B I wk' (gE B wk'.G wk'.H e)).A (leaving (gcx B I wk' (gE B wk'.G wk'.H e)).env v) (fun _ s'' => CX B.Pr B.w wk'.outer wk'.H (cutS wk'.s I.L) (gE B wk'.G wk'.H e) v s'' ∧ ∀ p ∈ [(I.a, I.go)], s''.heap.get? p.1 = some p.2) (fun _ _ => False) s' := hx
              rw [gcx_env sz, gcx_A sz] at hx'
              exact wpAny_mono hx' (fun _ s'' q => sg_end (.error v) ⟨e, rfl, q.1, q.2 _ (List.mem_singleton.mpr rfl)⟩) fun _ _ q => q.elim) hw
            rw [z, List.append_nil] at q
            exact q
          | rt _ _ => exact absurd rfl hst
          | bk _ => exact absurd rfl hst
          | ct _ => exact absurd rfl hst
          | stk => exact absurd rfl hst
      · rw [if_neg hsh] at hst; exact absurd rfl hst
  exact main _ _ _ _ rfl rfl rfl fun h => Heap.get?_push_size _ rfl
theorem gconv {B : GB} {I : GIn} {k : Nat} {tree : Sem Flow} {m m' : GS} (h : GJ B I k tree m) (e : m = m') : GJ B I k tree m' := e ▸ h
end Z
namespace Z
open PySem PySem.Spec PyProof.Rows L2 GenW
abbrev gbOf (X : Cx) : GB := ⟨X.prog, X.w, X.K, X.mg, X.base⟩
section
variable {X : Cx} {pins : List (Addr × Obj)} {σ : L2.St} {H : Hp} {s : Shared}
theorem inv_gens {b : Array GenState} (I : Inv X pins σ H s) (h : AllBare b) : Inv X pins σ H (Shared.gn s b) := ⟨I.ok, I.os, h, I.base, I.loc, I.cell, I.free, I.freeC, I.pin, I.hok, I.len⟩
theorem inv_gens' {b : Array GenState} (I : Inv X pins σ H s) (h : Num s.gens b) : Inv X pins σ H (Shared.gn s b) := inv_gens I (h.bare I.bare)
end
/-- the same way beside sleepers -/
theorem beside {α : Type} {M : Model} {A : Around} {t : Sem α} {Q : α → Shared → Prop} {E : Value → Shared → Prop} {s : Shared} {g : Nat} {gs : GenState} (hb : AllBare s.gens) (hg : s.gens[g]? = some gs) (ha : Asleep gs) (h : wpAny M A t Q E (Shared.gn s (numbs s.gens))) :
    wpAny M A t (fun a s2 => ∃ s1 b1, Q a s1 ∧ s2 = Shared.gn s1 b1 ∧ Num s1.gens b1 ∧ s2.gens[g]? = some gs) (fun e s2 => ∃ s1 b1, E e s1 ∧ s2 = Shared.gn s1 b1 ∧ Num s1.gens b1) s :=
  wpAny_mono (wpAny_num (s := Shared.gn s (numbs s.gens)) (b := s.gens) (num_all s.gens) h) (fun a s2 ⟨s1, b1, q1, q2, q3, q4⟩ => ⟨s1, b1, q1, q2, q3, by rw [q2]; exact (q4 g gs ha hg (numbs_at hg)).1⟩) fun e s2 ⟨s1, b1, q1, q2, q3, _⟩ => ⟨s1, b1, q1, q2, q3⟩
/-- an expression whose value is a generator that has not begun -/
def QGn (X : Cx) (W : WX) (pn : List Nat) (k : Nat) (e : Expr) (m : M (List D × GFin)) : Prop := ∀ Fh P, P.map (·.1) = pn → ∀ pins s σ H G env (Q : Value → Shared → Prop), Inv X pins σ H s → SRel X.K X.mg Fh P G H σ env [] →
  (match m env with
    | .ok r e' => ∀ u s0 s' G' H', Ex G G' → Inv X pins σ H' s0 → SRel X.K X.mg Fh P G' H' σ e' [] → GMd (gbOf X) k X.stack G' s0 r u s' → Q u s'
    | .err x e' => PErr X.K X.mg W Fh P σ G x e'
    | .stk => False) → wpAny (model X.prog X.w) X.A (eval e X.env) Q X.xe s
def finG (gD : List RV → List D × GFin) (arr : List Src) (os : List Opd) (env : DEnv) : Res (List D × GFin) := match arrO os arr with
  | some r => (match dsOf r env with
    | .ok ds e => .ok (gD (ds.map .sh)) e
    | .err x e => .err x e
    | .stk => .stk)
  | none => .stk
def gnA (gD : List RV → List D × GFin) (arr : List Src) (mp mk : M (List Opd)) : M (List D × GFin) := bindM mp fun os1 => bindM mk fun os2 => finG gD arr (os1 ++ os2)
section
variable {X : Cx} {W : WX} {pn : List Nat} {pos : Pos}
theorem views_sh {K : PySem.W.Frag} {mg : Str → Option Value} {G H : Hp} {vs : List V} {ds : List D} (h : DenL K mg G vs ds) : Views K mg G H vs (ds.map .sh) := by
  refine ⟨by rw [List.length_map]; exact h.1, fun j v r a b => ?_⟩
  rw [List.getElem?_map] at b
  cases q : ds[j]? with
  | none => rw [q] at b; cases b
  | some d =>
    rw [q] at b
    have e : RV.sh d = r := by simpa using b
    subst e
    exact h.2 j v d a q
/-- behind the arguments -/
theorem run_gn {k : Nat} {f : Addr} {fd : FuncData} {ps : List Str} {gD : List RV → List D × GFin} {arr : List Src} (F : GnOk (gbOf X) k f fd ps gD) (hr : Room (k + 1) X.A) (hlen : arr.length = ps.length) {Fh : FHp} {P : List (Nat × V)} {pins : List (Addr × Obj)} {s : Shared} {σ : L2.St} {G H : Hp} {env : DEnv} {Q : Value → Shared → Prop}
    {us zs : List Value} {kw : List (Str × Value)} {vs : List V} {os : List Opd} (I : Inv X pins σ H s) (S : SRel X.K X.mg Fh P G H σ env []) (ho : OpdRs X.K X.mg G σ vs os) {uw : List Value} (rv : Vals vs uw) (hz : zs.length = arr.length) (hs : ∀ (j : Nat) (c : Src) (z : Value), arr[j]? = some c → zs[j]? = some z → SrcV X.K X.mg uw c z) (hb : BindsTo s fd ⟨us, kw⟩ (ps.zip zs))
    (q : match finG gD arr os env with
      | .ok r e' => ∀ u s0 s' G' H', Ex G G' → Inv X pins σ H' s0 → SRel X.K X.mg Fh P G' H' σ e' [] → GMd (gbOf X) k X.stack G' s0 r u s' → Q u s'
      | .err x e' => PErr X.K X.mg W Fh P σ G x e'
      | .stk => False) : wpAny (model X.prog X.w) X.A (call (.ref f) us kw) Q X.xe s := by
  unfold finG at q
  cases e1 : arrO os arr with
  | none => simp only [e1] at q
  | some r =>
    simp only [e1] at q
    obtain ⟨vz, r1, r2⟩ := arranged hz hs rv ho e1
    cases e2 : dsOf r env with
    | err x e' => exact (dsOf_noerr e2).elim
    | stk => simp only [e2] at q
    | ok ds e' =>
      simp only [e2] at q
      obtain ⟨G2, ex2, d2, S2⟩ := S.dsOf r2 e2
      have hl : vz.length = ps.length := by rw [r1.length, hz, hlen]
      refine wpAny_call (codeAny_mono (F.run X.A X.stack s G2 H ⟨us, kw⟩ zs vz (ds.map .sh) hr I.env0 hb r1 hl ⟨S2.gh, S2.fh.tb⟩ (views_sh d2)) fun rr s' hq => ?_)
      cases rr with
      | error e => exact hq.elim
      | ok fl =>
        cases fl with
        | ret u => exact q u s s' G2 H ex2 I S2 hq
        | next => exact hq.elim
        | brk => exact hq.elim
        | cont => exact hq.elim
theorem qg_fn {k np : Nat} {f : Addr} {fd : FuncData} {ps ks : List Str} {x : Str} {p : Pos} {e : Expr} {es : List Expr} {kws : List Keyword} {gD : List RV → List D × GFin} {arr : List Src} {mp mk : M (List Opd)} (F : GnOk (gbOf X) k f fd ps gD) (hr : Room (k + 1) X.A) (hg : Gl X x) (hm : X.mg x = some (.ref f))
    (hk : PySem.W.keepIn X.K (.ref f) = true) (hb : Bnd X.K X.mg fd ps np ks arr) (ha : QOs X W pn (e :: es) mp) (hkw : QK X W pn kws mk) (hnp : (e :: es).length = np) (hnk : kws.length = ks.length)
    (hall : (backToKw pos (keywordEach kws X.env)).all (·.1.isSome) = true) (hks : (backToKw pos (keywordEach kws X.env)).filterMap (·.1) = ks) (hdb : (x == ("__debug__" : Str)) = false)
    (hst : starEach (e :: es) X.env = (false, eval e X.env) :: starEach es X.env) (hpl : ((backTo pos (starEach (e :: es) X.env)).any (·.1) || (backToKw pos (keywordEach kws X.env)).any (·.1.isNone)) = false)
    (hlp : ∀ env os e', mp env = .ok os e' → os.length = np) (hlk : ∀ env os e', mk env = .ok os e' → os.length = ks.length) :
    QGn X W pn k (.Call (.Name x p) (e :: es) kws pos) (gnA gD arr mp mk) := fun Fh P hp pins s σ H G env Q I S q => by
  refine wpAny_Call_Name_kw (ld_glob I hg hm ?_ hdb)
  have h0 : rdOs X.K X.mg W Fh P mp σ H fun vs H1 => rdOs X.K X.mg W Fh P mk σ H1 fun zs H2 => vs.length = np ∧ zs.length = ks.length ∧ ∃ (os : List Opd) (G' : Hp) (e' : DEnv), Ex G G' ∧ SRel X.K X.mg Fh P G' H2 σ e' [] ∧ OpdRs X.K X.mg G' σ (vs ++ zs) os ∧ (match finG gD arr os e' with
      | .ok r e' => ∀ u s0 s' G'' H', Ex G' G'' → Inv X pins σ H' s0 → SRel X.K X.mg Fh P G'' H' σ e' [] → GMd (gbOf X) k X.stack G'' s0 r u s' → Q u s'
      | .err x e' => PErr X.K X.mg W Fh P σ G' x e'
      | .stk => False) := by
    refine ⟨G, env, S, ?_⟩
    unfold gnA bindM at q
    cases z1 : mp env with
    | err x e1 => simp only [z1] at q; exact q
    | stk => simp only [z1] at q
    | ok os1 e1 =>
      simp only [z1] at q
      intro vs G1 H1 ex w S1
      refine ⟨G1, e1, S1, ?_⟩
      cases z2 : mk e1 with
      | err x e2 => simp only [z2] at q; exact PErr.mono ex q
      | stk => simp only [z2] at q
      | ok os2 e2 =>
        simp only [z2] at q
        intro zs G2 H2 ex2 w2 S2
        refine ⟨by rw [w.1]; exact hlp _ _ _ z1, by rw [w2.1]; exact hlk _ _ _ z2, os1 ++ os2, G2, e2, ex.trans ex2, S2, (w.mono ex2).app w2, ?_⟩
        cases z3 : finG gD arr (os1 ++ os2) e2 with
        | ok r e3 => rw [z3] at q; exact fun u s0 s' G3 H3 ex3 => q u s0 s' G3 H3 ((ex.trans ex2).trans ex3)
        | err x e3 => rw [z3] at q; exact PErr.mono (ex.trans ex2) q
        | stk => rw [z3] at q; exact q
  refine args_run (X := X) (first := []) I hk (ha Fh P hp) (hkw Fh P hp) h0 hall hks hst hpl fun us ws vs zs s2 H2 I2 r rz ⟨l1, l2, os, G', e', _, S', ho, q'⟩ => ?_
  obtain ⟨zz, b1, b2, b3⟩ := hb.to s2 us ws I2.kIn (by rw [← r.length]; exact l1) (by rw [← rz.length]; exact l2)
  exact run_gn F hr hb.len I2 S' ho (r.append rz) b1 b2 b3 q'
theorem qg_fn0 {k : Nat} {f : Addr} {fd : FuncData} {ps ks : List Str} {x : Str} {p : Pos} {kws : List Keyword} {gD : List RV → List D × GFin} {arr : List Src} {mk : M (List Opd)} (F : GnOk (gbOf X) k f fd ps gD) (hr : Room (k + 1) X.A) (hg : Gl X x) (hm : X.mg x = some (.ref f))
    (hk : PySem.W.keepIn X.K (.ref f) = true) (hb : Bnd X.K X.mg fd ps 0 ks arr) (hkw : QK X W pn kws mk) (hnk : kws.length = ks.length)
    (hall : (backToKw pos (keywordEach kws X.env)).all (·.1.isSome) = true) (hks : (backToKw pos (keywordEach kws X.env)).filterMap (·.1) = ks) (hdb : (x == ("__debug__" : Str)) = false)
    (hpl : ((backTo pos (starEach [] X.env)).any (·.1) || (backToKw pos (keywordEach kws X.env)).any (·.1.isNone)) = false) (hlk : ∀ env os e', mk env = .ok os e' → os.length = ks.length) :
    QGn X W pn k (.Call (.Name x p) [] kws pos) (gnA gD arr nilO mk) := fun Fh P hp pins s σ H G env Q I S q => by
  refine wpAny_Call_Name_kw (ld_glob I hg hm ?_ hdb)
  have h0 : rdOs X.K X.mg W Fh P mk σ H fun zs H2 => zs.length = ks.length ∧ ∃ (os : List Opd) (G' : Hp) (e' : DEnv), Ex G G' ∧ SRel X.K X.mg Fh P G' H2 σ e' [] ∧ OpdRs X.K X.mg G' σ zs os ∧ (match finG gD arr os e' with
      | .ok r e' => ∀ u s0 s' G'' H', Ex G' G'' → Inv X pins σ H' s0 → SRel X.K X.mg Fh P G'' H' σ e' [] → GMd (gbOf X) k X.stack G'' s0 r u s' → Q u s'
      | .err x e' => PErr X.K X.mg W Fh P σ G' x e'
      | .stk => False) := by
    refine ⟨G, env, S, ?_⟩
    unfold gnA bindM nilO at q
    simp only [List.nil_append] at q
    cases z2 : mk env with
    | err x e2 => simp only [z2] at q; exact q
    | stk => simp only [z2] at q
    | ok os2 e2 =>
      simp only [z2] at q
      intro zs G2 H2 ex2 w2 S2
      refine ⟨by rw [w2.1]; exact hlk _ _ _ z2, os2, G2, e2, ex2, S2, w2, ?_⟩
      cases z3 : finG gD arr os2 e2 with
      | ok r e3 => rw [z3] at q; exact fun u s0 s' G3 H3 ex3 => q u s0 s' G3 H3 (ex2.trans ex3)
      | err x e3 => rw [z3] at q; exact PErr.mono ex2 q
      | stk => rw [z3] at q; exact q
  refine args_run0 (X := X) (first := []) I hk (hkw Fh P hp) h0 hall hks hpl fun ws zs s2 H2 I2 rz ⟨l2, os, G', e', _, S', ho, q'⟩ => ?_
  obtain ⟨zz, b1, b2, b3⟩ := hb.to s2 [] ws I2.kIn rfl (by rw [← rz.length]; exact l2)
  exact run_gn (uw := [] ++ ws) F hr hb.len I2 S' ho rz b1 b2 b3 q'
end
end Z
namespace Z
open PySem PySem.Spec PyProof.Rows L2 GenW
/-- how the walker stands to what is younger than L -/
structure Std (X : Cx) (pins : List (Addr × Obj)) (L : Nat) (cp : List (Addr × Obj)) (H : Hp) (s : Shared) : Prop where
  bsz : X.base.objs.size ≤ L
  stk : ∀ b ∈ frs X.stack, b < L
  cel : ∀ x c, X.env.cells.lookup x = some c → c < L
  pin : ∀ p ∈ X.pn ++ pins, p.1 < L
  loc : X.env.locals < L ∨ ∃ o, (X.env.locals, o) ∈ cp
  yng : ∀ b, L ≤ b → b < s.heap.objs.size → H b = none → b ≠ X.env.locals → b ∈ X.ex ∨ X.s_0.heap.objs.size ≤ b
  cp : ∀ p ∈ cp, s.heap.get? p.1 = some p.2 ∧ H p.1 = none ∧ L < p.1 ∧ ∀ v, p.2.data ≠ .cell v
/-- the walker's hold of the sleeper -/
structure Hld (X : Cx) (I : GIn) (k : Nat) (fin : GFin) (ys : List D) (cp : List (Addr × Obj)) (G H : Hp) (s : Shared) : Prop where
  ex : ∃ ip oL Gs gs, Slp (gbOf X) I k fin ys ip oL Gs gs ∧ Ex Gs G ∧ s.gens[I.g]? = some gs ∧ Own I ip oL H s.heap ∧ (∀ p ∈ (I.a, I.go) :: ip, I.L < p.1 ∧ ∀ v, p.2.data ≠ .cell v) ∧ (∀ v, oL.data ≠ .cell v) ∧ (∀ p ∈ (I.a, I.go) :: ip, ∀ q ∈ cp, q.1 ≠ p.1)
  isg : ∀ h : Heap, h.get? I.a = some I.go → h.IsGen I.a I.g
theorem ObjOk.get {P : Program} {w : World} {H : Hp} {h : Heap} {a : Addr} {o : HO} (x : ObjOk P w H h a o) : ∃ ob, h.get? a = some ob := by
  cases o with
  | lst xs => obtain ⟨_, _, _, _, e⟩ := x; exact ⟨_, e⟩
  | tup xs => obtain ⟨_, _, _, ob, e, _⟩ := x; exact ⟨_, e⟩
  | dK kvs => obtain ⟨_, _, _, _, o, _, _, e, _⟩ := x; exact ⟨_, e⟩
  | dT kvs => obtain ⟨_, _, _, _, o, _, _, e, _⟩ := x; exact ⟨_, e⟩
  | set S n => obtain ⟨o, _, _, _, e, _⟩ := x; exact ⟨_, e⟩
  | ins C dx fs => obtain ⟨_, _, _, e, _⟩ := x; exact ⟨_, e⟩
  | own y => exact x
  | xd fs => obtain ⟨_, ⟨_, _, _, e, _⟩, _⟩ := x; exact ⟨_, e⟩
  | rng lo hi => obtain ⟨_, _, _, e⟩ := x; exact ⟨_, e⟩
  | frz ob u => obtain ⟨e, _⟩ := x; exact ⟨_, e⟩
  | tbl ps => exact ⟨_, (show h.get? a = some _ from x)⟩
  | met f y => exact ⟨_, (show h.get? a = some _ from x)⟩
  | ext φ => exact x.2.1
section
variable {X : Cx} {pins : List (Addr × Obj)} {σ : L2.St} {G H : Hp} {s : Shared} {Fh : FHp} {P : List (Nat × V)} {env : DEnv} {I : GIn} {k : Nat} {cp : List (Addr × Obj)}
/-- behind a turn, the walker's state -/
theorem post_inv {A : Around} {H' G' : Hp} {s1 : Shared} (J : Inv X pins σ H s) (S : SRel X.K X.mg Fh P G H σ env []) (T : Std X pins I.L cp H s) (hL : I.L ≤ s.heap.objs.size) (p : Post (gbOf X) I ⟨A, X.stack, s.setGen I.g .running, G, H, cp⟩ G' H' s1) :
    Inv X pins σ H' s1 ∧ SRel X.K X.mg Fh P G' H' σ env [] ∧ Ex G G' := by
  have un : Un (frs X.stack) [] H H' (cutS (s.setGen I.g .running) I.L).heap s1.heap := p.un
  have cg : ∀ b, b < I.L → (cutS (s.setGen I.g .running) I.L).heap.get? b = s.heap.get? b := fun b h => cut_get h
  have B : Back X.K X.mg G H [] [] G' H' [] := p.back
  refine ⟨?_, ?_, B.ex⟩
  · let ch := (List.range s.heap.objs.size).filter fun b => decide (I.L ≤ b) && (H b).isNone && decide (b ≠ X.env.locals)
    have mem : ∀ b, b ∈ ch → I.L ≤ b ∧ b < s.heap.objs.size ∧ H b = none ∧ b ≠ X.env.locals := fun b hb => by
      obtain ⟨h1, h2⟩ := List.mem_filter.mp hb
      simp only [Bool.and_eq_true, decide_eq_true_eq, Option.isNone_iff_eq_none] at h2
      exact ⟨h2.1.1, List.mem_range.mp h1, h2.1.2, h2.2⟩
    have out : ∀ b o, b ∉ ch → s.heap.get? b = some o → H b = none → b < I.L ∨ b = X.env.locals := fun b o hb e n => by
      by_cases l : b < I.L
      · exact .inl l
      · refine .inr (Classical.byContradiction fun z => hb ?_)
        refine List.mem_filter.mpr ⟨List.mem_range.mpr (Heap.lt_size e), ?_⟩
        simp only [Bool.and_eq_true, decide_eq_true_eq, Option.isNone_iff_eq_none]
        exact ⟨⟨Nat.le_of_not_lt l, n⟩, z⟩
    have locs : ∀ o, s.heap.get? X.env.locals = some o → I.L ≤ X.env.locals → s1.heap.get? X.env.locals = some o ∧ H' X.env.locals = none := fun o e l => by
      rcases T.loc with q | ⟨o', q⟩
      · exact absurd q (Nat.not_lt.mpr l)
      · have h1 := (T.cp _ q).1
        have h2 := p.cp _ q
        rw [e] at h1; cases h1
        exact h2
    refine J.call' (ch := ch) p.os ⟨fun b o e n hb hx => ?_, fun b o e n hb hx => ?_, fun b o e n hx => ?_, fun b o e hx => ?_, un.tups, un.frzs, un.tbls⟩ p.hok p.bare fun b hb => ?_
    · by_cases l : b < I.L
      · exact un.keep b o (by rw [cg b l]; exact e) n hb (by simp)
      · rcases out b o hx e n with q | q
        · exact absurd q l
        · subst q; exact (locs o e (Nat.le_of_not_lt l)).1
    · have l := T.stk b hb
      exact un.slot b o (by rw [cg b l]; exact e) n hb (by simp)
    · by_cases l : b < I.L
      · exact un.free b o (by rw [cg b l]; exact e) n (by simp)
      · rcases out b o hx e n with q | q
        · exact absurd q l
        · subst q; exact (locs o e (Nat.le_of_not_lt l)).2
    · by_cases l : b < I.L
      · exact un.there b o (by rw [cg b l]; exact e) (by simp)
      · cases hH : H b with
        | none =>
          rcases out b o hx e hH with q | q
          · exact absurd q l
          · subst q; exact ⟨o, (locs o e (Nat.le_of_not_lt l)).1⟩
        | some u =>
          have : ∃ u', H' b = some u' := by
            cases hG : G b with
            | none => exact (B.frm b u hH hG fun ⟨j, r, z, _⟩ => by simp at z).1.some
            | some w => exact B.gh.1.some (B.ex b w hG)
          obtain ⟨u', hu'⟩ := this
          exact Z.ObjOk.get (p.hok b u' hu')
    · obtain ⟨h1, h2, h3, h4⟩ := mem b hb
      refine ⟨T.yng b h1 h2 h3 h4, h4, fun x c e z => ?_, fun q hq z => ?_⟩
      · have := T.cel x c e
        rw [z] at this; exact absurd h1 (Nat.not_le.mpr this)
      · have := T.pin q hq
        rw [z] at this; exact absurd h1 (Nat.not_le.mpr this)
  · have z := S.back (os := []) (vs := []) (rs := []) (rs' := []) OpdRs.nil rfl rfl B (v := .non) (r := .sh .non) Den.non fun a m => by cases m
    exact z
/-- next(g) -/
theorem turn_x {A : Around} {fin : GFin} {ys : List D} (hc : X.calm = true) (J : Inv X pins σ H s) (S : SRel X.K X.mg Fh P G H σ env []) (T : Std X pins I.L cp H s) (h : Hld X I k fin ys cp G H s) (hr : Room (k + 2) A) (hf : A.frames = some X.stack) (hstop : ∀ x, fin = .err x → NoStopG X.K X.mg x) :
    wpAny (model X.prog X.w) A (pyNext (.ref I.a)) (fun r s1 => match ys with
      | [] => r = none ∧ fin = .ok ∧ ∃ G' H', Inv X pins σ H' s1 ∧ SRel X.K X.mg Fh P G' H' σ env [] ∧ Ex G G' ∧ ∀ p ∈ cp, s1.heap.get? p.1 = some p.2 ∧ H' p.1 = none
      | d :: zs => ∃ v u G' H', r = some v ∧ RelV u v ∧ Den X.K X.mg G' u d ∧ Inv X pins σ H' s1 ∧ SRel X.K X.mg Fh P G' H' σ env [] ∧ Ex G G' ∧ (∀ p ∈ cp, s1.heap.get? p.1 = some p.2 ∧ H' p.1 = none) ∧ Hld X I k fin zs cp G' H' s1 ∧ ∃ gs', s1.gens[I.g]? = some gs' ∧ Asleep gs')
      (NextE (gbOf X) I fin ⟨A.in1, X.stack, s.setGen I.g .running, G, H, cp⟩ ys) s := by
  obtain ⟨⟨ip, oL, Gs, gs, hs, hex, hg, how, hip, hoL, hdis⟩, hisg⟩ := h
  have hgl : I.g < s.gens.size := (Array.getElem?_eq_some_iff.mp hg).1
  have hL : I.L < s.heap.objs.size := Heap.lt_size how.fr.1
  have wok : WkOk (gbOf X) I k ip oL Gs ⟨A.in1, X.stack, s.setGen I.g .running, G, H, cp⟩ := {
    room := hr.in1
    frames := hf
    mod := J.ok.mod
    bs := J.bs
    bsz := T.bsz
    sz := Nat.le_of_lt hL
    funs := J.stack
    frl := fun b hb => ⟨T.stk b hb, J.stkFree b hb⟩
    hok := J.hok
    bare := allBare_setGen J.bare rfl
    gh := ⟨S.gh, S.fh.tb⟩
    ex := hex
    own := how
    cp := fun p hp => let z := T.cp p hp; ⟨z.1, z.2.1, Nat.ne_of_gt z.2.2.1, fun q => absurd (T.stk _ q) (Nat.lt_asymm z.2.2.1), z.2.2.2⟩
    dis := hdis }
  refine wpAny_gsz (n := s.gens.size) (Nat.le_refl _) (wpAny_mono (turn_z hisg hg hs wok hstop) (fun r s1 hq hsz => ?_) fun e s1 hq _ => hq)
  cases ys with
  | nil =>
    obtain ⟨h1, h2, G', H', s2, h', po, kp, rfl⟩ := hq
    obtain ⟨q1, q2, q3⟩ := post_inv J S T (Nat.le_of_lt hL) po
    refine ⟨h1, h2, G', H', ?_, q2, q3, fun p hp => ⟨kp _ _ (po.cp p hp).1, (po.cp p hp).2⟩⟩
    exact q1.call' (s' := { s2.setGen I.g .finished with heap := h' }) (ch := []) rfl (Un.kept kp) (q1.hok.kept kp) (allBare_setGen q1.bare rfl) fun b z => by simp at z
  | cons d zs =>
    obtain ⟨v, u, G', H', ip', oL', gs', r1, r2, dn, po, ow, ic, oc, di, hz, sl, as⟩ := hq
    obtain ⟨q1, q2, q3⟩ := post_inv J S T (Nat.le_of_lt hL) po
    have hgs := hz (Nat.lt_of_lt_of_le hgl hsz)
    exact ⟨v, u, G', H', r1, r2, dn, q1, q2, q3, po.cp, ⟨⟨ip', oL', G', gs', sl, Ex.refl _, hgs, ow, ic, oc, di⟩, hisg⟩, gs', hgs, as⟩
end
def okG (m : M (List D × GFin)) : M (List D) := fun env => match m env with
  | .ok (ys, .ok) e => .ok ys e
  | .err x e => .err x e
  | _ => .stk
section
variable {X : Cx} {W : WX} {pn : List Nat} {pos : Pos} {k : Nat}
theorem std_def {pins : List (Addr × Obj)} {σ : L2.St} {H : Hp} {s s0 : Shared} {σ0 : L2.St} {H0 : Hp} (J : Inv X pins σ0 H0 s0) : Std X pins s0.heap.objs.size [] H s := {
  bsz := Nat.le_trans J.ok.bsz J.sz
  stk := fun b hb => by
    obtain ⟨_, o, ho, _⟩ := J.stack.mem hb
    exact Heap.lt_size ho
  cel := fun x c e => by obtain ⟨v, z⟩ := J.cell x c e; exact z.lt
  pin := fun p hp => Heap.lt_size (J.pin p hp).1
  loc := .inl J.lt
  yng := fun b hb _ _ _ => .inr (Nat.le_trans J.sz hb)
  cp := fun p hp => absurd hp List.not_mem_nil }
/-- it was made -/
theorem made_hld {pins : List (Addr × Obj)} {σ : L2.St} {G H : Hp} {s0 s1 : Shared} {r : List D × GFin} {u : Value} (J : Inv X pins σ H s0) (h : GMd (gbOf X) k X.stack G s0 r u s1) :
    ∃ I : GIn, I.L = s0.heap.objs.size ∧ u = .ref I.a ∧ Inv X pins σ H s1 ∧ (r.2 ≠ .stk → Hld X I k r.2 r.1 [] G H s1) ∧ s1.heap.get? I.a = some I.go ∧ (∀ h : Heap, h.get? I.a = some I.go → h.IsGen I.a I.g) ∧ (∀ b o, s0.heap.get? b = some o → s1.heap.get? b = some o) ∧ I.L < I.a ∧ H I.L = none ∧ H I.a = none := by
  obtain ⟨I, c, oL, h1, h2, h3, h4, h5, h6, h7, h8, h9, h10, h11, h12, h13⟩ := h
  have nL : H I.L = none := J.hok.fresh (by rw [h1]; exact Nat.le_refl _)
  have nA : H I.a = none := J.hok.fresh (Nat.le_of_lt (by rw [← h1]; exact h3))
  refine ⟨I, h1, h2, J.call' (ch := []) h6 (Un.kept h8) (J.hok.kept h8) h7 fun b z => by simp at z, fun hst => ⟨⟨[], oL, G, _, h13 hst, Ex.refl _, h5, ⟨⟨h9, nL⟩, fun p hp => ?_⟩, fun p hp => ?_, h10, fun p hp q hq => absurd hq List.not_mem_nil⟩, h4⟩, h11, h4, h8, h3, nL, nA⟩
  · have e : p = (I.a, I.go) := by simpa using hp
    rw [e]; exact ⟨h11, nA⟩
  · have e : p = (I.a, I.go) := by simpa using hp
    rw [e]; exact ⟨h3, h12⟩
/-- the sleeper's objects as pins -/
theorem hld_pins {pins : List (Addr × Obj)} {σ : L2.St} {G H : Hp} {s : Shared} {I : GIn} {fin : GFin} {ys : List D} {cp : List (Addr × Obj)} (J : Inv X pins σ H s) (h : Hld X I k fin ys cp G H s) (hl : X.env.locals < I.L ∨ ∃ o, (X.env.locals, o) ∈ cp) (hcp : ∀ p ∈ cp, I.L < p.1) (hst : ∀ b ∈ X.fs, b < I.L) :
    ∃ pl : List (Addr × Obj), Inv X (pins ++ pl) σ H s ∧ ∀ σ' G' H' s', Inv X (pins ++ pl) σ' H' s' → Ex G G' → (∀ gs, s.gens[I.g]? = some gs → s'.gens[I.g]? = some gs) → Hld X I k fin ys cp G' H' s' := by
  obtain ⟨⟨ip, oL, Gs, gs, hs, hex, hg, how, hip, hoL, hdis⟩, hisg⟩ := h
  have ne : ∀ b, I.L ≤ b → (∀ q ∈ cp, q.1 ≠ b) → b ≠ X.env.locals := fun b hb hq e => by
    rcases hl with l | ⟨o, m⟩
    · rw [← e] at l; exact absurd hb (Nat.not_le.mpr l)
    · exact hq _ m e.symm
  refine ⟨(I.L, oL) :: (I.a, I.go) :: ip, J.pins_of fun p hp => ?_, fun σ' G' H' s' J' ex' hgs => ⟨⟨ip, oL, Gs, gs, hs, hex.trans ex', hgs gs hg, ⟨?_, fun p hp => ?_⟩, hip, hoL, hdis⟩, hisg⟩⟩
  · rcases List.mem_append.mp hp with hp | hp
    · exact J.pin p (List.mem_append_right _ hp)
    · rcases List.mem_cons.mp hp with e | hp
      · rw [e]
        exact ⟨how.fr.1, how.fr.2, ne _ (Nat.le_refl _) fun q hq => Nat.ne_of_gt (hcp q hq), fun z => absurd (hst _ z) (Nat.lt_irrefl _), hoL⟩
      · obtain ⟨h1, h2⟩ := how.ip p hp
        obtain ⟨h3, h4⟩ := hip p hp
        exact ⟨h1, h2, ne _ (Nat.le_of_lt h3) fun q hq => hdis p hp q hq, fun z => absurd (hst _ z) (Nat.lt_asymm h3), h4⟩
  · have z := J'.pin (I.L, oL) (List.mem_append_right _ (List.mem_append_right _ List.mem_cons_self))
    exact ⟨z.1, z.2.1⟩
  · have z := J'.pin p (List.mem_append_right _ (List.mem_append_right _ (List.mem_cons_of_mem _ hp)))
    exact ⟨z.1, z.2.1⟩
end
end Z
namespace Z
open PySem PySem.Spec PyProof.Rows L2 GenW
theorem beside0 {α : Type} {M : Model} {A : Around} {t : Sem α} {Q : α → Shared → Prop} {s : Shared} {g : Nat} {gs : GenState} (hb : AllBare s.gens) (hg : s.gens[g]? = some gs) (ha : Asleep gs) (h : wpAny M A t Q (fun _ _ => False) (Shared.gn s (numbs s.gens))) :
    wpAny M A t (fun a s2 => ∃ s1 b1, Q a s1 ∧ s2 = Shared.gn s1 b1 ∧ Num s1.gens b1 ∧ s2.gens[g]? = some gs) (fun _ _ => False) s :=
  wpAny_mono (beside hb hg ha h) (fun _ _ q => q) fun _ _ ⟨_, _, q, _⟩ => q
section
variable {X : Cx} {I : GIn} {k : Nat} {fin : GFin} {ys : List D} {cp cp' : List (Addr × Obj)} {G G' H H' : Hp} {s s' : Shared}
theorem Hld.re (h : Hld X I k fin ys cp G H s) (hc : ∀ q ∈ cp', ∃ q0 ∈ cp, q0.1 = q.1) : Hld X I k fin ys cp' G H s := by
  obtain ⟨⟨ip, oL, Gs, gs, h1, h2, h3, h4, h5, h6, h7⟩, h8⟩ := h
  exact ⟨⟨ip, oL, Gs, gs, h1, h2, h3, h4, h5, h6, fun p hp q hq => by
    obtain ⟨q0, m, e⟩ := hc q hq
    rw [← e]; exact h7 p hp q0 m⟩, h8⟩
theorem Hld.keep {Y : Cx} (hY : gbOf Y = gbOf X) (h : Hld X I k fin ys cp G H s) (ex : Ex G G') (hk : ∀ b o, s.heap.get? b = some o → s'.heap.get? b = some o) (hg : s'.gens = s.gens) (hH : ∀ b, b < s.heap.objs.size → H b = none → H' b = none) : Hld Y I k fin ys cp G' H' s' := by
  obtain ⟨⟨ip, oL, Gs, gs, h1, h2, h3, h4, h5, h6, h7⟩, h8⟩ := h
  exact ⟨⟨ip, oL, Gs, gs, by rw [hY]; exact h1, h2.trans ex, by rw [hg]; exact h3, ⟨⟨hk _ _ h4.fr.1, hH _ (Heap.lt_size h4.fr.1) h4.fr.2⟩, fun p hp => ⟨hk _ _ (h4.ip p hp).1, hH _ (Heap.lt_size (h4.ip p hp).1) (h4.ip p hp).2⟩⟩, h5, h6, h7⟩, h8⟩
/-- .. with any pins of the waker that are not its object -/
theorem Hld.first (h : Hld X I k fin ys [] G H s) (hip : ∀ q ∈ cp, s.heap.get? q.1 = none) : Hld X I k fin ys cp G H s := by
  obtain ⟨⟨ip, oL, Gs, gs, h1, h2, h3, h4, h5, h6, h7⟩, h8⟩ := h
  exact ⟨⟨ip, oL, Gs, gs, h1, h2, h3, h4, h5, h6, fun p hp q hq e => by
    have := (h4.ip p hp).1
    rw [← e, hip q hq] at this; cases this⟩, h8⟩
end
section
variable {X : Cx} {W : WX} {pn vs : List Nat} {pos : Pos} {k : Nat}
theorem lcG_core {pins : List (Addr × Obj)} {s : Shared} {σ : L2.St} {G H : Hp} {env : DEnv} {Fh : FHp} {P : List (Nat × V)} {Q : VK} {elt tg iter : Expr} {ifs : List Expr} {scope : Scope} {own : List (Str × Nat)} {pos' : Pos} {t : Tgt} {mi : M (List D × GFin)} {mt : M Bool} {me : M Opd} {use : Option (Value → Sem Unit)} {Qf : Value → Shared → Prop}
    (hp : P.map (·.1) = pn) (hc : X.calm = true) (hN : X.N.Nodup) (hr : Room (k + 2) X.A) (hi : QGn X W pn k iter mi) (ok : BlkOk X.N X.env.scope scope own) (hloc : ∀ y ∈ scope.names, y.2 ≠ .cell)
    (hg : ∀ (s : Shared) (H : Hp) (C : Addr) (cl : List (Str × Addr)) (fp : List Addr), QG (X.blk s H scope (compEnvC scope cl C X.env) fp) pn tg t) (ht : ∀ (s : Shared) (H : Hp) (C : Addr) (cl : List (Str × Addr)) (fp : List Addr), QTs (X.blk s H scope (compEnvC scope cl C X.env) fp) W0 pn ifs mt)
    (he : ∀ (s : Shared) (H : Hp) (C : Addr) (cl : List (Str × Addr)) (fp : List Addr), QO (X.blk s H scope (compEnvC scope cl C X.env) fp) W0 pn elt me) (hs : ∀ x, foldedSetIterable iter X.env x = pure x)
    (J : Inv X pins σ H s) (S : SRel X.K X.mg Fh P G H σ env []) (q : PV X.K X.mg W Fh P σ G Q (lcM pn (own.map (·.2)) t (okG mi) mt me env))
    (hRR : ∀ D C s' m H', Inv X pins σ H' s' → Q (.ref D) H' → s'.heap.Ns C m → FpOk X pins H' C → compPost (model X.prog X.w) X.A X.xe use Qf (.ref D) C (.ok .next) s') :
    wpAny (model X.prog X.w) X.A (comprehension (.ListComp elt [⟨tg, iter, ifs, 0⟩] scope pos) scope X.env pos' (newList []) false (eval iter X.env) use) Qf X.xe s := by
  have hfree : ∀ y ∈ scope.names, y.2 = .free → ∃ c, X.env.cells.lookup y.1 = some c := fun y hy e => by
    rcases ok.free y hy e with z | z
    · exact J.ok.has _ (.inl z)
    · exact J.ok.has _ (.inr z)
  refine wpAny_comprehension_free (use := use) rfl hs (closure_ok hfree) ok.kind (fun y hy e => by rw [ok.uniq y hy, e]) (hi Fh P hp pins s σ H G env _ J S ?_)
  unfold lcM bindM okG at q
  cases z : mi env with
  | err x e => simp only [z] at q ⊢; exact q
  | stk => simp only [z] at q; exact q.elim
  | ok r e =>
    obtain ⟨ys, fin⟩ := r
    cases fin with
    | err x => simp only [z] at q; exact q.elim
    | stk => simp only [z] at q; exact q.elim
    | ok =>
      simp only [z] at q ⊢
      by_cases hcc : (∀ i ∈ own.map (·.2), i ∉ pn) ∧ (∀ i ∈ slotsT t, i ∈ own.map (·.2))
      · rw [if_pos hcc] at q
        cases zf : lcGo pn (own.map (·.2)) t mt me ys [] (wipeD e (own.map (·.2))) with
        | err x e => simp only [zf] at q; exact q.elim
        | stk => simp only [zf] at q; exact q.elim
        | ok accf ef =>
          simp only [zf] at q
          intro u s0 s1 G0 H0 ex0 J0 S0 hm
          obtain ⟨I, hL, rfl, J1, hld, hga, hisg, hk01, hLa, hnL, hnA⟩ := made_hld J0 hm
          have hld1 := hld nofun
          refine wpAny_pyIter_gen (hisg _ hga) ?_
          refine wpAny_newObj_type (newEnv_comp ?_) (by show 0 ≤ sizeLine; decide)
          generalize hD : s1.heap.objs.size = Da
          have hDn : H0 Da = none := J1.hok.fresh (Nat.le_of_eq hD)
          have L01 : s0.heap.objs.size ≤ s1.heap.objs.size := by
            rw [← hL]; exact Nat.le_of_lt (Nat.lt_trans hLa (Heap.lt_size hga))
          generalize hs3 : ({ s1 with heap := s1.heap.push { cls := .type "list", data := .seq ([] : List Value).toArray } } : Shared) = s3
          have I3 : Inv X pins σ (upd H0 Da (.lst [])) s3 := by
            rw [← hs3]
            refine J1.laid (t' := s1.toks) (fun b o e => Heap.get?_push_of_some _ e) (Nat.le_of_eq hD) ⟨Nat.zero_le _, [], 0, .nil, ?_⟩
            rw [← hD]
            exact Heap.get?_push_size _ rfl
          have h3 : s3.heap = s1.heap.push { cls := .type "list", data := .seq ([] : List Value).toArray } := by rw [← hs3]
          have sz3 : s3.heap.objs.size = Da + 1 := by rw [h3, Heap.size_push, hD]
          generalize hfp : ((List.range s1.heap.objs.size).filter fun b => decide (I.L ≤ b)) = fp
          have mfp : ∀ b, b ∈ fp ↔ (I.L ≤ b ∧ b < Da) := fun b => by
            rw [← hfp, List.mem_filter, List.mem_range, hD]
            simp only [decide_eq_true_eq]
            exact And.comm
          have fN : ∀ b, I.L ≤ b → H0 b = none := fun b hb => J0.hok.fresh (by rw [← hL]; exact hb)
          have f3 : ∀ b ∈ fp, FpOk X pins (upd H0 Da (.lst [])) b ∧ b < s3.heap.objs.size := fun b hb => by
            obtain ⟨l1, l2⟩ := (mfp b).mp hb
            refine ⟨J0.fpOk (by rw [← hL]; exact l1) ?_, by rw [sz3]; exact Nat.lt_succ_of_lt l2⟩
            rw [upd_ne (Nat.ne_of_lt l2)]
            exact fN b l1
          have I4 := block_start I3 ok hN f3
          have pg := hg s3 (upd H0 Da (.lst [])) s3.heap.objs.size (cellsFrom (s3.heap.objs.size + 1) scope.names (cloFrom X.env.cells scope.names [])) fp
          have pt := ht s3 (upd H0 Da (.lst [])) s3.heap.objs.size (cellsFrom (s3.heap.objs.size + 1) scope.names (cloFrom X.env.cells scope.names [])) fp
          have pe := he s3 (upd H0 Da (.lst [])) s3.heap.objs.size (cellsFrom (s3.heap.objs.size + 1) scope.names (cloFrom X.env.cells scope.names [])) fp
          show codeAny _ _ (.compStart (.ListComp elt [⟨tg, iter, ifs, 0⟩] scope pos) 0 (.ref I.a) (.ref Da) (compEnvC scope (cellsFrom (s3.heap.objs.size + 1) scope.names (cloFrom X.env.cells scope.names [])) s3.heap.objs.size X.env)) (compPost (model X.prog X.w) X.A X.xe use Qf (.ref Da) s3.heap.objs.size) { s3 with heap := pushCells (s3.heap.push { cls := .type "dict", data := .dict #[] }) scope.names }
          have ecl : ∀ y c, (cellsFrom (s3.heap.objs.size + 1) scope.names (cloFrom X.env.cells scope.names [])).lookup y = some c → c < I.L := fun y c e => by
            have m := PySem.mem_of_lookup e
            rw [← Heap.size_push s3.heap { cls := .type "dict", data := .dict #[] }] at m
            rcases cells_mem m with m | ⟨m, _⟩
            · rcases cloFrom_mem m with m | ⟨m1, m2⟩
              · cases m
              · obtain ⟨c', e'⟩ := hfree _ m1 rfl
                rw [e'] at m2
                obtain ⟨v, zz⟩ := J0.cell _ _ e'
                rw [show c = c' from m2, hL]; exact zz.lt
            · exact absurd rfl (hloc _ m)
          generalize hce : compEnvC scope (cellsFrom (s3.heap.objs.size + 1) scope.names (cloFrom X.env.cells scope.names [])) s3.heap.objs.size X.env = ce at I4 pg pt pe ⊢
          have cL : ce.locals = s3.heap.objs.size := by subst hce; rfl
          have cC : ce.cells = cellsFrom (s3.heap.objs.size + 1) scope.names (cloFrom X.env.cells scope.names []) := by subst hce; rfl
          generalize hH3 : upd H0 Da (.lst []) = H3 at I3 I4 pg pt pe f3
          generalize hs4 : ({ s3 with heap := pushCells (s3.heap.push { cls := .type "dict", data := .dict #[] }) scope.names } : Shared) = s4 at I4 ⊢
          have k14 : ∀ b o, s1.heap.get? b = some o → s4.heap.get? b = some o := fun b o e => by
            rw [← hs4]; exact pushCells_keeps _ _ _ _ (Heap.get?_push_of_some _ (by rw [h3]; exact Heap.get?_push_of_some _ e))
          have g14 : s4.gens = s1.gens := by rw [← hs4, ← hs3]
          have noC : s1.heap.get? ce.locals = none := Heap.get?_none_of_le (by rw [cL, sz3, hD]; exact Nat.le_succ _)
          have hld4 : ∀ oC, Hld (X.blk s3 H3 scope ce fp) I k .ok ys [(ce.locals, oC)] G0 H3 s4 := fun oC =>
            Hld.keep (X := X) (Y := X.blk s3 H3 scope ce fp) rfl (hld1.first (cp := [(ce.locals, oC)]) fun q hq => by rw [List.mem_singleton.mp hq]; exact noC) (Ex.refl _) k14 g14 fun b l n => by
              rw [← hH3, upd_ne (by rw [← hD]; exact Nat.ne_of_lt l)]; exact n
          have hF0 : Fh Da = none := S0.fh.none hDn
          have Sw : SRel X.K X.mg (updF Fh Da (.lst [])) P G0 H3 (wipe σ (own.map (·.2))) (wipeD e (own.map (·.2))) [] := by
            rw [← hH3]; exact (S0.guard (o := .lst []) hDn nofun).wipe (vs := own.map (·.2)) (fun i hi => by rw [hp]; exact hcc.1 i hi)
          have stkL : ∀ b ∈ frs X.stack, b < I.L := fun b hb => by
            obtain ⟨_, o, ho, _⟩ := J0.stack.mem hb
            rw [hL]; exact Heap.lt_size ho
          have LC : I.L < ce.locals := by
            rw [cL, sz3, ← hD]; exact Nat.lt_succ_of_lt (Nat.lt_trans hLa (Heap.lt_size hga))
          -- how the block stands to the sleeper
          have std : ∀ {σ' : L2.St} {G' H' : Hp} {s' : Shared} {env' : DEnv} {xs : List V}, Inv (X.blk s3 H3 scope ce fp) [] σ' H' s' → SRel X.K X.mg (updF Fh Da (.lst xs)) P G' H' σ' env' [] → ∃ oC, Std (X.blk s3 H3 scope ce fp) [] I.L [(ce.locals, oC)] H' s' := fun {σ' G' H' s' env' xs} J' S' => by
            obtain ⟨m, ⟨oC, es, ep, ho, hd, _⟩, _⟩ := J'.loc
            refine ⟨oC, ⟨by show X.base.objs.size ≤ _; rw [hL]; exact Nat.le_trans J0.ok.bsz J0.sz, stkL, fun x c e => ecl x c (by rw [← cC]; exact e), fun p hp => absurd (show p ∈ ([] : List (Addr × Obj)) ++ [] from hp) (by simp), .inr ⟨oC, List.mem_singleton.mpr rfl⟩, fun b l1 _ n ne => ?_, fun p hp => ?_⟩⟩
            · show b ∈ fp ∨ s3.heap.objs.size ≤ b
              by_cases l2 : b < Da
              · exact .inl ((mfp b).mpr ⟨l1, l2⟩)
              · refine .inr ?_
                rw [sz3]
                refine Nat.lt_of_le_of_ne (Nat.le_of_not_lt l2) fun e => ?_
                subst e
                rw [S'.fh.at updF_same] at n; cases n
            · rw [List.mem_singleton.mp hp]
              exact ⟨ho, J'.free, LC, fun v zz => by rw [hd] at zz; cases zz⟩
          have loop : codeAny (model X.prog X.w) X.A (.compLoop (.ListComp elt [⟨tg, iter, ifs, 0⟩] scope pos) 0 (.ref I.a) (.ref Da) ce) (compPost (model X.prog X.w) X.A X.xe use Qf (.ref Da) s3.heap.objs.size) s4 := by
            refine compLoop_any (fun n s' => ∃ (ys : List D) (acc : List D) (xs : List V) (G' H' : Hp) (env' : DEnv) (oC : Obj), n = ys.length ∧ Inv (X.blk s3 H3 scope ce fp) [] (wipe σ (own.map (·.2))) H' s' ∧ SRel X.K X.mg (updF Fh Da (.lst xs)) P G' H' (wipe σ (own.map (·.2))) env' [] ∧ DenL X.K X.mg G' xs acc ∧ Ex G0 G' ∧ Hld (X.blk s3 H3 scope ce fp) I k .ok ys [(ce.locals, oC)] G' H' s' ∧ lcGo pn (own.map (·.2)) t mt me ys acc env' = .ok accf ef) ?_ ys.length
              ⟨ys, [], [], G0, H3, _, { cls := .none, data := .fields #[] }, rfl, I4, Sw, .nil, Ex.refl _, hld4 _, zf⟩
            rintro n s5 ⟨ys, acc, xs, G5, H5, env5, oC0, rfl, J5, S5, hacc, ex5, h5, q5⟩
            obtain ⟨oC, T5⟩ := std J5 S5
            have h5' : Hld (X.blk s3 H3 scope ce fp) I k .ok ys [(ce.locals, oC)] G5 H5 s5 := h5.re fun q hq => ⟨(ce.locals, oC0), List.mem_singleton.mpr rfl, by rw [List.mem_singleton.mp hq]⟩
            have tx := turn_x (X := X.blk s3 H3 scope ce fp) (Fh := updF Fh Da (.lst xs)) (P := P) hc J5 S5 T5 h5' (A := X.A) hr J0.ok.frames (fun x e => by cases e)
            refine wpAny_mono tx (fun r s6 h6 => ?_) fun e s6 h6 => by
              obtain ⟨_, x, _, e1, _⟩ := h6
              cases e1
            cases ys with
            | nil =>
              obtain ⟨rfl, _, G6, H6, J6, S6, ex6, _⟩ := h6
              unfold lcGo at q5
              cases q5
              have I7 : Inv X pins σ H6 s6 := I3.call' (ch := fp) J6.os J6.base J6.hok J6.bare fun b hb => ⟨(f3 b hb).1.2.2.2.1, (f3 b hb).1.2.1, (f3 b hb).1.2.2.2.2.1, (f3 b hb).1.2.2.2.2.2⟩
              have nC : H6 s3.heap.objs.size = none := by
                have zz : H6 ce.locals = none := J6.free
                rw [cL] at zz; exact zz
              obtain ⟨m, hn, _⟩ := J6.loc
              have hn : s6.heap.Ns ce.locals m := hn
              rw [cL] at hn
              have vw : View X.K X.mg G6 H6 (.ref Da) (.ol accf) := View.of_own (S6.fh.at updF_same) (S6.djo updF_same) (DenL.mono ex6 hacc)
              exact hRR Da s3.heap.objs.size s6 m H6 I7 (q (.ref Da) G6 H6 ((ex0.trans ex5).trans ex6) vw (S6.unwipe.unguard hF0)) hn (I3.fpOk (Nat.le_refl _) nC)
            | cons d ys =>
              obtain ⟨v, u, G6, H6, rfl, ru, dn, J6, S6, ex6, _, h6, gs6, hg6, as6⟩ := h6
              have hga6 : s6.heap.get? I.a = some I.go := by
                obtain ⟨⟨ip, oL, Gs, gs, _, _, _, how, _⟩, _⟩ := h6
                exact (how.ip _ List.mem_cons_self).1
              obtain ⟨og2, nm, qn, ho2, hc2, hd2, _⟩ := hisg _ hga6
              refine go_of ho2 hc2 hd2 (by decide) ?_
              obtain ⟨pl, J7, back⟩ := hld_pins (X := X.blk s3 H3 scope ce fp) J6 h6 (.inr ⟨oC, List.mem_singleton.mpr rfl⟩) (fun p hp => by rw [List.mem_singleton.mp hp]; exact LC) stkL
              unfold lcGo at q5
              cases z1 : asgT pn t d env5 with
              | none => simp only [z1] at q5; cases q5
              | some e1 =>
                simp only [z1] at q5
                have w1 := beside0 J7.bare hg6 as6 ((pg (updF Fh Da (.lst xs)) P hp).run ([] ++ pl) _ _ H6 u v (fun σ' H' => ∃ G', Ex G6 G' ∧ SRel X.K X.mg (updF Fh Da (.lst xs)) P G' H' σ' e1 [] ∧ wipe σ' (own.map (·.2)) = wipe σ (own.map (·.2))) (inv_gens J7 (numbs_bare J7.bare)) ru ⟨G6, env5, d, e1, S6, dn, z1, fun σ' S' on => ⟨G6, Ex.refl _, S', wipe_only on hcc.2⟩⟩)
                refine wpAny_mono w1 (fun _ s7 h7 => ?_) fun _ _ zz => zz.elim
                obtain ⟨sa, ba, ⟨σ7, H7, J7a, G7, ex7, S7, wp7⟩, rfl, na, hg7⟩ := h7
                have J8 : Inv (X.blk s3 H3 scope ce fp) ([] ++ pl) σ7 H7 (Shared.gn sa ba) := inv_gens' J7a na
                cases z2 : mt e1 with
                | err x e2 => simp only [z2] at q5; cases q5
                | stk => simp only [z2] at q5; cases q5
                | ok b e2 =>
                  have w2 := beside0 J8.bare hg7 as6 ((pt (updF Fh Da (.lst xs)) P hp).run ([] ++ pl) _ σ7 H7 (fun b' H' => b' = b ∧ ∃ G', Ex G7 G' ∧ SRel X.K X.mg (updF Fh Da (.lst xs)) P G' H' σ7 e2 []) (inv_gens J8 (numbs_bare J8.bare)) ⟨G7, e1, S7, by rw [z2]; exact fun G' H' ex S' => ⟨rfl, G', ex, S'⟩⟩)
                  refine wpAny_mono w2 (fun b' s8 h8 => ?_) fun _ _ zz => zz.elim
                  obtain ⟨sb, bb, ⟨H8, J8b, rfl, G8, ex8, S8⟩, rfl, nb, hg8⟩ := h8
                  have J9 : Inv (X.blk s3 H3 scope ce fp) ([] ++ pl) σ7 H8 (Shared.gn sb bb) := inv_gens' J8b nb
                  -- the turn's end
                  have fin : ∀ {s' : Shared} {H' G' : Hp} {e' : DEnv} {acc' : List D} {xs' : List V}, Inv (X.blk s3 H3 scope ce fp) ([] ++ pl) σ7 H' s' → SRel X.K X.mg (updF Fh Da (.lst xs')) P G' H' σ7 e' [] → Ex G8 G' → s'.gens[I.g]? = some gs6 → DenL X.K X.mg G' xs' acc' → lcGo pn (own.map (·.2)) t mt me ys acc' (wipeD e' (own.map (·.2))) = .ok accf ef →
                      ∃ m, m < (d :: ys).length ∧ ∃ (ys : List D) (acc : List D) (xs : List V) (G' H' : Hp) (env' : DEnv) (oC : Obj), m = ys.length ∧ Inv (X.blk s3 H3 scope ce fp) [] (wipe σ (own.map (·.2))) H' s' ∧ SRel X.K X.mg (updF Fh Da (.lst xs)) P G' H' (wipe σ (own.map (·.2))) env' [] ∧ DenL X.K X.mg G' xs acc ∧ Ex G0 G' ∧ Hld (X.blk s3 H3 scope ce fp) I k .ok ys [(ce.locals, oC)] G' H' s' ∧ lcGo pn (own.map (·.2)) t mt me ys acc env' = .ok accf ef := fun {s' H' G' e' acc' xs'} J' S' exG hgs hacc' hq => by
                    have hl : (wipe σ (own.map (·.2))).length = σ7.length := by rw [← wp7, wipe_length]
                    refine ⟨ys.length, Nat.lt_succ_self _, ys, acc', xs', G', H', wipeD e' (own.map (·.2)), oC, rfl, (J'.unpinned (pins := [])).weak hl (fun j v e => ?_), ?_, hacc', ((((ex5.trans ex6).trans ex7).trans ex8).trans exG), back σ7 G' H' s' J' ((ex7.trans ex8).trans exG) (fun gs e => ?_), hq⟩
                    · rw [← wp7] at e; exact (wipe_some e).1
                    · rw [← wp7]; exact S'.wipe (fun i hi => by rw [hp]; exact hcc.1 i hi)
                    · rw [hg6] at e; cases e; exact hgs
                  cases b' with
                  | false =>
                    simp only [z2] at q5
                    simp only [Bool.false_eq_true, if_false]
                    exact fin J9 S8 (Ex.refl _) hg8 (hacc.mono ((ex6.trans ex7).trans ex8)) q5
                  | true =>
                    simp only [z2] at q5
                    simp only [if_true]
                    cases z3 : me e2 with
                    | err x e3 => simp only [z3] at q5; cases q5
                    | stk => simp only [z3] at q5; cases q5
                    | ok o e3 =>
                      simp only [z3] at q5
                      cases z4 : dOf o e3 with
                      | err x e4 => simp only [z4] at q5; cases q5
                      | stk => simp only [z4] at q5; cases q5
                      | ok y e4 =>
                        simp only [z4] at q5
                        by_cases hsz : acc.length < sizeLine
                        · rw [if_pos hsz] at q5
                          have w3 := beside0 J9.bare hg8 as6 ((pe (updF Fh Da (.lst xs)) P hp).run ([] ++ pl) _ σ7 H8 (fun v' H' => ∃ G', Ex G8 G' ∧ Den X.K X.mg G' v' y ∧ SRel X.K X.mg (updF Fh Da (.lst xs)) P G' H' σ7 e4 []) (inv_gens J9 (numbs_bare J9.bare)) ⟨G8, e2, S8, by
                            rw [z3]
                            intro v' G' H' ex w' S'
                            obtain ⟨G2, x2, d2, S2⟩ := S'.dOf w' z4
                            exact ⟨G2, ex.trans x2, d2, S2⟩⟩)
                          refine wpAny_mono w3 (fun uv s9 h9 => ?_) fun _ _ zz => zz.elim
                          obtain ⟨sc, bc, ⟨yv, H9, J9c, r9, G9, ex9, dn9, S9⟩, rfl, nc, hg9⟩ := h9
                          have J10 : Inv (X.blk s3 H3 scope ce fp) ([] ++ pl) σ7 H9 (Shared.gn sc bc) := inv_gens' J9c nc
                          have w4 := beside0 J10.bare hg9 as6 (app_ok (X := X.blk s3 H3 scope ce fp) (E := fun _ _ => False) (Q := fun _ s' => Inv (X.blk s3 H3 scope ce fp) ([] ++ pl) σ7 (upd H9 Da (.lst (xs ++ [yv]))) s') (inv_gens J10 (numbs_bare J10.bare)) (S9.fh.at updF_same) (by rw [hacc.1]; exact hsz) r9 fun s' Js => Js)
                          refine wpAny_mono w4 (fun _ s10 h10 => ?_) fun _ _ zz => zz.elim
                          obtain ⟨sd, bd, J11, rfl, nd, hg10⟩ := h10
                          exact fin (inv_gens' J11 nd) (S9.reguard nofun) ex9 hg10 ((hacc.mono (((ex6.trans ex7).trans ex8).trans ex9)).app (.one dn9)) q5
                        · rw [if_neg hsz] at q5; cases q5
          exact codeAny_compStart_list loop (wpAny_pyIter_gen (hisg _ (k14 _ _ hga)) loop)
      · rw [if_neg hcc] at q; exact q.elim
/-- y = [e for x in g(..) if t], on one line -/
theorem qs_setLcG {i : Nat} {y : Str} {py : Pos} {elt tg iter : Expr} {ifs : List Expr} {scope : Scope} {own : List (Str × Nat)} {spos : Pos} {t : Tgt} {mi : M (List D × GFin)} {mt : M Bool} {me : M Opd} (hc : X.calm = true) (hN : X.N.Nodup) (hr : Room (k + 2) X.A) (hy : X.N[i]? = some y) (hyl : X.env.scope.names.lookup y = some .local)
    (hsw : swapsWith (.ListComp elt [⟨tg, iter, ifs, 0⟩] scope pos) (some (.Name y py)) spos.line X.env = pure true) (hi : QGn X W pn k iter mi) (ok : BlkOk X.N X.env.scope scope own) (hloc : ∀ y ∈ scope.names, y.2 ≠ .cell)
    (hg : ∀ (s : Shared) (H : Hp) (C : Addr) (cl : List (Str × Addr)) (fp : List Addr), QG (X.blk s H scope (compEnvC scope cl C X.env) fp) pn tg t) (ht : ∀ (s : Shared) (H : Hp) (C : Addr) (cl : List (Str × Addr)) (fp : List Addr), QTs (X.blk s H scope (compEnvC scope cl C X.env) fp) W0 pn ifs mt)
    (he : ∀ (s : Shared) (H : Hp) (C : Addr) (cl : List (Str × Addr)) (fp : List Addr), QO (X.blk s H scope (compEnvC scope cl C X.env) fp) W0 pn elt me) (hs : ∀ x, foldedSetIterable iter X.env x = pure x) :
    QS X W pn (.Assign [.Name y py] (.ListComp elt [⟨tg, iter, ifs, 0⟩] scope pos) spos) (asgM pn i (lcM pn (own.map (·.2)) t (okG mi) mt me)) := fun Fh P hp => ⟨fun pins s σ H D J ⟨G, env, S, q⟩ => by
  rw [exec_Assign_Name_used _ _ _ _ hsw]
  refine wpAny_bind (wpAny_standAt (wpAny_bind ?_))
  show wpAny _ X.A (do let _ ← comprehension (.ListComp elt [⟨tg, iter, ifs, 0⟩] scope pos) scope X.env (firstIterPos [⟨tg, iter, ifs, 0⟩] pos) (newList []) false (eval iter X.env) (some (assign (.Name y py) X.env))) _ _ s
  refine wpAny_bind (thn (lcG_core (Qf := fun _ s' => SP X pins D .next s') (Q := fun v H1 => ∀ σ', σ' = σ.set i (some v) → D.nx σ' H1) hp hc hN hr hi ok hloc hg ht he hs J S (PV_S (σ := σ) q fun r e v G' H' ex w S' hk => ?_) fun L C s' m H' J' q' hn f => ?_) fun _ s' hq => wpAny_pure (wpAny_pure hq))
  · by_cases hcc : i < e.length ∧ i ∉ pn
    · rw [if_pos hcc] at hk
      exact fun σ' e' => by rw [e']; exact hk _ G' H' (Ex.refl _) (S'.set w hcc.1 (by rw [hp]; exact hcc.2))
    · rw [if_neg hcc] at hk; exact hk.elim
  · show wpAny _ _ (assign (.Name y py) X.env (.ref L)) _ _ _
    refine wpAny_assign_Name (store_ok2 (v := V.ref L) J' hN hy (.inl hyl) rfl (fun s2 J2 ⟨a, sb, ha⟩ => ?_) (.inr hyl))
    obtain ⟨f0, f1, f2, f3, f4, f5⟩ := f
    have haC : C ≠ a := by
      rcases ha with z | z
      · rw [z]; exact f1
      · exact fun e => f4 y a z e.symm
    refine ⟨m, hn.sameBut sb haC, fun h3 sb3 => ?_⟩
    exact ⟨_, H', J2.turned (t' := s2.toks) (fun b o hb e => (sb3.2 b hb).trans e) f0 f1 f3 f4 f5, q' _ rfl⟩⟩
end
end Z
namespace Z
open PySem PySem.Spec PyProof.Rows L2 GenW
/-- an untracked list of ours is tracked from now on -/
theorem inv_track {X : Cx} {pins : List (Addr × Obj)} {σ : L2.St} {H : Hp} {s : Shared} {S : Addr} {acc : Array Value} {c : Nat} {xs : List V} (J : Inv X pins σ H s) (e : s.heap.get? S = some (lstObj acc c)) (n : H S = none) (r : Vals xs acc.toList) (hlen : xs.length ≤ sizeLine) (hy : X.s_0.heap.objs.size ≤ S) (hl : S ≠ X.env.locals) (hc : ∀ x c, X.env.cells.lookup x = some c → c ≠ S) (hp : ∀ p ∈ X.pn ++ pins, p.1 ≠ S) :
    Inv X pins σ (upd H S (.lst xs)) s := by
  refine ⟨J.ok, J.os, J.bare, ⟨J.base.keep, J.base.slot, fun b o q n' hx => ?_, J.base.there, fun b ys q => ?_, fun b o u q => ?_, fun b ps q => ?_⟩, J.loc, J.cell, ?_, fun x c' q => ?_, fun p hp' => ?_, fun b u q => ?_, J.len⟩
  · rw [upd_ne (Nat.ne_of_lt (Nat.lt_of_lt_of_le (Heap.lt_size q) hy))]; exact J.base.free b o q n' hx
  · have := J.base.tups b ys q
    rw [upd_ne (ne_of_none this n)]; exact this
  · have := J.base.frzs b o u q
    rw [upd_ne (ne_of_none this n)]; exact this
  · obtain ⟨m, this⟩ := J.base.tbls b ps q
    exact ⟨m, by rw [upd_ne (ne_of_none this n)]; exact this⟩
  · rw [upd_ne (Ne.symm hl)]; exact J.free
  · rw [upd_ne (hc x c' q)]; exact J.freeC x c' q
  · obtain ⟨h1, h2, h3⟩ := J.pin p hp'
    exact ⟨h1, by rw [upd_ne (hp p hp')]; exact h2, h3⟩
  · by_cases hb : b = S
    · subst hb
      rw [upd_same] at q; cases q
      exact ⟨hlen, acc.toList, c, r, by rw [e]⟩
    · rw [upd_ne hb] at q
      exact (J.hok b u q).stay (fun _ _ _ z => z) (fun d z => by rw [upd_ne (ne_of_none z n)]; exact z) fun d ys z => by rw [upd_ne (ne_of_none z n)]; exact z
theorem cx_base {P : Program} {w : World} {outer : List Env} {H : Hp} {s0 s1 s2 : Shared} {E E' : XK} {e : Value} (h : L2.CX P w outer H s1 E e s2) (k : ∀ b o, s0.heap.get? b = some o → s1.heap.get? b = some o) (os : s1.os = s0.os) (hE : ∀ cls d H', E cls d H' → E' cls d H') : L2.CX P w outer H s0 E' e s2 := by
  obtain ⟨a, Bh, H', cls, d, h1, h2, h3, ub, h5, h6, h7, h8⟩ := h
  exact ⟨a, Bh, H', cls, d, h1, h2, h3, ⟨fun b o q => ub.keep b o (k b o q), fun b o q => ub.slot b o (k b o q), fun b o q => ub.free b o (k b o q), fun b o q => ub.there b o (k b o q), ub.tups, ub.frzs, ub.tbls⟩, h5, h6.trans os, h7, hE _ _ _ h8⟩
/-- the list at S is filled -/
theorem drainZ {X : Cx} {pins : List (Addr × Obj)} {σ : L2.St} {Fh : FHp} {P : List (Nat × V)} {env : DEnv} {I : GIn} {k : Nat} {A : Around} {R : Result → Shared → Prop} {S : Addr} {res : Value} {G0 : Hp} (hc : X.calm = true) (hr : Room (k + 3) A) (hf : A.frames = some X.stack) (hLS : I.L < S)
    (hstd : ∀ H s, Std X pins I.L [] H s)
    (out : List D) (hfin : ∀ G H s acc c xs, Ex G0 G → Inv X pins σ H s → SRel X.K X.mg Fh P G H σ env [] → s.heap.get? S = some (lstObj acc c) → H S = none → Vals xs acc.toList → DenL X.K X.mg G xs out → R (.ok (.ret res)) s) (hsz : out.length ≤ sizeLine) :
    ∀ (ys : List D) (s : Shared) (G H : Hp) (acc : Array Value) (c : Nat) (xs : List V) (ds : List D), ds ++ ys = out → Ex G0 G → Inv X pins σ H s → SRel X.K X.mg Fh P G H σ env [] → s.heap.get? S = some (lstObj acc c) → H S = none → Vals xs acc.toList → DenL X.K X.mg G xs ds → Hld X I k .ok ys [(S, lstObj acc c)] G H s →
      codeAny (model X.prog X.w) A (.builtin "list.extend.loop" ⟨[.ref S, .ref I.a, res], []⟩) R s := by
  intro ys
  induction ys with
  | nil =>
    intro s G H acc c xs ds hout exG J T hS nS rv dn h
    have std : Std X pins I.L [(S, lstObj acc c)] H s := { hstd H s with
      loc := (hstd H s).loc.imp id fun ⟨_, m⟩ => absurd m List.not_mem_nil
      cp := fun p hp => by rw [List.mem_singleton.mp hp]; exact ⟨hS, nS, hLS, fun v z => by cases z⟩ }
    refine codeAny_builtin F.entry_extend_loop ?_
    rw [Around.under_plainId F.plain_extend_loop _]
    show wpAny _ A.in1 (pyNext (.ref I.a) >>= _) _ _ s
    refine wpAny_bind (wpAny_mono (turn_x hc J T std h hr.in1 hf fun x e => by cases e) (fun r s1 h1 => ?_) fun e s1 h1 => by
      obtain ⟨_, x, _, e1, _⟩ := h1
      cases e1)
    obtain ⟨rfl, _, G', H', J', T', ex', cpk⟩ := h1
    obtain ⟨q1, q2⟩ := cpk _ (List.mem_singleton.mpr rfl)
    rw [List.append_nil] at hout
    subst hout
    exact wpAny_pure (hfin G' H' s1 acc c xs (exG.trans ex') J' T' q1 q2 rv (dn.mono ex'))
  | cons d ys ih =>
    intro s G H acc c xs ds hout exG J T hS nS rv dn h
    have std : Std X pins I.L [(S, lstObj acc c)] H s := { hstd H s with
      loc := (hstd H s).loc.imp id fun ⟨_, m⟩ => absurd m List.not_mem_nil
      cp := fun p hp => by rw [List.mem_singleton.mp hp]; exact ⟨hS, nS, hLS, fun v z => by cases z⟩ }
    refine codeAny_builtin F.entry_extend_loop ?_
    rw [Around.under_plainId F.plain_extend_loop _]
    show wpAny _ A.in1 (pyNext (.ref I.a) >>= _) _ _ s
    refine wpAny_bind (wpAny_mono (turn_x hc J T std h hr.in1 hf fun x e => by cases e) (fun r s1 h1 => ?_) fun e s1 h1 => by
      obtain ⟨_, x, _, e1, _⟩ := h1
      cases e1)
    obtain ⟨v, u, G', H', rfl, ru, du, J', T', ex', cpk, h', _⟩ := h1
    obtain ⟨q1, q2⟩ := cpk _ (List.mem_singleton.mpr rfl)
    have la : acc.size = ds.length := by
      have e1 := rv.length
      rw [dn.1, Array.length_toList] at e1
      exact e1.symm
    have lt : acc.size < sizeLine := by
      have : ds.length + (ys.length + 1) = out.length := by rw [← hout, List.length_append, List.length_cons]
      rw [la]; omega
    show wpAny _ A.in1 (updateSeq S (·.push v) >>= _) _ _ _
    refine wpAny_bind ?_
    refine wpAny_updateSeq q1 rfl (wpAny_pure ⟨plainId_quiet F.plain_extend_loop _, ?_⟩) (Nat.le_of_lt lt) (by show (acc.push v).size ≤ sizeLine + 1; rw [Array.size_push]; omega)
    have kp : ∀ b o, b ≠ S → s1.heap.get? b = some o → (s1.heap.update S (Obj.mapSeq (·.push v))).get? b = some o := fun b o hb e => (Heap.get?_update_other _ _ (Ne.symm hb)).trans e
    have hS2 := Heap.get?_update_self (Obj.mapSeq (·.push v)) q1 rfl
    have hl : S ≠ X.env.locals := fun e => by
      rcases (hstd H s).loc with z | ⟨_, m⟩
      · rw [← e] at z; exact absurd z (Nat.lt_asymm hLS)
      · exact absurd m List.not_mem_nil
    have J2 : Inv X pins σ H' { s1 with heap := s1.heap.update S (Obj.mapSeq (·.push v)) } := J'.turned (t' := s1.toks) kp q2 hl ?_ (fun x c e z => ?_) fun p hp z => ?_
    · refine ih _ G' H' (acc.push v) _ (xs ++ [u]) (ds ++ [d]) (by rw [List.append_assoc]; exact hout) (exG.trans ex') J2 T' hS2 q2 ?_ ((dn.mono ex').app (.one du)) ?_
      · rw [Array.toList_push]; exact rv.append (.cons ru .nil)
      · obtain ⟨⟨ip, oL, Gs, gs, h1, h2, h3, h4, h5, h6, h7⟩, h8⟩ := h'
        refine ⟨⟨ip, oL, Gs, gs, h1, h2, h3, ⟨⟨kp _ _ (Nat.ne_of_lt hLS) h4.fr.1, h4.fr.2⟩, fun p hp => ⟨kp _ _ (fun e => h7 p hp _ (List.mem_singleton.mpr rfl) e.symm) (h4.ip p hp).1, (h4.ip p hp).2⟩⟩, h5, h6, fun p hp q hq => ?_⟩, h8⟩
        rw [List.mem_singleton.mp hq]
        exact h7 p hp (S, lstObj acc c) (List.mem_singleton.mpr rfl)
    · have lz : S < s1.heap.objs.size := Heap.lt_size q1
      rcases (hstd H' s1).yng S (Nat.le_of_lt hLS) lz q2 hl with z | z
      · exact .inl z
      · exact .inr z
    · have := (hstd H s).cel x c e
      rw [z] at this; exact absurd this (Nat.lt_asymm hLS)
    · have := (hstd H s).pin p hp
      rw [z] at this; exact absurd this (Nat.lt_asymm hLS)
def lgM (cs : List Str) (m : M (List D × GFin)) : M RV := fun env => match m env with
  | .ok (ys, .ok) e => if Nat.ble ys.length sizeLine = true then .ok (.ol ys) e else .stk
  | .ok ([], .err x) e => if x.c ∈ cs then .err x e else .stk
  | .ok _ _ => .stk
  | .err x e => .err x e
  | .stk => .stk
/-- list(g) of a fresh list -/
theorem call_listZ {M : Model} {prog : Program} {w : World} (hM : M = model prog w) {A : Around} {s : Shared} {a : Addr} {g : Nat} {Q : Value → Shared → Prop} {E : Value → Shared → Prop} (hg : s.heap.IsGen a g)
    (h : ∀ h4 : Heap, (∀ b o, s.heap.get? b = some o → h4.get? b = some o) → (∃ c, h4.get? s.heap.objs.size = some (lstObj #[] c)) → codeAny (model prog w) A.in1 (.builtin "list.extend.loop" ⟨[.ref s.heap.objs.size, .ref a, .none], []⟩)
      (fun r s' => match r with | .ok (.ret u) => u = .none ∧ Q (.ref s.heap.objs.size) s' | .ok _ => False | .error e => E e s') { s with heap := h4 }) :
    wpAny M A (call (.type "list") [.ref a]) Q E s := by
  subst hM
  have hSa : s.heap.objs.size ≠ a := by
    obtain ⟨o, _, _, ho, _⟩ := hg
    exact Nat.ne_of_gt (Heap.lt_size ho)
  refine callType_codes (Q₁ := fun obj s₁ => obj = .ref s.heap.objs.size ∧ s₁ = { s with heap := s.heap.push { cls := .type "list", data := .seq #[] } }) F.called_list (F.typeCall_list_1 _) F.entry_list_init
    (code_list_new _ ⟨rfl, rfl⟩) fun obj s₁ h₁ => ?_
  obtain ⟨rfl, rfl⟩ := h₁
  have hS : (s.heap.push { cls := .type "list", data := .seq #[] }).get? s.heap.objs.size = some { cls := .type "list", data := .seq #[] } := Heap.get?_push_size _ rfl
  refine ⟨⟨_, hS, rfl⟩, F.args_list_init_2 _ _, ?_⟩
  show wpAny _ A.in1.in1 (do let old ← Builtin.List.listItems (.ref s.heap.objs.size); Builtin.List.listUpdate (.ref s.heap.objs.size) (fun _ => #[]); letGo old.toList.reverse; Builtin.List.listExtendWith (.ref s.heap.objs.size) (.ref a) .none) _ _ _
  refine wpAny_bind ?_
  unfold Builtin.List.listItems
  refine wpAny_bind (wpAny_seqItems hS rfl (wpAny_pure ?_))
  show wpAny _ A.in1.in1 (updateSeq s.heap.objs.size (fun _ => #[]) >>= fun _ => letGo (#[] : Array Value).toList.reverse >>= fun _ => Builtin.List.listExtendWith (.ref s.heap.objs.size) (.ref a) .none) _ _ _
  refine wpAny_bind (wpAny_updateSeq hS rfl ?_)
  have hS2 := Heap.get?_update_self (Obj.mapSeq (fun _ => (#[] : Array Value))) hS rfl
  refine wpAny_bind (wpAny_letGo ?_)
  unfold Builtin.List.listExtendWith
  have up : ∀ (h : Heap) (f : Obj → Obj), (∀ b o, s.heap.get? b = some o → h.get? b = some o) → ∀ b o, s.heap.get? b = some o → (h.update s.heap.objs.size f).get? b = some o := fun h f q b o e =>
    (Heap.get?_update_other _ _ (Ne.symm (Nat.ne_of_lt (Heap.lt_size e)))).trans (q b o e)
  have k1 : ∀ b o, s.heap.get? b = some o → (s.heap.push { cls := .type "list", data := .seq #[] }).get? b = some o := fun b o e => Heap.get?_push_of_some _ e
  have k2 := up _ (Obj.mapSeq (fun _ => (#[] : Array Value))) k1
  have gty : ∀ {h : Heap}, (∀ b o, s.heap.get? b = some o → h.get? b = some o) → h.IsGen a g := fun {h} q => hg.keeps q
  refine wpAny_bind (wpAny_typeOf (Heap.IsGen.typeIs (s := { s with heap := _ }) (gty k2)) ?_)
  have h1 : Builtin.List.listSameRef (.ref s.heap.objs.size) (.ref a) = false := by simp [Builtin.List.listSameRef, hSa]
  have h2 : (Value.type "generator" == Value.type "list") = false := by decide
  have h3 : (Value.type "generator" == Value.type "tuple") = false := by decide
  simp only [h1, h2, h3, Bool.or_false, Bool.false_eq_true, if_false]
  refine wpAny_bind (wpAny_pyIter_gen (s := { s with heap := _ }) (gty k2) ?_)
  refine wpAny_bind (wpAny_holding ?_)
  unfold Builtin.List.listLengthHint
  refine wpAny_bind (wpAny_specialOf (Heap.IsGen.typeIs (s := { s with heap := _ }) (gty k2)) F.gen_no_len ?_)
  show wpAny _ A.in1.in1 (specialOf (Value.ref a) (Str.ofString "__length_hint__") >>= _) _ _ _
  refine wpAny_bind (wpAny_specialOf (Heap.IsGen.typeIs (s := { s with heap := _ }) (gty k2)) F.gen_no_hint ?_)
  refine wpAny_pure ?_
  show wpAny _ A.in1.in1 (rule "list.extend.makes-room" >>= fun _ => Builtin.List.listTouch (.ref s.heap.objs.size) >>= fun _ =>
    again (.builtin "list.extend.loop" ⟨[.ref s.heap.objs.size, .ref a, .none], []⟩)) _ _ _
  refine wpAny_bind (wpAny_rule ?_)
  refine wpAny_bind ?_
  show wpAny _ A.in1.in1 (updateSeq s.heap.objs.size (·.push .none) >>= fun _ => updateSeq s.heap.objs.size (·.pop)) _ _ _
  refine wpAny_bind (wpAny_updateSeq hS2 rfl ?_)
  have hS3 := Heap.get?_update_self (Obj.mapSeq (·.push Value.none)) hS2 rfl
  refine wpAny_updateSeq (hz := by seq_fits) hS3 rfl ?_
  have hS4 := Heap.get?_update_self (Obj.mapSeq (·.pop)) hS3 rfl
  have k4 := up _ (Obj.mapSeq (·.pop)) (up _ (Obj.mapSeq (·.push Value.none)) k2)
  refine wpAny_pure ⟨plainId_quiet F.plain_extend_loop _, ?_⟩
  exact codeAny_mono (h _ k4 ⟨_, hS4⟩) fun r s' q => by
    cases r with
    | error e => exact q
    | ok fl => cases fl <;> exact q
section
variable {X : Cx} {W : WX} {pn : List Nat} {pos : Pos} {k : Nat}
theorem qv_listG {e : Expr} {nm : Str} {p : Pos} {mi : M (List D × GFin)} {cs : List Str} (hc : X.calm = true) (tk : Takes X W) (hstop : ∀ c ∈ cs, ∀ C, X.mg c = some (.ref C) → PySem.W.subIn X.K (.ref C) (.type "StopIteration") = some false) (hr : Room (k + 4) X.A) (hi : QGn X W pn k e mi) (hg : Gl X nm) (hmg : X.mg nm = none) (hv : bootBuiltins nm = some (.type "list")) (hnm : nm ≠ "__name__") (hdb : (nm == ("__debug__" : Str)) = false)
    (he : starEach [e] X.env = (false, eval e X.env) :: starEach [] X.env) : QV X W pn (.Call (.Name nm p) [e] [] pos) (lgM cs mi) := fun Fh P hp => ⟨fun pins s σ H Q J ⟨G, env, S, q⟩ => by
  refine wpAny_Call_Name_kw (ld_blt J hg hmg hv ?_ hnm hdb)
  refine PyProof.Rows.callWith_type1 ?_ he rfl
  rw [he]
  show wpAny _ _ (spliced ((false, eval e X.env) :: backTo pos (starEach [] X.env))) _ _ s
  refine Calls.spliced_cons (hi Fh P hp pins s σ H G env _ J S ?_)
  unfold lgM at q
  cases z : mi env with
  | err x e1 => simp only [z] at q ⊢; exact q
  | stk => simp only [z] at q; exact q.elim
  | ok r e1 =>
    obtain ⟨ys, fin⟩ := r
    simp only [z] at q ⊢
    intro u s0 s1 G0 H0 ex0 J0 S0 hm
    refine Calls.spliced_nil ?_
    obtain ⟨I, hL, rfl, J1, hld, hga, hisg, hk01, hLa, hnL, hnA⟩ := made_hld J0 hm
    have sz1 : I.a < s1.heap.objs.size := Heap.lt_size hga
    have hstd : ∀ H s, Std X pins I.L [] H s := fun H s => by rw [hL]; exact std_def (σ := σ) J0
    have hLS : I.L < s1.heap.objs.size := Nat.lt_trans hLa sz1
    have hSl : s1.heap.objs.size ≠ X.env.locals := Nat.ne_of_gt J1.lt
    refine call_listZ rfl (hisg _ hga) fun h4 k4 ⟨c4, e4⟩ => ?_
    have J4 : Inv X pins σ H0 { s1 with heap := h4 } := J1.kept (t' := s1.toks) k4
    have nS : H0 s1.heap.objs.size = none := J1.hok.fresh (Nat.le_refl _)
    have hld4 : fin ≠ .stk → Hld X I k fin ys [(s1.heap.objs.size, lstObj #[] c4)] G0 H0 { s1 with heap := h4 } := fun hst => by
      obtain ⟨⟨ip, oL, Gs, gs, h1, h2, h3, h4', h5, h6, h7⟩, h8⟩ := hld hst
      exact ⟨⟨ip, oL, Gs, gs, h1, h2, h3, ⟨⟨k4 _ _ h4'.fr.1, h4'.fr.2⟩, fun p hp => ⟨k4 _ _ (h4'.ip p hp).1, (h4'.ip p hp).2⟩⟩, h5, h6, fun p hp q hq z => by
        rw [List.mem_singleton.mp hq] at z
        have := Heap.lt_size (h4'.ip p hp).1
        rw [← show s1.heap.objs.size = p.1 from z] at this
        exact absurd this (Nat.lt_irrefl _)⟩, h8⟩
    cases fin with
    | stk => cases ys <;> exact q.elim
    | ok =>
      by_cases hb : Nat.ble ys.length sizeLine = true
      · simp only [if_pos hb] at q
        have hlen : ys.length ≤ sizeLine := Nat.le_of_ble_eq_true hb
        refine drainZ (S := s1.heap.objs.size) hc hr.in1 J1.ok.frames hLS hstd ys (fun G' H' s' acc c xs ex' J' S' hS nS' rv dn => ?_) hlen ys _ G0 H0 #[] c4 [] [] rfl (Ex.refl _) J4 S0 e4 nS .nil .nil (hld4 nofun)
        have hxs : xs.length ≤ sizeLine := by rw [dn.1]; exact hlen
        have J5 : Inv X pins σ (upd H' s1.heap.objs.size (.lst xs)) s' := inv_track J' hS nS' rv hxs J1.sz hSl (fun x c e z => by
          have := (hstd H' s').cel x c e
          rw [z] at this; exact absurd this (Nat.lt_asymm hLS)) fun p hp z => by
          have := (hstd H' s').pin p hp
          rw [z] at this; exact absurd this (Nat.lt_asymm hLS)
        have st : Step G' H' G' (upd H' s1.heap.objs.size (.lst xs)) [s1.heap.objs.size] := .own nS'
        have S5 := S'.step st
        have nG : G' s1.heap.objs.size = none := S'.gh.none nS'
        refine ⟨rfl, ?_⟩
        exact ⟨.ref s1.heap.objs.size, _, J5, rfl, q _ G' _ (ex0.trans ex') (View.of_own upd_same nG dn) (by rw [tmps_own rfl]; exact S5)⟩
      · simp only [if_neg hb] at q; exact q.elim
    | err x =>
      cases ys with
      | cons d ys => exact q.elim
      | nil =>
        simp only at q
        by_cases hx0 : x.c ∈ cs
        case neg => rw [if_neg hx0] at q; exact q.elim
        rw [if_pos hx0] at q
        have std : Std X pins I.L [(s1.heap.objs.size, lstObj #[] c4)] H0 { s1 with heap := h4 } := { hstd H0 { s1 with heap := h4 } with
          loc := (hstd H0 { s1 with heap := h4 }).loc.imp id fun ⟨_, m⟩ => absurd m List.not_mem_nil
          cp := fun p hp => by rw [List.mem_singleton.mp hp]; exact ⟨e4, nS, hLS, fun v z => by cases z⟩ }
        refine codeAny_builtin F.entry_extend_loop ?_
        rw [Around.under_plainId F.plain_extend_loop _]
        show wpAny _ X.A.in1.in1 (pyNext (.ref I.a) >>= _) _ _ _
        refine wpAny_bind (wpAny_mono (turn_x hc J4 S0 std (hld4 nofun) hr.in1.in1 J1.ok.frames fun x' e' => by cases e'; exact hstop x.c hx0) (fun r s5 h5 => ?_) fun v s5 h5 => ?_)
        · obtain ⟨_, e', _⟩ := h5; cases e'
        · obtain ⟨_, x', s6, e', hcx, rfl⟩ := h5
          cases e'
          have c1 : L2.CX X.prog X.w X.stack H0 s0 (fun cls d H' => W cls d σ H') v (s6.setGen I.g .finished) := by
            have c0 := cx_base (s0 := s0) (E' := fun cls d H' => W cls d σ H') hcx (fun b o e => ?_) ?_ fun cls d H' ⟨G', B, hx⟩ => ?_
            · obtain ⟨a1, a2, a3, a4, a5, b1, b2, b3, b4, b5, b6, b7, b8⟩ := c0
              exact ⟨a1, a2, a3, a4, a5, b1, b2, b3, b4, b5, b6, allBare_setGen b7 rfl, b8⟩
            · have lt : b < I.L := by rw [hL]; exact Heap.lt_size e
              rw [cut_get lt]
              exact k4 b o (hk01 b o e)
            · show s1.os = s0.os
              exact J1.os.trans J0.os.symm
            · refine q cls d G' H' (ex0.trans B.ex) hx ?_
              exact S0.back (os := []) (vs := []) (rs := []) (rs' := []) OpdRs.nil rfl rfl B (v := .non) (r := .sh .non) Den.non fun a m => by cases m
          exact tk v _ (XE.of_call J0 (fun _ _ _ h => h) c1)⟩
end
end Z
namespace Z
open PySem PySem.Spec PyProof.Rows L2 GenW
abbrev zg1 (h : Heap) (l : Addr) : Heap := h.push { cls := .type "list_iterator", data := .fields #[.ref l, .int 0 0] }
abbrev zg2 (h : Heap) (l a : Addr) : Heap := (zg1 h l).push { cls := .type "tuple", data := .seq #[.ref h.objs.size, .ref a] }
abbrev zg3 (h : Heap) (l a : Addr) : Heap := (zg2 h l a).push { cls := .type "tuple", data := .seq #[.none, .none] }
abbrev zg4 (h : Heap) (l a : Addr) : Heap := (zg3 h l a).push { cls := .type "zip", data := .fields #[.none, .bool false, .bool false, .ref (zg1 h l).objs.size, .ref (zg2 h l a).objs.size] }
theorem meets_zipG (l a : Addr) (g : Nat) (xs : Array Value) :
    Meets (Builtin.«zip.__new__» ⟨[.type "zip", .ref l, .ref a], []⟩) (fun _ R s => s.heap.IsList l xs ∧ s.heap.IsGen a g ∧
      R (.ok (.ret (.ref (zg3 s.heap l a).objs.size))) { s with heap := zg4 s.heap l a }) :=
  .of_wp fun prog w A R s h => by
    obtain ⟨hp, gg, d, tk, os⟩ := s; obtain ⟨hl1, hl2, h⟩ := h
    have hsub := sub_zip
    have hL1 : Heap.IsList (Shared.heap ⟨hp, gg, d, tk, os⟩) l xs := hl1
    have hL2 : Heap.IsGen (Shared.heap ⟨hp.push { cls := .type "list_iterator", data := .fields #[.ref l, .int 0 0] }, gg, d, tk, os⟩) a g := hl2.keeps fun b o e => Heap.get?_push_of_some _ e
    wp_walk using wpAny_pyIter_list hL1, wpAny_pyIter_gen hL2
    exact ⟨_, rfl, h⟩
section
variable {prog : Program} {w : World} {A : Around} {E : Value → Shared → Prop} {s : Shared}
theorem call_zipG {l a : Addr} {g : Nat} {xs : Array Value} {Q : Value → Shared → Prop} (hl : s.heap.IsList l xs) (hg : s.heap.IsGen a g)
    (h : ∀ h', IsZip h' (s.heap.objs.size + 3) (s.heap.objs.size + 1) (s.heap.objs.size + 2) .none → IsPair h' (s.heap.objs.size + 1) (.ref s.heap.objs.size) (.ref a) →
      IsPair h' (s.heap.objs.size + 2) .none .none → h'.IsListIter s.heap.objs.size l 0 → (∀ c o, s.heap.get? c = some o → h'.get? c = some o) → Q (.ref (s.heap.objs.size + 3)) { s with heap := h' }) :
    wpAny (model prog w) A (call (.type "zip") [.ref l, .ref a]) Q E s := by
  refine callType_new F.called_zip (by decide) (F.typeCall_zip_2 _ _) (F.newCall_zip_2 _ _) (fun obj => F.args_object_init_3 obj _ _) F.entry_zip_new (meets_zipG l a g xs) ⟨hl, hg, ?_⟩
  have z1 : (zg1 s.heap l).objs.size = s.heap.objs.size + 1 := Heap.size_push ..
  have z2 : (zg2 s.heap l a).objs.size = s.heap.objs.size + 2 := by rw [Heap.size_push, z1]
  have z3 : (zg3 s.heap l a).objs.size = s.heap.objs.size + 3 := by rw [Heap.size_push, z2]
  have g4 : (zg4 s.heap l a).get? (zg3 s.heap l a).objs.size = some _ := Heap.get?_push_size _ rfl
  have g3 : (zg4 s.heap l a).get? (zg2 s.heap l a).objs.size = some _ := Heap.get?_push_of_some _ (Heap.get?_push_size _ rfl)
  have g2 : (zg4 s.heap l a).get? (zg1 s.heap l).objs.size = some _ := Heap.get?_push_of_some _ (Heap.get?_push_of_some _ (Heap.get?_push_size _ rfl))
  have g1 : (zg4 s.heap l a).get? s.heap.objs.size = some _ := Heap.get?_push_of_some _ (Heap.get?_push_of_some _ (Heap.get?_push_of_some _ (Heap.get?_push_size _ rfl)))
  show _ ∧ _
  rw [z1, z2, z3] at g4
  rw [z2] at g3
  rw [z1] at g2
  rw [z3]
  exact ⟨⟨_, g4, rfl⟩, h _ g4 g2 g3 ⟨_, g1, rfl, rfl⟩ fun c o x => Heap.get?_push_of_some _ (Heap.get?_push_of_some _ (Heap.get?_push_of_some _ (Heap.get?_push_of_some _ x)))⟩
/-- the list is empty: the generator is not asked -/
theorem next_zipG {z TI TO i1 l a : Addr} {Q : Option Value → Shared → Prop} (hh : A.handled = none) (hzTI : TI ≠ z) (hzTO : TO ≠ z) (hz1 : i1 ≠ z) (hzl : l ≠ z)
    (hz : IsZip s.heap z TI TO .none) (hI : IsPair s.heap TI (.ref i1) (.ref a)) (hO : IsPair s.heap TO .none .none) (g1 : s.heap.IsListIter i1 l 0) (e1 : s.heap.IsList l #[])
    (q : ∀ h', (∀ c o, c ≠ z → c ≠ i1 → s.heap.get? c = some o → h'.get? c = some o) → Q none { s with heap := h' }) : wpAny (model prog w) A (pyNext (.ref z)) Q E s := by
  have T : s.TypeIs (.ref z) "zip" := ⟨_, hz, rfl⟩
  unfold pyNext
  refine wpAny_bind (wpAny_attempt (wpAny_callSpecial?_slot (name := Str.ofString "__next__") T PySem.F.slot_zip_next (wpAny_call_entry PySem.F.slot_zip_next T PySem.F.entry_zip_next ?_ (PySem.F.args_zip_next_1 _))))
  show wpAny _ _ (field (.ref z) 2 >>= fun _ => _) _ _ _
  refine wpAny_bind (wpAny_field (x := .bool false) hz rfl rfl ?_)
  show wpAny _ _ (field (.ref z) 3 >>= fun _ => _) _ _ _
  refine wpAny_bind (wpAny_field (x := .ref TI) hz rfl rfl ?_)
  refine wpAny_bind (wpAny_seqItems hI rfl ?_)
  show wpAny _ _ (Builtin.SmallTypes.ownedTupleIsFree (.ref z) >>= fun _ => _) _ _ _
  refine wpAny_bind ?_
  unfold Builtin.SmallTypes.ownedTupleIsFree
  refine wpAny_bind (wpAny_field hz rfl (x := .none) rfl (wpAny_pure ?_))
  simp only [if_true]
  refine wpAny_bind (wpAny_rule ?_)
  refine wpAny_bind (wpAny_field (x := .ref TO) hz rfl rfl ?_)
  refine wpAny_bind (wpAny_setField_rec hz (by simp) fun p1 z1 s1 => ?_)
  replace z1 : IsZip p1 z TI TO .ellipsis := z1
  refine wpAny_bind ?_
  simp only [List.zipIdx_nil, List.zipIdx_cons, List.forIn_nil, List.forIn_cons]
  refine wpAny_bind (wpAny_bind (wpAny_onRaise ?_))
  show wpAny _ _ (Builtin.SmallTypes.nextOf (.ref i1) >>= fun _ => _) _ _ _
  refine wpAny_bind (wpAny_nextOf_list_end (show A.in1.handled = none from hh) (g1.at fun o e => (s1.2 i1 hz1).trans e) (e1.at fun o e => (s1.2 l hzl).trans e) rfl fun p2 e s2 he => ?_)
  obtain ⟨oe, ho, hc⟩ := he
  have z2 : IsZip p2 z TI TO .ellipsis := s2 _ _ hz1.symm z1
  have ne : e ≠ z := fun x => by subst x; rw [z2] at ho; cases ho; simp at hc
  refine wpAny_setField_rec z2 (by simp) fun p3 _ s3 => ?_
  refine wpAny_bind (wpAny_isInstance (T := "StopIteration") (b := true) ⟨oe, (s3.2 e ne).trans ho, hc⟩ isSubtype_stop ?_)
  exact wpAny_pure (q p3 fun c o c1 c3 x => (s3.2 c c1).trans (s2 _ _ c3 ((s1.2 c c1).trans x)))
end
def z0M (m : M (List D × GFin)) : M (List D) := bindM m fun _ e => .ok [] e
theorem turn_zipG {P : Program} {w : World} {K : PySem.W.Frag} {tg : Expr} {z TI TO i1 l a : Addr} (hzTI : TI ≠ z) (hzTO : TO ≠ z) (hz1 : i1 ≠ z) (hzl : l ≠ z) :
    Turn P w K tg ⟨fun _ _ => False, fun _ _ _ _ => False, fun _ _ => True⟩ [z, TI, TO, i1, l] z (fun _ h => IsZip h z TI TO .none ∧ IsPair h TI (.ref i1) (.ref a) ∧ IsPair h TO .none .none ∧ h.IsListIter i1 l 0 ∧ h.IsList l #[]) where
  mem := List.mem_cons_self
  obj := fun i h st c hc => by
    obtain ⟨hz, hI, hO, ⟨o1, e1, _, d1⟩, ⟨o2, e2, _, n2, d2⟩⟩ := st
    simp only [List.mem_cons, List.not_mem_nil, or_false] at hc
    rcases hc with q | q | q | q | q
    · rw [q]; exact ⟨_, hz, fun v q => nomatch q⟩
    · rw [q]; exact ⟨_, hI, fun v q => nomatch q⟩
    · rw [q]; exact ⟨_, hO, fun v q => nomatch q⟩
    · rw [q]; exact ⟨o1, e1, fun v q => by rw [d1] at q; cases q⟩
    · rw [q]; exact ⟨o2, e2, fun v q => by rw [d2] at q; cases q⟩
  keep := fun i h h' st k => by
    obtain ⟨hz, hI, hO, g1, e1⟩ := st
    exact ⟨k z (by simp) _ hz, k TI (by simp) _ hI, k TO (by simp) _ hO, g1.at fun o q => k i1 (by simp) o q, e1.at fun o q => k l (by simp) o q⟩
  item := by
    intro X hP hw hK hc i pins s σ H E I hf st hg
    exact hg.elim
  done := by
    intro X hP hw hK hc i pins s σ H E I hf st hg
    subst hP hw hK
    obtain ⟨hz, hI, hO, g1, e1⟩ := st
    exact next_zipG (I.ok.hd hc) hzTI hzTO hz1 hzl hz hI hO g1 e1 fun h' hk => ⟨rfl, I.turnedL (ch := [z, TI, TO, i1, l]) (t' := s.toks) (fun c o hb q =>
      hk c o (fun e => hb (by simp [e])) (fun e => hb (by simp [e])) q) hf⟩
  self := fun A i s Q E st h => wpAny_pyIter_zip st.1 h
section
variable {X : Cx} {W : WX} {pn : List Nat} {pos : Pos} {k : Nat}
theorem qi_zipG {tg e : Expr} {p lp : Pos} {mi : M (List D × GFin)} (hg : Gl X "zip") (hm : X.mg "zip" = none) (hi : QGn X W pn k e mi) (hs : starEach [.List [] lp, e] X.env = (false, eval (.List [] lp) X.env) :: starEach [e] X.env) (hs2 : starEach [e] X.env = (false, eval e X.env) :: starEach [] X.env) (hpl : (backTo pos (starEach [e] X.env)).any (·.1) = false) :
    QI X W pn tg (.Call (.Name "zip" p) [.List [] lp, e] [] pos) (z0M mi) := fun Fh P hp => ⟨fun pins s σ H R J ⟨G, env, S, q⟩ => by
  refine Call_ (ld_blt J hg hm PyProof.Rows.boot_zip (PyProof.Rows.callWith_type1 ?_ hs hpl))
  rw [hs]
  show wpAny _ _ (spliced ((false, eval (.List [] lp) X.env) :: backTo pos (starEach [e] X.env))) _ _ s
  refine Calls.spliced_cons (wpAny_List_spliced (Calls.spliced_nil ⟨Nat.zero_le _, ?_⟩))
  rw [hs2]
  show wpAny _ _ (spliced ((false, eval e X.env) :: backTo pos (starEach [] X.env))) _ _ _
  have hl0 : (s.heap.push { cls := .type "list", data := .seq #[] }).get? s.heap.objs.size = some { cls := .type "list", data := .seq #[] } := Heap.get?_push_size _ rfl
  have J1 : Inv X pins σ H { s with heap := s.heap.push { cls := .type "list", data := .seq #[] } } := J.kept (t' := s.toks) fun b o e => Heap.get?_push_of_some _ e
  have nl : H s.heap.objs.size = none := J.hok.fresh (Nat.le_refl _)
  have fl := J.fpOk (Nat.le_refl _) nl
  have J2 : Inv X (pins ++ [(s.heap.objs.size, { cls := .type "list", data := .seq #[] })]) σ H { s with heap := s.heap.push { cls := .type "list", data := .seq #[] } } := J1.pins_of fun p hp => by
    rcases List.mem_append.mp hp with hp | hp
    · exact J1.pin p (List.mem_append_right _ hp)
    · rw [List.mem_singleton.mp hp]
      exact ⟨hl0, nl, fl.2.1, fl.2.2.1, fun v z => by cases z⟩
  refine Calls.spliced_cons (hi Fh P hp _ _ σ H G env _ J2 S ?_)
  unfold z0M bindM at q
  cases z : mi env with
  | err x e1 => simp only [z] at q ⊢; exact q
  | stk => simp only [z] at q; exact q.elim
  | ok r e1 =>
    simp only [z] at q ⊢
    intro u s0 s1 G0 H0 ex0 J0 S0 hm
    refine Calls.spliced_nil ?_
    obtain ⟨I, hL, rfl, J3, hld, hga, hisg, hk01, hLa, hnL, hnA⟩ := made_hld J0 hm
    have pl := J3.pin (s.heap.objs.size, { cls := .type "list", data := .seq #[] }) (List.mem_append_right _ (List.mem_append_right _ (List.mem_singleton.mpr rfl)))
    have pl0 := J0.pin (s.heap.objs.size, { cls := .type "list", data := .seq #[] }) (List.mem_append_right _ (List.mem_append_right _ (List.mem_singleton.mpr rfl)))
    have ll : s.heap.objs.size < s1.heap.objs.size := Heap.lt_size pl.1
    refine call_zipG (xs := #[]) ⟨_, pl.1, rfl, _, rfl⟩ (hisg _ hga) fun h' hz hI hO g1 hk => wpAny_pyIter_zip hz ?_
    have J4 : Inv X pins σ H0 { s1 with heap := h' } := J3.unpinned.kept (t' := s1.toks) hk
    refine ⟨s1.heap.objs.size + 3, [s1.heap.objs.size + 3, s1.heap.objs.size + 1, s1.heap.objs.size + 2, s1.heap.objs.size, s.heap.objs.size], _, _, H0, rfl, J4, turn_zipG (Nat.ne_of_lt (Nat.add_lt_add_left (by decide) _)) (Nat.ne_of_lt (Nat.add_lt_add_left (by decide) _)) (Nat.ne_of_lt (Nat.lt_add_of_pos_right (by decide))) (Nat.ne_of_lt (Nat.lt_of_lt_of_le ll (Nat.le_add_right _ _))), ⟨hz, hI, hO, g1, ⟨_, hk _ _ pl.1, rfl, _, rfl⟩⟩, fun c hcm => ?_, q _ G0 H0 ex0 (fun i G1 H1 _ _ => ⟨fun d e => by simp at e, fun _ => trivial⟩) S0⟩
    simp only [List.mem_cons, List.not_mem_nil, or_false] at hcm
    have hfr : ∀ c, s1.heap.objs.size ≤ c → FpOk X pins H0 c := fun c hc => J3.unpinned.fpOk hc (J3.hok.fresh hc)
    rcases hcm with e | e | e | e | e
    · exact hfr c (by rw [e]; omega)
    · exact hfr c (by rw [e]; omega)
    · exact hfr c (by rw [e]; omega)
    · exact hfr c (by rw [e]; exact Nat.le_refl _)
    · rw [e]; exact J.fpOk (Nat.le_refl _) pl.2.1⟩
end
end Z
namespace Z
open PySem PySem.Spec PyProof.Rows L2
theorem noMuts_ints : ∀ {l : List Int}, noMut.noMuts (l.map D.int) = true
  | [] => rfl
  | a :: l => by rw [List.map_cons]; simp only [noMut.noMuts, noMut, noMuts_ints, Bool.and_self]
theorem seqD_lst {ds : List D} : seqD (.lst ds) = some ds := rfl
theorem seqD_tup {ds : List D} : seqD (.tup ds) = some ds := rfl
theorem addD_int {i j : Int} : addD (.sh (.int i)) (.sh (.int j)) = some (.sh (.int (i + j))) := rfl
theorem subI_int {i j : Int} : subI (.sh (.int i)) (.sh (.int j)) = some (.sh (.int (i - j))) := rfl
theorem mulI_int {i j : Int} (h : CMul i j) : mulI (.sh (.int i)) (.sh (.int j)) = some (.sh (.int (i * j))) := by
  show Option.map RV.sh (if CMul i j then some (.int (i * j)) else none) = _
  rw [if_pos h]; rfl
theorem mulD_r {i j : Int} (h1 : -18446744073709551616 < j) (h2 : j < 18446744073709551616) : mulD (.sh (.int i)) (.sh (.int j)) = some (.sh (.int (i * j))) := by
  unfold mulD orF
  rw [mulI_int (.inr ⟨by simpa using h1, by simpa using h2⟩)]
theorem modI_int {i j : Int} (h : 0 < j) : modI (.sh (.int i)) (.sh (.int j)) = some (.sh (.int (i % j))) := by
  show Option.map RV.sh (if 0 < j then some (.int (i % j)) else none) = _
  rw [if_pos h]; rfl
theorem divI_int {i j : Int} (h : 0 < j) (h2 : j < 1073741824) : divI (.sh (.int i)) (.sh (.int j)) = some (.sh (.int (i / j))) := by
  show Option.map RV.sh (if CDiv i j then some (.int (i / j)) else none) = _
  rw [if_pos ⟨h, h2⟩]; rfl
theorem asgT_n {pn : List Nat} {i : Nat} {d : D} {env : DEnv} : asgT pn (.name i) d env = if i < env.length ∧ i ∉ pn then some (env.set i (some (.sh d))) else none := by unfold asgT; rfl
theorem asgT_t {pn : List Nat} {ts : List Tgt} {ds : List D} {env : DEnv} : asgT pn (.tup ts) (.tup ds) env = asgTs pn ts ds env := by rw [asgT]
theorem asgTs_n {pn : List Nat} {env : DEnv} : asgTs pn [] [] env = some env := by rw [asgTs]
theorem asgTs_c {pn : List Nat} {t : Tgt} {ts : List Tgt} {d : D} {ds : List D} {env : DEnv} : asgTs pn (t :: ts) (d :: ds) env = (asgT pn t d env).bind fun e => asgTs pn ts ds e := by rw [asgTs]
theorem powI_18 : powI (.sh (.int 10)) (.sh (.int 18)) = some (.sh (.int 1000000000000000000)) := by
  show Option.map RV.sh (if CPow 10 18 then some (.int (10 ^ (18 : Int).toNat)) else none) = _
  rw [if_pos (by decide)]; rfl
theorem ltI_int {i j : Int} : ltI (.sh (.int i)) (.sh (.int j)) = some (.sh (.bl (decide (i < j)))) := rfl
theorem leI_int {i j : Int} : leI (.sh (.int i)) (.sh (.int j)) = some (.sh (.bl (decide (i ≤ j)))) := rfl
theorem gtI_int {i j : Int} : gtI (.sh (.int i)) (.sh (.int j)) = some (.sh (.bl (decide (j < i)))) := rfl
theorem geI_int {i j : Int} : geI (.sh (.int i)) (.sh (.int j)) = some (.sh (.bl (decide (j ≤ i)))) := rfl
theorem eqF_int {i j : Int} : eqF (.sh (.int i)) (.sh (.int j)) = some (.sh (.bl (decide (i = j)))) := by
  have h : eqP (.sh (.int i)) (.sh (.int j)) = some (PyData.eqv (.int i) (.int j)) := rfl
  unfold eqF; rw [h]
  show some (RV.sh (.bl (PyData.eqv (.int i) (.int j)))) = _
  have h2 : PyData.eqv (.int i) (.int j) = decide (i = j) := by
    first | rfl | (simp [PyData.eqv]) | (unfold PyData.eqv; rfl)
  rw [h2]
theorem neF_int {i j : Int} : neF (.sh (.int i)) (.sh (.int j)) = some (.sh (.bl (!decide (i = j)))) := by
  have := @eqF_int i j
  unfold eqF at this; unfold neF
  cases z : eqP (.sh (.int i)) (.sh (.int j)) with
  | none => rw [z] at this; cases this
  | some c => rw [z] at this; cases this; rfl
theorem eqF_bl {i j : Bool} : eqF (.sh (.bl i)) (.sh (.bl j)) = some (.sh (.bl (i == j))) := by cases i <;> cases j <;> rfl
theorem neF_bl {i j : Bool} : neF (.sh (.bl i)) (.sh (.bl j)) = some (.sh (.bl (i != j))) := by cases i <;> cases j <;> rfl
theorem ixF_ol {ds : List D} {i : Int} : ixF (.ol ds) (.sh (.int i)) = (atI ds i).map .sh := rfl
theorem ixF_lst {ds : List D} {i : Int} : ixF (.sh (.lst ds)) (.sh (.int i)) = (atI ds i).map .sh := rfl
theorem ixF_tup {ds : List D} {i : Int} : ixF (.sh (.tup ds)) (.sh (.int i)) = (atI ds i).map .sh := rfl
theorem at0 {α : Type} {a : α} {l : List α} : atI (a :: l) 0 = some a := by simp [atI, ixN]
theorem at1 {α : Type} {a b : α} {l : List α} : atI (a :: b :: l) 1 = some b := by
  unfold atI ixN; rw [if_pos (by decide), if_pos (by simp only [List.length_cons]; omega)]; rfl
theorem at2 {α : Type} {a b c : α} {l : List α} : atI (a :: b :: c :: l) 2 = some c := by
  unfold atI ixN; rw [if_pos (by decide), if_pos (by simp only [List.length_cons]; omega)]; rfl
theorem at3 {α : Type} {a b c d : α} {l : List α} : atI (a :: b :: c :: d :: l) 3 = some d := by
  unfold atI ixN; rw [if_pos (by decide), if_pos (by simp only [List.length_cons]; omega)]; rfl
theorem at4 {α : Type} {a b c d e : α} {l : List α} : atI (a :: b :: c :: d :: e :: l) 4 = some e := by
  unfold atI ixN; rw [if_pos (by decide), if_pos (by simp only [List.length_cons]; omega)]; rfl
theorem atN {α : Type} {l : List α} {n : Nat} (h : n < l.length) : atI l (n : Int) = l[n]? := by
  unfold atI ixN
  rw [if_pos (by omega), if_pos (by omega)]
  simp
theorem atZ {α : Type} {l : List α} {i : Int} (h0 : 0 ≤ i) (h : i < l.length) : atI l i = l[i.toNat]? := by
  unfold atI ixN
  rw [if_pos h0, if_pos h]
  simp
def iabs (i : Int) : Int := if i < 0 then -i else i
theorem absF_int {i : Int} : absF [.sh (.int i)] = some (.sh (.int (iabs i))) := rfl
theorem intF_int {i : Int} : intF [.sh (.int i)] = some (.sh (.int i)) := rfl
theorem lenF_ol {ds : List D} : lenF [.ol ds] = some (.sh (.int ds.length)) := rfl
theorem lenF_lst {ds : List D} : lenF [.sh (.lst ds)] = some (.sh (.int ds.length)) := rfl
theorem lenF_tup {ds : List D} : lenF [.sh (.tup ds)] = some (.sh (.int ds.length)) := rfl
theorem listF_ol {ds : List D} : listF [.ol ds] = some (.ol ds) := rfl
theorem listF_lst {ds : List D} : listF [.sh (.lst ds)] = some (.ol ds) := rfl
theorem tupleF_ol {ds : List D} : tupleF [.ol ds] = some (.sh (.tup ds)) := rfl
theorem tupleF_lst {ds : List D} : tupleF [.sh (.lst ds)] = some (.sh (.tup ds)) := rfl
theorem isiF_ {T : Ty0} {r : RV} : isiF T r = (tyD r).map fun t => .sh (.bl (isiB t T)) := by unfold isiF; cases tyD r <;> rfl
theorem isiTF_ {Ts : List Ty0} {r : RV} : isiTF Ts r = (tyD r).map fun t => .sh (.bl (Ts.any (isiB t))) := by unfold isiTF; cases tyD r <;> rfl
end Z
namespace Z
open PySem PySem.Spec PyProof.Rows L2
def bindR {α β : Type} (r : Res α) (f : α → M β) : Res β := match r with
  | .ok a e => f a e
  | .err x e => .err x e
  | .stk => .stk
def bindRS {α : Type} (r : Res α) (f : α → MS) : Out := match r with
  | .ok a e => f a e
  | .err x e => .err x e
  | .stk => .stk
def seqR (r : Out) (t : MS) : Out := match r with
  | .nx e => t e
  | o => o
def runR (rs : List RV) (r : Out) : FRes := match r with
  | .nx e => (match backD rs e with
    | some rs' => .ok (.sh .non) rs'
    | none => .stk)
  | .rt r e => (match backD rs e with
    | some rs' => .ok r rs'
    | none => .stk)
  | .err x e => (match backD rs e with
    | some rs' => .err x rs'
    | none => .stk)
  | _ => .stk
def finR (os : List Opd) (rs : List RV) (env : DEnv) (r : FRes) : Res RV := match r with
  | .ok r rs' => if rs'.length = rs.length then .ok r (wb os rs rs' env) else .stk
  | .err x rs' => if rs'.length = rs.length then .err x (wb os rs rs' env) else .stk
  | .stk => .stk
theorem bindM_e {α β : Type} {m : M α} {f : α → M β} {env : DEnv} : bindM m f env = bindR (m env) f := rfl
theorem bindR_ok {α β : Type} {a : α} {e : DEnv} {f : α → M β} : bindR (.ok a e) f = f a e := rfl
theorem bindR_err {α β : Type} {x : Exn} {e : DEnv} {f : α → M β} : bindR (.err x e) f = .err x e := rfl
theorem bindR_stk {α β : Type} {f : α → M β} : bindR .stk f = .stk := rfl
theorem bindS_e {α : Type} {m : M α} {f : α → MS} {env : DEnv} : bindS m f env = bindRS (m env) f := rfl
theorem bindRS_ok {α : Type} {a : α} {e : DEnv} {f : α → MS} : bindRS (.ok a e) f = f a e := rfl
theorem bindRS_err {α : Type} {x : Exn} {e : DEnv} {f : α → MS} : bindRS (.err x e) f = .err x e := rfl
theorem bindRS_stk {α : Type} {f : α → MS} : bindRS .stk f = .stk := rfl
theorem seqM_e {s t : MS} {env : DEnv} : seqM s t env = seqR (s env) t := rfl
theorem seqR_nx {e : DEnv} {t : MS} : seqR (.nx e) t = t e := rfl
theorem seqR_rt {r : RV} {e : DEnv} {t : MS} : seqR (.rt r e) t = .rt r e := rfl
theorem seqR_bk {e : DEnv} {t : MS} : seqR (.bk e) t = .bk e := rfl
theorem seqR_ct {e : DEnv} {t : MS} : seqR (.ct e) t = .ct e := rfl
theorem seqR_err {x : Exn} {e : DEnv} {t : MS} : seqR (.err x e) t = .err x e := rfl
theorem seqR_stk {t : MS} : seqR .stk t = .stk := rfl
theorem runD_e {n : Nat} {s : List Nat → MS} {rs : List RV} : runD n s rs = runR rs (s (ownIx 0 rs) (rs.map some ++ List.replicate (n - rs.length) none)) := by
  unfold runD runR
  rfl
theorem runR_nx {rs : List RV} {e : DEnv} : runR rs (.nx e) = (match backD rs e with
    | some rs' => .ok (.sh .non) rs'
    | none => .stk) := rfl
theorem runR_rt {rs : List RV} {r : RV} {e : DEnv} : runR rs (.rt r e) = (match backD rs e with
    | some rs' => .ok r rs'
    | none => .stk) := rfl
theorem runR_err {rs : List RV} {x : Exn} {e : DEnv} : runR rs (.err x e) = (match backD rs e with
    | some rs' => .err x rs'
    | none => .stk) := rfl
theorem finF_e {f : FnD} {os : List Opd} {env : DEnv} : finF f os env = (match resolves env os with
  | some rs => if (lent os rs).Nodup then finR os rs env (f rs) else .stk
  | none => .stk) := rfl
theorem finR_ok {os : List Opd} {rs rs' : List RV} {env : DEnv} {r : RV} : finR os rs env (.ok r rs') = if rs'.length = rs.length then .ok r (wb os rs rs' env) else .stk := rfl
theorem finR_err {os : List Opd} {rs rs' : List RV} {env : DEnv} {x : Exn} : finR os rs env (.err x rs') = if rs'.length = rs.length then .err x (wb os rs rs' env) else .stk := rfl
theorem pureF_e {f : FnD} {rs : List RV} : pureF f rs = if anyOwn rs = true then lentF f rs else f rs := rfl
theorem slot_0 {x : Option RV} {e : DEnv} : slotOf (x :: e) 0 = hidT x := rfl
theorem hid_0 : hidT none = none := rfl
theorem hid_sh {d : D} : hidT (some (.sh d)) = some (.sh d) := rfl
theorem hid_ol {d : List D} : hidT (some (.ol d)) = some (.ol d) := rfl
theorem hid_od {d : List (NestedKey × D)} : hidT (some (.od d)) = some (.od d) := rfl
theorem hid_oo {c : Str} {d : List (Str × D)} : hidT (some (.oo c d)) = some (.oo c d) := rfl
theorem hid_st {s : List LO} : hidT (some (.st s)) = none := rfl
theorem slot_s {x : Option RV} {e : DEnv} {n : Nat} : slotOf (x :: e) (n + 1) = slotOf e n := rfl
theorem nopM_e  {env : DEnv} : nopM  env = .nx env := rfl
theorem asgM_e {pn : List Nat} {i : Nat} {m : M RV} {env : DEnv} : asgM pn i m env = (bindS m fun r e => if i < e.length ∧ i ∉ pn then .nx (e.set i (some r)) else .stk) env := rfl
theorem dropM_e {m : M RV} {env : DEnv} : dropM m env = (bindS m fun _ e => .nx e) env := rfl
theorem retS_e {m : M RV} {env : DEnv} : retS m env = (bindS m fun r e => .rt r e) env := rfl
theorem retN_e  {env : DEnv} : retN  env = .rt (.sh .non) env := rfl
theorem retName_e {pn : List Nat} {i : Nat} {env : DEnv} : retName pn i env = match slotOf env i with
  | some r => if r.own = true ∧ i ∉ pn then .rt r (env.set i none) else .rt (.sh r.d) (env.set i (some (.sh r.d)))
  | none => .stk := rfl
theorem ifS_e {m : M Bool} {s t : MS} {env : DEnv} : ifS m s t env = (bindS m fun b => if b = true then s else t) env := rfl
theorem setM_e {i : Nat} {mv : M Opd} {mk : M Opd} {env : DEnv} : setM i mv mk env = (bindS mv fun o1 e1 => match dOf o1 e1 with
  | .ok d e2 => (match slotOf e2 i with
    | some _ => bindS mk (fun o2 e3 => match slotOf e3 i, (resolve e3 o2).bind asInt with
      | some (.ol ds), some k => (match ixN ds.length k with
        | some j => .nx (e3.set i (some (.ol (ds.set j d))))
        | none => .stk)
      | _, _ => .stk) e2
    | none => .stk)
  | _ => .stk) env := rfl
theorem augM_e {pn : List Nat} {i : Nat} {g : Int → Int → Int} {m : M Opd} {env : DEnv} : augM pn i g m env = match (slotOf env i).bind asInt with
  | some a => bindS m (fun o e => match (resolve e o).bind asInt with
    | some b => if i < e.length ∧ i ∉ pn then .nx (e.set i (some (.sh (.int (g a b))))) else .stk
    | none => .stk) env
  | none => .stk := rfl
theorem brkM_e  {env : DEnv} : brkM  env = .bk env := rfl
theorem cntM_e  {env : DEnv} : cntM  env = .ct env := rfl
theorem neverS_e  {env : DEnv} : neverS  env = .stk := rfl
theorem cM_e {d : D} {env : DEnv} : cM d env = .ok (.sh d) env := rfl
theorem shareM_e {m : M RV} {env : DEnv} : shareM m env = (bindM m fun r e => .ok (.val r.d) e) env := rfl
theorem takeM_e {m : M Opd} {env : DEnv} : takeM m env = (bindM m fun o env => match dOf o env with
  | .ok d e => .ok (.sh d) e
  | .err x e => .err x e
  | .stk => .stk) env := rfl
theorem nameO_e {i : Nat} {env : DEnv} : nameO i env = match slotOf env i with
  | some _ => .ok (.slot i) env
  | none => .stk := rfl
theorem nilO_e  {env : DEnv} : nilO  env = .ok [] env := rfl
theorem consO_e {m : M Opd} {ms : M (List Opd)} {env : DEnv} : consO m ms env = (bindM m fun o => bindM ms fun os env => .ok (o :: os) env) env := rfl
theorem opM_e {f : RV → RV → Option RV} {ma mb : M Opd} {env : DEnv} : opM f ma mb env = (bindM ma fun o1 => bindM mb fun o2 => fin2 f o1 o2) env := rfl
theorem unM_e {f : RV → Option RV} {ma : M Opd} {env : DEnv} : unM f ma env = (bindM ma fun o1 => fin1 f o1) env := rfl
theorem callM_e {f : List RV → Option RV} {ma : M (List Opd)} {env : DEnv} : callM f ma env = (bindM ma fun os => finN f os) env := rfl
theorem tupM_e {m : M (List Opd)} {env : DEnv} : tupM m env = (bindM m fun os env => match dsOf os env with
  | .ok ds e => if ds.length ≤ sizeLine then .ok (.sh (.tup ds)) e else .stk
  | .err x e => .err x e
  | .stk => .stk) env := rfl
theorem lstM_e {m : M (List Opd)} {env : DEnv} : lstM m env = (bindM m fun os env => match dsOf os env with
  | .ok ds e => if ds.length ≤ sizeLine then .ok (.ol ds) e else .stk
  | .err x e => .err x e
  | .stk => .stk) env := rfl
theorem fnA_e {f : FnD} {arr : List Src} {mp mk : M (List Opd)} {env : DEnv} : fnA f arr mp mk env = (bindM mp fun os1 => bindM mk fun os2 => finA f arr (os1 ++ os2)) env := rfl
theorem boM_e {m : M RV} {env : DEnv} : boM m env = (bindM m fun r e => match r with
  | .sh (.bl k) => .ok k e
  | _ => .stk) env := rfl
theorem truM_e {m : M Opd} {env : DEnv} : truM m env = (bindM m fun o env => match resolve env o with
  | some r => (match truF r with
    | some b => .ok b env
    | none => .stk)
  | none => .stk) env := rfl
theorem notM_e {m : M Bool} {env : DEnv} : notM m env = (bindM m fun b env => .ok (!b) env) env := rfl
theorem andM_e {ma mb : M Bool} {env : DEnv} : andM ma mb env = (bindM ma fun b => if b = true then mb else fun env => .ok false env) env := rfl
theorem orM_e {ma mb : M Bool} {env : DEnv} : orM ma mb env = (bindM ma fun b => if b = true then (fun env => .ok true env) else mb) env := rfl
theorem ifM_e {mt : M Bool} {ma mb : M RV} {env : DEnv} : ifM mt ma mb env = (bindM mt fun b => if b = true then ma else mb) env := rfl
theorem andV_e {ma mb : M RV} {env : DEnv} : andV ma mb env = (bindM ma (andV2 mb)) env := rfl
theorem andV2_e {mb : M RV} {r : RV} {e : DEnv} : andV2 mb r e = match r with
  | .sh (.bl true) => mb e
  | .sh (.bl false) => .ok (.sh (.bl false)) e
  | _ => .stk := rfl
theorem orrV_e {ma mb : M RV} {env : DEnv} : orrV ma mb env = (bindM ma (orV2 mb)) env := rfl
theorem orV2_e {mb : M RV} {r : RV} {e : DEnv} : orV2 mb r e = match r with
  | .sh (.bl false) => mb e
  | .sh (.bl true) => .ok (.sh (.bl true)) e
  | _ => .stk := rfl
theorem notV_e {ma : M RV} {env : DEnv} : notV ma env = (bindM ma notV2) env := rfl
theorem notV2_e {r : RV} {e : DEnv} : notV2 r e = match r with
  | .sh (.bl k) => .ok (.sh (.bl (!k))) e
  | _ => .stk := rfl
theorem chainM_e {f f' : RV → RV → Option RV} {ma mb mc : M Opd} {env : DEnv} : chainM f f' ma mb mc env = (bindM ma fun o1 => bindM mb fun o2 => bindM (fin2 f o1 o2) fun r => chain2 f' o2 mc r) env := rfl
theorem chain2_e {f' : RV → RV → Option RV} {o2 : Opd} {mc : M Opd} {r : RV} {e : DEnv} : chain2 f' o2 mc r e = match r with
  | .sh (.bl true) => bindM mc (fun o3 => fin2 f' o2 o3) e
  | .sh (.bl false) => .ok (.sh (.bl false)) e
  | _ => .stk := rfl
theorem mutM_e {T : String} {i : Nat} {f : RV → List D → Option (D × RV)} {m : M (List Opd)} {env : DEnv} : mutM T i f m env = match slotOf env i with
  | some r0 => if tyOk T r0 = true then bindM m (fun os e => match dsOf os e with
    | .ok ds e2 => (match slotOf e2 i with
      | some r => if r.own = true then (match f r ds with
        | some (res, r') => .ok (.sh res) (e2.set i (some r'))
        | none => .stk) else .stk
      | none => .stk)
    | _ => .stk) env else .stk
  | none => .stk := rfl
theorem shV_e {m : M RV} {env : DEnv} : shV m env = (bindM m fun r e => .ok (.sh r.d) e) env := rfl
theorem mkA_e {c : Str} {f : FnD} {arr : List Src} {mp mk : M (List Opd)} {env : DEnv} : mkA c f arr mp mk env = (bindM mp fun os1 => bindM mk fun os2 => finMk c f arr (os1 ++ os2)) env := rfl
theorem propM_e {c : Str} {f : FnD} {mo : M Opd} {env : DEnv} : propM c f mo env = (bindM mo fun o e => match (resolve e o).bind clsR with
  | some (c', _) => if c' = c then noErr (finF f [o] e) else .stk
  | none => .stk) env := rfl
theorem methA_e {c m : Str} {f : FnD} {arr : List Src} {mo : M Opd} {mp mk : M (List Opd)} {env : DEnv} : methA c m f arr mo mp mk env = (bindM mo fun o e => match (resolve e o).bind clsR with
  | some (c', fs) => if c' = c ∧ fs.lookup m = none then bindM mp (fun os1 => bindM mk fun os2 => finA f arr (o :: (os1 ++ os2))) e else .stk
  | none => .stk) env := rfl
theorem fldS_e {cs : List Str} {i : Nat} {f : Str} {mv : M Opd} {env : DEnv} : fldS cs i f mv env = (bindS mv fun o e => match dOf o e with
  | .ok d e2 => (match slotOf e2 i with
    | some (.oo c fs) => if c ∈ cs ∧ fs.length < 1000 then .nx (e2.set i (some (.oo c (putD f d fs)))) else .stk
    | _ => .stk)
  | _ => .stk) env := rfl
theorem par2_e {pn : List Nat} {i j : Nat} {ma mb : M RV} {env : DEnv} : par2 pn i j ma mb env = (bindS ma fun r1 e1 => match mb e1 with
  | .ok r2 e2 => if okL pn e2.length [i, j] = true then .nx ((e2.set i (some r1)).set j (some r2)) else .stk
  | _ => .stk) env := rfl
theorem par3_e {pn : List Nat} {i j l : Nat} {ma mb mc : M RV} {env : DEnv} : par3 pn i j l ma mb mc env = (bindS ma fun r1 e1 => match mb e1 with
  | .ok r2 e2 => (match mc e2 with
    | .ok r3 e3 => if okL pn e3.length [i, j, l] = true then .nx (((e3.set i (some r1)).set j (some r2)).set l (some r3)) else .stk
    | _ => .stk)
  | _ => .stk) env := rfl
theorem forS_e {pn : List Nat} {t : Tgt} {mi : M (List D)} {s : MS} {env : DEnv} : forS pn t mi s env = (bindS mi fun ds => forM pn t s ds) env := rfl
theorem seqI_e {m : M Opd} {env : DEnv} : seqI m env = (bindM m fun o env => match dOf o env with
  | .ok d e => (match itemsOf d with
    | some ds => .ok ds e
    | none => .stk)
  | .err x e => .err x e
  | .stk => .stk) env := rfl
theorem rngI_e {f : List RV → Option (List D)} {m : M (List Opd)} {env : DEnv} : rngI f m env = (bindM m fun os env => match (resolves env os).bind f with
  | some ds => .ok ds env
  | none => .stk) env := rfl
theorem enumI_e {m : M Opd} {env : DEnv} : enumI m env = (bindM m fun o env => match dOf o env with
  | .ok (.lst ds) e => .ok (enumFrom 0 ds) e
  | _ => .stk) env := rfl
theorem zipI2_e {m : M (List Opd)} {env : DEnv} : zipI2 m env = (bindM m fun os env => match dsOf os env with
  | .ok [d, e] en => (match seqD d, seqD e with
    | some ds, some es => .ok (zipD ds es) en
    | _, _ => .stk)
  | _ => .stk) env := rfl
theorem slM_e {m : M Opd} {ml mu : M (Option Int)} {env : DEnv} : slM m ml mu env = (bindM m fun o => bindM ml fun l => bindM mu fun u => finS o l u) env := rfl
theorem noP_e  {env : DEnv} : noP  env = .ok none env := rfl
theorem someP_e {m : M Opd} {env : DEnv} : someP m env = (bindM m fun o env => match (resolve env o).bind asInt with
  | some i => .ok (some i) env
  | none => .stk) env := rfl
theorem asgTM_e {pn : List Nat} {t : Tgt} {m : M Opd} {env : DEnv} : asgTM pn t m env = (bindS m fun o env => match dOf o env with
  | .ok d e => (match asgT pn t d e with
    | some e' => .nx e'
    | none => .stk)
  | .err x e => .err x e
  | .stk => .stk) env := rfl
theorem yesM_e  {env : DEnv} : yesM  env = .ok true env := rfl
theorem mutT_e {T : String} {f : RV → List D → Option (D × RV)} {mv : M RV} {ma : M (List Opd)} {env : DEnv} : mutT T f mv ma env = (bindM mv fun r e0 => if tyOk T r = true then bindM ma (fun os e => match dsOf os e with
  | .ok ds e2 => (match f r ds with
    | some (res, _) => .ok (.sh res) e2
    | none => .stk)
  | _ => .stk) e0 else .stk) env := rfl
theorem callOM_e {c : Str} {f : FnD} {arr : List Src} {mo : M Opd} {mp mk : M (List Opd)} {env : DEnv} : callOM c f arr mo mp mk env = (bindM mo fun o e1 => if insO c o e1 = true then bindM mp (fun os1 => bindM mk fun os2 e => if insO c o e = true then finA f arr (o :: (os1 ++ os2)) e else .stk) e1 else .stk) env := rfl
theorem lenOM_e {c : Str} {f : FnD} {mo : M Opd} {env : DEnv} : lenOM c f mo env = (bindM mo fun o e => if insO c o e = true then lenFits (finF f [o] e) else .stk) env := rfl
theorem statM_e {f : FnD} {arr : List Src} {mp mk : M (List Opd)} {env : DEnv} : statM f arr mp mk env = (fnA f arr mp mk) env := rfl
theorem augLM_e {i : Nat} {g : Int → Int → Int} {mk mv : M Opd} {env : DEnv} : augLM i g mk mv env = match slotOf env i with
  | some _ => bindS mk (fun o1 e1 => match slotOf e1 i, (resolve e1 o1).bind asInt with
    | some (.ol ds), some k => if 0 ≤ k then (match ds[k.toNat]? with
        | some (.int a) => bindS mv (fun o2 e2 => match slotOf e2 i, (resolve e2 o2).bind asInt with
          | some (.ol es), some b => (match ixN es.length k with
            | some j' => .nx (e2.set i (some (.ol (es.set j' (.int (g a b))))))
            | none => .stk)
          | _, _ => .stk) e1
        | _ => .stk) else .stk
    | _, _ => .stk) env
  | none => .stk := rfl
theorem eqOM_e {neg : Bool} {c : Str} {f : FnD} {ma mb : M Opd} {env : DEnv} : eqOM neg c f ma mb env = (bindM ma fun o1 => bindM mb fun o2 e => match resolve e o2 with
  | some r2 => if (insO c o1 e && cmpT c r2) = true then eqRes neg (finF f [o1, o2] e) else .stk
  | none => .stk) env := rfl
theorem lm1_e {f : RV → RV → Option RV} {mo me : M Opd} {env : DEnv} : lm1 f mo me env = (bindM mo fun o1 e1 => match resolve e1 o1 with
  | some r => if tyOk "list" r = true then bindM me (fun o2 => fin2 f o1 o2) e1 else .stk
  | none => .stk) env := rfl
theorem sm1_e {f : RV → RV → Option RV} {mo me : M Opd} {env : DEnv} : sm1 f mo me env = (bindM mo fun o1 e1 => match resolve e1 o1 with
  | some r => if isStrR r = true then bindM me (fun o2 => fin2 f o1 o2) e1 else .stk
  | none => .stk) env := rfl
theorem fmtM_e {m : M Opd} {env : DEnv} : fmtM m env = (unM fmtF m) env := rfl
theorem thruS_e {s : MS} {env : DEnv} : thruS s env = match s env with
  | .err _ _ => .stk
  | o => o := rfl
theorem cmM_e {c : Str} {f : FnD} {arr : List Src} {mp : M (List Opd)} {env : DEnv} : cmM c f arr mp env = (bindM mp fun os => finA f arr (.val (.cls c) :: os)) env := rfl
theorem mkV_e {i : Nat} {c : Str} {f : FnD} {arr : List Src} {mp mk : M (List Opd)} {env : DEnv} : mkV i c f arr mp mk env = match slotOf env i with
  | some (.sh (.cls c')) => if c' = c then mkA c f arr mp mk env else .stk
  | _ => .stk := rfl
theorem raise1_e {c f : Str} {m : M (List Opd)} {env : DEnv} : raise1 c f m env = (bindS m fun os env => match dsOf os env with
  | .ok [d] e => .err (exn1 c f d) e
  | _ => .stk) env := rfl
theorem raise0_e {c : Str} {env : DEnv} : raise0 c env = .err (exn0 c) env := rfl
theorem tellS_e {es : List Str} {pn : List Nat} {i j : Nat} {f g : Str} {s : MS} {env : DEnv} : tellS es pn i j f g s env = if i ∈ pn ∨ j ∈ pn ∨ i = j then .stk else match s env with
  | .err x e => if x.c ∈ es then (match x.fs.lookup f, x.fs.lookup g with
    | some d1, some d2 => if j < e.length ∧ i < e.length then .nx (((e.set i none).set j (some (.sh (.tup [d1, d2])))).set i none) else .stk
    | _, _ => .stk) else .stk
  | o => o := rfl
theorem lamM_e {k : Nat} {I : LamI} {L : Nat} {env : DEnv} : lamM k I L env = .ok (.sh (.lam k I L [])) env := rfl
theorem ndefS_e {pn : List Nat} {i k : Nat} {I : LamI} {L : Nat} {env : DEnv} : ndefS pn i k I L env = if okL pn env.length [i] = true then .nx (env.set i (some (.sh (.lam k I L [])))) else .stk := rfl
theorem lcallM_e {lt : LamT} {i : Nat} {ma : M (List Opd)} {env : DEnv} : lcallM lt i ma env = match slotOf env i with
  | some (.sh (.lam k I _ ds)) => (match ma env with
    | .ok os e1 => (match dsOf os e1 with
      | .ok as e2 => (match lt k I ds as with
        | .ok r _ => .ok r e2
        | .err x _ => .err x e2
        | .stk => .stk)
      | _ => .stk)
    | .err x e1 => .err x e1
    | .stk => .stk)
  | _ => .stk := rfl
theorem lendM_e {L : Nat} {cap : CapT} {f : FnD} {m : M (List Opd)} {env : DEnv} : lendM L cap f m env = (bindM m fun os env => match dsOf os env with
  | .ok ds e => (match f ((ds.map (cvD L cap e)).map .sh) with
    | .ok r _ => if noLamR r = true then .ok r e else .stk
    | .err x _ => if noLamF x.fs = true then .err x e else .stk
    | .stk => .stk)
  | .err x e => .err x e
  | .stk => .stk) env := rfl
theorem reprOM_e {c : Str} {f : FnD} {mo : M Opd} {env : DEnv} : reprOM c f mo env = (bindM mo fun o e => if insO c o e = true then strRes (finF f [o] e) else .stk) env := rfl
theorem mulOM_e {c : Str} {f : FnD} {ma mb : M Opd} {env : DEnv} : mulOM c f ma mb env = (bindM ma fun o1 => bindM mb fun o2 e => if (insO c o1 e && insO c o2 e) = true then objRes (finF f [o1, o2] e) else .stk) env := rfl
theorem enumJ_e {m : M Opd} {env : DEnv} : enumJ m env = (bindM m fun o env => match dOf o env with
  | .ok (.lst ds) e => .ok (enumFrom 0 ds) e
  | .ok (.tup ds) e => .ok (enumFrom 0 ds) e
  | .ok (.fls ds) e => .ok (enumFrom 0 ds) e
  | _ => .stk) env := rfl
theorem setDM_e {i : Nat} {mv : M Opd} {mk : M Opd} {env : DEnv} : setDM i mv mk env = (bindS mv fun o1 e1 => match dOf o1 e1 with
  | .ok d e2 => (match slotOf e2 i with
    | some _ => bindS mk (fun o2 e3 => match slotOf e3 i, (resolve e3 o2).bind keyR with
      | some (.od kvs), some k => if fitK kvs k = true ∧ kvs.length < sizeLine then .nx (e3.set i (some (.od (putN kvs k d)))) else .stk
      | _, _ => .stk) e2
    | none => .stk)
  | _ => .stk) env := rfl
theorem newD_e  {env : DEnv} : newD  env = .ok (.od []) env := rfl
theorem dispM_e {mk mv : M Opd} {env : DEnv} : dispM mk mv env = match mk env with
  | .ok o1 e1 => (match mv e1 with
    | .ok o2 e2 => (match (resolve e2 o1).bind keyR with
      | some k => (match dOf o2 e2 with
        | .ok d e3 => if (flatK k || tupKey k) = true then .ok (.od [(k, d)]) e3 else .stk
        | _ => .stk)
      | none => .stk)
    | _ => .stk)
  | _ => .stk := rfl
theorem shrS_e {i : Nat} {s : MS} {env : DEnv} : shrS i s env = match slotOf env i with
  | some r => s (env.set i (some (.sh r.d)))
  | none => .stk := rfl
theorem starO_e {mo : M Opd} {ms : M (List Opd)} {env : DEnv} : starO mo ms env = (bindM mo fun o env => match (resolve env o).bind seqOf with
  | some ds => (bindM ms fun os env => .ok (ds.map Opd.val ++ os) env) env
  | none => .stk) env := rfl
theorem lrgM_e {mo : M Opd} {env : DEnv} : lrgM mo env = (bindM mo fun o env => match resolve env o with
  | some (.sh (.int n)) => if (in62 n && Nat.ble n.toNat 16777216) = true then .ok (.ol (rangeD 0 n.toNat)) env else .stk
  | _ => .stk) env := rfl
theorem superM_e {c : Str} {f : FnD} {ms : M (List Opd)} {env : DEnv} : superM c f ms env = match slotOf env 0 with
  | some (.oo c' fs) => if c' = c then (match ms env with
    | .ok os e => (match finF f (.slot 0 :: os) e with
      | .ok _ e2 => .nx e2
      | _ => .stk)
    | _ => .stk) else .stk
  | _ => .stk := rfl
theorem fld2S_e {cs : List Str} {i : Nat} {f g : Str} {ms : M (List Opd)} {env : DEnv} : fld2S cs i f g ms env = (bindS ms fun os e => match dsOf os e with
  | .ok [d1, d2] e2 => (match slotOf e2 i with
    | some (.oo c fs) => if c ∈ cs ∧ fs.length < 999 then .nx (e2.set i (some (.oo c (putD g d2 (putD f d1 fs))))) else .stk
    | _ => .stk)
  | _ => .stk) env := rfl
theorem altM_e {a b : M α} {env : DEnv} : altM a b env = match a env with
  | .stk => b env
  | r => r := rfl
theorem par4_e {pn : List Nat} {i j l m : Nat} {ma mb mc md : M RV} {env : DEnv} : par4 pn i j l m ma mb mc md env = (bindS ma fun r1 e1 => match mb e1 with
  | .ok r2 e2 => (match mc e2 with
    | .ok r3 e3 => (match md e3 with
      | .ok r4 e4 => if okL pn e4.length [i, j, l, m] = true then .nx ((((e4.set i (some r1)).set j (some r2)).set l (some r3)).set m (some r4)) else .stk
      | _ => .stk)
    | _ => .stk)
  | _ => .stk) env := rfl
theorem truOM_e {c : Str} {f : FnD} {mo : M Opd} {env : DEnv} : truOM c f mo env = (bindM mo fun o e => if insO c o e = true then bolRes (finF f [o] e) else .stk) env := rfl
theorem lentLt_e {f : FnD} {os : List Opd} {o : Opd} {env : DEnv} : lentLt f os o env = match o, resolves env os with
  | .val d, some rs => (match f [.sh (.lst (rs.map RV.d)), .sh d] with
    | .ok (.sh r) _ => if noMut r = true then .ok (.sh r) env else .stk
    | _ => .stk)
  | _, _ => .stk := rfl
theorem lentL_e {f : FnD} {mi : M (List Opd)} {me : M Opd} {env : DEnv} : lentL f mi me env = (bindM mi fun os env1 => if os.length ≤ sizeLine then bindM me (lentLt f os) env1 else .stk) env := rfl
theorem disCM_e {kvs : List (Key × Key)} {env : DEnv} : disCM kvs env = .ok (.od (kvs.map fun kv => (kN kv.1, keyD kv.2))) env := rfl
theorem getM_e {mo me mf : M Opd} {env : DEnv} : getM mo me mf env = (bindM mo fun o1 e1 => match (resolve e1 o1).bind flatD1 with
  | some _ => bindM me (fun o2 => bindM mf fun o3 env => match (resolve env o1).bind flatD1, (resolve env o2).bind keyR, o3 with
    | some kvs, some k, .val d => if flatK k = true then .ok (.sh ((valN kvs k).getD d)) env else .stk
    | _, _, _ => .stk) e1
  | none => .stk) env := rfl
theorem kgetM_e {kvs : List (Str × Int)} {me mf : M Opd} {env : DEnv} : kgetM kvs me mf env = (bindM me fun o2 => bindM mf fun o3 env => match resolve env o2, o3 with
  | some (.sh (.str x)), .val d => .ok (.sh (match kvs.lookup x with
    | some i => .int i
    | none => d)) env
  | _, _ => .stk) env := rfl
theorem lzM_e {m : M (List Opd)} {env : DEnv} : lzM m env = (bindM m fun os env => match dsOf os env with
  | .ok [d, e] en => (match seqD d, seqD e with
    | some ds, some es => if Nat.ble (min ds.length es.length) 16777216 = true then .ok (.ol (zipD ds es)) en else .stk
    | _, _ => .stk)
  | _ => .stk) env := rfl
theorem exc1M_e {c f : Str} {m : M (List Opd)} {env : DEnv} : exc1M c f m env = (bindM m fun os env => match dsOf os env with
  | .ok [d] e => .ok (.sh (.xob c [("details", .tup [d]), ("code", .str c), (f, d)])) e
  | _ => .stk) env := rfl
theorem exc0M_e {c : Str} {env : DEnv} : exc0M c env = .ok (.sh (.xob c [("details", .tup []), ("code", .str c)])) env := rfl
theorem withS_e {k0 : Nat} {c : Str} {fe fx : FnD} {mc : M RV} {s : MS} {env : DEnv} : withS k0 c fe fx mc s env = match mc env with
  | .ok r e => (match r.d with
    | .obj c' fs => if c' = c then (match finW k0 fe [.val (.obj c' fs)] e with
      | .ok _ e1 => (match s e1 with
        | .nx e2 => (match finX k0 fx (.obj c' fs) e2 with
          | some e3 => .nx e3
          | none => .stk)
        | .err x e2 => (match finX k0 fx (.obj c' fs) e2 with
          | some e3 => .err x e3
          | none => .stk)
        | _ => .stk)
      | _ => .stk) else .stk
    | _ => .stk)
  | .err x e => .err x e
  | .stk => .stk := rfl
theorem sprM_e {md mk mv : M Opd} {env : DEnv} : sprM md mk mv env = (bindM md fun o1 e1 => match (resolve e1 o1).bind flatS with
  | some kvs => if kvs.length < sizeLine then bindM mk (fun o2 => bindM mv fun o3 e3 => match (resolve e3 o2).bind keyR with
    | some k => if flatK k = true then (match dOf o3 e3 with
      | .ok d e4 => .ok (.od (putN kvs k d)) e4
      | _ => .stk) else .stk
    | none => .stk) e1 else .stk
  | none => .stk) env := rfl
theorem finAW_e {k : Nat} {f : FnD} {arr : List Src} {os : List Opd} {env : DEnv} : finAW k f arr os env = match arrO os arr with
  | some r => finW k f r env
  | none => .stk := rfl
theorem fnAW_e {k : Nat} {f : FnD} {arr : List Src} {mp mk : M (List Opd)} {env : DEnv} : fnAW k f arr mp mk env = (bindM mp fun os1 => bindM mk fun os2 => finAW k f arr (os1 ++ os2)) env := rfl
theorem newLM_e {k : Nat} {m : M RV} {env : DEnv} : newLM k m env = (bindM m fun r e => match loOf r, stAt k e with
  | some lo, some s => if noLamR r = true then .ok (.sh (.loc s.length)) (e.set k (some (.st (s ++ [lo])))) else .stk
  | _, _ => .stk) env := rfl
theorem methAW_e {k0 : Nat} {c m : Str} {f : FnD} {arr : List Src} {mo : M Opd} {mp mk : M (List Opd)} {env : DEnv} : methAW k0 c m f arr mo mp mk env = (bindM mo fun o e => match (resolveL k0 e o).bind clsR with
  | some (c', fs) => if c' = c ∧ fs.lookup m = none then bindM mp (fun os1 => bindM mk fun os2 => finAW k0 f arr (o :: (os1 ++ os2))) e else .stk
  | none => .stk) env := rfl
theorem propMW_e {k0 : Nat} {c : Str} {f : FnD} {mo : M Opd} {env : DEnv} : propMW k0 c f mo env = (bindM mo fun o e => match (resolveL k0 e o).bind clsR with
  | some (c', _) => if c' = c then noErr (finW k0 f [o] e) else .stk
  | none => .stk) env := rfl
theorem lenOMW_e {k0 : Nat} {c : Str} {f : FnD} {mo : M Opd} {env : DEnv} : lenOMW k0 c f mo env = (bindM mo fun o e => if insOW k0 c o e = true then lenFits (finW k0 f [o] e) else .stk) env := rfl
theorem reprOMW_e {k0 : Nat} {c : Str} {f : FnD} {mo : M Opd} {env : DEnv} : reprOMW k0 c f mo env = (bindM mo fun o e => if insOW k0 c o e = true then strRes (finW k0 f [o] e) else .stk) env := rfl
theorem eqOMW_e {k0 : Nat} {neg : Bool} {c : Str} {f : FnD} {ma mb : M Opd} {env : DEnv} : eqOMW k0 neg c f ma mb env = (bindM ma fun o1 => bindM mb fun o2 e => match resolveL k0 e o2 with
  | some r2 => if (insOW k0 c o1 e && cmpT c r2) = true then eqRes neg (finW k0 f [o1, o2] e) else .stk
  | none => .stk) env := rfl
theorem opML_e {k0 : Nat} {f : RV → RV → Option RV} {ma mb : M Opd} {env : DEnv} : opML k0 f ma mb env = (bindM ma fun o1 => bindM mb fun o2 => fin2L k0 f o1 o2) env := rfl
theorem unML_e {k0 : Nat} {f : RV → Option RV} {ma : M Opd} {env : DEnv} : unML k0 f ma env = (bindM ma fun o1 => fin1L k0 f o1) env := rfl
theorem callML_e {k0 : Nat} {f : List RV → Option RV} {ma : M (List Opd)} {env : DEnv} : callML k0 f ma env = (bindM ma fun os => finNL k0 f os) env := rfl
theorem fldL_e {k0 : Nat} {cs : List Str} {f : Str} {mo mv : M Opd} {env : DEnv} : fldL k0 cs f mo mv env = (bindS mv fun o e => match dOf o e with
  | .ok d e2 => bindS mo (fun o2 e3 => match mutAt k0 e3 o2 with
    | some (.oo c fs) => if c ∈ cs ∧ fs.length < 1000 ∧ noLam d = true then .nx (mutPut k0 e3 o2 (.oo c (putD f d fs))) else .stk
    | _ => .stk) e2
  | _ => .stk) env := rfl
theorem mutML_e {k0 : Nat} {T : String} {f : RV → List D → Option (D × RV)} {mo : M Opd} {m : M (List Opd)} {env : DEnv} : mutML k0 T f mo m env = (bindM mo fun o e0 => match mutAt k0 e0 o with
  | some r0 => if tyOk T r0 = true then bindM m (fun os e => match dsOf os e with
    | .ok ds e2 => (match mutAt k0 e2 o with
      | some r => if noLams ds = true then (match f r ds with
        | some (res, r') => .ok (.sh res) (mutPut k0 e2 o r')
        | none => .stk) else .stk
      | none => .stk)
    | _ => .stk) e0 else .stk
  | none => .stk) env := rfl
theorem setDL_e {k0 : Nat} {mo mv mk : M Opd} {env : DEnv} : setDL k0 mo mv mk env = (bindS mv fun o1 e1 => match dOf o1 e1 with
  | .ok d e2 => bindS mo (fun ob e3 => bindS mk (fun o2 e4 => match mutAt k0 e4 ob, (resolve e4 o2).bind keyR with
    | some (.od kvs), some k => if fitK kvs k = true ∧ kvs.length < sizeLine ∧ noLam d = true then .nx (mutPut k0 e4 ob (.od (putN kvs k d))) else .stk
    | _, _ => .stk) e3) e2
  | _ => .stk) env := rfl
theorem setLL_e {k0 : Nat} {mo mv mk : M Opd} {env : DEnv} : setLL k0 mo mv mk env = (bindS mv fun o1 e1 => match dOf o1 e1 with
  | .ok d e2 => bindS mo (fun ob e3 => bindS mk (fun o2 e4 => match mutAt k0 e4 ob, (resolve e4 o2).bind asInt with
    | some (.ol ds), some k => (match ixN ds.length k with
      | some j => if noLam d = true then .nx (mutPut k0 e4 ob (.ol (ds.set j d))) else .stk
      | none => .stk)
    | _, _ => .stk) e3) e2
  | _ => .stk) env := rfl
theorem fldsL_e {k0 : Nat} {cs : List Str} {mo : M Opd} {fs : List Str} {ms : M (List Opd)} {env : DEnv} : fldsL k0 cs mo fs ms env = (bindS ms fun os e => match dsOf os e with
  | .ok ds e2 => if ds.length ≤ sizeLine ∧ ds.length = fs.length then putsL k0 cs mo fs ds e2 else .stk
  | _ => .stk) env := rfl
theorem fldAugL_e {k0 : Nat} {cs : List Str} {f : Str} {g : Int → Int → Int} {mo mv : M Opd} {env : DEnv} : fldAugL k0 cs f g mo mv env = (bindS mo fun o e1 => match mutAt k0 e1 o with
  | some (.oo c fs) => if c ∈ cs then (match fs.lookup f with
    | some (.int i) => bindS mv (fun o2 e2 => match (resolve e2 o2).bind asInt, mutAt k0 e2 o with
      | some j, some (.oo c2 fs2) => if c2 = c ∧ fs2.length < 1000 then .nx (mutPut k0 e2 o (.oo c2 (putD f (.int (g i j)) fs2))) else .stk
      | _, _ => .stk) e1
    | _ => .stk) else .stk
  | _ => .stk) env := rfl
theorem mkAW_e {k0 : Nat} {c : Str} {f : FnD} {arr : List Src} {mp mk : M (List Opd)} {env : DEnv} : mkAW k0 c f arr mp mk env = (bindM mp fun os1 => bindM mk fun os2 => finMkW k0 c f arr (os1 ++ os2)) env := rfl
theorem methSW_e {k0 : Nat} {c m : Str} {f : FnD} {mo : M Opd} {mp : M (List Opd)} {env : DEnv} : methSW k0 c m f mo mp env = (bindM mo fun o e => match (resolveL k0 e o).bind clsR with
  | some (c', fs) => if c' = c ∧ fs.lookup m = none then bindM mp (fun os => finWS k0 f o os) e else .stk
  | none => .stk) env := rfl
theorem setOMW_e {k0 : Nat} {c : Str} {f : FnD} {mo mv : M Opd} {env : DEnv} : setOMW k0 c f mo mv env = (bindS mv fun o1 => bindS mo fun o2 e => if insOW k0 c o2 e = true then resS (finW k0 f [o2, o1] e) else .stk) env := rfl
theorem lockV_e {m : M RV} {env : DEnv} : lockV m env = (bindM m fun r e => match r with
  | .od kvs => .ok (.sh (.dct ((.none, .non) :: kvs))) e
  | .sh (.dct ((.none, .non) :: kvs)) => .ok (.sh (.dct ((.none, .non) :: kvs))) e
  | _ => .stk) env := rfl
theorem dc0M_e {k0 j : Nat} {env : DEnv} : dc0M k0 j env = match mutAt k0 env (.slot j) with
  | some (.od []) => .ok (.od []) env
  | _ => .stk := rfl
theorem tellF_e {es : List Str} {pn : List Nat} {i j : Nat} {t f : Str} {s : MS} {env : DEnv} : tellF es pn i j t f s env = if i ∈ pn ∨ j ∈ pn ∨ i = j then .stk else match s env with
  | .err x e => if x.c ∈ es then (match x.fs.lookup f with
    | some (.str y) => if j < e.length ∧ i < e.length ∧ (Str.empty ++ t).length ≤ 16777216 ∧ y.length ≤ 16777216 ∧ (Str.empty ++ t ++ y).length ≤ 16777216 then .nx (((e.set i none).set j (some (.sh (.str (Str.empty ++ t ++ y))))).set i none) else .stk
    | _ => .stk) else .stk
  | o => o := rfl
theorem star3S_e {pn : List Nat} {i0 i1 i2 j : Nat} {mo : M Opd} {env : DEnv} : star3S pn i0 i1 i2 j mo env = (bindS mo fun o e => match dOf o e with
  | .ok (.tup (d0 :: d1 :: d2 :: ds)) e' => if ((i0 < e'.length ∧ i1 < e'.length) ∧ (i2 < e'.length ∧ j < e'.length)) ∧ ((i0 ∉ pn ∧ i1 ∉ pn) ∧ (i2 ∉ pn ∧ j ∉ pn)) ∧ ds.length ≤ 10000 then .nx ((((e'.set i0 (some (.sh d0))).set i1 (some (.sh d1))).set i2 (some (.sh d2))).set j (some (.ol ds))) else .stk
  | _ => .stk) env := rfl
end Z
namespace Z
open PySem PySem.Spec PyProof.Rows L2
def forStep (pn : List Nat) (t : Tgt) (s : MS) (d : D) (env : DEnv) : Out := match asgT pn t d env with
  | some e1 => s e1
  | none => .stk
theorem forM_nx {pn : List Nat} {t : Tgt} {s : MS} (I : Nat → DEnv → Prop) : ∀ {ds : List D} {n : Nat} {env : DEnv}, I n env →
    (∀ i d env, ds[i]? = some d → I (n + i) env → ∃ e2, forStep pn t s d env = .nx e2 ∧ I (n + i + 1) e2) → ∃ env', forM pn t s ds env = .nx env' ∧ I (n + ds.length) env'
  | [], n, env, h, st => ⟨env, rfl, h⟩
  | d :: ds, n, env, h, st => by
    obtain ⟨e2, h2, h3⟩ := st 0 d env rfl h
    unfold forStep at h2
    cases h1 : asgT pn t d env with
    | none => rw [h1] at h2; cases h2
    | some e1 =>
    simp only [h1] at h2
    obtain ⟨env', h4, h5⟩ := forM_nx I (ds := ds) (n := n + 1) (env := e2) h3 fun i d' env' hd hi => by
      have := st (i + 1) d' env' (by simpa using hd) (by rw [show n + (i + 1) = n + 1 + i by omega]; exact hi)
      rw [show n + (i + 1) + 1 = n + 1 + i + 1 by omega] at this
      exact this
    refine ⟨env', ?_, by rw [List.length_cons, show n + (ds.length + 1) = n + 1 + ds.length by omega]; exact h5⟩
    unfold forM
    rw [h1]
    simp only [h2]
    exact h4
def lcStep (pn : List Nat) (t : Tgt) (me : M Opd) (d : D) (env : DEnv) : Res D := match asgT pn t d env with
  | some e1 => (match me e1 with
    | .ok o e3 => dOf o e3
    | _ => .stk)
  | none => .stk
theorem lcGo_ok {pn vs : List Nat} {t : Tgt} {me : M Opd} (I : List D → DEnv → Prop) : ∀ {ds acc : List D} {env : DEnv}, I acc env → acc.length + ds.length ≤ 16777216 →
    (∀ acc d env, d ∈ ds → I acc env → ∃ y e4, lcStep pn t me d env = .ok y e4 ∧ I (acc ++ [y]) (wipeD e4 vs)) → ∃ acc' env', lcGo pn vs t yesM me ds acc env = .ok acc' env' ∧ I acc' env' ∧ acc'.length = acc.length + ds.length
  | [], acc, env, h, hl, st => ⟨acc, env, rfl, h, rfl⟩
  | d :: ds, acc, env, h, hl, st => by
    obtain ⟨y, e4, hs, h4⟩ := st acc d env List.mem_cons_self h
    unfold lcStep at hs
    cases h1 : asgT pn t d env with
    | none => rw [h1] at hs; cases hs
    | some e1 =>
    simp only [h1] at hs
    cases h2 : me e1 with
    | err x e => rw [h2] at hs; cases hs
    | stk => rw [h2] at hs; cases hs
    | ok o e3 =>
    simp only [h2] at hs
    have h3 := hs
    rw [List.length_cons] at hl
    obtain ⟨acc', env', h5, h6, h7⟩ := lcGo_ok I (ds := ds) (acc := acc ++ [y]) h4 (by simp; omega) fun a d' e' hd => st a d' e' (List.mem_cons_of_mem _ hd)
    refine ⟨acc', env', ?_, h6, by rw [h7]; simp; omega⟩
    unfold lcGo
    rw [h1]
    simp only [yesM, h2, h3]
    rw [if_pos (by rw [sizeLine_eq]; omega)]
    exact h5
theorem lcM_eq {pn vs : List Nat} {t : Tgt} {mi : M (List D)} {mt : M Bool} {me : M Opd} {env e1 e2 : DEnv} {ds acc : List D} (h1 : mi env = .ok ds e1) (hc : (∀ i ∈ vs, i ∉ pn) ∧ ∀ i ∈ slotsT t, i ∈ vs) (h2 : lcGo pn vs t mt me ds [] (wipeD e1 vs) = .ok acc e2) :
    lcM pn vs t mi mt me env = .ok (.ol acc) (wipeD e2 vs) := by
  unfold lcM bindM
  simp only [h1]
  rw [if_pos hc, h2]
end Z
namespace Z
open PySem PySem.Spec PyProof.Rows L2
theorem lcGo_map {α : Type} {pn vs : List Nat} {t : Tgt} {me : M Opd} {enc g : α → D} {env : DEnv} : ∀ {xs : List α} {acc : List D}, acc.length + xs.length ≤ 16777216 →
    (∀ x ∈ xs, ∃ e4, lcStep pn t me (enc x) env = .ok (g x) e4 ∧ wipeD e4 vs = env) → lcGo pn vs t yesM me (xs.map enc) acc env = .ok (acc ++ xs.map g) env
  | [], acc, _, _ => by simp [lcGo]
  | x :: xs, acc, hl, h => by
    obtain ⟨e4, h1, h2⟩ := h x List.mem_cons_self
    unfold lcStep at h1
    cases z1 : asgT pn t (enc x) env with
    | none => rw [z1] at h1; cases h1
    | some e1 =>
    simp only [z1] at h1
    cases z2 : me e1 with
    | err y e => rw [z2] at h1; cases h1
    | stk => rw [z2] at h1; cases h1
    | ok o e3 =>
    simp only [z2] at h1
    rw [List.length_cons] at hl
    have ih := lcGo_map (xs := xs) (acc := acc ++ [g x]) (pn := pn) (vs := vs) (t := t) (me := me) (enc := enc) (g := g) (env := env) (by simp; omega) fun y hy => h y (List.mem_cons_of_mem _ hy)
    rw [List.map_cons]
    unfold lcGo
    rw [z1]
    simp only [yesM, z2, h1]
    rw [if_pos (by rw [sizeLine_eq]; omega), h2]
    rw [ih]
    simp
theorem lcM_map {α : Type} {pn vs : List Nat} {t : Tgt} {mi : M (List D)} {me : M Opd} {enc g : α → D} {env : DEnv} {xs : List α} (h1 : mi env = .ok (xs.map enc) env) (hc : (∀ i ∈ vs, i ∉ pn) ∧ ∀ i ∈ slotsT t, i ∈ vs) (hw : wipeD env vs = env) (hl : xs.length ≤ 16777216)
    (h : ∀ x ∈ xs, ∃ e4, lcStep pn t me (enc x) env = .ok (g x) e4 ∧ wipeD e4 vs = env) : lcM pn vs t mi yesM me env = .ok (.ol (xs.map g)) env := by
  have := lcM_eq (mt := yesM) h1 hc (by rw [hw]; exact lcGo_map (acc := []) (by simpa using hl) h)
  rw [this, hw]; rfl
theorem forM_exi {α S : Type} {pn : List Nat} {t : Tgt} {s : MS} (st : Nat → S → DEnv → Prop) (f : S → α → S) (enc : α → D) : ∀ {xs : List α} {n : Nat} {x0 : S} {env : DEnv}, st n x0 env →
    (∀ i x a env, xs[i]? = some a → st (n + i) x env → ∃ e2, forStep pn t s (enc a) env = .nx e2 ∧ st (n + i + 1) (f x a) e2) → ∃ env', forM pn t s (xs.map enc) env = .nx env' ∧ st (n + xs.length) (xs.foldl f x0) env'
  | [], n, x0, env, h0, _ => ⟨env, rfl, h0⟩
  | a :: xs, n, x0, env, h0, h => by
    obtain ⟨e2, h1, h2⟩ := h 0 x0 a env rfl h0
    obtain ⟨env', k1, k2⟩ := forM_exi st f enc (xs := xs) (n := n + 1) (x0 := f x0 a) h2 fun i x b e hb hs => by
      have := h (i + 1) x b e (by simpa using hb) (by rw [show n + (i + 1) = n + 1 + i by omega]; exact hs)
      rw [show n + (i + 1) + 1 = n + 1 + i + 1 by omega] at this
      exact this
    refine ⟨env', ?_, by rw [List.length_cons, show n + (xs.length + 1) = n + 1 + xs.length by omega]; exact k2⟩
    rw [List.map_cons]
    unfold forStep at h1
    unfold forM
    cases z : asgT pn t (enc a) env with
    | none => rw [z] at h1; cases h1
    | some e1 =>
      simp only [z] at h1 ⊢
      simp only [h1]
      exact k1
theorem rangeD_map (n : Nat) : rangeD 0 n = (List.range n).map fun (i : Nat) => D.int (i : Int) := by
  unfold rangeD
  congr 1
  funext i
  simp
theorem flat_one {α : Type} (a : α) : ∀ n : Nat, (List.replicate n [a]).flatten = List.replicate n a
  | 0 => rfl
  | n + 1 => by rw [List.replicate_succ, List.flatten_cons, flat_one a n]; rfl
theorem orF_l {f g : RV → RV → Option RV} {a b z : RV} (h : f a b = some z) : orF f g a b = some z := by unfold orF; rw [h]
theorem orF_r {f g : RV → RV → Option RV} {a b : RV} {z : Option RV} (h : f a b = none) (h2 : g a b = z) : orF f g a b = z := by unfold orF; rw [h]; exact h2
theorem repL_one {d : D} {n : Nat} (h : n ≤ 100000) : repL (.sh (.lst [d])) (.sh (.int (n : Int))) = some (.ol (List.replicate n d)) := by
  have a1 : fitR [d].length (n : Int) = true := by
    unfold fitR
    rw [Int.toNat_natCast, Int.natAbs_natCast, List.length_singleton, Nat.one_mul, Bool.and_eq_true]
    exact ⟨Nat.ble_eq_true_of_le (by omega), Nat.ble_eq_true_of_le (by omega)⟩
  unfold repL
  simp only [listOf]
  rw [if_pos a1, Int.toNat_natCast, flat_one]
theorem mulD_rep {d : D} {n : Nat} (h : n ≤ 100000) : mulD (.sh (.lst [d])) (.sh (.int (n : Int))) = some (.ol (List.replicate n d)) := orF_r (f := mulI) (g := orF repL repT) rfl (orF_l (repL_one h))
theorem repT_one {d : D} {n : Nat} (h2 : 2 ≤ n) (h : n ≤ 1000) : repT (.sh (.tup [d])) (.sh (.int (n : Int))) = some (.sh (.tup (List.replicate n d))) := by
  unfold repT
  simp only [tupOf]
  rw [if_pos ⟨by simp, by omega, by omega, by simp⟩, Int.toNat_natCast, flat_one]
theorem mulD_repT {d : D} {n : Nat} (h2 : 2 ≤ n) (h : n ≤ 1000) : mulD (.sh (.tup [d])) (.sh (.int (n : Int))) = some (.sh (.tup (List.replicate n d))) := orF_r (f := mulI) (g := orF repL repT) rfl (orF_r (f := repL) (g := repT) rfl (repT_one h2 h))
theorem addD_tup {xs ys : List D} (h : xs.length + ys.length ≤ 100000) : addD (.sh (.tup xs)) (.sh (.tup ys)) = some (.sh (.tup (xs ++ ys))) := by
  refine orF_r (f := addI) (g := orF addS (orF addT addL)) rfl (orF_r (f := addS) (g := orF addT addL) rfl (orF_l ?_))
  unfold addT
  simp only [tupOf]
  rw [if_pos (Nat.le_trans h (by decide))]
theorem addD_lst {a b : RV} {xs ys : List D} (ha : listOf a = some xs) (hb : listOf b = some ys) (h : xs.length + ys.length ≤ 100000) : addD a b = some (.ol (xs ++ ys)) := by
  have e : addL a b = some (.ol (xs ++ ys)) := by
    unfold addL
    rw [ha, hb]
    simp only
    rw [if_pos (Nat.le_trans h (by decide))]
  unfold listOf at ha
  split at ha <;> first | (cases ha; done) | skip
  all_goals exact orF_r (f := addI) (g := orF addS (orF addT addL)) rfl (orF_r (f := addS) (g := orF addT addL) rfl (orF_r (f := addT) (g := addL) rfl e))
/-- data without instances and dicts, at most so deep -/
def Pl : Nat → D → Prop
  | n + 1, .non => True
  | n + 1, .bl _ => True
  | n + 1, .int _ => True
  | n + 1, .str x => PyData.strOk x = true
  | n + 1, .lst xs => ∀ x ∈ xs, Pl n x
  | n + 1, .tup xs => ∀ x ∈ xs, Pl n x
  | _, _ => False
mutual
theorem eqv_refl : ∀ p : PyData, p.canLay0 = true → PyData.eqv p p = true
  | .none, _ => rfl
  | .bool b, _ => by simp [PyData.eqv]
  | .int b, _ => by simp [PyData.eqv]
  | .str b, _ => by simp [PyData.eqv]
  | .list xs, h => by simp only [PyData.eqv]; exact eqvAll_refl xs (by simpa [PyData.canLay0] using h)
  | .tuple xs, h => by simp only [PyData.eqv]; exact eqvAll_refl xs (by simpa [PyData.canLay0] using h)
  | .dict kvs, h => by simp [PyData.canLay0] at h
theorem eqvAll_refl : ∀ ps : List PyData, PyData.canLayAll0 ps = true → PyData.eqvAll ps ps = true
  | [], _ => rfl
  | p :: ps, h => by
    simp only [PyData.canLayAll0, Bool.and_eq_true] at h
    simp only [PyData.eqvAll, Bool.and_eq_true]
    exact ⟨eqv_refl p h.1, eqvAll_refl ps h.2⟩
end
theorem Pl.p : ∀ (n : Nat) (d : D), Pl n d → ∃ p, toP d = some p ∧ p.depth ≤ n ∧ p.canLay0 = true
  | 0, d, h => by cases d <;> exact h.elim
  | n + 1, d, h => by
    have all : ∀ xs : List D, (∀ x ∈ xs, Pl n x) → ∃ ps, toPs xs = some ps ∧ PyData.depthAll ps ≤ n ∧ PyData.canLayAll0 ps = true := by
      intro xs
      induction xs with
      | nil => exact fun _ => ⟨[], rfl, Nat.zero_le _, rfl⟩
      | cons x xs ih =>
        intro hx
        obtain ⟨p, h1, h2, h3⟩ := Pl.p n x (hx x List.mem_cons_self)
        obtain ⟨ps, k1, k2, k3⟩ := ih fun y hy => hx y (List.mem_cons_of_mem _ hy)
        exact ⟨p :: ps, by simp [toPs, h1, k1], by simp [PyData.depthAll]; omega, by simp [PyData.canLayAll0, h3, k3]⟩
    cases d with
    | non => exact ⟨_, rfl, by simp [PyData.depth], rfl⟩
    | bl b => exact ⟨_, rfl, by simp [PyData.depth], rfl⟩
    | int i => exact ⟨_, rfl, by simp [PyData.depth], rfl⟩
    | str x => exact ⟨_, rfl, by simp [PyData.depth], h⟩
    | lst xs =>
      obtain ⟨ps, k1, k2, k3⟩ := all xs h
      exact ⟨.list ps, by simp [toP, k1], by simp [PyData.depth]; omega, by simp [PyData.canLay0, k3]⟩
    | tup xs =>
      obtain ⟨ps, k1, k2, k3⟩ := all xs h
      exact ⟨.tuple ps, by simp [toP, k1], by simp [PyData.depth]; omega, by simp [PyData.canLay0, k3]⟩
    | _ => exact h.elim
theorem eqP_same {a b : RV} {n : Nat} (hn : n ≤ 64) (h : Pl n a.d) (e : b.d = a.d) : eqP a b = some true := by
  obtain ⟨p, h1, h2, h3⟩ := Pl.p n _ h
  unfold eqP
  rw [e, h1]
  have hs : SeqAt.shaped p = true := by unfold SeqAt.shaped; simp [h3]; omega
  simp only [hs, Bool.and_self, if_true, eqv_refl p h3]
theorem eqF_same {a b : RV} {n : Nat} (hn : n ≤ 64) (h : Pl n a.d) (e : b.d = a.d) : eqF a b = some (.sh (.bl true)) := by unfold eqF; rw [eqP_same hn h e]; rfl
theorem neF_same {a b : RV} {n : Nat} (hn : n ≤ 64) (h : Pl n a.d) (e : b.d = a.d) : neF a b = some (.sh (.bl false)) := by unfold neF; rw [eqP_same hn h e]; rfl
theorem Pl.ints {n : Nat} {l : List Int} : ∀ x ∈ l.map D.int, Pl (n + 1) x := fun x hx => by
  obtain ⟨i, _, rfl⟩ := List.mem_map.mp hx
  trivial
end Z
local macro_rules
  | `(tactic| rfl') => `(tactic| first | exact .inl rfl | exact .inr (.inl rfl) | exact .inr (.inr rfl))
local macro_rules
  | `(tactic| and_intros) => `(tactic| first | exact .inl rfl | exact .inr rfl)
local macro_rules
  | `(tactic| simp_arith [$ls,*]) => `(tactic| simp (config := { maxSteps := 1000000 }) (disch := omega) only [Z.bindM_e, Z.bindR_ok, Z.bindR_err, Z.bindR_stk, Z.bindS_e, Z.bindRS_ok, Z.bindRS_err, Z.bindRS_stk, Z.seqM_e, Z.seqR_nx, Z.seqR_rt, Z.seqR_bk, Z.seqR_ct, Z.seqR_err, Z.seqR_stk, Z.runD_e, Z.runR_nx, Z.runR_rt, Z.runR_err, Z.finF_e, Z.finR_ok, Z.finR_err, Z.pureF_e, Z.slot_0, Z.slot_s, Z.hid_0, Z.hid_sh, Z.hid_ol, Z.hid_od, Z.hid_oo, Z.hid_st, Z.nopM_e, Z.asgM_e, Z.dropM_e, Z.retS_e, Z.retN_e, Z.retName_e, Z.ifS_e, Z.setM_e, Z.augM_e, Z.brkM_e, Z.cntM_e, Z.neverS_e, Z.cM_e, Z.shareM_e, Z.takeM_e, Z.nameO_e, Z.nilO_e, Z.consO_e, Z.opM_e, Z.unM_e, Z.callM_e, Z.tupM_e, Z.lstM_e, Z.fnA_e, Z.boM_e, Z.truM_e, Z.notM_e, Z.andM_e, Z.orM_e, Z.ifM_e, Z.andV_e, Z.andV2_e, Z.orrV_e, Z.orV2_e, Z.notV_e, Z.notV2_e, Z.chainM_e, Z.chain2_e, Z.mutM_e, Z.shV_e, Z.mkA_e, Z.propM_e, Z.methA_e, Z.fldS_e, Z.par2_e, Z.par3_e, Z.forS_e, Z.seqI_e, Z.rngI_e, Z.enumI_e, Z.zipI2_e, Z.slM_e, Z.noP_e, Z.someP_e, Z.asgTM_e, Z.yesM_e, Z.mutT_e, Z.callOM_e, Z.lenOM_e, Z.statM_e, Z.augLM_e, Z.eqOM_e, Z.lm1_e, Z.sm1_e, Z.fmtM_e, Z.thruS_e, Z.cmM_e, Z.mkV_e, Z.raise1_e, Z.raise0_e, Z.tellS_e, Z.lamM_e, Z.ndefS_e, Z.lcallM_e, Z.lendM_e, Z.reprOM_e, Z.mulOM_e, Z.enumJ_e, Z.setDM_e, Z.newD_e, Z.dispM_e, Z.shrS_e, Z.starO_e, Z.lrgM_e, Z.superM_e, Z.fld2S_e, Z.altM_e, Z.par4_e, Z.truOM_e, Z.lentLt_e, Z.lentL_e, Z.disCM_e, Z.getM_e, Z.kgetM_e, Z.lzM_e, Z.exc1M_e, Z.exc0M_e, Z.withS_e, Z.sprM_e, Z.finAW_e, Z.fnAW_e, Z.newLM_e, Z.methAW_e, Z.propMW_e, Z.lenOMW_e, Z.reprOMW_e, Z.eqOMW_e, Z.opML_e, Z.unML_e, Z.callML_e, Z.fldL_e, Z.mutML_e, Z.setDL_e, Z.setLL_e, Z.fldsL_e, Z.fldAugL_e, Z.mkAW_e, Z.methSW_e, Z.setOMW_e, Z.lockV_e, Z.dc0M_e, Z.tellF_e, Z.star3S_e, Z.ownIx, Z.backD, Z.resolve, Z.resolves, Z.dOf, Z.dsOf, Z.fin1, Z.fin2, Z.finN, Z.finA, Z.finS, Z.arrO, Z.srcO, Z.lent, Z.wb, Z.tyOk, Z.appF, Z.clrF, Z.finMk, Z.noErr, Z.putD, Z.okL, Z.itemsOf, Z.asInt, Z.asgT_n, Z.asgT_t, Z.asgTs_n, Z.asgTs_c, Z.anyOwn, Z.lentF, Z.noMutR, Z.noMut, Z.noMut.noMuts, Z.noMuts_ints, Bool.or_true, Bool.true_or, beq_self_eq_true, Z.seqD_lst, Z.seqD_tup, Z.insO, Z.lenFits_nat, Z.negF, Z.RV.d, Z.RV.own, Z.truF, Z.addD_int, Z.subI_int, Z.mulD_r, Z.modI_int, Z.divI_int, Z.powI_18, Z.ltI_int, Z.leI_int, Z.gtI_int, Z.geI_int, Z.eqF_int, Z.neF_int, Z.eqF_bl, Z.neF_bl, Z.ixF_ol, Z.ixF_lst, Z.ixF_tup, Z.at0, Z.at1, Z.at2, Z.at3, Z.at4, Z.absF_int, Z.intF_int, Z.lenF_ol, Z.lenF_lst, Z.lenF_tup, Z.listF_ol, Z.listF_lst, Z.tupleF_ol, Z.tupleF_lst, Z.isiF_, Z.isiTF_, Z.tyD, Z.isiB, L2.ixN, List.map_cons, List.map_nil, List.cons_append, List.nil_append, List.append_nil, List.length_cons, List.length_nil, List.replicate, List.getElem?_cons_zero, List.getElem?_cons_succ, List.set_cons_zero, List.set_cons_succ, Option.join_some, Option.map_some, Option.map_none, Option.bind_some, Option.bind_none, Option.join, Nat.reduceAdd, Nat.reduceSub, Nat.reduceLT, Nat.reduceLeDiff, Int.reduceLT, Int.reduceLE, Int.reduceToNat, Int.reduceNeg, Nat.reduceEqDiff, reduceIte, if_true, if_false, PySem.sizeLine_eq, decide_true, decide_false, Bool.not_true, Bool.not_false, Bool.false_eq_true, and_self, and_true, true_and, not_false_eq_true, not_true_eq_false, List.nodup_nil, List.nodup_cons, List.not_mem_nil, List.mem_cons, List.mem_singleton, or_false, false_or, id_eq, eq_self, forall_eq, forall_eq_or_imp, implies_true, forall_const, imp_self, reduceCtorEq, Int.cast_ofNat_Int, Nat.zero_add, Option.some.injEq, ite_true, ite_false, List.contains_nil, List.contains_cons, Bool.or_false, Bool.and_true, Bool.true_and, Bool.and_self, Z.eqRes, Z.isStrR, Z.strRes, Z.boolF_bl, Z.stAt, Z.envW, Z.splS, Z.finW, Z.resolveL, Z.resolvesL, Z.locN, Z.loOf, Z.insOW, Z.fin2L, Z.fin1L, Z.finNL, Z.mutAt, Z.mutPut, Z.putsL, Z.finMkW, Z.lresW, Z.finWS, Z.envX, Z.finX, Z.resS, Z.LO.rv, List.take_succ_cons, List.take_zero, Z.clsR, Z.fldF, $ls,*])
local macro_rules
  | `(tactic| simp_all_arith [$ls,*]) => `(tactic| simp (config := { maxSteps := 1000000 }) (disch := omega) only [Z.bindM_e, Z.bindR_ok, Z.bindR_err, Z.bindR_stk, Z.bindS_e, Z.bindRS_ok, Z.bindRS_err, Z.bindRS_stk, Z.seqM_e, Z.seqR_nx, Z.seqR_rt, Z.seqR_bk, Z.seqR_ct, Z.seqR_err, Z.seqR_stk, Z.runD_e, Z.runR_nx, Z.runR_rt, Z.runR_err, Z.finF_e, Z.finR_ok, Z.finR_err, Z.pureF_e, Z.slot_0, Z.slot_s, Z.hid_0, Z.hid_sh, Z.hid_ol, Z.hid_od, Z.hid_oo, Z.hid_st, Z.nopM_e, Z.asgM_e, Z.dropM_e, Z.retS_e, Z.retN_e, Z.retName_e, Z.ifS_e, Z.setM_e, Z.augM_e, Z.brkM_e, Z.cntM_e, Z.neverS_e, Z.cM_e, Z.shareM_e, Z.takeM_e, Z.nameO_e, Z.nilO_e, Z.consO_e, Z.opM_e, Z.unM_e, Z.callM_e, Z.tupM_e, Z.lstM_e, Z.fnA_e, Z.boM_e, Z.truM_e, Z.notM_e, Z.andM_e, Z.orM_e, Z.ifM_e, Z.andV_e, Z.andV2_e, Z.orrV_e, Z.orV2_e, Z.notV_e, Z.notV2_e, Z.chainM_e, Z.chain2_e, Z.mutM_e, Z.shV_e, Z.mkA_e, Z.propM_e, Z.methA_e, Z.fldS_e, Z.par2_e, Z.par3_e, Z.forS_e, Z.seqI_e, Z.rngI_e, Z.enumI_e, Z.zipI2_e, Z.slM_e, Z.noP_e, Z.someP_e, Z.asgTM_e, Z.yesM_e, Z.mutT_e, Z.callOM_e, Z.lenOM_e, Z.statM_e, Z.augLM_e, Z.eqOM_e, Z.lm1_e, Z.sm1_e, Z.fmtM_e, Z.thruS_e, Z.cmM_e, Z.mkV_e, Z.raise1_e, Z.raise0_e, Z.tellS_e, Z.lamM_e, Z.ndefS_e, Z.lcallM_e, Z.lendM_e, Z.reprOM_e, Z.mulOM_e, Z.enumJ_e, Z.setDM_e, Z.newD_e, Z.dispM_e, Z.shrS_e, Z.starO_e, Z.lrgM_e, Z.superM_e, Z.fld2S_e, Z.altM_e, Z.par4_e, Z.truOM_e, Z.lentLt_e, Z.lentL_e, Z.disCM_e, Z.getM_e, Z.kgetM_e, Z.lzM_e, Z.exc1M_e, Z.exc0M_e, Z.withS_e, Z.sprM_e, Z.finAW_e, Z.fnAW_e, Z.newLM_e, Z.methAW_e, Z.propMW_e, Z.lenOMW_e, Z.reprOMW_e, Z.eqOMW_e, Z.opML_e, Z.unML_e, Z.callML_e, Z.fldL_e, Z.mutML_e, Z.setDL_e, Z.setLL_e, Z.fldsL_e, Z.fldAugL_e, Z.mkAW_e, Z.methSW_e, Z.setOMW_e, Z.lockV_e, Z.dc0M_e, Z.tellF_e, Z.star3S_e, Z.ownIx, Z.backD, Z.resolve, Z.resolves, Z.dOf, Z.dsOf, Z.fin1, Z.fin2, Z.finN, Z.finA, Z.finS, Z.arrO, Z.srcO, Z.lent, Z.wb, Z.tyOk, Z.appF, Z.clrF, Z.finMk, Z.noErr, Z.putD, Z.okL, Z.itemsOf, Z.asInt, Z.asgT_n, Z.asgT_t, Z.asgTs_n, Z.asgTs_c, Z.anyOwn, Z.lentF, Z.noMutR, Z.noMut, Z.noMut.noMuts, Z.noMuts_ints, Bool.or_true, Bool.true_or, beq_self_eq_true, Z.seqD_lst, Z.seqD_tup, Z.insO, Z.lenFits_nat, Z.negF, Z.RV.d, Z.RV.own, Z.truF, Z.addD_int, Z.subI_int, Z.mulD_r, Z.modI_int, Z.divI_int, Z.powI_18, Z.ltI_int, Z.leI_int, Z.gtI_int, Z.geI_int, Z.eqF_int, Z.neF_int, Z.eqF_bl, Z.neF_bl, Z.ixF_ol, Z.ixF_lst, Z.ixF_tup, Z.at0, Z.at1, Z.at2, Z.at3, Z.at4, Z.absF_int, Z.intF_int, Z.lenF_ol, Z.lenF_lst, Z.lenF_tup, Z.listF_ol, Z.listF_lst, Z.tupleF_ol, Z.tupleF_lst, Z.isiF_, Z.isiTF_, Z.tyD, Z.isiB, L2.ixN, List.map_cons, List.map_nil, List.cons_append, List.nil_append, List.append_nil, List.length_cons, List.length_nil, List.replicate, List.getElem?_cons_zero, List.getElem?_cons_succ, List.set_cons_zero, List.set_cons_succ, Option.join_some, Option.map_some, Option.map_none, Option.bind_some, Option.bind_none, Option.join, Nat.reduceAdd, Nat.reduceSub, Nat.reduceLT, Nat.reduceLeDiff, Int.reduceLT, Int.reduceLE, Int.reduceToNat, Int.reduceNeg, Nat.reduceEqDiff, reduceIte, if_true, if_false, PySem.sizeLine_eq, decide_true, decide_false, Bool.not_true, Bool.not_false, Bool.false_eq_true, and_self, and_true, true_and, not_false_eq_true, not_true_eq_false, List.nodup_nil, List.nodup_cons, List.not_mem_nil, List.mem_cons, List.mem_singleton, or_false, false_or, id_eq, eq_self, forall_eq, forall_eq_or_imp, implies_true, forall_const, imp_self, reduceCtorEq, Int.cast_ofNat_Int, Nat.zero_add, Option.some.injEq, ite_true, ite_false, List.contains_nil, List.contains_cons, Bool.or_false, Bool.and_true, Bool.true_and, Bool.and_self, Z.eqRes, Z.isStrR, Z.strRes, Z.boolF_bl, Z.stAt, Z.envW, Z.splS, Z.finW, Z.resolveL, Z.resolvesL, Z.locN, Z.loOf, Z.insOW, Z.fin2L, Z.fin1L, Z.finNL, Z.mutAt, Z.mutPut, Z.putsL, Z.finMkW, Z.lresW, Z.finWS, Z.envX, Z.finX, Z.resS, Z.LO.rv, List.take_succ_cons, List.take_zero, $ls,*])
local macro_rules
  | `(tactic| simp_arith) => `(tactic| simp_arith [])
local macro_rules
  | `(tactic| simp_all_arith) => `(tactic| simp_all_arith [])
namespace Y
open PySem PySem.Spec PyProof.Rows L2 Z
structure Txt (K : PySem.W.Frag) (mg : Str → Option Value) : Prop where
  n_int : mg "int" = none
  n_list : mg "list" = none
  n_range : mg "range" = none
  n_len : mg "len" = none
  n_abs : mg "abs" = none
  n_isinstance : mg "isinstance" = none
  n_bool : mg "bool" = none
  n_super : mg "super" = none
  n_tuple : mg "tuple" = none
  n_all : mg "all" = none
  n_zip : mg "zip" = none
  n_str : mg "str" = none
  g_law : mg "law" = some (.ref (He.ga K "law"))
  g__law_bag : mg "_law_bag" = some (.ref (He.ga K "_law_bag"))
  g__law_pull : mg "_law_pull" = some (.ref (He.ga K "_law_pull"))
  g__law_of : mg "_law_of" = some (.ref (He.ga K "_law_of"))
  g__law_prime : mg "_law_prime" = some (.ref (He.ga K "_law_prime"))
  g__law_few : mg "_law_few" = some (.ref (He.ga K "_law_few"))
  g_is_number : mg "is_number" = some (.ref (He.ga K "is_number"))
  g_PRIMES : mg "PRIMES" = some (.ref (He.ga K "PRIMES"))
  t_PRIMES : Zf.ok K (.tup "PRIMES" [.int (2), .int (3), .int (5), .int (7)]) = true
  g_is_prime : mg "is_prime" = some (.ref (He.ga K "is_prime"))
  g_InvalidPrime : mg "InvalidPrime" = some (.ref (He.ga K "InvalidPrime"))
  xc_InvalidPrime : xcB "/claim/cut.py" "InvalidPrime" ["given", "code", "details"] K = true
  g_TurnError : mg "TurnError" = some (.ref (He.ga K "TurnError"))
  g_Missing : mg "Missing" = some (.ref (He.ga K "Missing"))
  g_NothingLeft : mg "NothingLeft" = some (.ref (He.ga K "NothingLeft"))
  ct_InvalidPrime : CatchC K (.ref (He.ga K "TurnError")) (.ref (He.ga K "Missing")) (.ref (He.ga K "NothingLeft")) "code" "details" (He.ga K "InvalidPrime")
  g_need_prime : mg "need_prime" = some (.ref (He.ga K "need_prime"))
  g_is_within : mg "is_within" = some (.ref (He.ga K "is_within"))
  k_MOST_DIALS : ∃ t, mg "MOST_DIALS" = some (.int  (200) t)
  g_InvalidCount : mg "InvalidCount" = some (.ref (He.ga K "InvalidCount"))
  xc_InvalidCount : xcB "/claim/cut.py" "InvalidCount" ["given", "code", "details"] K = true
  ct_InvalidCount : CatchC K (.ref (He.ga K "TurnError")) (.ref (He.ga K "Missing")) (.ref (He.ga K "NothingLeft")) "code" "details" (He.ga K "InvalidCount")
  g_need_dials : mg "need_dials" = some (.ref (He.ga K "need_dials"))
  g_power_of : mg "power_of" = some (.ref (He.ga K "power_of"))
  k_MOST_SETTINGS : ∃ t, mg "MOST_SETTINGS" = some (.int  (20000) t)
  g_TooMany : mg "TooMany" = some (.ref (He.ga K "TooMany"))
  xc_TooMany : xcB "/claim/cut.py" "TooMany" ["most", "code", "details"] K = true
  ct_TooMany : CatchC K (.ref (He.ga K "TurnError")) (.ref (He.ga K "Missing")) (.ref (He.ga K "NothingLeft")) "code" "details" (He.ga K "TooMany")
  g_need_few : mg "need_few" = some (.ref (He.ga K "need_few"))
  g_setting_of : mg "setting_of" = some (.ref (He.ga K "setting_of"))
  g_settings : mg "settings" = some (.ref (He.ga K "settings"))
  g__law_same : mg "_law_same" = some (.ref (He.ga K "_law_same"))
  g__law_all_rows : mg "_law_all_rows" = some (.ref (He.ga K "_law_all_rows"))
  g__law_got : mg "_law_got" = some (.ref (He.ga K "_law_got"))
  g__law_all_got : mg "_law_all_got" = some (.ref (He.ga K "_law_all_got"))
  qh_ns_InvalidPrime : PySem.W.subIn K (.ref (He.ga K "InvalidPrime")) (.type "StopIteration") = some false
  qh_ns_InvalidCount : PySem.W.subIn K (.ref (He.ga K "InvalidCount")) (.type "StopIteration") = some false
  qh_ns_TooMany : PySem.W.subIn K (.ref (He.ga K "TooMany")) (.type "StopIteration") = some false
  f__law_bag : ∃ fd, ZFun K z__law_bag fd
  f__law_pull : ∃ fd, ZFun K z__law_pull fd
  f__law_of : ∃ fd, ZFun K z__law_of fd
  f__law_prime : ∃ fd, ZFun K z__law_prime fd
  f__law_few : ∃ fd, ZFun K z__law_few fd
  f_is_number : ∃ fd, ZFun K z_is_number fd
  f_is_prime : ∃ fd, ZFun K z_is_prime fd
  f_need_prime : ∃ fd, ZFun K z_need_prime fd
  f_is_within : ∃ fd, ZFun K z_is_within fd
  f_need_dials : ∃ fd, ZFun K z_need_dials fd
  f_power_of : ∃ fd, ZFun K z_power_of fd
  f_need_few : ∃ fd, ZFun K z_need_few fd
  f_setting_of : ∃ fd, ZFun K z_setting_of fd
  f_settings : ∃ fd, ZFun K z_settings fd
  f__law_same : ∃ fd, ZFun K z__law_same fd
  f__law_all_rows : ∃ fd, ZFun K z__law_all_rows fd
  f__law_got : ∃ fd, ZFun K z__law_got fd
  f__law_all_got : ∃ fd, ZFun K z__law_all_got fd
  f_law : ∃ fd, ZFun K z_law fd
  i_InvalidPrime___ : zAt K (z_InvalidPrime___init__.at_ K) = z_InvalidPrime___init__.val ∧ z_InvalidPrime___init__.ok K = true
  i_InvalidCount___ : zAt K (z_InvalidCount___init__.at_ K) = z_InvalidCount___init__.val ∧ z_InvalidCount___init__.ok K = true
  i_TooMany___ : zAt K (z_TooMany___init__.at_ K) = z_TooMany___init__.val ∧ z_TooMany___init__.ok K = true
def excs : List Str := ["InvalidPrime", "InvalidCount", "TooMany"]
/-- slots: 0 _law_script, 1 _law_mixed, 2 _law_cell -/
def L__law_bag_1 (pn : List Nat) : MS := (seqM (asgM pn 1 (opM modI (shareM (callM intF (consO (shareM (opM addD (shareM (opM addD (shareM (opM mulD (nameO 1) (shareM (cM (.int 50051))))) (shareM (opM mulD (shareM (opM modI (shareM (callM intF (consO (nameO 2) nilO))) (shareM (cM (.int 1000039))))) (shareM (cM (.int 881))))))) (shareM (cM (.int 13))))) nilO))) (shareM (cM (.int 2147483579))))) nopM)
def S__law_bag (pn : List Nat) : MS := (seqM (asgM pn 1 (cM (.int 4926))) (seqM (forS pn (.name 2) (seqI (shareM (slM (nameO 0) noP (someP (shareM (cM (.int 63))))))) (L__law_bag_1 pn)) (seqM (retS (lstM (consO (shareM (callM listF (consO (shareM (slM (nameO 0) noP (someP (shareM (cM (.int 63)))))) nilO))) (consO (shareM (cM (.int 0))) (consO (shareM (cM (.int 0))) (consO (nameO 1) (consO (shareM (cM (.int 0))) nilO))))))) nopM)))
def D__law_bag : FnD := runD 3 S__law_bag
/-- slots: 0 _law_bag_here, 1 _law_many, 2 _law_cell, 3 _law_digit, 4 _law_twice -/
def S__law_pull (pn : List Nat) : MS := (seqM (setM 0 (shareM (opM addD (shareM (opM ixF (nameO 0) (shareM (cM (.int 4))))) (shareM (cM (.int 1))))) (shareM (cM (.int 4)))) (seqM (ifS (andM (boM (opM eqF (shareM (opM ixF (nameO 0) (shareM (cM (.int 2))))) (shareM (cM (.int 0))))) (boM (opM ltI (shareM (opM ixF (nameO 0) (shareM (cM (.int 1))))) (shareM (callM lenF (consO (shareM (opM ixF (nameO 0) (shareM (cM (.int 0))))) nilO)))))) (seqM (asgM pn 2 (opM ixF (shareM (opM ixF (nameO 0) (shareM (cM (.int 0))))) (shareM (opM ixF (nameO 0) (shareM (cM (.int 1))))))) (seqM (setM 0 (shareM (opM addD (shareM (opM ixF (nameO 0) (shareM (cM (.int 1))))) (shareM (cM (.int 1))))) (shareM (cM (.int 1)))) (seqM (ifS (boM (opM geI (shareM (callM absF (consO (nameO 2) nilO))) (shareM (opM powI (shareM (cM (.int 10))) (shareM (cM (.int 18))))))) (seqM (setM 0 (shareM (callM absF (consO (nameO 2) nilO))) (shareM (cM (.int 2)))) nopM) (seqM (setM 0 (shareM (opM modI (shareM (callM intF (consO (shareM (opM addD (shareM (opM addD (shareM (opM mulD (shareM (opM ixF (nameO 0) (shareM (cM (.int 3))))) (shareM (cM (.int 44029))))) (shareM (opM mulD (shareM (opM modI (shareM (callM intF (consO (nameO 2) nilO))) (shareM (cM (.int 1000039))))) (shareM (cM (.int 727))))))) (shareM (cM (.int 37))))) nilO))) (shareM (cM (.int 2147483629))))) (shareM (cM (.int 3)))) nopM)) nopM))) nopM) (seqM (ifS (boM (opM gtI (shareM (opM ixF (nameO 0) (shareM (cM (.int 2))))) (shareM (cM (.int 0))))) (seqM (asgM pn 3 (opM modI (shareM (callM intF (consO (shareM (opM ixF (nameO 0) (shareM (cM (.int 2))))) nilO))) (nameO 1))) (seqM (setM 0 (shareM (opM divI (shareM (opM ixF (nameO 0) (shareM (cM (.int 2))))) (nameO 1))) (shareM (cM (.int 2)))) (seqM (retName pn 3) nopM))) nopM) (seqM (asgM pn 4 (opM modI (shareM (callM intF (consO (shareM (opM addD (shareM (opM mulD (shareM (opM ixF (nameO 0) (shareM (cM (.int 3))))) (shareM (opM ixF (nameO 0) (shareM (cM (.int 3))))))) (shareM (opM mulD (shareM (opM ixF (nameO 0) (shareM (cM (.int 4))))) (shareM (cM (.int 8093))))))) nilO))) (shareM (cM (.int 2147483549))))) (seqM (setM 0 (shareM (opM modI (shareM (callM intF (consO (shareM (opM addD (shareM (opM addD (shareM (opM mulD (nameO 4) (shareM (cM (.int 16427))))) (shareM (opM mulD (shareM (opM ixF (nameO 0) (shareM (cM (.int 3))))) (shareM (cM (.int 60029))))))) (shareM (cM (.int 54331))))) nilO))) (shareM (cM (.int 2147483629))))) (shareM (cM (.int 3)))) (seqM (retS (opM modI (shareM (callM intF (consO (shareM (opM divI (shareM (opM ixF (nameO 0) (shareM (cM (.int 3))))) (shareM (cM (.int 64))))) nilO))) (nameO 1))) nopM))))))
def D__law_pull : FnD := runD 5 S__law_pull
/-- slots: 0 _law_bag_here, 1 _law_some -/
def S__law_of (pn : List Nat) : MS := (seqM (retS (opM ixF (nameO 1) (shareM (fnA D__law_pull [.inl 0, .inl 1] (consO (nameO 0) (consO (shareM (callM lenF (consO (nameO 1) nilO))) nilO)) nilO)))) nopM)
def D__law_of : FnD := runD 2 S__law_of
/-- slots: 0 _law_bag_here -/
def S__law_prime (pn : List Nat) : MS := (seqM (retS (fnA D__law_of [.inl 0, .inl 1] (consO (nameO 0) (consO (shareM (lstM (consO (shareM (cM (.int 2))) (consO (shareM (cM (.int 2))) (consO (shareM (cM (.int 3))) (consO (shareM (cM (.int 2))) (consO (shareM (cM (.int 3))) (consO (shareM (cM (.int 5))) (consO (shareM (cM (.int 7))) nilO))))))))) nilO)) nilO)) nopM)
def D__law_prime : FnD := runD 1 S__law_prime
/-- slots: 0 _law_p -/
def S__law_few (pn : List Nat) : MS := (seqM (retS (unM (dcF [(.inl 2, .inl 8), (.inl 3, .inl 5), (.inl 5, .inl 3), (.inl 7, .inl 3)]) (nameO 0))) nopM)
def D__law_few : FnD := runD 1 S__law_few
/-- slots: 0 value -/
def S_is_number (pn : List Nat) : MS := (seqM (retS (andV (unM (isiF .int) (nameO 0)) (notV (unM (isiF .bl) (nameO 0))))) nopM)
def D_is_number : FnD := runD 1 S_is_number
/-- slots: 0 value -/
def S_is_prime (pn : List Nat) : MS := (seqM (retS (andV (fnA (pureF D_is_number) [.inl 0] (consO (nameO 0) nilO) nilO) (opM inX (nameO 0) (shareM (cM (.tup [.int (2), .int (3), .int (5), .int (7)])))))) nopM)
def D_is_prime : FnD := runD 1 S_is_prime
/-- slots: 0 value -/
def S_need_prime (pn : List Nat) : MS := (seqM (ifS (notM (truM (shareM (fnA (pureF D_is_prime) [.inl 0] (consO (nameO 0) nilO) nilO)))) (seqM (raise1 "InvalidPrime" "given" (consO (nameO 0) nilO)) nopM) nopM) nopM)
def D_need_prime : FnD := runD 1 S_need_prime
/-- slots: 0 value, 1 low, 2 high -/
def S_is_within (pn : List Nat) : MS := (seqM (retS (andV (fnA (pureF D_is_number) [.inl 0] (consO (nameO 0) nilO) nilO) (chainM leI leI (nameO 1) (nameO 0) (nameO 2)))) nopM)
def D_is_within : FnD := runD 3 S_is_within
/-- slots: 0 value -/
def S_need_dials (pn : List Nat) : MS := (seqM (ifS (notM (truM (shareM (fnA (pureF D_is_within) [.inl 0, .inl 1, .inl 2] (consO (nameO 0) (consO (shareM (cM (.int 0))) (consO (shareM (cM (.int (200)))) nilO))) nilO)))) (seqM (raise1 "InvalidCount" "given" (consO (nameO 0) nilO)) nopM) nopM) nopM)
def D_need_dials : FnD := runD 1 S_need_dials
/-- slots: 0 prime, 1 many, 2 found, 3 factor -/
def L_power_of_1 (pn : List Nat) : MS := (seqM (asgM pn 2 (opM mulD (nameO 2) (nameO 0))) nopM)
def S_power_of (pn : List Nat) : MS := (seqM (asgM pn 2 (cM (.int 1))) (seqM (forS pn (.name 3) (rngI rng1F (consO (nameO 1) nilO)) (L_power_of_1 pn)) (seqM (retName pn 2) nopM)))
def D_power_of : FnD := runD 4 S_power_of
/-- slots: 0 prime, 1 dials -/
def S_need_few (pn : List Nat) : MS := (seqM (ifS (boM (opM gtI (shareM (fnA (pureF D_power_of) [.inl 0, .inl 1] (consO (nameO 0) (consO (nameO 1) nilO)) nilO)) (shareM (cM (.int (20000)))))) (seqM (raise1 "TooMany" "most" (consO (shareM (cM (.int (20000)))) nilO)) nopM) nopM) nopM)
def D_need_few : FnD := runD 2 S_need_few
/-- slots: 0 prime, 1 number, 2 dials, 3 found, 4 dial -/
def L_setting_of_1 (pn : List Nat) : MS := (seqM (dropM (mutM "list" 3 appF (consO (shareM (opM modI (nameO 1) (nameO 0))) nilO))) (seqM (asgM pn 1 (opM divI (nameO 1) (nameO 0))) nopM))
def S_setting_of (pn : List Nat) : MS := (seqM (dropM (fnA (pureF D_need_prime) [.inl 0] (consO (nameO 0) nilO) nilO)) (seqM (dropM (fnA (pureF D_need_dials) [.inl 0] (consO (nameO 2) nilO) nilO)) (seqM (asgM pn 3 (lstM nilO)) (seqM (forS pn (.name 4) (rngI rng1F (consO (nameO 2) nilO)) (L_setting_of_1 pn)) (seqM (retS (callM tupleF (consO (nameO 3) nilO))) nopM)))))
def D_setting_of : FnD := runD 5 S_setting_of
/-- slots: 0 prime, 1 dials, 2 number -/
def S_settings (pn : List Nat) : GS := (gSeq (gPl (dropM (fnA (pureF D_need_prime) [.inl 0] (consO (nameO 0) nilO) nilO))) (gSeq (gPl (dropM (fnA (pureF D_need_dials) [.inl 0] (consO (nameO 1) nilO) nilO))) (gSeq (gPl (dropM (fnA (pureF D_need_few) [.inl 0, .inl 1] (consO (nameO 0) (consO (nameO 1) nilO)) nilO))) (gSeq (gForS (.name 2) (rngI rng1F (consO (shareM (fnA (pureF D_power_of) [.inl 0, .inl 1] (consO (nameO 0) (consO (nameO 1) nilO)) nilO)) nilO)) (gSeq (gYl (shareM (fnA (pureF D_setting_of) [.inl 0, .inl 1, .inl 2] (consO (nameO 0) (consO (nameO 2) (consO (nameO 1) nilO))) nilO))) gNil)) gNil))))
def D_settings : List RV → List D × GFin := runG 3 (S_settings [])
/-- slots: 0 _law_found, 1 _law_due, 2 _law_a, 3 _law_b -/
def E__law_same_1 (rec : FnD) (pn : List Nat) : M Opd := (shareM (fnA rec [.inl 0, .inl 1] (consO (nameO 2) (consO (nameO 3) nilO)) nilO))
def I__law_same_1 (rec : FnD) (pn : List Nat) : M (List D) := (zipI2 (consO (nameO 0) (consO (nameO 1) nilO)))
def S__law_same (rec : FnD) (pn : List Nat) : MS := (seqM (ifS (truM (shareM (unM (isiTF [.lst, .tup]) (nameO 1)))) (seqM (ifS (orM (boM (opM neF (shareM (unM (isiF .lst) (nameO 0))) (shareM (unM (isiF .lst) (nameO 1))))) (boM (opM neF (shareM (unM (isiF .tup) (nameO 0))) (shareM (unM (isiF .tup) (nameO 1)))))) (seqM (retS (cM (.bl false))) nopM) nopM) (seqM (retS (andV (opM eqF (shareM (callM lenF (consO (nameO 0) nilO))) (shareM (callM lenF (consO (nameO 1) nilO)))) (callM allF (consO (shareM (lcM pn [2, 3] (.tup [(.name 2), (.name 3)]) (I__law_same_1 rec pn) yesM (E__law_same_1 rec pn))) nilO)))) nopM)) nopM) (seqM (ifS (orM (boM (opM isF (nameO 1) (shareM (cM .non)))) (boM (opM isF (nameO 0) (shareM (cM .non))))) (seqM (retS (andV (opM isF (nameO 1) (shareM (cM .non))) (opM isF (nameO 0) (shareM (cM .non))))) nopM) nopM) (seqM (ifS (orM (boM (opM neF (shareM (unM (isiF .bl) (nameO 1))) (shareM (unM (isiF .bl) (nameO 0))))) (boM (opM neF (shareM (unM (isiF .int) (nameO 1))) (shareM (unM (isiF .int) (nameO 0)))))) (seqM (retS (cM (.bl false))) nopM) nopM) (seqM (retS (andV (opM eqF (shareM (unM (isiF .str) (nameO 1))) (shareM (unM (isiF .str) (nameO 0)))) (opM eqF (nameO 0) (nameO 1)))) nopM))))
def D__law_same : Nat → FnD
  | 0 => runD 4 fun _ => neverS
  | k + 1 => runD 4 (S__law_same (D__law_same k))
/-- slots: 0 _law_p, 1 _law_many, 2 _law_found, 3 _law_k, 4 _law_late, 5 _law_x, 6 _law_row -/
def E__law_all_rows_1 (pn : List Nat) : M Opd := (shareM (opM addD (nameO 6) (shareM (tupM (consO (nameO 5) nilO)))))
def I__law_all_rows_1 (pn : List Nat) : M (List D) := (seqI (nameO 2))
def L__law_all_rows_1 (pn : List Nat) : MS := (seqM (asgM pn 4 (opM addD (nameO 4) (shareM (lcM pn [6] (.name 6) (I__law_all_rows_1 pn) yesM (E__law_all_rows_1 pn))))) nopM)
def L__law_all_rows_2 (pn : List Nat) : MS := (seqM (asgM pn 4 (lstM nilO)) (seqM (forS pn (.name 5) (rngI rng1F (consO (nameO 0) nilO)) (L__law_all_rows_1 pn)) (seqM (asgM pn 2 (takeM (nameO 4))) nopM)))
def S__law_all_rows (pn : List Nat) : MS := (seqM (asgM pn 2 (lstM (consO (shareM (tupM nilO)) nilO))) (seqM (forS pn (.name 3) (rngI rng1F (consO (nameO 1) nilO)) (L__law_all_rows_2 pn)) (seqM (retName pn 2) nopM)))
def D__law_all_rows : FnD := runD 7 S__law_all_rows
noncomputable section
def I_0 : LamI := lamOf (eIn 0 (sVal (sIn 0 6 ((defBody (top 30)).getD 1 noS)))) (("law" : Str) ++ ".<locals>." ++ "<lambda>") (defScope (top 30)).names none []
/-- slots: 0 _law_bad, 1 _law_far -/
def B_0 (pn : List Nat) : M RV := (lgM excs (gnA D_settings [.inl 0, .inl 1] (consO (nameO 0) (consO (nameO 1) nilO)) nilO))
def I_1 : LamI := lamOf (eIn 1 (sVal (sIn 0 6 ((defBody (top 30)).getD 1 noS)))) (("law" : Str) ++ ".<locals>." ++ "<lambda>") (defScope (top 30)).names (some 0) []
/-- slots: 0 _law_far, 1 _law_p, 2 _law_a -/
def B_1 (pn : List Nat) : M RV := (lgM excs (gnA D_settings [.inl 0, .inl 1] (consO (nameO 1) (consO (nameO 0) nilO)) nilO))
def I_2 : LamI := lamOf (eIn 0 (eIn 1 (sVal (sIn 0 7 ((defBody (top 30)).getD 1 noS))))) (("law" : Str) ++ ".<locals>." ++ "<lambda>") (defScope (top 30)).names none []
/-- slots: 0 _law_most_z, 1 _law_p -/
def B_2 (pn : List Nat) : M RV := (lgM excs (gnA D_settings [.inl 0, .inl 1] (consO (nameO 1) (consO (shareM (opM addD (nameO 0) (shareM (cM (.int 1))))) nilO)) nilO))
def I_3 : LamI := lamOf (eIn 1 (eIn 1 (sVal (sIn 0 7 ((defBody (top 30)).getD 1 noS))))) (("law" : Str) ++ ".<locals>." ++ "<lambda>") (defScope (top 30)).names (some 0) []
/-- slots: 0 _law_p, 1 _law_a -/
def B_3 (pn : List Nat) : M RV := (lgM excs (gnA D_settings [.inl 0, .inl 1] (consO (nameO 0) (consO (shareM (cM (.int 200))) nilO)) nilO))
def I_4 : LamI := lamOf (eIn 0 (sVal (sIn 0 10 ((defBody (top 30)).getD 1 noS)))) (("law" : Str) ++ ".<locals>." ++ "<lambda>") (defScope (top 30)).names none ["_law_one"]
/-- slots: 0 _law_bad, 1 _law_far, 2 _law_one -/
def E_c4_1 (pn : List Nat) : M Opd := (nameO 2)
def I_c4_1 (pn : List Nat) : M (List D) := (z0M (gnA D_settings [.inl 0, .inl 1] (consO (nameO 0) (consO (nameO 1) nilO)) nilO))
def B_4 (pn : List Nat) : M RV := (lcM pn [2] (.name 2) (I_c4_1 pn) yesM (E_c4_1 pn))
def I_5 : LamI := lamOf (eIn 1 (sVal (sIn 0 10 ((defBody (top 30)).getD 1 noS)))) (("law" : Str) ++ ".<locals>." ++ "<lambda>") (defScope (top 30)).names (some 0) ["_law_one"]
/-- slots: 0 _law_p, 1 _law_a, 2 _law_one -/
def E_c5_1 (pn : List Nat) : M Opd := (nameO 2)
def I_c5_1 (pn : List Nat) : M (List D) := (z0M (gnA D_settings [.inl 0, .inl 1] (consO (nameO 0) (consO (shareM (cM (.int 200))) nilO)) nilO))
def B_5 (pn : List Nat) : M RV := (lcM pn [2] (.name 2) (I_c5_1 pn) yesM (E_c5_1 pn))
open Classical in
noncomputable def lamT : LamT := fun k I ds as => match k with
  | 0 => if I = I_0 ∧ ds.length = 2 ∧ as.length = 0 ∧ noLams ds = true ∧ noLams as = true then lamRun 2 (B_0 []) ((ds ++ as).map .sh ++ dflR I_0) else .stk
  | 1 => if I = I_1 ∧ ds.length = 2 ∧ as.length = 0 ∧ noLams ds = true ∧ noLams as = true then lamRun 3 (B_1 []) ((ds ++ as).map .sh ++ dflR I_1) else .stk
  | 2 => if I = I_2 ∧ ds.length = 2 ∧ as.length = 0 ∧ noLams ds = true ∧ noLams as = true then lamRun 2 (B_2 []) ((ds ++ as).map .sh ++ dflR I_2) else .stk
  | 3 => if I = I_3 ∧ ds.length = 1 ∧ as.length = 0 ∧ noLams ds = true ∧ noLams as = true then lamRun 2 (B_3 []) ((ds ++ as).map .sh ++ dflR I_3) else .stk
  | 4 => if I = I_4 ∧ ds.length = 2 ∧ as.length = 0 ∧ noLams ds = true ∧ noLams as = true then lamRun 3 (B_4 []) ((ds ++ as).map .sh ++ dflR I_4) else .stk
  | 5 => if I = I_5 ∧ ds.length = 1 ∧ as.length = 0 ∧ noLams ds = true ∧ noLams as = true then lamRun 3 (B_5 []) ((ds ++ as).map .sh ++ dflR I_5) else .stk
  | _ => .stk
theorem lamT_0 {d0 d1 : D} (h : noLam d0 = true ∧ noLam d1 = true) : lamT 0 I_0 [d0, d1] [] = lamRun 2 (B_0 []) [.sh d0, .sh d1] := by
  unfold lamT
  exact (if_pos ⟨rfl, rfl, rfl, by simp only [noLams, Bool.and_true, Bool.and_eq_true, h, and_self], by simp only [noLams, Bool.and_true, Bool.and_eq_true, h, and_self]⟩).trans rfl
theorem lamT_1 {d0 d1 : D} (h : noLam d0 = true ∧ noLam d1 = true) : lamT 1 I_1 [d0, d1] [] = lamRun 3 (B_1 []) [.sh d0, .sh d1, .sh (.int 0)] := by
  unfold lamT
  exact (if_pos ⟨rfl, rfl, rfl, by simp only [noLams, Bool.and_true, Bool.and_eq_true, h, and_self], by simp only [noLams, Bool.and_true, Bool.and_eq_true, h, and_self]⟩).trans rfl
theorem lamT_2 {d0 d1 : D} (h : noLam d0 = true ∧ noLam d1 = true) : lamT 2 I_2 [d0, d1] [] = lamRun 2 (B_2 []) [.sh d0, .sh d1] := by
  unfold lamT
  exact (if_pos ⟨rfl, rfl, rfl, by simp only [noLams, Bool.and_true, Bool.and_eq_true, h, and_self], by simp only [noLams, Bool.and_true, Bool.and_eq_true, h, and_self]⟩).trans rfl
theorem lamT_3 {d0 : D} (h : noLam d0 = true) : lamT 3 I_3 [d0] [] = lamRun 2 (B_3 []) [.sh d0, .sh (.int 0)] := by
  unfold lamT
  exact (if_pos ⟨rfl, rfl, rfl, by simp only [noLams, Bool.and_true, Bool.and_eq_true, h, and_self], by simp only [noLams, Bool.and_true, Bool.and_eq_true, h, and_self]⟩).trans rfl
theorem lamT_4 {d0 d1 : D} (h : noLam d0 = true ∧ noLam d1 = true) : lamT 4 I_4 [d0, d1] [] = lamRun 3 (B_4 []) [.sh d0, .sh d1] := by
  unfold lamT
  exact (if_pos ⟨rfl, rfl, rfl, by simp only [noLams, Bool.and_true, Bool.and_eq_true, h, and_self], by simp only [noLams, Bool.and_true, Bool.and_eq_true, h, and_self]⟩).trans rfl
theorem lamT_5 {d0 : D} (h : noLam d0 = true) : lamT 5 I_5 [d0] [] = lamRun 3 (B_5 []) [.sh d0, .sh (.int 0)] := by
  unfold lamT
  exact (if_pos ⟨rfl, rfl, rfl, by simp only [noLams, Bool.and_true, Bool.and_eq_true, h, and_self], by simp only [noLams, Bool.and_true, Bool.and_eq_true, h, and_self]⟩).trans rfl
/-- slots: 0 _law_ask, 1 _law_said, 2 e -/
def S__law_got (pn : List Nat) : MS := (seqM (asgM pn 1 (tupM (consO (shareM (cM (.str ""))) (consO (shareM (cM .non)) nilO)))) (seqM (tellS excs pn 2 1 "code" "details" (seqM (asgM pn 1 (tupM (consO (shareM (cM (.str ""))) (consO (shareM (lcallM lamT 0 nilO)) nilO)))) nopM)) (seqM (retName pn 1) nopM)))
def D__law_got : FnD := runD 3 S__law_got
/-- slots: 0 _law_asks, 1 _law_ask -/
def E__law_all_got_1 (pn : List Nat) : M Opd := (shareM (fnA (pureF D__law_got) [.inl 0] (consO (nameO 1) nilO) nilO))
def I__law_all_got_1 (pn : List Nat) : M (List D) := (seqI (nameO 0))
def S__law_all_got (pn : List Nat) : MS := (seqM (retS (lcM pn [1] (.name 1) (I__law_all_got_1 pn) yesM (E__law_all_got_1 pn))) nopM)
def D__law_all_got : FnD := runD 2 S__law_all_got
open Classical in
noncomputable def cap_law : CapT := fun k I => match k with
  | 0 => if I = I_0 then some [8, 7] else none
  | 1 => if I = I_1 then some [7, 3] else none
  | 2 => if I = I_2 then some [6, 3] else none
  | 3 => if I = I_3 then some [3] else none
  | 4 => if I = I_4 then some [8, 7] else none
  | 5 => if I = I_5 then some [3] else none
  | _ => none
theorem cap_law_0 : cap_law 0 I_0 = some [8, 7] := by unfold cap_law; exact if_pos rfl
theorem cap_law_1 : cap_law 1 I_1 = some [7, 3] := by unfold cap_law; exact if_pos rfl
theorem cap_law_2 : cap_law 2 I_2 = some [6, 3] := by unfold cap_law; exact if_pos rfl
theorem cap_law_3 : cap_law 3 I_3 = some [3] := by unfold cap_law; exact if_pos rfl
theorem cap_law_4 : cap_law 4 I_4 = some [8, 7] := by unfold cap_law; exact if_pos rfl
theorem cap_law_5 : cap_law 5 I_5 = some [3] := by unfold cap_law; exact if_pos rfl
/-- slots: 0 _law_script, 1 _law_bag_here, 2 _law_turn_z, 3 _law_p, 4 _law_many, 5 _law_found, 6 _law_most_z, 7 _law_far, 8 _law_bad, 9 _law_asks, 10 _law_due, 11 _law_wide, 12 _law_row -/
def E_law_1 (L : Nat) (pn : List Nat) : M Opd := (nameO 12)
def I_law_1 (L : Nat) (pn : List Nat) : M (List D) := (okG (gnA D_settings [.inl 0, .inl 1] (consO (nameO 3) (consO (nameO 4) nilO)) nilO))
def L_law_1 (L : Nat) (pn : List Nat) : MS := (seqM (asgM pn 3 (fnA D__law_prime [.inl 0] (consO (nameO 1) nilO) nilO)) (seqM (asgM pn 4 (fnA D__law_pull [.inl 0, .inl 1] (consO (nameO 1) (consO (shareM (opM addD (shareM (fnA (pureF D__law_few) [.inl 0] (consO (nameO 3) nilO) nilO)) (shareM (cM (.int 1))))) nilO)) nilO)) (seqM (asgM pn 5 (lcM pn [12] (.name 12) (I_law_1 L pn) yesM (E_law_1 L pn))) (seqM (ifS (orM (notM (truM (shareM (fnA (pureF (D__law_same 8)) [.inl 0, .inl 1] (consO (nameO 5) (consO (shareM (fnA (pureF D__law_all_rows) [.inl 0, .inl 1] (consO (nameO 3) (consO (nameO 4) nilO)) nilO)) nilO)) nilO)))) (boM (opM neF (shareM (lgM excs (gnA D_settings [.inl 1, .inl 0] nilO (consO (nameO 4) (consO (nameO 3) nilO))))) (nameO 5)))) (seqM (retS (cM (.bl false))) nopM) nopM) (seqM (asgM pn 6 (unM (dcF [(.inl 2, .inl 14), (.inl 3, .inl 9), (.inl 5, .inl 6), (.inl 7, .inl 5)]) (nameO 3))) (seqM (par2 pn 7 8 (fnA D__law_of [.inl 0, .inl 1] (consO (nameO 1) (consO (shareM (lstM (consO (shareM (unM negF (shareM (cM (.int 1))))) (consO (shareM (cM (.int 201))) (consO (shareM (cM .non)) (consO (shareM (cM (.str "1"))) (consO (shareM (cM (.bl true))) nilO))))))) nilO)) nilO) (fnA D__law_of [.inl 0, .inl 1] (consO (nameO 1) (consO (shareM (lstM (consO (shareM (cM (.int 6))) (consO (shareM (cM (.int 0))) (consO (shareM (cM .non)) (consO (shareM (cM (.bl true))) nilO)))))) nilO)) nilO)) (seqM (asgM pn 9 (lstM (consO (shareM (lamM 0 I_0 L)) (consO (shareM (lamM 1 I_1 L)) nilO)))) (seqM (asgM pn 9 (opM addD (nameO 9) (shareM (lstM (consO (shareM (lamM 2 I_2 L)) (consO (shareM (lamM 3 I_3 L)) nilO)))))) (seqM (asgM pn 10 (lstM (consO (shareM (tupM (consO (shareM (cM (.str "InvalidPrime"))) (consO (shareM (tupM (consO (nameO 8) nilO))) nilO)))) (consO (shareM (tupM (consO (shareM (cM (.str "InvalidCount"))) (consO (shareM (tupM (consO (nameO 7) nilO))) nilO)))) (consO (shareM (tupM (consO (shareM (cM (.str "TooMany"))) (consO (shareM (tupM (consO (shareM (cM (.int 20000))) nilO))) nilO)))) (consO (shareM (tupM (consO (shareM (cM (.str "TooMany"))) (consO (shareM (tupM (consO (shareM (cM (.int 20000))) nilO))) nilO)))) nilO)))))) (seqM (ifS (notM (truM (shareM (fnA (pureF (D__law_same 8)) [.inl 0, .inl 1] (consO (shareM (lendM L cap_law D__law_all_got (consO (nameO 9) nilO))) (consO (nameO 10) nilO)) nilO)))) (seqM (retS (cM (.bl false))) nopM) nopM) (seqM (asgM pn 9 (lstM (consO (shareM (lamM 4 I_4 L)) (consO (shareM (lamM 5 I_5 L)) nilO)))) (seqM (ifS (notM (truM (shareM (fnA (pureF (D__law_same 8)) [.inl 0, .inl 1] (consO (shareM (lendM L cap_law D__law_all_got (consO (nameO 9) nilO))) (consO (shareM (opM mulD (shareM (lstM (consO (shareM (tupM (consO (shareM (cM (.str ""))) (consO (shareM (lstM nilO)) nilO)))) nilO))) (shareM (cM (.int 2))))) nilO)) nilO)))) (seqM (retS (cM (.bl false))) nopM) nopM) nopM))))))))))))
def E_law_2 (L : Nat) (pn : List Nat) : M Opd := (nameO 12)
def I_law_2 (L : Nat) (pn : List Nat) : M (List D) := (okG (gnA D_settings [.inl 0, .inl 1] (consO (nameO 7) (consO (shareM (unM (dcF [(.inl 2, .inl 14), (.inl 3, .inl 9), (.inl 5, .inl 6), (.inl 7, .inl 5)]) (nameO 7))) nilO)) nilO))
def S_law (L : Nat) (pn : List Nat) : MS := (seqM (asgM pn 1 (fnA (pureF D__law_bag) [.inl 0] (consO (nameO 0) nilO) nilO)) (seqM (forS pn (.name 2) (rngI rng1F (consO (shareM (cM (.int 3))) nilO)) (L_law_1 L pn)) (seqM (asgM pn 7 (fnA D__law_of [.inl 0, .inl 1] (consO (nameO 1) (consO (shareM (lstM (consO (shareM (cM (.int 2))) (consO (shareM (cM (.int 3))) (consO (shareM (cM (.int 5))) (consO (shareM (cM (.int 7))) nilO)))))) nilO)) nilO)) (seqM (asgM pn 11 (lcM pn [12] (.name 12) (I_law_2 L pn) yesM (E_law_2 L pn))) (seqM (asgM pn 10 (unM (dcF [(.inl 2, .inl 16384), (.inl 3, .inl 19683), (.inl 5, .inl 15625), (.inl 7, .inl 16807)]) (nameO 7))) (seqM (retS (andV (opM eqF (shareM (callM lenF (consO (nameO 11) nilO))) (nameO 10)) (fnA (pureF (D__law_same 8)) [.inl 0, .inl 1] (consO (shareM (opM ixF (nameO 11) (shareM (opM subI (nameO 10) (shareM (cM (.int 2))))))) (consO (shareM (opM addD (shareM (tupM (consO (shareM (opM subI (nameO 7) (shareM (cM (.int 2))))) nilO))) (shareM (opM mulX (shareM (tupM (consO (shareM (opM subI (nameO 7) (shareM (cM (.int 1))))) nilO))) (shareM (opM subI (shareM (callM lenF (consO (shareM (opM ixF (nameO 11) (shareM (cM (.int 0))))) nilO))) (shareM (cM (.int 1))))))))) nilO)) nilO))) nopM))))))
def D_law (L : Nat) : FnD := runD 13 (S_law L)
end
end Y
namespace Y
open PySem PySem.Spec PyProof.Rows L2 Z
section
variable {Pr : Program} {w : World} {K : PySem.W.Frag} {mg : Str → Option Value} {base : Heap}
theorem ok_x_InvalidPrime (PO : PrOk Pr "/claim/cut.py") (T : Txt K mg) : Exc1 Pr w K mg base 1 "InvalidPrime" "given" := exc1_of PO T.g_InvalidPrime T.n_super T.xc_InvalidPrime (d := z_InvalidPrime___init__) rfl rfl T.i_InvalidPrime___ rfl ⟨rfl, rfl, rfl, by decide +kernel, rfl, by decide +kernel, by decide +kernel, by decide +kernel, rfl, rfl⟩ rfl rfl (fun _ _ _ _ _ _ _ us h => match us, h with | [_, _], _ => rfl) (fun _ => rfl) (fun _ => rfl) (fun _ => rfl) (fun _ => rfl) (fun _ => rfl) (by decide) (by decide)
theorem ok_x_InvalidCount (PO : PrOk Pr "/claim/cut.py") (T : Txt K mg) : Exc1 Pr w K mg base 1 "InvalidCount" "given" := exc1_of PO T.g_InvalidCount T.n_super T.xc_InvalidCount (d := z_InvalidCount___init__) rfl rfl T.i_InvalidCount___ rfl ⟨rfl, rfl, rfl, by decide +kernel, rfl, by decide +kernel, by decide +kernel, by decide +kernel, rfl, rfl⟩ rfl rfl (fun _ _ _ _ _ _ _ us h => match us, h with | [_, _], _ => rfl) (fun _ => rfl) (fun _ => rfl) (fun _ => rfl) (fun _ => rfl) (fun _ => rfl) (by decide) (by decide)
theorem ok_x_TooMany (PO : PrOk Pr "/claim/cut.py") (T : Txt K mg) : Exc1 Pr w K mg base 1 "TooMany" "most" := exc1_of PO T.g_TooMany T.n_super T.xc_TooMany (d := z_TooMany___init__) rfl rfl T.i_TooMany___ rfl ⟨rfl, rfl, rfl, by decide +kernel, rfl, by decide +kernel, by decide +kernel, by decide +kernel, rfl, rfl⟩ rfl rfl (fun _ _ _ _ _ _ _ us h => match us, h with | [_, _], _ => rfl) (fun _ => rfl) (fun _ => rfl) (fun _ => rfl) (fun _ => rfl) (fun _ => rfl) (by decide) (by decide)
theorem nstop (T : Txt K mg) : ∀ c ∈ excs, ∀ C, mg c = some (.ref C) → PySem.W.subIn K (.ref C) (.type "StopIteration") = some false := by
  intro c hc C h
  simp only [excs, List.mem_cons, List.not_mem_nil, or_false] at hc
  rcases hc with rfl | rfl | rfl
  · rw [T.g_InvalidPrime] at h; cases h; exact T.qh_ns_InvalidPrime
  · rw [T.g_InvalidCount] at h; cases h; exact T.qh_ns_InvalidCount
  · rw [T.g_TooMany] at h; cases h; exact T.qh_ns_TooMany
theorem sc__law_bag : FnScope ["_law_script", "_law_mixed", "_law_cell"] ["_law_script"] (defScope z__law_bag.st) := ⟨rfl, rfl, rfl, by decide +kernel, rfl, by decide +kernel, by decide +kernel⟩
theorem ok__law_bag (PO : PrOk Pr "/claim/cut.py") (TB : ∀ p ∈ tabsK K, LamX.TabB base mg p.1 p.2) (T : Txt K mg) {fd : FuncData} (F : ZFun K z__law_bag fd) : FnOk Pr w K mg base (L2.CX Pr w) (1) (z__law_bag.at_ K) fd ["_law_script"] (spOf K mg 1 D__law_bag) := by
  have sc := sc__law_bag
  exact fn_ok (k := 0) (N := ["_law_script", "_law_mixed", "_law_cell"]) (ps := ["_law_script"]) (s := S__law_bag) F sc fun pn cdv A outer sh H E hr => conv (qss_cons (qs_asg (i := 1) sc.nd rfl (by and_intros) qv_int rfl (.inl rfl)) (qss_cons (qs_for (passes_of rfl) rfl (qi_seq (qo_v (qv_sl (qo_name (i := 0) rfl (by rfl') (by decide) (by decide)) qp_none (qp_some (qo_v qv_int))))) (qg_name (i := 2) sc.nd rfl (by and_intros) (by and_intros)) (qss_cons (qs_asg (i := 1) sc.nd rfl (by and_intros) (qv_op op_mod s_modI (qo_v (qv_callTy cr_int1 s_intF rfl T.n_int PyProof.Rows.boot_int (qs_cons (qo_v (qv_op o_add s_addX (qo_v (qv_op o_add s_addX (qo_v (qv_op o_mul s_mulX (qo_name (i := 1) rfl (by rfl') (by decide) (by decide)) (qo_v qv_int))) (qo_v (qv_op o_mul s_mulX (qo_v (qv_op op_mod s_modI (qo_v (qv_callTy cr_int1 s_intF rfl T.n_int PyProof.Rows.boot_int (qs_cons (qo_name (i := 2) rfl (by rfl') (by decide) (by decide)) qs_nil rfl) (by decide) (by decide) rfl rfl)) (qo_v qv_int))) (qo_v qv_int))))) (qo_v qv_int))) qs_nil rfl) (by decide) (by decide) rfl rfl)) (qo_v qv_int)) rfl (.inl rfl)) qss_nil) (fun _ => rfl)) (qss_cons (qs_ret (qv_lst (qs_cons (qo_v (qv_callTy call_list_of s_listF rfl T.n_list PyProof.Rows.boot_list (qs_cons (qo_v (qv_sl (qo_name (i := 0) rfl (by rfl') (by decide) (by decide)) qp_none (qp_some (qo_v qv_int)))) qs_nil rfl) (by decide) (by decide) rfl rfl)) (qs_cons (qo_v qv_int) (qs_cons (qo_v qv_int) (qs_cons (qo_name (i := 1) rfl (by rfl') (by decide) (by decide)) (qs_cons (qo_v qv_int) qs_nil rfl) rfl) rfl) rfl) rfl))) qss_nil))) rfl
theorem sc__law_pull : FnScope ["_law_bag_here", "_law_many", "_law_cell", "_law_digit", "_law_twice"] ["_law_bag_here", "_law_many"] (defScope z__law_pull.st) := ⟨rfl, rfl, rfl, by decide +kernel, rfl, by decide +kernel, by decide +kernel⟩
theorem ok__law_pull (PO : PrOk Pr "/claim/cut.py") (TB : ∀ p ∈ tabsK K, LamX.TabB base mg p.1 p.2) (T : Txt K mg) {fd : FuncData} (F : ZFun K z__law_pull fd) : FnOk Pr w K mg base (L2.CX Pr w) (1) (z__law_pull.at_ K) fd ["_law_bag_here", "_law_many"] (spOf K mg 2 D__law_pull) := by
  have sc := sc__law_pull
  exact fn_ok (k := 0) (N := ["_law_bag_here", "_law_many", "_law_cell", "_law_digit", "_law_twice"]) (ps := ["_law_bag_here", "_law_many"]) (s := S__law_pull) F sc fun pn cdv A outer sh H E hr => conv (qss_cons (qs_setL (i := 0) rfl (by rfl') (by decide) (by decide) (qo_v (qv_op o_add s_addX (qo_v (qv_ix ix_seq s_ixF (qo_name (i := 0) rfl (by rfl') (by decide) (by decide)) (qo_v qv_int) (fun _ _ => rfl))) (qo_v qv_int))) (qo_v qv_int) (fun _ => rfl) rfl rfl rfl) (qss_cons (qs_if (qt_w (qw_and (qt_cmp (op_eqD (u64 hr)) s_eqF (qo_v (qv_ix ix_seq s_ixF (qo_name (i := 0) rfl (by rfl') (by decide) (by decide)) (qo_v qv_int) (fun _ _ => rfl))) (qo_v qv_int) (nomark _)) (qw_and1 (qt_cmp op_lt s_ltI (qo_v (qv_ix ix_seq s_ixF (qo_name (i := 0) rfl (by rfl') (by decide) (by decide)) (qo_v qv_int) (fun _ _ => rfl))) (qo_v (qv_callB cr_len1 s_lenF rfl T.n_len boot_len (qs_cons (qo_v (qv_ix ix_seq s_ixF (qo_name (i := 0) rfl (by rfl') (by decide) (by decide)) (qo_v qv_int) (fun _ _ => rfl))) qs_nil rfl) (by decide) (by decide) rfl rfl)) (nomark _))))) (qss_cons (qs_asg (i := 2) sc.nd rfl (by and_intros) (qv_ix ix_seq s_ixF (qo_v (qv_ix ix_seq s_ixF (qo_name (i := 0) rfl (by rfl') (by decide) (by decide)) (qo_v qv_int) (fun _ _ => rfl))) (qo_v (qv_ix ix_seq s_ixF (qo_name (i := 0) rfl (by rfl') (by decide) (by decide)) (qo_v qv_int) (fun _ _ => rfl))) (fun _ _ => rfl)) rfl (.inl rfl)) (qss_cons (qs_setL (i := 0) rfl (by rfl') (by decide) (by decide) (qo_v (qv_op o_add s_addX (qo_v (qv_ix ix_seq s_ixF (qo_name (i := 0) rfl (by rfl') (by decide) (by decide)) (qo_v qv_int) (fun _ _ => rfl))) (qo_v qv_int))) (qo_v qv_int) (fun _ => rfl) rfl rfl rfl) (qss_cons (qs_if (qt_cmp op_ge s_geI (qo_v (qv_callB call_abs s_absF rfl T.n_abs PyProof.Rows.boot_abs (qs_cons (qo_name (i := 2) rfl (by rfl') (by decide) (by decide)) qs_nil rfl) (by decide) (by decide) rfl rfl)) (qo_v (qv_op op_pow s_powI (qo_v qv_int) (qo_v qv_int))) (nomark _)) (qss_cons (qs_setL (i := 0) rfl (by rfl') (by decide) (by decide) (qo_v (qv_callB call_abs s_absF rfl T.n_abs PyProof.Rows.boot_abs (qs_cons (qo_name (i := 2) rfl (by rfl') (by decide) (by decide)) qs_nil rfl) (by decide) (by decide) rfl rfl)) (qo_v qv_int) (fun _ => rfl) rfl rfl rfl) qss_nil) (qss_cons (qs_setL (i := 0) rfl (by rfl') (by decide) (by decide) (qo_v (qv_op op_mod s_modI (qo_v (qv_callTy cr_int1 s_intF rfl T.n_int PyProof.Rows.boot_int (qs_cons (qo_v (qv_op o_add s_addX (qo_v (qv_op o_add s_addX (qo_v (qv_op o_mul s_mulX (qo_v (qv_ix ix_seq s_ixF (qo_name (i := 0) rfl (by rfl') (by decide) (by decide)) (qo_v qv_int) (fun _ _ => rfl))) (qo_v qv_int))) (qo_v (qv_op o_mul s_mulX (qo_v (qv_op op_mod s_modI (qo_v (qv_callTy cr_int1 s_intF rfl T.n_int PyProof.Rows.boot_int (qs_cons (qo_name (i := 2) rfl (by rfl') (by decide) (by decide)) qs_nil rfl) (by decide) (by decide) rfl rfl)) (qo_v qv_int))) (qo_v qv_int))))) (qo_v qv_int))) qs_nil rfl) (by decide) (by decide) rfl rfl)) (qo_v qv_int))) (qo_v qv_int) (fun _ => rfl) rfl rfl rfl) qss_nil)) qss_nil))) qss_nil) (qss_cons (qs_if (qt_cmp op_gt s_gtI (qo_v (qv_ix ix_seq s_ixF (qo_name (i := 0) rfl (by rfl') (by decide) (by decide)) (qo_v qv_int) (fun _ _ => rfl))) (qo_v qv_int) (nomark _)) (qss_cons (qs_asg (i := 3) sc.nd rfl (by and_intros) (qv_op op_mod s_modI (qo_v (qv_callTy cr_int1 s_intF rfl T.n_int PyProof.Rows.boot_int (qs_cons (qo_v (qv_ix ix_seq s_ixF (qo_name (i := 0) rfl (by rfl') (by decide) (by decide)) (qo_v qv_int) (fun _ _ => rfl))) qs_nil rfl) (by decide) (by decide) rfl rfl)) (qo_name (i := 1) rfl (by rfl') (by decide) (by decide))) rfl (.inl rfl)) (qss_cons (qs_setL (i := 0) rfl (by rfl') (by decide) (by decide) (qo_v (qv_op op_fdiv s_divI (qo_v (qv_ix ix_seq s_ixF (qo_name (i := 0) rfl (by rfl') (by decide) (by decide)) (qo_v qv_int) (fun _ _ => rfl))) (qo_name (i := 1) rfl (by rfl') (by decide) (by decide)))) (qo_v qv_int) (fun _ => rfl) rfl rfl rfl) (qss_cons (qs_retName (i := 3) rfl (by rfl') (by decide) (by decide)) qss_nil))) qss_nil) (qss_cons (qs_asg (i := 4) sc.nd rfl (by and_intros) (qv_op op_mod s_modI (qo_v (qv_callTy cr_int1 s_intF rfl T.n_int PyProof.Rows.boot_int (qs_cons (qo_v (qv_op o_add s_addX (qo_v (qv_op o_mul s_mulX (qo_v (qv_ix ix_seq s_ixF (qo_name (i := 0) rfl (by rfl') (by decide) (by decide)) (qo_v qv_int) (fun _ _ => rfl))) (qo_v (qv_ix ix_seq s_ixF (qo_name (i := 0) rfl (by rfl') (by decide) (by decide)) (qo_v qv_int) (fun _ _ => rfl))))) (qo_v (qv_op o_mul s_mulX (qo_v (qv_ix ix_seq s_ixF (qo_name (i := 0) rfl (by rfl') (by decide) (by decide)) (qo_v qv_int) (fun _ _ => rfl))) (qo_v qv_int))))) qs_nil rfl) (by decide) (by decide) rfl rfl)) (qo_v qv_int)) rfl (.inl rfl)) (qss_cons (qs_setL (i := 0) rfl (by rfl') (by decide) (by decide) (qo_v (qv_op op_mod s_modI (qo_v (qv_callTy cr_int1 s_intF rfl T.n_int PyProof.Rows.boot_int (qs_cons (qo_v (qv_op o_add s_addX (qo_v (qv_op o_add s_addX (qo_v (qv_op o_mul s_mulX (qo_name (i := 4) rfl (by rfl') (by decide) (by decide)) (qo_v qv_int))) (qo_v (qv_op o_mul s_mulX (qo_v (qv_ix ix_seq s_ixF (qo_name (i := 0) rfl (by rfl') (by decide) (by decide)) (qo_v qv_int) (fun _ _ => rfl))) (qo_v qv_int))))) (qo_v qv_int))) qs_nil rfl) (by decide) (by decide) rfl rfl)) (qo_v qv_int))) (qo_v qv_int) (fun _ => rfl) rfl rfl rfl) (qss_cons (qs_ret (qv_op op_mod s_modI (qo_v (qv_callTy cr_int1 s_intF rfl T.n_int PyProof.Rows.boot_int (qs_cons (qo_v (qv_op op_fdiv s_divI (qo_v (qv_ix ix_seq s_ixF (qo_name (i := 0) rfl (by rfl') (by decide) (by decide)) (qo_v qv_int) (fun _ _ => rfl))) (qo_v qv_int))) qs_nil rfl) (by decide) (by decide) rfl rfl)) (qo_name (i := 1) rfl (by rfl') (by decide) (by decide)))) qss_nil)))))) rfl
theorem sc__law_of : FnScope ["_law_bag_here", "_law_some"] ["_law_bag_here", "_law_some"] (defScope z__law_of.st) := ⟨rfl, rfl, rfl, by decide +kernel, rfl, by decide +kernel, by decide +kernel⟩
theorem ok__law_of (PO : PrOk Pr "/claim/cut.py") (TB : ∀ p ∈ tabsK K, LamX.TabB base mg p.1 p.2) (T : Txt K mg) {fd : FuncData} (F : ZFun K z__law_of fd) : FnOk Pr w K mg base (L2.CX Pr w) (2) (z__law_of.at_ K) fd ["_law_bag_here", "_law_some"] (spOf K mg 2 D__law_of) := by
  have sc := sc__law_of
  obtain ⟨fd__law_pull, F__law_pull⟩ := T.f__law_pull
  have G__law_pull := ok__law_pull (Pr := Pr) (w := w) (base := base) PO TB T F__law_pull
  have B__law_pull_2 : Bnd K mg fd__law_pull ["_law_bag_here", "_law_many"] 2 [] [.inl 0, .inl 1] := bnd_of F__law_pull rfl rfl (fun _ _ _ _ _ _ us ws h1 h2 => match us, ws, h1, h2 with | [_, _], [], _, _ => rfl)
  exact fn_ok (k := 1) (N := ["_law_bag_here", "_law_some"]) (ps := ["_law_bag_here", "_law_some"]) (s := S__law_of) F sc fun pn cdv A outer sh H E hr => conv (qss_cons (qs_ret (qv_ix ix_seq s_ixF (qo_name (i := 1) rfl (by rfl') (by decide) (by decide)) (qo_v (qv_fn (ks := []) (arr := [.inl 0, .inl 1]) G__law_pull (takes_of rfl rfl rfl rfl) (hr.mono (by decide)) rfl T.g__law_pull F__law_pull.kp B__law_pull_2 (qs_cons (qo_name (i := 0) rfl (by rfl') (by decide) (by decide)) (qs_cons (qo_v (qv_callB cr_len1 s_lenF rfl T.n_len boot_len (qs_cons (qo_name (i := 1) rfl (by rfl') (by decide) (by decide)) qs_nil rfl) (by decide) (by decide) rfl rfl)) qs_nil rfl) rfl) qk_nil rfl rfl rfl rfl (by decide) rfl rfl (len_cons (len_cons len_nil)) len_nil)) (fun _ _ => rfl))) qss_nil) rfl
theorem sc__law_prime : FnScope ["_law_bag_here"] ["_law_bag_here"] (defScope z__law_prime.st) := ⟨rfl, rfl, rfl, by decide +kernel, rfl, by decide +kernel, by decide +kernel⟩
theorem ok__law_prime (PO : PrOk Pr "/claim/cut.py") (TB : ∀ p ∈ tabsK K, LamX.TabB base mg p.1 p.2) (T : Txt K mg) {fd : FuncData} (F : ZFun K z__law_prime fd) : FnOk Pr w K mg base (L2.CX Pr w) (3) (z__law_prime.at_ K) fd ["_law_bag_here"] (spOf K mg 1 D__law_prime) := by
  have sc := sc__law_prime
  obtain ⟨fd__law_of, F__law_of⟩ := T.f__law_of
  have G__law_of := ok__law_of (Pr := Pr) (w := w) (base := base) PO TB T F__law_of
  have B__law_of_2 : Bnd K mg fd__law_of ["_law_bag_here", "_law_some"] 2 [] [.inl 0, .inl 1] := bnd_of F__law_of rfl rfl (fun _ _ _ _ _ _ us ws h1 h2 => match us, ws, h1, h2 with | [_, _], [], _, _ => rfl)
  exact fn_ok (k := 2) (N := ["_law_bag_here"]) (ps := ["_law_bag_here"]) (s := S__law_prime) F sc fun pn cdv A outer sh H E hr => conv (qss_cons (qs_ret (qv_fn (ks := []) (arr := [.inl 0, .inl 1]) G__law_of (takes_of rfl rfl rfl rfl) (hr.mono (by decide)) rfl T.g__law_of F__law_of.kp B__law_of_2 (qs_cons (qo_name (i := 0) rfl (by rfl') (by decide) (by decide)) (qs_cons (qo_v (qv_lst (qs_cons (qo_v qv_int) (qs_cons (qo_v qv_int) (qs_cons (qo_v qv_int) (qs_cons (qo_v qv_int) (qs_cons (qo_v qv_int) (qs_cons (qo_v qv_int) (qs_cons (qo_v qv_int) qs_nil rfl) rfl) rfl) rfl) rfl) rfl) rfl))) qs_nil rfl) rfl) qk_nil rfl rfl rfl rfl (by decide) rfl rfl (len_cons (len_cons len_nil)) len_nil)) qss_nil) rfl
theorem sc__law_few : FnScope ["_law_p"] ["_law_p"] (defScope z__law_few.st) := ⟨rfl, rfl, rfl, by decide +kernel, rfl, by decide +kernel, by decide +kernel⟩
theorem ok__law_few (PO : PrOk Pr "/claim/cut.py") (TB : ∀ p ∈ tabsK K, LamX.TabB base mg p.1 p.2) (T : Txt K mg) {fd : FuncData} (F : ZFun K z__law_few fd) : FnOk Pr w K mg base (L2.CX Pr w) (1) (z__law_few.at_ K) fd ["_law_p"] (spOf K mg 1 D__law_few) := by
  have sc := sc__law_few
  exact fn_ok (k := 0) (N := ["_law_p"]) (ps := ["_law_p"]) (s := S__law_few) F sc fun pn cdv A outer sh H E hr => conv (qss_cons (qs_ret (qv_dcon (kvs := [(.inl 2, .inl 8), (.inl 3, .inl 5), (.inl 5, .inl 3), (.inl 7, .inl 3)]) (u2 hr) (pps_cons pe_int pe_int (pps_cons pe_int pe_int (pps_cons pe_int pe_int (pps_cons pe_int pe_int pps_nil)))) rfl rfl (by simp) (by decide) (by decide) rfl (qo_name (i := 0) rfl (by rfl') (by decide) (by decide)) (fun _ _ => rfl))) qss_nil) rfl
theorem sc_is_number : FnScope ["value"] ["value"] (defScope z_is_number.st) := ⟨rfl, rfl, rfl, by decide +kernel, rfl, by decide +kernel, by decide +kernel⟩
theorem ok_is_number (PO : PrOk Pr "/claim/cut.py") (TB : ∀ p ∈ tabsK K, LamX.TabB base mg p.1 p.2) (T : Txt K mg) {fd : FuncData} (F : ZFun K z_is_number fd) : FnOk Pr w K mg base (L2.CX Pr w) (1) (z_is_number.at_ K) fd ["value"] (spOf K mg 1 D_is_number) := by
  have sc := sc_is_number
  exact fn_ok (k := 0) (N := ["value"]) (ps := ["value"]) (s := S_is_number) F sc fun pn cdv A outer sh H E hr => conv (qss_cons (qs_ret (qv_and (qv_isi (T := .int) (by decide) rfl T.n_isinstance PyProof.Rows.boot_int rfl T.n_int (by decide) (by decide) (qo_name (i := 0) rfl (by rfl') (by decide) (by decide)) rfl rfl rfl) (qv_one (qv_not (qv_isi (T := .bl) (by decide) rfl T.n_isinstance PyProof.Rows.boot_bool rfl T.n_bool (by decide) (by decide) (qo_name (i := 0) rfl (by rfl') (by decide) (by decide)) rfl rfl rfl))))) qss_nil) rfl
theorem sc_is_prime : FnScope ["value"] ["value"] (defScope z_is_prime.st) := ⟨rfl, rfl, rfl, by decide +kernel, rfl, by decide +kernel, by decide +kernel⟩
theorem ok_is_prime (PO : PrOk Pr "/claim/cut.py") (TB : ∀ p ∈ tabsK K, LamX.TabB base mg p.1 p.2) (T : Txt K mg) {fd : FuncData} (F : ZFun K z_is_prime fd) : FnOk Pr w K mg base (L2.CX Pr w) (2) (z_is_prime.at_ K) fd ["value"] (spOf K mg 1 D_is_prime) := by
  have sc := sc_is_prime
  obtain ⟨fd_is_number, F_is_number⟩ := T.f_is_number
  have G_is_number := ok_is_number (Pr := Pr) (w := w) (base := base) PO TB T F_is_number
  have B_is_number_1 : Bnd K mg fd_is_number ["value"] 1 [] [.inl 0] := bnd_of F_is_number rfl rfl (fun _ _ _ _ _ _ us ws h1 h2 => match us, ws, h1, h2 with | [_], [], _, _ => rfl)
  exact fn_ok (k := 1) (N := ["value"]) (ps := ["value"]) (s := S_is_prime) F sc fun pn cdv A outer sh H E hr => conv (qss_cons (qs_ret (qv_and (qv_fn (ks := []) (arr := [.inl 0]) (pure_ok G_is_number) (takes_of rfl rfl rfl rfl) (hr.mono (by decide)) rfl T.g_is_number F_is_number.kp B_is_number_1 (qs_cons (qo_name (i := 0) rfl (by rfl') (by decide) (by decide)) qs_nil rfl) qk_nil rfl rfl rfl rfl (by decide) rfl rfl (len_cons len_nil) len_nil) (qv_one (qv_cmp o_in s_inX (qo_name (i := 0) rfl (by rfl') (by decide) (by decide)) (qo_v (qv_glob (v := .ref (He.ga K "PRIMES")) (d := .tup [.int (2), .int (3), .int (5), .int (7)]) rfl T.g_PRIMES rfl (fun G => tup_den T.t_PRIMES rfl G) (by decide))) (by with_unfolding_all rfl))))) qss_nil) rfl
theorem sc_need_prime : FnScope ["value"] ["value"] (defScope z_need_prime.st) := ⟨rfl, rfl, rfl, by decide +kernel, rfl, by decide +kernel, by decide +kernel⟩
theorem ok_need_prime (PO : PrOk Pr "/claim/cut.py") (TB : ∀ p ∈ tabsK K, LamX.TabB base mg p.1 p.2) (T : Txt K mg) {fd : FuncData} (F : ZFun K z_need_prime fd) : FnOk Pr w K mg base (L2.CX Pr w) (3) (z_need_prime.at_ K) fd ["value"] (spOf K mg 1 D_need_prime) := by
  have sc := sc_need_prime
  obtain ⟨fd_is_prime, F_is_prime⟩ := T.f_is_prime
  have G_is_prime := ok_is_prime (Pr := Pr) (w := w) (base := base) PO TB T F_is_prime
  have B_is_prime_1 : Bnd K mg fd_is_prime ["value"] 1 [] [.inl 0] := bnd_of F_is_prime rfl rfl (fun _ _ _ _ _ _ us ws h1 h2 => match us, ws, h1, h2 with | [_], [], _, _ => rfl)
  have E_InvalidPrime := ok_x_InvalidPrime (Pr := Pr) (w := w) (base := base) PO T
  exact fn_ok (k := 2) (N := ["value"]) (ps := ["value"]) (s := S_need_prime) F sc fun pn cdv A outer sh H E hr => conv (qss_cons (qs_if (qt_not (qt_truth (qo_v (qv_fn (ks := []) (arr := [.inl 0]) (pure_ok G_is_prime) (takes_of rfl rfl rfl rfl) (hr.mono (by decide)) rfl T.g_is_prime F_is_prime.kp B_is_prime_1 (qs_cons (qo_name (i := 0) rfl (by rfl') (by decide) (by decide)) qs_nil rfl) qk_nil rfl rfl rfl rfl (by decide) rfl rfl (len_cons len_nil) len_nil)) (fun _ => rfl))) (qss_cons (qs_raise1 E_InvalidPrime rfl (takes_of rfl rfl rfl rfl) (hr.mono (by decide)) rfl (qs_cons (qo_name (i := 0) rfl (by rfl') (by decide) (by decide)) qs_nil rfl) (by decide) rfl rfl) qss_nil) qss_nil) qss_nil) rfl
theorem sc_is_within : FnScope ["value", "low", "high"] ["value", "low", "high"] (defScope z_is_within.st) := ⟨rfl, rfl, rfl, by decide +kernel, rfl, by decide +kernel, by decide +kernel⟩
theorem ok_is_within (PO : PrOk Pr "/claim/cut.py") (TB : ∀ p ∈ tabsK K, LamX.TabB base mg p.1 p.2) (T : Txt K mg) {fd : FuncData} (F : ZFun K z_is_within fd) : FnOk Pr w K mg base (L2.CX Pr w) (2) (z_is_within.at_ K) fd ["value", "low", "high"] (spOf K mg 3 D_is_within) := by
  have sc := sc_is_within
  obtain ⟨fd_is_number, F_is_number⟩ := T.f_is_number
  have G_is_number := ok_is_number (Pr := Pr) (w := w) (base := base) PO TB T F_is_number
  have B_is_number_1 : Bnd K mg fd_is_number ["value"] 1 [] [.inl 0] := bnd_of F_is_number rfl rfl (fun _ _ _ _ _ _ us ws h1 h2 => match us, ws, h1, h2 with | [_], [], _, _ => rfl)
  exact fn_ok (k := 1) (N := ["value", "low", "high"]) (ps := ["value", "low", "high"]) (s := S_is_within) F sc fun pn cdv A outer sh H E hr => conv (qss_cons (qs_ret (qv_and (qv_fn (ks := []) (arr := [.inl 0]) (pure_ok G_is_number) (takes_of rfl rfl rfl rfl) (hr.mono (by decide)) rfl T.g_is_number F_is_number.kp B_is_number_1 (qs_cons (qo_name (i := 0) rfl (by rfl') (by decide) (by decide)) qs_nil rfl) qk_nil rfl rfl rfl rfl (by decide) rfl rfl (len_cons len_nil) len_nil) (qv_one (qv_chain op_le s_leI op_le s_leI (qo_name (i := 1) rfl (by rfl') (by decide) (by decide)) (qo_name (i := 0) rfl (by rfl') (by decide) (by decide)) (qo_name (i := 2) rfl (by rfl') (by decide) (by decide)) (by with_unfolding_all rfl))))) qss_nil) rfl
theorem sc_need_dials : FnScope ["value"] ["value"] (defScope z_need_dials.st) := ⟨rfl, rfl, rfl, by decide +kernel, rfl, by decide +kernel, by decide +kernel⟩
theorem ok_need_dials (PO : PrOk Pr "/claim/cut.py") (TB : ∀ p ∈ tabsK K, LamX.TabB base mg p.1 p.2) (T : Txt K mg) {fd : FuncData} (F : ZFun K z_need_dials fd) : FnOk Pr w K mg base (L2.CX Pr w) (3) (z_need_dials.at_ K) fd ["value"] (spOf K mg 1 D_need_dials) := by
  have sc := sc_need_dials
  obtain ⟨fd_is_within, F_is_within⟩ := T.f_is_within
  have G_is_within := ok_is_within (Pr := Pr) (w := w) (base := base) PO TB T F_is_within
  have B_is_within_3 : Bnd K mg fd_is_within ["value", "low", "high"] 3 [] [.inl 0, .inl 1, .inl 2] := bnd_of F_is_within rfl rfl (fun _ _ _ _ _ _ us ws h1 h2 => match us, ws, h1, h2 with | [_, _, _], [], _, _ => rfl)
  have E_InvalidCount := ok_x_InvalidCount (Pr := Pr) (w := w) (base := base) PO T
  exact fn_ok (k := 2) (N := ["value"]) (ps := ["value"]) (s := S_need_dials) F sc fun pn cdv A outer sh H E hr => conv (qss_cons (qs_if (qt_not (qt_truth (qo_v (qv_fn (ks := []) (arr := [.inl 0, .inl 1, .inl 2]) (pure_ok G_is_within) (takes_of rfl rfl rfl rfl) (hr.mono (by decide)) rfl T.g_is_within F_is_within.kp B_is_within_3 (qs_cons (qo_name (i := 0) rfl (by rfl') (by decide) (by decide)) (qs_cons (qo_v qv_int) (qs_cons (qo_v (qv_glob (v := .int (200)) (d := .int (200)) rfl T.k_MOST_DIALS.choose_spec ⟨_, rfl⟩ (fun _ => .int _) (by decide))) qs_nil rfl) rfl) rfl) qk_nil rfl rfl rfl rfl (by decide) rfl rfl (len_cons (len_cons (len_cons len_nil))) len_nil)) (fun _ => rfl))) (qss_cons (qs_raise1 E_InvalidCount rfl (takes_of rfl rfl rfl rfl) (hr.mono (by decide)) rfl (qs_cons (qo_name (i := 0) rfl (by rfl') (by decide) (by decide)) qs_nil rfl) (by decide) rfl rfl) qss_nil) qss_nil) qss_nil) rfl
theorem sc_power_of : FnScope ["prime", "many", "found", "factor"] ["prime", "many"] (defScope z_power_of.st) := ⟨rfl, rfl, rfl, by decide +kernel, rfl, by decide +kernel, by decide +kernel⟩
theorem ok_power_of (PO : PrOk Pr "/claim/cut.py") (TB : ∀ p ∈ tabsK K, LamX.TabB base mg p.1 p.2) (T : Txt K mg) {fd : FuncData} (F : ZFun K z_power_of fd) : FnOk Pr w K mg base (L2.CX Pr w) (1) (z_power_of.at_ K) fd ["prime", "many"] (spOf K mg 2 D_power_of) := by
  have sc := sc_power_of
  exact fn_ok (k := 0) (N := ["prime", "many", "found", "factor"]) (ps := ["prime", "many"]) (s := S_power_of) F sc fun pn cdv A outer sh H E hr => conv (qss_cons (qs_asg (i := 2) sc.nd rfl (by and_intros) qv_int rfl (.inl rfl)) (qss_cons (qs_for (passes_of rfl) rfl (qi_rng1 rfl T.n_range (qs_cons (qo_name (i := 1) rfl (by rfl') (by decide) (by decide)) qs_nil rfl) rfl) (qg_name (i := 3) sc.nd rfl (by and_intros) (by and_intros)) (qss_cons (qs_asg (i := 2) sc.nd rfl (by and_intros) (qv_op o_mul s_mulX (qo_name (i := 2) rfl (by rfl') (by decide) (by decide)) (qo_name (i := 0) rfl (by rfl') (by decide) (by decide))) rfl (.inl rfl)) qss_nil) (fun _ => rfl)) (qss_cons (qs_retName (i := 2) rfl (by rfl') (by decide) (by decide)) qss_nil))) rfl
theorem sc_need_few : FnScope ["prime", "dials"] ["prime", "dials"] (defScope z_need_few.st) := ⟨rfl, rfl, rfl, by decide +kernel, rfl, by decide +kernel, by decide +kernel⟩
theorem ok_need_few (PO : PrOk Pr "/claim/cut.py") (TB : ∀ p ∈ tabsK K, LamX.TabB base mg p.1 p.2) (T : Txt K mg) {fd : FuncData} (F : ZFun K z_need_few fd) : FnOk Pr w K mg base (L2.CX Pr w) (3) (z_need_few.at_ K) fd ["prime", "dials"] (spOf K mg 2 D_need_few) := by
  have sc := sc_need_few
  obtain ⟨fd_power_of, F_power_of⟩ := T.f_power_of
  have G_power_of := ok_power_of (Pr := Pr) (w := w) (base := base) PO TB T F_power_of
  have B_power_of_2 : Bnd K mg fd_power_of ["prime", "many"] 2 [] [.inl 0, .inl 1] := bnd_of F_power_of rfl rfl (fun _ _ _ _ _ _ us ws h1 h2 => match us, ws, h1, h2 with | [_, _], [], _, _ => rfl)
  have E_TooMany := ok_x_TooMany (Pr := Pr) (w := w) (base := base) PO T
  exact fn_ok (k := 2) (N := ["prime", "dials"]) (ps := ["prime", "dials"]) (s := S_need_few) F sc fun pn cdv A outer sh H E hr => conv (qss_cons (qs_if (qt_cmp op_gt s_gtI (qo_v (qv_fn (ks := []) (arr := [.inl 0, .inl 1]) (pure_ok G_power_of) (takes_of rfl rfl rfl rfl) (hr.mono (by decide)) rfl T.g_power_of F_power_of.kp B_power_of_2 (qs_cons (qo_name (i := 0) rfl (by rfl') (by decide) (by decide)) (qs_cons (qo_name (i := 1) rfl (by rfl') (by decide) (by decide)) qs_nil rfl) rfl) qk_nil rfl rfl rfl rfl (by decide) rfl rfl (len_cons (len_cons len_nil)) len_nil)) (qo_v (qv_glob (v := .int (20000)) (d := .int (20000)) rfl T.k_MOST_SETTINGS.choose_spec ⟨_, rfl⟩ (fun _ => .int _) (by decide))) (nomark _)) (qss_cons (qs_raise1 E_TooMany rfl (takes_of rfl rfl rfl rfl) (hr.mono (by decide)) rfl (qs_cons (qo_v (qv_glob (v := .int (20000)) (d := .int (20000)) rfl T.k_MOST_SETTINGS.choose_spec ⟨_, rfl⟩ (fun _ => .int _) (by decide))) qs_nil rfl) (by decide) rfl rfl) qss_nil) qss_nil) qss_nil) rfl
theorem sc_setting_of : FnScope ["prime", "number", "dials", "found", "dial"] ["prime", "number", "dials"] (defScope z_setting_of.st) := ⟨rfl, rfl, rfl, by decide +kernel, rfl, by decide +kernel, by decide +kernel⟩
theorem ok_setting_of (PO : PrOk Pr "/claim/cut.py") (TB : ∀ p ∈ tabsK K, LamX.TabB base mg p.1 p.2) (T : Txt K mg) {fd : FuncData} (F : ZFun K z_setting_of fd) : FnOk Pr w K mg base (L2.CX Pr w) (4) (z_setting_of.at_ K) fd ["prime", "number", "dials"] (spOf K mg 3 D_setting_of) := by
  have sc := sc_setting_of
  obtain ⟨fd_need_prime, F_need_prime⟩ := T.f_need_prime
  have G_need_prime := ok_need_prime (Pr := Pr) (w := w) (base := base) PO TB T F_need_prime
  have B_need_prime_1 : Bnd K mg fd_need_prime ["value"] 1 [] [.inl 0] := bnd_of F_need_prime rfl rfl (fun _ _ _ _ _ _ us ws h1 h2 => match us, ws, h1, h2 with | [_], [], _, _ => rfl)
  obtain ⟨fd_need_dials, F_need_dials⟩ := T.f_need_dials
  have G_need_dials := ok_need_dials (Pr := Pr) (w := w) (base := base) PO TB T F_need_dials
  have B_need_dials_1 : Bnd K mg fd_need_dials ["value"] 1 [] [.inl 0] := bnd_of F_need_dials rfl rfl (fun _ _ _ _ _ _ us ws h1 h2 => match us, ws, h1, h2 with | [_], [], _, _ => rfl)
  exact fn_ok (k := 3) (N := ["prime", "number", "dials", "found", "dial"]) (ps := ["prime", "number", "dials"]) (s := S_setting_of) F sc fun pn cdv A outer sh H E hr => conv (qss_cons (qs_expr (qv_fn (ks := []) (arr := [.inl 0]) (pure_ok G_need_prime) (takes_of rfl rfl rfl rfl) (hr.mono (by decide)) rfl T.g_need_prime F_need_prime.kp B_need_prime_1 (qs_cons (qo_name (i := 0) rfl (by rfl') (by decide) (by decide)) qs_nil rfl) qk_nil rfl rfl rfl rfl (by decide) rfl rfl (len_cons len_nil) len_nil) rfl) (qss_cons (qs_expr (qv_fn (ks := []) (arr := [.inl 0]) (pure_ok G_need_dials) (takes_of rfl rfl rfl rfl) (hr.mono (by decide)) rfl T.g_need_dials F_need_dials.kp B_need_dials_1 (qs_cons (qo_name (i := 2) rfl (by rfl') (by decide) (by decide)) qs_nil rfl) qk_nil rfl rfl rfl rfl (by decide) rfl rfl (len_cons len_nil) len_nil) rfl) (qss_cons (qs_asg (i := 3) sc.nd rfl (by and_intros) (qv_lst qs_nil) rfl (.inl rfl)) (qss_cons (qs_for (passes_of rfl) rfl (qi_rng1 rfl T.n_range (qs_cons (qo_name (i := 2) rfl (by rfl') (by decide) (by decide)) qs_nil rfl) rfl) (qg_name (i := 4) sc.nd rfl (by and_intros) (by and_intros)) (qss_cons (qs_expr (qv_mut (i := 3) PySem.F.plainAttrs_list PySem.F.slot_list_append PySem.F.type_list_append mt_append s_appF rfl (by rfl') (by decide) (by decide) (qs_cons (qo_v (qv_op op_mod s_modI (qo_name (i := 1) rfl (by rfl') (by decide) (by decide)) (qo_name (i := 0) rfl (by rfl') (by decide) (by decide)))) qs_nil rfl) rfl rfl rfl rfl rfl) rfl) (qss_cons (qs_asg (i := 1) sc.nd rfl (by and_intros) (qv_op op_fdiv s_divI (qo_name (i := 1) rfl (by rfl') (by decide) (by decide)) (qo_name (i := 0) rfl (by rfl') (by decide) (by decide))) rfl (.inl rfl)) qss_nil)) (fun _ => rfl)) (qss_cons (qs_ret (qv_callTy call_tuple_of s_tupleF rfl T.n_tuple PyProof.Rows.boot_tuple (qs_cons (qo_name (i := 3) rfl (by rfl') (by decide) (by decide)) qs_nil rfl) (by decide) (by decide) rfl rfl)) qss_nil))))) rfl
theorem sc_settings : GScope ["prime", "dials", "number"] ["prime", "dials"] (defScope z_settings.st) := ⟨rfl, rfl, rfl, by decide +kernel, rfl, by decide +kernel, by decide +kernel⟩
theorem ol_settings : onlyLoc (defScope z_settings.st) = true := by decide +kernel
theorem ok_settings (PO : PrOk Pr "/claim/cut.py") (TB : ∀ p ∈ tabsK K, LamX.TabB base mg p.1 p.2) (T : Txt K mg) {fd : FuncData} (F : ZFun K z_settings fd) : GnOk ⟨Pr, w, K, mg, base⟩ 4 (z_settings.at_ K) fd ["prime", "dials"] D_settings := by
  have sc := sc_settings
  obtain ⟨fd_need_prime, F_need_prime⟩ := T.f_need_prime
  have G_need_prime := ok_need_prime (Pr := Pr) (w := w) (base := base) PO TB T F_need_prime
  have B_need_prime_1 : Bnd K mg fd_need_prime ["value"] 1 [] [.inl 0] := bnd_of F_need_prime rfl rfl (fun _ _ _ _ _ _ us ws h1 h2 => match us, ws, h1, h2 with | [_], [], _, _ => rfl)
  obtain ⟨fd_need_dials, F_need_dials⟩ := T.f_need_dials
  have G_need_dials := ok_need_dials (Pr := Pr) (w := w) (base := base) PO TB T F_need_dials
  have B_need_dials_1 : Bnd K mg fd_need_dials ["value"] 1 [] [.inl 0] := bnd_of F_need_dials rfl rfl (fun _ _ _ _ _ _ us ws h1 h2 => match us, ws, h1, h2 with | [_], [], _, _ => rfl)
  obtain ⟨fd_need_few, F_need_few⟩ := T.f_need_few
  have G_need_few := ok_need_few (Pr := Pr) (w := w) (base := base) PO TB T F_need_few
  have B_need_few_2 : Bnd K mg fd_need_few ["prime", "dials"] 2 [] [.inl 0, .inl 1] := bnd_of F_need_few rfl rfl (fun _ _ _ _ _ _ us ws h1 h2 => match us, ws, h1, h2 with | [_, _], [], _, _ => rfl)
  obtain ⟨fd_power_of, F_power_of⟩ := T.f_power_of
  have G_power_of := ok_power_of (Pr := Pr) (w := w) (base := base) PO TB T F_power_of
  have B_power_of_2 : Bnd K mg fd_power_of ["prime", "many"] 2 [] [.inl 0, .inl 1] := bnd_of F_power_of rfl rfl (fun _ _ _ _ _ _ us ws h1 h2 => match us, ws, h1, h2 with | [_, _], [], _, _ => rfl)
  obtain ⟨fd_setting_of, F_setting_of⟩ := T.f_setting_of
  have G_setting_of := ok_setting_of (Pr := Pr) (w := w) (base := base) PO TB T F_setting_of
  have B_setting_of_3 : Bnd K mg fd_setting_of ["prime", "number", "dials"] 3 [] [.inl 0, .inl 1, .inl 2] := bnd_of F_setting_of rfl rfl (fun _ _ _ _ _ _ us ws h1 h2 => match us, ws, h1, h2 with | [_, _, _], [], _, _ => rfl)
  exact gen_ok (B := ⟨Pr, w, K, mg, base⟩) (k := 4) (N := ["prime", "dials", "number"]) (ps := ["prime", "dials"]) (m := S_settings []) F sc ol_settings fun cdv L a go g => gconv (gj_cons (gj_plain (fun A outer sh H E pns hr => (qs_expr (qv_fn (ks := []) (arr := [.inl 0]) (pure_ok G_need_prime) takes_gcx (hr.mono (by decide)) rfl T.g_need_prime F_need_prime.kp B_need_prime_1 (qs_cons (qo_name (i := 0) rfl (by rfl') (by decide) (by decide)) qs_nil rfl) qk_nil rfl rfl rfl rfl (by decide) rfl rfl (len_cons len_nil) len_nil) rfl))) (gj_cons (gj_plain (fun A outer sh H E pns hr => (qs_expr (qv_fn (ks := []) (arr := [.inl 0]) (pure_ok G_need_dials) takes_gcx (hr.mono (by decide)) rfl T.g_need_dials F_need_dials.kp B_need_dials_1 (qs_cons (qo_name (i := 1) rfl (by rfl') (by decide) (by decide)) qs_nil rfl) qk_nil rfl rfl rfl rfl (by decide) rfl rfl (len_cons len_nil) len_nil) rfl))) (gj_cons (gj_plain (fun A outer sh H E pns hr => (qs_expr (qv_fn (ks := []) (arr := [.inl 0, .inl 1]) (pure_ok G_need_few) takes_gcx (hr.mono (by decide)) rfl T.g_need_few F_need_few.kp B_need_few_2 (qs_cons (qo_name (i := 0) rfl (by rfl') (by decide) (by decide)) (qs_cons (qo_name (i := 1) rfl (by rfl') (by decide) (by decide)) qs_nil rfl) rfl) qk_nil rfl rfl rfl rfl (by decide) rfl rfl (len_cons (len_cons len_nil)) len_nil) rfl))) (gj_cons (gj_for (fun A outer sh H E pns hr => (qi_rng1 rfl T.n_range (qs_cons (qo_v (qv_fn (ks := []) (arr := [.inl 0, .inl 1]) (pure_ok G_power_of) takes_gcx (hr.mono (by decide)) rfl T.g_power_of F_power_of.kp B_power_of_2 (qs_cons (qo_name (i := 0) rfl (by rfl') (by decide) (by decide)) (qs_cons (qo_name (i := 1) rfl (by rfl') (by decide) (by decide)) qs_nil rfl) rfl) qk_nil rfl rfl rfl rfl (by decide) rfl rfl (len_cons (len_cons len_nil)) len_nil)) qs_nil rfl) rfl)) (fun A outer sh H E pns hr => (qg_name (i := 2) sc.nd rfl (by and_intros) (by and_intros))) (gj_cons (gj_yield ol_settings (fun A outer sh H E pns hr => (qo_v (qv_fn (ks := []) (arr := [.inl 0, .inl 1, .inl 2]) (pure_ok G_setting_of) takes_gcx (hr.mono (by decide)) rfl T.g_setting_of F_setting_of.kp B_setting_of_3 (qs_cons (qo_name (i := 0) rfl (by rfl') (by decide) (by decide)) (qs_cons (qo_name (i := 2) rfl (by rfl') (by decide) (by decide)) (qs_cons (qo_name (i := 1) rfl (by rfl') (by decide) (by decide)) qs_nil rfl) rfl) rfl) qk_nil rfl rfl rfl rfl (by decide) rfl rfl (len_cons (len_cons (len_cons len_nil))) len_nil))) rfl rfl) gj_nil) (fun _ => rfl)) gj_nil)))) rfl
theorem sc__law_same : FnScope ["_law_found", "_law_due", "_law_a", "_law_b"] ["_law_found", "_law_due"] (defScope z__law_same.st) := ⟨rfl, rfl, rfl, by decide +kernel, rfl, by decide +kernel, by decide +kernel⟩
theorem ok__law_same (PO : PrOk Pr "/claim/cut.py") (TB : ∀ p ∈ tabsK K, LamX.TabB base mg p.1 p.2) (T : Txt K mg) {fd : FuncData} (F : ZFun K z__law_same fd) (n : Nat) : FnOk Pr w K mg base (L2.CX Pr w) (n + 1) (z__law_same.at_ K) fd ["_law_found", "_law_due"] (spOf K mg 2 (D__law_same n)) := by
  have sc := sc__law_same
  have B__law_same_2 : Bnd K mg fd ["_law_found", "_law_due"] 2 [] [.inl 0, .inl 1] := bnd_of F rfl rfl (fun _ _ _ _ _ _ us ws h1 h2 => match us, ws, h1, h2 with | [_, _], [], _, _ => rfl)
  induction n with
  | zero => exact fn_ok (k := 0) (N := ["_law_found", "_law_due", "_law_a", "_law_b"]) (ps := ["_law_found", "_law_due"]) (s := fun _ => neverS) F sc fun pn cdv A outer sh H E hr => qss_never
  | succ n IH => exact fn_ok (k := n + 1) (N := ["_law_found", "_law_due", "_law_a", "_law_b"]) (ps := ["_law_found", "_law_due"]) (s := S__law_same (D__law_same n)) F sc fun pn cdv A outer sh H E hr => conv (qss_cons (qs_if (qt_truth (qo_v (qv_isi2 (T := .lst) (T' := .tup) (by decide) (by decide) rfl T.n_isinstance PyProof.Rows.boot_list rfl T.n_list (by decide) (by decide) PyProof.Rows.boot_tuple rfl T.n_tuple (by decide) (by decide) (qo_name (i := 1) rfl (by rfl') (by decide) (by decide)) rfl rfl rfl rfl rfl)) (fun _ => rfl)) (qss_cons (qs_if (qt_w (qw_or (qt_cmp (op_neD (u64 hr)) s_neF (qo_v (qv_isi (T := .lst) (by decide) rfl T.n_isinstance PyProof.Rows.boot_list rfl T.n_list (by decide) (by decide) (qo_name (i := 0) rfl (by rfl') (by decide) (by decide)) rfl rfl rfl)) (qo_v (qv_isi (T := .lst) (by decide) rfl T.n_isinstance PyProof.Rows.boot_list rfl T.n_list (by decide) (by decide) (qo_name (i := 1) rfl (by rfl') (by decide) (by decide)) rfl rfl rfl)) (nomark _)) (qw_or1 (qt_cmp (op_neD (u64 hr)) s_neF (qo_v (qv_isi (T := .tup) (by decide) rfl T.n_isinstance PyProof.Rows.boot_tuple rfl T.n_tuple (by decide) (by decide) (qo_name (i := 0) rfl (by rfl') (by decide) (by decide)) rfl rfl rfl)) (qo_v (qv_isi (T := .tup) (by decide) rfl T.n_isinstance PyProof.Rows.boot_tuple rfl T.n_tuple (by decide) (by decide) (qo_name (i := 1) rfl (by rfl') (by decide) (by decide)) rfl rfl rfl)) (nomark _))))) (qss_cons (qs_ret qv_bl) qss_nil) qss_nil) (qss_cons (qs_ret (qv_and (qv_cmp (op_eqD (u64 hr)) s_eqF (qo_v (qv_callB cr_len1 s_lenF rfl T.n_len boot_len (qs_cons (qo_name (i := 0) rfl (by rfl') (by decide) (by decide)) qs_nil rfl) (by decide) (by decide) rfl rfl)) (qo_v (qv_callB cr_len1 s_lenF rfl T.n_len boot_len (qs_cons (qo_name (i := 1) rfl (by rfl') (by decide) (by decide)) qs_nil rfl) (by decide) (by decide) rfl rfl)) (nomark _)) (qv_one (qv_callB (cr_all rfl) s_allF rfl T.n_all PyProof.Rows.boot_all (qs_cons (qo_v (qv_lc (own := [("_law_a", 2), ("_law_b", 3)]) rfl sc.nd (qi_zip2 rfl T.n_zip (qs_cons (qo_name (i := 0) rfl (by rfl') (by decide) (by decide)) (qs_cons (qo_name (i := 1) rfl (by rfl') (by decide) (by decide)) qs_nil rfl) rfl) rfl rfl) (blkOk_by (by rfl)) (fun _ _ _ _ _ => (qg_tup (n := 2) rfl (qgs_cons (qg_name (i := 2) sc.nd rfl (by and_intros) (by and_intros)) (qgs_cons (qg_name (i := 3) sc.nd rfl (by and_intros) (by and_intros)) qgs_nil rfl) rfl) rfl rfl rfl)) (fun _ _ _ _ _ => qts_nil) (fun _ _ _ _ _ => (qo_v (qv_fn (ks := []) (arr := [.inl 0, .inl 1]) IH takes0 hr rfl T.g__law_same F.kp B__law_same_2 (qs_cons (qo_name (i := 2) rfl (by rfl') (by decide) (by decide)) (qs_cons (qo_name (i := 3) rfl (by rfl') (by decide) (by decide)) qs_nil rfl) rfl) qk_nil rfl rfl rfl rfl (by decide) rfl rfl (len_cons (len_cons len_nil)) len_nil))) (fun _ => rfl))) qs_nil rfl) (by decide) (by decide) rfl rfl)))) qss_nil)) qss_nil) (qss_cons (qs_if (qt_w (qw_or (qt_cmp op_isN s_isF (qo_name (i := 1) rfl (by rfl') (by decide) (by decide)) (qo_v qv_non) (nomark _)) (qw_or1 (qt_cmp op_isN s_isF (qo_name (i := 0) rfl (by rfl') (by decide) (by decide)) (qo_v qv_non) (nomark _))))) (qss_cons (qs_ret (qv_and (qv_cmp op_isN s_isF (qo_name (i := 1) rfl (by rfl') (by decide) (by decide)) (qo_v qv_non) (nomark _)) (qv_one (qv_cmp op_isN s_isF (qo_name (i := 0) rfl (by rfl') (by decide) (by decide)) (qo_v qv_non) (nomark _))))) qss_nil) qss_nil) (qss_cons (qs_if (qt_w (qw_or (qt_cmp (op_neD (u64 hr)) s_neF (qo_v (qv_isi (T := .bl) (by decide) rfl T.n_isinstance PyProof.Rows.boot_bool rfl T.n_bool (by decide) (by decide) (qo_name (i := 1) rfl (by rfl') (by decide) (by decide)) rfl rfl rfl)) (qo_v (qv_isi (T := .bl) (by decide) rfl T.n_isinstance PyProof.Rows.boot_bool rfl T.n_bool (by decide) (by decide) (qo_name (i := 0) rfl (by rfl') (by decide) (by decide)) rfl rfl rfl)) (nomark _)) (qw_or1 (qt_cmp (op_neD (u64 hr)) s_neF (qo_v (qv_isi (T := .int) (by decide) rfl T.n_isinstance PyProof.Rows.boot_int rfl T.n_int (by decide) (by decide) (qo_name (i := 1) rfl (by rfl') (by decide) (by decide)) rfl rfl rfl)) (qo_v (qv_isi (T := .int) (by decide) rfl T.n_isinstance PyProof.Rows.boot_int rfl T.n_int (by decide) (by decide) (qo_name (i := 0) rfl (by rfl') (by decide) (by decide)) rfl rfl rfl)) (nomark _))))) (qss_cons (qs_ret qv_bl) qss_nil) qss_nil) (qss_cons (qs_ret (qv_and (qv_cmp (op_eqD (u64 hr)) s_eqF (qo_v (qv_isi (T := .str) (by decide) rfl T.n_isinstance PyProof.Rows.boot_str rfl T.n_str (by decide) (by decide) (qo_name (i := 1) rfl (by rfl') (by decide) (by decide)) rfl rfl rfl)) (qo_v (qv_isi (T := .str) (by decide) rfl T.n_isinstance PyProof.Rows.boot_str rfl T.n_str (by decide) (by decide) (qo_name (i := 0) rfl (by rfl') (by decide) (by decide)) rfl rfl rfl)) (nomark _)) (qv_one (qv_cmp (op_eqD (u64 hr)) s_eqF (qo_name (i := 0) rfl (by rfl') (by decide) (by decide)) (qo_name (i := 1) rfl (by rfl') (by decide) (by decide)) (nomark _))))) qss_nil)))) rfl
theorem sc__law_all_rows : FnScope ["_law_p", "_law_many", "_law_found", "_law_k", "_law_late", "_law_x", "_law_row"] ["_law_p", "_law_many"] (defScope z__law_all_rows.st) := ⟨rfl, rfl, rfl, by decide +kernel, rfl, by decide +kernel, by decide +kernel⟩
theorem ok__law_all_rows (PO : PrOk Pr "/claim/cut.py") (TB : ∀ p ∈ tabsK K, LamX.TabB base mg p.1 p.2) (T : Txt K mg) {fd : FuncData} (F : ZFun K z__law_all_rows fd) : FnOk Pr w K mg base (L2.CX Pr w) (1) (z__law_all_rows.at_ K) fd ["_law_p", "_law_many"] (spOf K mg 2 D__law_all_rows) := by
  have sc := sc__law_all_rows
  exact fn_ok (k := 0) (N := ["_law_p", "_law_many", "_law_found", "_law_k", "_law_late", "_law_x", "_law_row"]) (ps := ["_law_p", "_law_many"]) (s := S__law_all_rows) F sc fun pn cdv A outer sh H E hr => conv (qss_cons (qs_asg (i := 2) sc.nd rfl (by and_intros) (qv_lst (qs_cons (qo_v (qv_tup qs_nil)) qs_nil rfl)) rfl (.inl rfl)) (qss_cons (qs_for (passes_of rfl) rfl (qi_rng1 rfl T.n_range (qs_cons (qo_name (i := 1) rfl (by rfl') (by decide) (by decide)) qs_nil rfl) rfl) (qg_name (i := 3) sc.nd rfl (by and_intros) (by and_intros)) (qss_cons (qs_asg (i := 4) sc.nd rfl (by and_intros) (qv_lst qs_nil) rfl (.inl rfl)) (qss_cons (qs_for (passes_of rfl) rfl (qi_rng1 rfl T.n_range (qs_cons (qo_name (i := 0) rfl (by rfl') (by decide) (by decide)) qs_nil rfl) rfl) (qg_name (i := 5) sc.nd rfl (by and_intros) (by and_intros)) (qss_cons (qs_asg (i := 4) sc.nd rfl (by and_intros) (qv_op o_add s_addX (qo_name (i := 4) rfl (by rfl') (by decide) (by decide)) (qo_v (qv_lc (own := [("_law_row", 6)]) rfl sc.nd (qi_seq (qo_name (i := 2) rfl (by rfl') (by decide) (by decide))) (blkOk_by (by rfl)) (fun _ _ _ _ _ => (qg_name (i := 6) sc.nd rfl (by and_intros) (by and_intros))) (fun _ _ _ _ _ => qts_nil) (fun _ _ _ _ _ => (qo_v (qv_op o_add s_addX (qo_name (i := 6) rfl (by rfl') (by decide) (by decide)) (qo_v (qv_tup (qs_cons (qo_name (i := 5) rfl (by rfl') (by decide) (by decide)) qs_nil rfl)))))) (fun _ => rfl)))) rfl (.inl rfl)) qss_nil) (fun _ => rfl)) (qss_cons (qs_asg (i := 2) sc.nd rfl (by and_intros) (qv_o (qo_name (i := 4) rfl (by rfl') (by decide) (by decide))) rfl (.inl rfl)) qss_nil))) (fun _ => rfl)) (qss_cons (qs_retName (i := 2) rfl (by rfl') (by decide) (by decide)) qss_nil))) rfl
theorem lamsc_0 : LamSc I_0 := ⟨rfl, rfl, rfl, by decide +kernel, by decide +kernel, by decide +kernel, by decide +kernel, (fun _ _ _ _ _ _ us hl => match us, hl with | [], _ => rfl), (fun i h => by cases h)⟩
theorem lamw_0 : ∀ y ∈ I_0.scope.names, y.2 = .free → (defScope (top 30)).names.lookup y.1 = some .cell ∨ (defScope (top 30)).names.lookup y.1 = some .free := by decide +kernel
theorem lamsc_1 : LamSc I_1 := ⟨rfl, rfl, rfl, by decide +kernel, by decide +kernel, by decide +kernel, by decide +kernel, (fun h => by cases h), (fun i h => by cases h; exact ⟨rfl, fun L t doc pm cd ct u => ⟨_, rfl, rfl⟩⟩)⟩
theorem lamw_1 : ∀ y ∈ I_1.scope.names, y.2 = .free → (defScope (top 30)).names.lookup y.1 = some .cell ∨ (defScope (top 30)).names.lookup y.1 = some .free := by decide +kernel
theorem lamsc_2 : LamSc I_2 := ⟨rfl, rfl, rfl, by decide +kernel, by decide +kernel, by decide +kernel, by decide +kernel, (fun _ _ _ _ _ _ us hl => match us, hl with | [], _ => rfl), (fun i h => by cases h)⟩
theorem lamw_2 : ∀ y ∈ I_2.scope.names, y.2 = .free → (defScope (top 30)).names.lookup y.1 = some .cell ∨ (defScope (top 30)).names.lookup y.1 = some .free := by decide +kernel
theorem lamsc_3 : LamSc I_3 := ⟨rfl, rfl, rfl, by decide +kernel, by decide +kernel, by decide +kernel, by decide +kernel, (fun h => by cases h), (fun i h => by cases h; exact ⟨rfl, fun L t doc pm cd ct u => ⟨_, rfl, rfl⟩⟩)⟩
theorem lamw_3 : ∀ y ∈ I_3.scope.names, y.2 = .free → (defScope (top 30)).names.lookup y.1 = some .cell ∨ (defScope (top 30)).names.lookup y.1 = some .free := by decide +kernel
theorem lamsc_4 : LamSc I_4 := ⟨rfl, rfl, rfl, by decide +kernel, by decide +kernel, by decide +kernel, by decide +kernel, (fun _ _ _ _ _ _ us hl => match us, hl with | [], _ => rfl), (fun i h => by cases h)⟩
theorem lamw_4 : ∀ y ∈ I_4.scope.names, y.2 = .free → (defScope (top 30)).names.lookup y.1 = some .cell ∨ (defScope (top 30)).names.lookup y.1 = some .free := by decide +kernel
theorem lamsc_5 : LamSc I_5 := ⟨rfl, rfl, rfl, by decide +kernel, by decide +kernel, by decide +kernel, by decide +kernel, (fun h => by cases h), (fun i h => by cases h; exact ⟨rfl, fun L t doc pm cd ct u => ⟨_, rfl, rfl⟩⟩)⟩
theorem lamw_5 : ∀ y ∈ I_5.scope.names, y.2 = .free → (defScope (top 30)).names.lookup y.1 = some .cell ∨ (defScope (top 30)).names.lookup y.1 = some .free := by decide +kernel
theorem ok_lamsT (PO : PrOk Pr "/claim/cut.py") (TB : ∀ p ∈ tabsK K, LamX.TabB base mg p.1 p.2) (T : Txt K mg) : LamOk Pr w K mg base 8 lamT := by
  obtain ⟨fd_settings, F_settings⟩ := T.f_settings
  have G_settings := ok_settings (Pr := Pr) (w := w) (base := base) PO TB T F_settings
  have B_settings_2 : Bnd K mg fd_settings ["prime", "dials"] 2 [] [.inl 0, .inl 1] := bnd_of F_settings rfl rfl (fun _ _ _ _ _ _ us ws h1 h2 => match us, ws, h1, h2 with | [_, _], [], _, _ => rfl)
  intro k I ds as
  unfold lamT
  split
  · split
    · rename_i h; obtain ⟨rfl, h2, h3, h4, h5⟩ := h
      have sc : NdOf (lamN I_0) := ⟨by decide +kernel⟩
      exact .inr ⟨lamRun (lamN I_0).length (B_0 []), rfl, h2.trans rfl, (congrArg (· + (dflR I_0).length) h3).trans rfl, h4, h5, lamsc_0, by decide +kernel, by decide +kernel, bodyOk_expr (e := lamB I_0) rfl fun qn L f c' A outer s H E hr => convV (qv_listG rfl (takes_of rfl rfl rfl rfl) (nstop T) (hr.mono (by decide)) (qg_fn (ks := []) (arr := [.inl 0, .inl 1]) G_settings (hr.mono (by decide)) rfl T.g_settings F_settings.kp B_settings_2 (qs_cons (qo_name (i := 0) rfl (by rfl') (by decide) (by decide)) (qs_cons (qo_name (i := 1) rfl (by rfl') (by decide) (by decide)) qs_nil rfl) rfl) qk_nil rfl rfl rfl rfl (by decide) rfl rfl (len_cons (len_cons len_nil)) len_nil) rfl T.n_list (by decide +kernel) (by decide) (by decide) rfl) rfl⟩
    · exact .inl rfl
  · split
    · rename_i h; obtain ⟨rfl, h2, h3, h4, h5⟩ := h
      have sc : NdOf (lamN I_1) := ⟨by decide +kernel⟩
      exact .inr ⟨lamRun (lamN I_1).length (B_1 []), rfl, h2.trans rfl, (congrArg (· + (dflR I_1).length) h3).trans rfl, h4, h5, lamsc_1, by decide +kernel, by decide +kernel, bodyOk_expr (e := lamB I_1) rfl fun qn L f c' A outer s H E hr => convV (qv_listG rfl (takes_of rfl rfl rfl rfl) (nstop T) (hr.mono (by decide)) (qg_fn (ks := []) (arr := [.inl 0, .inl 1]) G_settings (hr.mono (by decide)) rfl T.g_settings F_settings.kp B_settings_2 (qs_cons (qo_name (i := 1) rfl (by rfl') (by decide) (by decide)) (qs_cons (qo_name (i := 0) rfl (by rfl') (by decide) (by decide)) qs_nil rfl) rfl) qk_nil rfl rfl rfl rfl (by decide) rfl rfl (len_cons (len_cons len_nil)) len_nil) rfl T.n_list (by decide +kernel) (by decide) (by decide) rfl) rfl⟩
    · exact .inl rfl
  · split
    · rename_i h; obtain ⟨rfl, h2, h3, h4, h5⟩ := h
      have sc : NdOf (lamN I_2) := ⟨by decide +kernel⟩
      exact .inr ⟨lamRun (lamN I_2).length (B_2 []), rfl, h2.trans rfl, (congrArg (· + (dflR I_2).length) h3).trans rfl, h4, h5, lamsc_2, by decide +kernel, by decide +kernel, bodyOk_expr (e := lamB I_2) rfl fun qn L f c' A outer s H E hr => convV (qv_listG rfl (takes_of rfl rfl rfl rfl) (nstop T) (hr.mono (by decide)) (qg_fn (ks := []) (arr := [.inl 0, .inl 1]) G_settings (hr.mono (by decide)) rfl T.g_settings F_settings.kp B_settings_2 (qs_cons (qo_name (i := 1) rfl (by rfl') (by decide) (by decide)) (qs_cons (qo_v (qv_op o_add s_addX (qo_name (i := 0) rfl (by rfl') (by decide) (by decide)) (qo_v qv_int))) qs_nil rfl) rfl) qk_nil rfl rfl rfl rfl (by decide) rfl rfl (len_cons (len_cons len_nil)) len_nil) rfl T.n_list (by decide +kernel) (by decide) (by decide) rfl) rfl⟩
    · exact .inl rfl
  · split
    · rename_i h; obtain ⟨rfl, h2, h3, h4, h5⟩ := h
      have sc : NdOf (lamN I_3) := ⟨by decide +kernel⟩
      exact .inr ⟨lamRun (lamN I_3).length (B_3 []), rfl, h2.trans rfl, (congrArg (· + (dflR I_3).length) h3).trans rfl, h4, h5, lamsc_3, by decide +kernel, by decide +kernel, bodyOk_expr (e := lamB I_3) rfl fun qn L f c' A outer s H E hr => convV (qv_listG rfl (takes_of rfl rfl rfl rfl) (nstop T) (hr.mono (by decide)) (qg_fn (ks := []) (arr := [.inl 0, .inl 1]) G_settings (hr.mono (by decide)) rfl T.g_settings F_settings.kp B_settings_2 (qs_cons (qo_name (i := 0) rfl (by rfl') (by decide) (by decide)) (qs_cons (qo_v qv_int) qs_nil rfl) rfl) qk_nil rfl rfl rfl rfl (by decide) rfl rfl (len_cons (len_cons len_nil)) len_nil) rfl T.n_list (by decide +kernel) (by decide) (by decide) rfl) rfl⟩
    · exact .inl rfl
  · split
    · rename_i h; obtain ⟨rfl, h2, h3, h4, h5⟩ := h
      have sc : NdOf (lamN I_4) := ⟨by decide +kernel⟩
      exact .inr ⟨lamRun (lamN I_4).length (B_4 []), rfl, h2.trans rfl, (congrArg (· + (dflR I_4).length) h3).trans rfl, h4, h5, lamsc_4, by decide +kernel, by decide +kernel, bodyOk_expr (e := lamB I_4) rfl fun qn L f c' A outer s H E hr => convV (qv_lc (own := [("_law_one", 2)]) rfl sc.nd (qi_zipG rfl T.n_zip (qg_fn (ks := []) (arr := [.inl 0, .inl 1]) G_settings (hr.mono (by decide)) rfl T.g_settings F_settings.kp B_settings_2 (qs_cons (qo_name (i := 0) rfl (by rfl') (by decide) (by decide)) (qs_cons (qo_name (i := 1) rfl (by rfl') (by decide) (by decide)) qs_nil rfl) rfl) qk_nil rfl rfl rfl rfl (by decide) rfl rfl (len_cons (len_cons len_nil)) len_nil) rfl rfl rfl) (blkOk_by (by rfl)) (fun _ _ _ _ _ => (qg_name (i := 2) sc.nd rfl (by and_intros) (by and_intros))) (fun _ _ _ _ _ => qts_nil) (fun _ _ _ _ _ => (qo_name (i := 2) rfl (by rfl') (by decide) (by decide))) (fun _ => rfl)) rfl⟩
    · exact .inl rfl
  · split
    · rename_i h; obtain ⟨rfl, h2, h3, h4, h5⟩ := h
      have sc : NdOf (lamN I_5) := ⟨by decide +kernel⟩
      exact .inr ⟨lamRun (lamN I_5).length (B_5 []), rfl, h2.trans rfl, (congrArg (· + (dflR I_5).length) h3).trans rfl, h4, h5, lamsc_5, by decide +kernel, by decide +kernel, bodyOk_expr (e := lamB I_5) rfl fun qn L f c' A outer s H E hr => convV (qv_lc (own := [("_law_one", 2)]) rfl sc.nd (qi_zipG rfl T.n_zip (qg_fn (ks := []) (arr := [.inl 0, .inl 1]) G_settings (hr.mono (by decide)) rfl T.g_settings F_settings.kp B_settings_2 (qs_cons (qo_name (i := 0) rfl (by rfl') (by decide) (by decide)) (qs_cons (qo_v qv_int) qs_nil rfl) rfl) qk_nil rfl rfl rfl rfl (by decide) rfl rfl (len_cons (len_cons len_nil)) len_nil) rfl rfl rfl) (blkOk_by (by rfl)) (fun _ _ _ _ _ => (qg_name (i := 2) sc.nd rfl (by and_intros) (by and_intros))) (fun _ _ _ _ _ => qts_nil) (fun _ _ _ _ _ => (qo_name (i := 2) rfl (by rfl') (by decide) (by decide))) (fun _ => rfl)) rfl⟩
    · exact .inl rfl
  · exact .inl rfl
theorem sc__law_got : FnScope ["_law_ask", "_law_said", "e"] ["_law_ask"] (defScope z__law_got.st) := ⟨rfl, rfl, rfl, by decide +kernel, rfl, by decide +kernel, by decide +kernel⟩
theorem catchE (T : Txt K mg) : ∀ c ∈ excs, mg c = some (.ref (He.ga K c)) ∧ CatchC K (.ref (He.ga K "TurnError")) (.ref (He.ga K "Missing")) (.ref (He.ga K "NothingLeft")) "code" "details" (He.ga K c) := by
  intro c hc
  simp only [excs, List.mem_cons, List.not_mem_nil, or_false] at hc
  rcases hc with rfl | rfl | rfl
  · exact ⟨T.g_InvalidPrime, T.ct_InvalidPrime⟩
  · exact ⟨T.g_InvalidCount, T.ct_InvalidCount⟩
  · exact ⟨T.g_TooMany, T.ct_TooMany⟩
theorem ok__law_got (PO : PrOk Pr "/claim/cut.py") (TB : ∀ p ∈ tabsK K, LamX.TabB base mg p.1 p.2) (T : Txt K mg) {fd : FuncData} (F : ZFun K z__law_got fd) : FnOk Pr w K mg base (L2.CX Pr w) (10) (z__law_got.at_ K) fd ["_law_ask"] (spOf K mg 1 D__law_got) := by
  have sc := sc__law_got
  have LO := ok_lamsT (Pr := Pr) (w := w) (base := base) PO TB T
  exact fn_ok (k := 9) (N := ["_law_ask", "_law_said", "e"]) (ps := ["_law_ask"]) (s := S__law_got) F sc fun pn cdv A outer sh H E hr => conv (qss_cons (qs_asg (i := 1) sc.nd rfl (by and_intros) (qv_tup (qs_cons (qo_v qv_str) (qs_cons (qo_v qv_non) qs_nil rfl) rfl)) rfl (.inl rfl)) (qss_cons (qs_tell (es := excs) (i := 2) (j := 1) rfl rfl sc.nd rfl rfl rfl rfl rfl rfl rfl T.g_TurnError T.g_Missing T.g_NothingLeft (by decide) (by decide) (by decide) (catch_in (catchE T)) (fun W p xe tk po => (qss_cons (qs_asg (i := 1) sc.nd rfl (by and_intros) (qv_tup (qs_cons (qo_v qv_str) (qs_cons (qo_v (qv_lcall (i := 0) LO tk (hr.mono (by decide)) rfl (by rfl') (by decide) (by decide))) qs_nil rfl) rfl)) rfl (.inl rfl)) qss_nil)) (by decide) (by decide) rfl rfl rfl rfl rfl) (qss_cons (qs_retName (i := 1) rfl (by rfl') (by decide) (by decide)) qss_nil))) rfl
theorem sc__law_all_got : FnScope ["_law_asks", "_law_ask"] ["_law_asks"] (defScope z__law_all_got.st) := ⟨rfl, rfl, rfl, by decide +kernel, rfl, by decide +kernel, by decide +kernel⟩
theorem ok__law_all_got (PO : PrOk Pr "/claim/cut.py") (TB : ∀ p ∈ tabsK K, LamX.TabB base mg p.1 p.2) (T : Txt K mg) {fd : FuncData} (F : ZFun K z__law_all_got fd) : FnOk Pr w K mg base (L2.CX Pr w) (11) (z__law_all_got.at_ K) fd ["_law_asks"] (spOf K mg 1 D__law_all_got) := by
  have sc := sc__law_all_got
  obtain ⟨fd__law_got, F__law_got⟩ := T.f__law_got
  have G__law_got := ok__law_got (Pr := Pr) (w := w) (base := base) PO TB T F__law_got
  have B__law_got_1 : Bnd K mg fd__law_got ["_law_ask"] 1 [] [.inl 0] := bnd_of F__law_got rfl rfl (fun _ _ _ _ _ _ us ws h1 h2 => match us, ws, h1, h2 with | [_], [], _, _ => rfl)
  exact fn_ok (k := 10) (N := ["_law_asks", "_law_ask"]) (ps := ["_law_asks"]) (s := S__law_all_got) F sc fun pn cdv A outer sh H E hr => conv (qss_cons (qs_ret (qv_lc (own := [("_law_ask", 1)]) rfl sc.nd (qi_seq (qo_name (i := 0) rfl (by rfl') (by decide) (by decide))) (blkOk_by (by rfl)) (fun _ _ _ _ _ => (qg_name (i := 1) sc.nd rfl (by and_intros) (by and_intros))) (fun _ _ _ _ _ => qts_nil) (fun _ _ _ _ _ => (qo_v (qv_fn (ks := []) (arr := [.inl 0]) (pure_ok G__law_got) takes0 (hr.mono (by decide)) rfl T.g__law_got F__law_got.kp B__law_got_1 (qs_cons (qo_name (i := 1) rfl (by rfl') (by decide) (by decide)) qs_nil rfl) qk_nil rfl rfl rfl rfl (by decide) rfl rfl (len_cons len_nil) len_nil))) (fun _ => rfl))) qss_nil) rfl
theorem sc_law : FnScope ["_law_script", "_law_bag_here", "_law_turn_z", "_law_p", "_law_many", "_law_found", "_law_most_z", "_law_far", "_law_bad", "_law_asks", "_law_due", "_law_wide", "_law_row"] ["_law_script"] (defScope z_law.st) := ⟨rfl, rfl, rfl, by decide +kernel, rfl, by decide +kernel, by decide +kernel⟩
theorem capok_law : ∀ k I js, cap_law k I = some js → I.pnames = (defScope z_law.st).names ∧ js.length = (fre I).length ∧ ∀ (n j : Nat) (x : Str), js[n]? = some j → (fre I)[n]? = some x → (["_law_script", "_law_bag_here", "_law_turn_z", "_law_p", "_law_many", "_law_found", "_law_most_z", "_law_far", "_law_bad", "_law_asks", "_law_due", "_law_wide", "_law_row"] : List Str)[j]? = some x ∧ (defScope z_law.st).names.lookup x = some .cell := by
  intro k I js h
  unfold cap_law at h
  split at h
  · split at h
    · rename_i e; subst e; cases h; exact ⟨rfl, rfl, capB_ok (by decide +kernel)⟩
    · cases h
  · split at h
    · rename_i e; subst e; cases h; exact ⟨rfl, rfl, capB_ok (by decide +kernel)⟩
    · cases h
  · split at h
    · rename_i e; subst e; cases h; exact ⟨rfl, rfl, capB_ok (by decide +kernel)⟩
    · cases h
  · split at h
    · rename_i e; subst e; cases h; exact ⟨rfl, rfl, capB_ok (by decide +kernel)⟩
    · cases h
  · split at h
    · rename_i e; subst e; cases h; exact ⟨rfl, rfl, capB_ok (by decide +kernel)⟩
    · cases h
  · split at h
    · rename_i e; subst e; cases h; exact ⟨rfl, rfl, capB_ok (by decide +kernel)⟩
    · cases h
  · cases h
theorem ok_law (PO : PrOk Pr "/claim/cut.py") (TB : ∀ p ∈ tabsK K, LamX.TabB base mg p.1 p.2) (T : Txt K mg) {fd : FuncData} (F : ZFun K z_law fd) : FnOk Pr w K mg base (L2.CX Pr w) (12) (z_law.at_ K) fd ["_law_script"] (spOfL K mg 1 D_law) := by
  have sc := sc_law
  obtain ⟨fd__law_bag, F__law_bag⟩ := T.f__law_bag
  have G__law_bag := ok__law_bag (Pr := Pr) (w := w) (base := base) PO TB T F__law_bag
  have B__law_bag_1 : Bnd K mg fd__law_bag ["_law_script"] 1 [] [.inl 0] := bnd_of F__law_bag rfl rfl (fun _ _ _ _ _ _ us ws h1 h2 => match us, ws, h1, h2 with | [_], [], _, _ => rfl)
  obtain ⟨fd__law_prime, F__law_prime⟩ := T.f__law_prime
  have G__law_prime := ok__law_prime (Pr := Pr) (w := w) (base := base) PO TB T F__law_prime
  have B__law_prime_1 : Bnd K mg fd__law_prime ["_law_bag_here"] 1 [] [.inl 0] := bnd_of F__law_prime rfl rfl (fun _ _ _ _ _ _ us ws h1 h2 => match us, ws, h1, h2 with | [_], [], _, _ => rfl)
  obtain ⟨fd__law_pull, F__law_pull⟩ := T.f__law_pull
  have G__law_pull := ok__law_pull (Pr := Pr) (w := w) (base := base) PO TB T F__law_pull
  have B__law_pull_2 : Bnd K mg fd__law_pull ["_law_bag_here", "_law_many"] 2 [] [.inl 0, .inl 1] := bnd_of F__law_pull rfl rfl (fun _ _ _ _ _ _ us ws h1 h2 => match us, ws, h1, h2 with | [_, _], [], _, _ => rfl)
  obtain ⟨fd__law_few, F__law_few⟩ := T.f__law_few
  have G__law_few := ok__law_few (Pr := Pr) (w := w) (base := base) PO TB T F__law_few
  have B__law_few_1 : Bnd K mg fd__law_few ["_law_p"] 1 [] [.inl 0] := bnd_of F__law_few rfl rfl (fun _ _ _ _ _ _ us ws h1 h2 => match us, ws, h1, h2 with | [_], [], _, _ => rfl)
  obtain ⟨fd_settings, F_settings⟩ := T.f_settings
  have G_settings := ok_settings (Pr := Pr) (w := w) (base := base) PO TB T F_settings
  have B_settings_0_dials_prime : Bnd K mg fd_settings ["prime", "dials"] 0 ["dials", "prime"] [.inl 1, .inl 0] := bnd_of F_settings rfl rfl (fun _ _ _ _ _ _ us ws h1 h2 => match us, ws, h1, h2 with | [], [_, _], _, _ => rfl)
  have B_settings_2 : Bnd K mg fd_settings ["prime", "dials"] 2 [] [.inl 0, .inl 1] := bnd_of F_settings rfl rfl (fun _ _ _ _ _ _ us ws h1 h2 => match us, ws, h1, h2 with | [_, _], [], _, _ => rfl)
  obtain ⟨fd__law_same, F__law_same⟩ := T.f__law_same
  have G__law_same := ok__law_same (Pr := Pr) (w := w) (base := base) PO TB T F__law_same 8
  have B__law_same_2 : Bnd K mg fd__law_same ["_law_found", "_law_due"] 2 [] [.inl 0, .inl 1] := bnd_of F__law_same rfl rfl (fun _ _ _ _ _ _ us ws h1 h2 => match us, ws, h1, h2 with | [_, _], [], _, _ => rfl)
  obtain ⟨fd__law_all_rows, F__law_all_rows⟩ := T.f__law_all_rows
  have G__law_all_rows := ok__law_all_rows (Pr := Pr) (w := w) (base := base) PO TB T F__law_all_rows
  have B__law_all_rows_2 : Bnd K mg fd__law_all_rows ["_law_p", "_law_many"] 2 [] [.inl 0, .inl 1] := bnd_of F__law_all_rows rfl rfl (fun _ _ _ _ _ _ us ws h1 h2 => match us, ws, h1, h2 with | [_, _], [], _, _ => rfl)
  obtain ⟨fd__law_of, F__law_of⟩ := T.f__law_of
  have G__law_of := ok__law_of (Pr := Pr) (w := w) (base := base) PO TB T F__law_of
  have B__law_of_2 : Bnd K mg fd__law_of ["_law_bag_here", "_law_some"] 2 [] [.inl 0, .inl 1] := bnd_of F__law_of rfl rfl (fun _ _ _ _ _ _ us ws h1 h2 => match us, ws, h1, h2 with | [_, _], [], _, _ => rfl)
  obtain ⟨fd__law_all_got, F__law_all_got⟩ := T.f__law_all_got
  have G__law_all_got := ok__law_all_got (Pr := Pr) (w := w) (base := base) PO TB T F__law_all_got
  have B__law_all_got_1 : Bnd K mg fd__law_all_got ["_law_asks"] 1 [] [.inl 0] := bnd_of F__law_all_got rfl rfl (fun _ _ _ _ _ _ us ws h1 h2 => match us, ws, h1, h2 with | [_], [], _, _ => rfl)
  have B__law_all_got_1_b : Binds K fd__law_all_got ["_law_asks"] [] := F__law_all_got.bindsN fun _ _ _ _ _ _ us hl => match us, hl with | [_], _ => rfl
  obtain ⟨c, TT, hc, hm⟩ := fun_tab F (by decide +kernel)
  have TBc := TB _ hm
  exact fn_okL (k := 11) (N := ["_law_script", "_law_bag_here", "_law_turn_z", "_law_p", "_law_many", "_law_found", "_law_most_z", "_law_far", "_law_bad", "_law_asks", "_law_due", "_law_wide", "_law_row"]) (ps := ["_law_script"]) (s := S_law) F sc hc fun L pn A outer sh H E hL hr => by subst hL; exact conv (qss_cons (qs_asg (i := 1) sc.nd rfl (by and_intros) (qv_fn (ks := []) (arr := [.inl 0]) (pure_ok G__law_bag) (takes_of rfl rfl rfl rfl) (hr.mono (by decide)) rfl T.g__law_bag F__law_bag.kp B__law_bag_1 (qs_cons (qo_name (i := 0) rfl (by rfl') (by decide) (by decide)) qs_nil rfl) qk_nil rfl rfl rfl rfl (by decide) rfl rfl (len_cons len_nil) len_nil) rfl (.inl rfl)) (qss_cons (qs_for (passes_of rfl) rfl (qi_rng1 rfl T.n_range (qs_cons (qo_v qv_int) qs_nil rfl) rfl) (qg_name (i := 2) sc.nd rfl (by and_intros) (by and_intros)) (qss_cons (qs_asg (i := 3) sc.nd rfl (by and_intros) (qv_fn (ks := []) (arr := [.inl 0]) G__law_prime (takes_of rfl rfl rfl rfl) (hr.mono (by decide)) rfl T.g__law_prime F__law_prime.kp B__law_prime_1 (qs_cons (qo_name (i := 1) rfl (by rfl') (by decide) (by decide)) qs_nil rfl) qk_nil rfl rfl rfl rfl (by decide) rfl rfl (len_cons len_nil) len_nil) rfl (.inl rfl)) (qss_cons (qs_asg (i := 4) sc.nd rfl (by and_intros) (qv_fn (ks := []) (arr := [.inl 0, .inl 1]) G__law_pull (takes_of rfl rfl rfl rfl) (hr.mono (by decide)) rfl T.g__law_pull F__law_pull.kp B__law_pull_2 (qs_cons (qo_name (i := 1) rfl (by rfl') (by decide) (by decide)) (qs_cons (qo_v (qv_op o_add s_addX (qo_v (qv_fn (ks := []) (arr := [.inl 0]) (pure_ok G__law_few) (takes_of rfl rfl rfl rfl) (hr.mono (by decide)) rfl T.g__law_few F__law_few.kp B__law_few_1 (qs_cons (qo_name (i := 3) rfl (by rfl') (by decide) (by decide)) qs_nil rfl) qk_nil rfl rfl rfl rfl (by decide) rfl rfl (len_cons len_nil) len_nil)) (qo_v qv_int))) qs_nil rfl) rfl) qk_nil rfl rfl rfl rfl (by decide) rfl rfl (len_cons (len_cons len_nil)) len_nil) rfl (.inl rfl)) (qss_cons (qs_setLcG (i := 5) (own := [("_law_row", 12)]) rfl sc.nd (hr.mono (by decide)) rfl rfl rfl (qg_fn (ks := []) (arr := [.inl 0, .inl 1]) G_settings (hr.mono (by decide)) rfl T.g_settings F_settings.kp B_settings_2 (qs_cons (qo_name (i := 3) rfl (by rfl') (by decide) (by decide)) (qs_cons (qo_name (i := 4) rfl (by rfl') (by decide) (by decide)) qs_nil rfl) rfl) qk_nil rfl rfl rfl rfl (by decide) rfl rfl (len_cons (len_cons len_nil)) len_nil) (blkOk_by (by rfl)) (by decide +kernel) (fun _ _ _ _ _ => (qg_name (i := 12) sc.nd rfl (by and_intros) (by and_intros))) (fun _ _ _ _ _ => qts_nil) (fun _ _ _ _ _ => (qo_name (i := 12) rfl (by rfl') (by decide) (by decide))) (fun _ => rfl)) (qss_cons (qs_if (qt_w (qw_or (qt_not (qt_truth (qo_v (qv_fn (ks := []) (arr := [.inl 0, .inl 1]) (pure_ok G__law_same) (takes_of rfl rfl rfl rfl) (hr.mono (by decide)) rfl T.g__law_same F__law_same.kp B__law_same_2 (qs_cons (qo_name (i := 5) rfl (by rfl') (by decide) (by decide)) (qs_cons (qo_v (qv_fn (ks := []) (arr := [.inl 0, .inl 1]) (pure_ok G__law_all_rows) (takes_of rfl rfl rfl rfl) (hr.mono (by decide)) rfl T.g__law_all_rows F__law_all_rows.kp B__law_all_rows_2 (qs_cons (qo_name (i := 3) rfl (by rfl') (by decide) (by decide)) (qs_cons (qo_name (i := 4) rfl (by rfl') (by decide) (by decide)) qs_nil rfl) rfl) qk_nil rfl rfl rfl rfl (by decide) rfl rfl (len_cons (len_cons len_nil)) len_nil)) qs_nil rfl) rfl) qk_nil rfl rfl rfl rfl (by decide) rfl rfl (len_cons (len_cons len_nil)) len_nil)) (fun _ => rfl))) (qw_or1 (qt_cmp (op_neD (u64 hr)) s_neF (qo_v (qv_listG rfl (takes_of rfl rfl rfl rfl) (nstop T) (hr.mono (by decide)) (qg_fn0 (ks := ["dials", "prime"]) (arr := [.inl 1, .inl 0]) G_settings (hr.mono (by decide)) rfl T.g_settings F_settings.kp B_settings_0_dials_prime (qk_cons (qo_name (i := 4) rfl (by rfl') (by decide) (by decide)) (qk_cons (qo_name (i := 3) rfl (by rfl') (by decide) (by decide)) qk_nil)) rfl rfl rfl (by decide) rfl (len_cons (len_cons len_nil))) rfl T.n_list (by decide +kernel) (by decide) (by decide) rfl)) (qo_name (i := 5) rfl (by rfl') (by decide) (by decide)) (nomark _))))) (qss_cons (qs_ret qv_bl) qss_nil) qss_nil) (qss_cons (qs_asg (i := 6) sc.nd rfl (by and_intros) (qv_dcon (kvs := [(.inl 2, .inl 14), (.inl 3, .inl 9), (.inl 5, .inl 6), (.inl 7, .inl 5)]) (u2 hr) (pps_cons pe_int pe_int (pps_cons pe_int pe_int (pps_cons pe_int pe_int (pps_cons pe_int pe_int pps_nil)))) rfl rfl (by simp) (by decide) (by decide) rfl (qo_name (i := 3) rfl (by rfl') (by decide) (by decide)) (fun _ _ => rfl)) rfl (.inl rfl)) (qss_cons (qs_parG (i := 7) (j := 8) rfl sc.nd rfl rfl (by decide) (by and_intros) (by and_intros) (by and_intros) (by and_intros) (qv_fn (ks := []) (arr := [.inl 0, .inl 1]) G__law_of (takes_of rfl rfl rfl rfl) (hr.mono (by decide)) rfl T.g__law_of F__law_of.kp B__law_of_2 (qs_cons (qo_name (i := 1) rfl (by rfl') (by decide) (by decide)) (qs_cons (qo_v (qv_lst (qs_cons (qo_v (qv_un un_neg s_negF (qo_v qv_int))) (qs_cons (qo_v qv_int) (qs_cons (qo_v qv_non) (qs_cons (qo_v qv_str) (qs_cons (qo_v qv_bl) qs_nil rfl) rfl) rfl) rfl) rfl))) qs_nil rfl) rfl) qk_nil rfl rfl rfl rfl (by decide) rfl rfl (len_cons (len_cons len_nil)) len_nil) (qv_fn (ks := []) (arr := [.inl 0, .inl 1]) G__law_of (takes_of rfl rfl rfl rfl) (hr.mono (by decide)) rfl T.g__law_of F__law_of.kp B__law_of_2 (qs_cons (qo_name (i := 1) rfl (by rfl') (by decide) (by decide)) (qs_cons (qo_v (qv_lst (qs_cons (qo_v qv_int) (qs_cons (qo_v qv_int) (qs_cons (qo_v qv_non) (qs_cons (qo_v qv_bl) qs_nil rfl) rfl) rfl) rfl))) qs_nil rfl) rfl) qk_nil rfl rfl rfl rfl (by decide) rfl rfl (len_cons (len_cons len_nil)) len_nil) rfl rfl rfl rfl rfl rfl rfl rfl rfl) (qss_cons (qs_asg (i := 9) sc.nd rfl (by and_intros) (qv_lst (qs_cons (qo_v (qv_lam (k := 0) (I := I_0) (e := lamB I_0) (L := sh.heap.objs.size) ⟨TBc, rfl, rfl, hm⟩ ⟨rfl, rfl, lamw_0⟩ rfl rfl rfl rfl rfl)) (qs_cons (qo_v (qv_lam1 (k := 1) (I := I_1) (e := lamB I_1) (L := sh.heap.objs.size) (i := 0) ⟨TBc, rfl, rfl, hm⟩ ⟨rfl, rfl, lamw_1⟩ rfl rfl rfl rfl rfl)) qs_nil rfl) rfl)) rfl (.inl rfl)) (qss_cons (qs_asg (i := 9) sc.nd rfl (by and_intros) (qv_op o_add s_addX (qo_name (i := 9) rfl (by rfl') (by decide) (by decide)) (qo_v (qv_lst (qs_cons (qo_v (qv_lam (k := 2) (I := I_2) (e := lamB I_2) (L := sh.heap.objs.size) ⟨TBc, rfl, rfl, hm⟩ ⟨rfl, rfl, lamw_2⟩ rfl rfl rfl rfl rfl)) (qs_cons (qo_v (qv_lam1 (k := 3) (I := I_3) (e := lamB I_3) (L := sh.heap.objs.size) (i := 0) ⟨TBc, rfl, rfl, hm⟩ ⟨rfl, rfl, lamw_3⟩ rfl rfl rfl rfl rfl)) qs_nil rfl) rfl)))) rfl (.inl rfl)) (qss_cons (qs_asg (i := 10) sc.nd rfl (by and_intros) (qv_lst (qs_cons (qo_v (qv_tup (qs_cons (qo_v qv_str) (qs_cons (qo_v (qv_tup (qs_cons (qo_name (i := 8) rfl (by rfl') (by decide) (by decide)) qs_nil rfl))) qs_nil rfl) rfl))) (qs_cons (qo_v (qv_tup (qs_cons (qo_v qv_str) (qs_cons (qo_v (qv_tup (qs_cons (qo_name (i := 7) rfl (by rfl') (by decide) (by decide)) qs_nil rfl))) qs_nil rfl) rfl))) (qs_cons (qo_v (qv_tup (qs_cons (qo_v qv_str) (qs_cons (qo_v (qv_tup (qs_cons (qo_v qv_int) qs_nil rfl))) qs_nil rfl) rfl))) (qs_cons (qo_v (qv_tup (qs_cons (qo_v qv_str) (qs_cons (qo_v (qv_tup (qs_cons (qo_v qv_int) qs_nil rfl))) qs_nil rfl) rfl))) qs_nil rfl) rfl) rfl) rfl)) rfl (.inl rfl)) (qss_cons (qs_if (qt_not (qt_truth (qo_v (qv_fn (ks := []) (arr := [.inl 0, .inl 1]) (pure_ok G__law_same) (takes_of rfl rfl rfl rfl) (hr.mono (by decide)) rfl T.g__law_same F__law_same.kp B__law_same_2 (qs_cons (qo_v (qv_lend (L := sh.heap.objs.size) (cap := cap_law) G__law_all_got (takes_of rfl rfl rfl rfl) (hr.mono (by decide)) rfl T.g__law_all_got F__law_all_got.kp B__law_all_got_1_b (qs_cons (qo_name (i := 9) rfl (by rfl') (by decide) (by decide)) qs_nil rfl) (len_cons len_nil) rfl (fun _ => rfl) capok_law (by decide) rfl rfl)) (qs_cons (qo_name (i := 10) rfl (by rfl') (by decide) (by decide)) qs_nil rfl) rfl) qk_nil rfl rfl rfl rfl (by decide) rfl rfl (len_cons (len_cons len_nil)) len_nil)) (fun _ => rfl))) (qss_cons (qs_ret qv_bl) qss_nil) qss_nil) (qss_cons (qs_asg (i := 9) sc.nd rfl (by and_intros) (qv_lst (qs_cons (qo_v (qv_lam (k := 4) (I := I_4) (e := lamB I_4) (L := sh.heap.objs.size) ⟨TBc, rfl, rfl, hm⟩ ⟨rfl, rfl, lamw_4⟩ rfl rfl rfl rfl rfl)) (qs_cons (qo_v (qv_lam1 (k := 5) (I := I_5) (e := lamB I_5) (L := sh.heap.objs.size) (i := 0) ⟨TBc, rfl, rfl, hm⟩ ⟨rfl, rfl, lamw_5⟩ rfl rfl rfl rfl rfl)) qs_nil rfl) rfl)) rfl (.inl rfl)) (qss_cons (qs_if (qt_not (qt_truth (qo_v (qv_fn (ks := []) (arr := [.inl 0, .inl 1]) (pure_ok G__law_same) (takes_of rfl rfl rfl rfl) (hr.mono (by decide)) rfl T.g__law_same F__law_same.kp B__law_same_2 (qs_cons (qo_v (qv_lend (L := sh.heap.objs.size) (cap := cap_law) G__law_all_got (takes_of rfl rfl rfl rfl) (hr.mono (by decide)) rfl T.g__law_all_got F__law_all_got.kp B__law_all_got_1_b (qs_cons (qo_name (i := 9) rfl (by rfl') (by decide) (by decide)) qs_nil rfl) (len_cons len_nil) rfl (fun _ => rfl) capok_law (by decide) rfl rfl)) (qs_cons (qo_v (qv_op o_mul s_mulX (qo_v (qv_lst (qs_cons (qo_v (qv_tup (qs_cons (qo_v qv_str) (qs_cons (qo_v (qv_lst qs_nil)) qs_nil rfl) rfl))) qs_nil rfl))) (qo_v qv_int))) qs_nil rfl) rfl) qk_nil rfl rfl rfl rfl (by decide) rfl rfl (len_cons (len_cons len_nil)) len_nil)) (fun _ => rfl))) (qss_cons (qs_ret qv_bl) qss_nil) qss_nil) qss_nil)))))))))))) (fun _ => rfl)) (qss_cons (qs_asg (i := 7) sc.nd rfl (by and_intros) (qv_fn (ks := []) (arr := [.inl 0, .inl 1]) G__law_of (takes_of rfl rfl rfl rfl) (hr.mono (by decide)) rfl T.g__law_of F__law_of.kp B__law_of_2 (qs_cons (qo_name (i := 1) rfl (by rfl') (by decide) (by decide)) (qs_cons (qo_v (qv_lst (qs_cons (qo_v qv_int) (qs_cons (qo_v qv_int) (qs_cons (qo_v qv_int) (qs_cons (qo_v qv_int) qs_nil rfl) rfl) rfl) rfl))) qs_nil rfl) rfl) qk_nil rfl rfl rfl rfl (by decide) rfl rfl (len_cons (len_cons len_nil)) len_nil) rfl (.inl rfl)) (qss_cons (qs_setLcG (i := 11) (own := [("_law_row", 12)]) rfl sc.nd (hr.mono (by decide)) rfl rfl rfl (qg_fn (ks := []) (arr := [.inl 0, .inl 1]) G_settings (hr.mono (by decide)) rfl T.g_settings F_settings.kp B_settings_2 (qs_cons (qo_name (i := 7) rfl (by rfl') (by decide) (by decide)) (qs_cons (qo_v (qv_dcon (kvs := [(.inl 2, .inl 14), (.inl 3, .inl 9), (.inl 5, .inl 6), (.inl 7, .inl 5)]) (u2 hr) (pps_cons pe_int pe_int (pps_cons pe_int pe_int (pps_cons pe_int pe_int (pps_cons pe_int pe_int pps_nil)))) rfl rfl (by simp) (by decide) (by decide) rfl (qo_name (i := 7) rfl (by rfl') (by decide) (by decide)) (fun _ _ => rfl))) qs_nil rfl) rfl) qk_nil rfl rfl rfl rfl (by decide) rfl rfl (len_cons (len_cons len_nil)) len_nil) (blkOk_by (by rfl)) (by decide +kernel) (fun _ _ _ _ _ => (qg_name (i := 12) sc.nd rfl (by and_intros) (by and_intros))) (fun _ _ _ _ _ => qts_nil) (fun _ _ _ _ _ => (qo_name (i := 12) rfl (by rfl') (by decide) (by decide))) (fun _ => rfl)) (qss_cons (qs_asg (i := 10) sc.nd rfl (by and_intros) (qv_dcon (kvs := [(.inl 2, .inl 16384), (.inl 3, .inl 19683), (.inl 5, .inl 15625), (.inl 7, .inl 16807)]) (u2 hr) (pps_cons pe_int pe_int (pps_cons pe_int pe_int (pps_cons pe_int pe_int (pps_cons pe_int pe_int pps_nil)))) rfl rfl (by simp) (by decide) (by decide) rfl (qo_name (i := 7) rfl (by rfl') (by decide) (by decide)) (fun _ _ => rfl)) rfl (.inl rfl)) (qss_cons (qs_ret (qv_and (qv_cmp (op_eqD (u64 hr)) s_eqF (qo_v (qv_callB cr_len1 s_lenF rfl T.n_len boot_len (qs_cons (qo_name (i := 11) rfl (by rfl') (by decide) (by decide)) qs_nil rfl) (by decide) (by decide) rfl rfl)) (qo_name (i := 10) rfl (by rfl') (by decide) (by decide)) (nomark _)) (qv_one (qv_fn (ks := []) (arr := [.inl 0, .inl 1]) (pure_ok G__law_same) (takes_of rfl rfl rfl rfl) (hr.mono (by decide)) rfl T.g__law_same F__law_same.kp B__law_same_2 (qs_cons (qo_v (qv_ix ix_seq s_ixF (qo_name (i := 11) rfl (by rfl') (by decide) (by decide)) (qo_v (qv_op op_sub s_subI (qo_name (i := 10) rfl (by rfl') (by decide) (by decide)) (qo_v qv_int))) (fun _ _ => rfl))) (qs_cons (qo_v (qv_op o_add s_addX (qo_v (qv_tup (qs_cons (qo_v (qv_op op_sub s_subI (qo_name (i := 7) rfl (by rfl') (by decide) (by decide)) (qo_v qv_int))) qs_nil rfl))) (qo_v (qv_op o_mulU s_mulU (qo_v (qv_tup (qs_cons (qo_v (qv_op op_sub s_subI (qo_name (i := 7) rfl (by rfl') (by decide) (by decide)) (qo_v qv_int))) qs_nil rfl))) (qo_v (qv_op op_sub s_subI (qo_v (qv_callB cr_len1 s_lenF rfl T.n_len boot_len (qs_cons (qo_v (qv_ix ix_seq s_ixF (qo_name (i := 11) rfl (by rfl') (by decide) (by decide)) (qo_v qv_int) (fun _ _ => rfl))) qs_nil rfl) (by decide) (by decide) rfl rfl)) (qo_v qv_int))))))) qs_nil rfl) rfl) qk_nil rfl rfl rfl rfl (by decide) rfl rfl (len_cons (len_cons len_nil)) len_nil)))) qss_nil)))))) rfl
end
theorem txt_of {K : PySem.W.Frag} {h : Heap} {mg : Str → Option Value} (X : K.In h) (G : h.Ns mainGlobals mg) (c : ZSays fa fn K) : Txt K mg where
  n_int := He.free_ok X G (c.fact 0 rfl)
  n_list := He.free_ok X G (c.fact 1 rfl)
  n_range := He.free_ok X G (c.fact 2 rfl)
  n_len := He.free_ok X G (c.fact 3 rfl)
  n_abs := He.free_ok X G (c.fact 4 rfl)
  n_isinstance := He.free_ok X G (c.fact 5 rfl)
  n_bool := He.free_ok X G (c.fact 6 rfl)
  n_super := He.free_ok X G (c.fact 7 rfl)
  n_tuple := He.free_ok X G (c.fact 8 rfl)
  n_all := He.free_ok X G (c.fact 9 rfl)
  n_zip := He.free_ok X G (c.fact 10 rfl)
  n_str := He.free_ok X G (c.fact 11 rfl)
  g_law := He.glo_ok X G (c.fact 12 rfl)
  g__law_bag := He.glo_ok X G (c.fact 13 rfl)
  g__law_pull := He.glo_ok X G (c.fact 14 rfl)
  g__law_of := He.glo_ok X G (c.fact 15 rfl)
  g__law_prime := He.glo_ok X G (c.fact 16 rfl)
  g__law_few := He.glo_ok X G (c.fact 17 rfl)
  g_is_number := He.glo_ok X G (c.fact 18 rfl)
  g_PRIMES := He.glo_ok X G (c.fact 19 rfl)
  t_PRIMES := c.fact 20 rfl
  g_is_prime := He.glo_ok X G (c.fact 21 rfl)
  g_InvalidPrime := He.glo_ok X G (c.fact 22 rfl)
  xc_InvalidPrime := c.fact 23 rfl
  g_TurnError := He.glo_ok X G (c.fact 24 rfl)
  g_Missing := He.glo_ok X G (c.fact 25 rfl)
  g_NothingLeft := He.glo_ok X G (c.fact 26 rfl)
  ct_InvalidPrime := catB_ok (c.fact 27 rfl)
  g_need_prime := He.glo_ok X G (c.fact 28 rfl)
  g_is_within := He.glo_ok X G (c.fact 29 rfl)
  k_MOST_DIALS := He.int_ok X G (c.fact 30 rfl)
  g_InvalidCount := He.glo_ok X G (c.fact 31 rfl)
  xc_InvalidCount := c.fact 32 rfl
  ct_InvalidCount := catB_ok (c.fact 33 rfl)
  g_need_dials := He.glo_ok X G (c.fact 34 rfl)
  g_power_of := He.glo_ok X G (c.fact 35 rfl)
  k_MOST_SETTINGS := He.int_ok X G (c.fact 36 rfl)
  g_TooMany := He.glo_ok X G (c.fact 37 rfl)
  xc_TooMany := c.fact 38 rfl
  ct_TooMany := catB_ok (c.fact 39 rfl)
  g_need_few := He.glo_ok X G (c.fact 40 rfl)
  g_setting_of := He.glo_ok X G (c.fact 41 rfl)
  g_settings := He.glo_ok X G (c.fact 42 rfl)
  g__law_same := He.glo_ok X G (c.fact 43 rfl)
  g__law_all_rows := He.glo_ok X G (c.fact 44 rfl)
  g__law_got := He.glo_ok X G (c.fact 45 rfl)
  g__law_all_got := He.glo_ok X G (c.fact 46 rfl)
  qh_ns_InvalidPrime := of_decide_eq_true (c.fact 47 rfl)
  qh_ns_InvalidCount := of_decide_eq_true (c.fact 48 rfl)
  qh_ns_TooMany := of_decide_eq_true (c.fact 49 rfl)
  f__law_bag := c.def_ 0 (d := z__law_bag) rfl
  f__law_pull := c.def_ 1 (d := z__law_pull) rfl
  f__law_of := c.def_ 2 (d := z__law_of) rfl
  f__law_prime := c.def_ 3 (d := z__law_prime) rfl
  f__law_few := c.def_ 4 (d := z__law_few) rfl
  f_is_number := c.def_ 5 (d := z_is_number) rfl
  f_is_prime := c.def_ 6 (d := z_is_prime) rfl
  f_need_prime := c.def_ 7 (d := z_need_prime) rfl
  f_is_within := c.def_ 8 (d := z_is_within) rfl
  f_need_dials := c.def_ 9 (d := z_need_dials) rfl
  f_power_of := c.def_ 10 (d := z_power_of) rfl
  f_need_few := c.def_ 11 (d := z_need_few) rfl
  f_setting_of := c.def_ 12 (d := z_setting_of) rfl
  f_settings := c.def_ 13 (d := z_settings) rfl
  f__law_same := c.def_ 14 (d := z__law_same) rfl
  f__law_all_rows := c.def_ 15 (d := z__law_all_rows) rfl
  f__law_got := c.def_ 16 (d := z__law_got) rfl
  f__law_all_got := c.def_ 17 (d := z__law_all_got) rfl
  f_law := c.def_ 18 (d := z_law) rfl
  i_InvalidPrime___ := c.sup_ 19 (d := z_InvalidPrime___init__) rfl rfl
  i_InvalidCount___ := c.sup_ 20 (d := z_InvalidCount___init__) rfl rfl
  i_TooMany___ := c.sup_ 21 (d := z_TooMany___init__) rfl rfl
end Y
namespace Y
open PySem Z
instance : Inhabited D := ⟨.non⟩
def BagOk (r : List D) : Prop := ∃ (cs : List Int) (a b c e : Int), r = [.lst (cs.map D.int), .int a, .int b, .int c, .int e] ∧ 0 ≤ a ∧ 0 ≤ b ∧ 0 ≤ c ∧ c < 2147483648
theorem emod_bd {x m : Int} (h : 0 < m) : 0 ≤ x % m ∧ x % m < m := ⟨Int.emod_nonneg _ (by omega), Int.emod_lt_of_pos _ h⟩
theorem pull_ok {bag : List D} {m : Int} (hb : BagOk bag) (hm : 0 < m) (hm2 : m < 1073741824) : ∃ d bag', D__law_pull [.ol bag, .sh (.int m)] = .ok (.sh (.int d)) [.ol bag', .sh (.int m)] ∧ 0 ≤ d ∧ d < m ∧ BagOk bag' := by
  obtain ⟨cs, a, b, c, e, rfl, ha, hb, hc, hc2⟩ := hb
  have bd := fun x => @emod_bd x 2147483629 (by decide)
  by_cases h1 : b = 0
  · by_cases h2 : a < (cs.map D.int).length
    · have ea : L2.atI (cs.map D.int) a = some (.int cs[a.toNat]!) := by
        rw [atZ ha h2]
        rw [List.length_map] at h2
        have h3 : a.toNat < cs.length := by omega
        simp [h3]
      generalize cs[a.toNat]! = v at ea
      by_cases h3 : 1000000000000000000 ≤ iabs v
      · have h4 : 0 < iabs v := by omega
        unfold D__law_pull S__law_pull
        simp_arith [h1, h2, ea, h3, h4]
        exact ⟨_, _, rfl, (emod_bd hm).1, (emod_bd hm).2, cs, _, _, _, _, rfl, by omega, Int.ediv_nonneg (by omega) (by omega), hc, hc2⟩
      · unfold D__law_pull S__law_pull
        simp_arith [h1, h2, ea, h3, Int.lt_irrefl]
        exact ⟨_, _, rfl, (emod_bd hm).1, (emod_bd hm).2, cs, _, _, _, _, rfl, by omega, by omega, (bd _).1, Int.lt_trans (bd _).2 (by decide)⟩
    · unfold D__law_pull S__law_pull
      simp_arith [h1, h2, Int.lt_irrefl]
      exact ⟨_, _, rfl, (emod_bd hm).1, (emod_bd hm).2, cs, _, _, _, _, rfl, by omega, by omega, (bd _).1, Int.lt_trans (bd _).2 (by decide)⟩
  · have h5 : 0 < b := by omega
    unfold D__law_pull S__law_pull
    simp_arith [h1, h5]
    exact ⟨_, _, rfl, (emod_bd hm).1, (emod_bd hm).2, cs, _, _, _, _, rfl, by omega, Int.ediv_nonneg (by omega) (by omega), hc, hc2⟩
theorem cut_map (ns : List Int) (lo hi : Option Int) : ∃ cs : List Int, cutG (ns.map D.int) lo hi = cs.map D.int := by
  unfold cutG
  rw [← List.map_drop, ← List.map_take]
  exact ⟨_, rfl⟩
theorem slF_fls {ds : List D} {lo hi : Option Int} : slF (.sh (.fls ds)) lo hi = some (.ol (cutG ds lo hi)) := rfl
theorem bag_ok (ns : List Int) : ∃ bag, D__law_bag [.sh (.fls (ns.map D.int))] = .ok (.ol bag) [.sh (.fls (ns.map D.int))] ∧ BagOk bag := by
  obtain ⟨cs, hcs⟩ := cut_map ns none (some 63)
  obtain ⟨env', h1, mx, o, h2, h3, h4⟩ := forM_nx (pn := []) (t := .name 2) (s := L__law_bag_1 []) (ds := cs.map D.int) (n := 0) (env := [some (.sh (.fls (ns.map D.int))), some (.sh (.int 4926)), none])
    (fun _ env => ∃ (mx : Int) (o : Option RV), env = [some (.sh (.fls (ns.map D.int))), some (.sh (.int mx)), o] ∧ 0 ≤ mx ∧ mx < 2147483648) ⟨4926, none, rfl, by decide, by decide⟩ (by
      rintro i d env hd ⟨mx, o, rfl, m1, m2⟩
      rw [List.getElem?_map] at hd
      cases z : cs[i]? with
      | none => rw [z] at hd; cases hd
      | some v =>
        rw [z] at hd; cases hd
        simp_arith [forStep, L__law_bag_1]
        refine ⟨_, rfl, _, _, rfl, (emod_bd ?_).1, Int.lt_trans (emod_bd ?_).2 ?_⟩ <;> decide)
  subst h2
  unfold D__law_bag S__law_bag
  simp_arith [slF_fls, hcs, h1]
  exact ⟨_, rfl, cs, _, _, _, _, rfl, by decide, by decide, h3, h4⟩
theorem of_ok {bag xs : List D} (hb : BagOk bag) (hx : 0 < xs.length) (hx2 : xs.length < 1000) : ∃ x bag', D__law_of [.ol bag, .sh (.lst xs)] = .ok (.sh x) [.ol bag', .sh (.lst xs)] ∧ x ∈ xs ∧ BagOk bag' := by
  obtain ⟨d, bag', h1, h2, h3, h4⟩ := pull_ok (m := xs.length) hb (by omega) (by omega)
  have e : L2.atI xs d = some xs[d.toNat]! := by
    rw [atZ h2 h3]
    have : d.toNat < xs.length := by omega
    simp [this]
  refine ⟨xs[d.toNat]!, bag', ?_, ?_, h4⟩
  · unfold D__law_of S__law_of
    simp_arith [h1, e]
  · have : d.toNat < xs.length := by omega
    simp [this]
theorem prime_ok {bag : List D} (hb : BagOk bag) : ∃ p bag', D__law_prime [.ol bag] = .ok (.sh (.int p)) [.ol bag'] ∧ (p = 2 ∨ p = 3 ∨ p = 5 ∨ p = 7) ∧ BagOk bag' := by
  obtain ⟨x, bag', h1, h2, h3⟩ := of_ok (xs := [.int 2, .int 2, .int 3, .int 2, .int 3, .int 5, .int 7]) hb (by decide) (by decide)
  have : ∃ p : Int, x = .int p ∧ (p = 2 ∨ p = 3 ∨ p = 5 ∨ p = 7) := by
    simp only [List.mem_cons, List.not_mem_nil, or_false] at h2
    rcases h2 with rfl | rfl | rfl | rfl | rfl | rfl | rfl <;> exact ⟨_, rfl, by omega⟩
  obtain ⟨p, rfl, hp⟩ := this
  refine ⟨p, bag', ?_, hp, h3⟩
  unfold D__law_prime S__law_prime
  simp_arith [h1]
theorem rng1_int {j : Int} (h1 : -4611686018427387904 < j) (h2 : j < 4611686018427387904) : rng1F [.sh (.int j)] = some (rangeD 0 j.toNat) := by
  show (if in62 j = true then some (rangeD 0 j.toNat) else none) = _
  have h3 : in62 j = true := Nat.ble_eq_true_of_le (by omega)
  rw [if_pos h3]
end Y
namespace Y
open PySem Z
theorem number_ok {i : Int} : D_is_number [.sh (.int i)] = .ok (.sh (.bl true)) [.sh (.int i)] := by
  unfold D_is_number S_is_number
  simp_arith
theorem within_ok {v lo hi : Int} (h1 : lo ≤ v) (h2 : v ≤ hi) : D_is_within [.sh (.int v), .sh (.int lo), .sh (.int hi)] = .ok (.sh (.bl true)) [.sh (.int v), .sh (.int lo), .sh (.int hi)] := by
  unfold D_is_within S_is_within
  simp_arith [number_ok, h1, h2]
theorem bools_true : ∀ n : Nat, boolsOf (List.replicate n (D.bl true)) = some (List.replicate n true)
  | 0 => rfl
  | n + 1 => by simp [List.replicate_succ, boolsOf, bools_true n]
theorem allF_true {n : Nat} : allF [.sh (.lst (List.replicate n (D.bl true)))] = some (.sh (.bl true)) := by
  show Option.map _ (Option.bind (some _) boolsOf) = _
  rw [Option.bind_some, bools_true]
  simp
end Y
namespace Y
open PySem Z
def Good : Nat → D → Prop
  | n + 1, .int _ => True
  | n + 1, .bl _ => True
  | n + 1, .non => True
  | n + 1, .str x => PyData.strOk x = true
  | n + 1, .lst xs => (∀ x ∈ xs, Good n x) ∧ xs.length ≤ 100000
  | n + 1, .tup xs => (∀ x ∈ xs, Good n x) ∧ xs.length ≤ 100000
  | _, _ => False
theorem zip_mem : ∀ {xs : List D} {d : D}, d ∈ zipD xs xs → ∃ x ∈ xs, d = .tup [x, x]
  | [], d, h => by simp [zipD] at h
  | y :: ys, d, h => by
    rw [zipD] at h
    rcases List.mem_cons.mp h with h | h
    · exact ⟨y, List.mem_cons_self, h⟩
    · obtain ⟨x, h1, h2⟩ := zip_mem h
      exact ⟨x, List.mem_cons_of_mem _ h1, h2⟩
theorem zip_length : ∀ {xs : List D}, (zipD xs xs).length = xs.length
  | [] => rfl
  | y :: ys => by rw [zipD, List.length_cons, List.length_cons, zip_length]
theorem same_seq {f : FnD} {d : D} {xs : List D} (hd : d = .lst xs ∨ d = .tup xs) (hl : xs.length ≤ 100000) (hf : ∀ x ∈ xs, f [.sh x, .sh x] = .ok (.sh (.bl true)) [.sh x, .sh x]) : runD 4 (S__law_same f) [.sh d, .sh d] = .ok (.sh (.bl true)) [.sh d, .sh d] := by
  obtain ⟨acc, env', g1, ⟨n, o1, o2, rfl, rfl⟩, g3⟩ := lcGo_ok (pn := []) (vs := [2, 3]) (t := .tup [.name 2, .name 3]) (me := E__law_same_1 f []) (ds := zipD xs xs) (acc := []) (env := [some (.sh d), some (.sh d), none, none])
    (fun acc env => ∃ (n : Nat) (o1 o2 : Option RV), acc = List.replicate n (D.bl true) ∧ env = [some (.sh d), some (.sh d), o1, o2])
    ⟨0, none, none, rfl, rfl⟩ (by rw [zip_length]; simp; omega) (by
      rintro acc y env hy ⟨n, o1, o2, rfl, rfl⟩
      obtain ⟨x, hx, rfl⟩ := zip_mem hy
      simp_arith [lcStep, E__law_same_1, hf x hx]
      exact ⟨_, _, rfl, n + 1, none, none, by rw [← List.replicate_succ'], rfl⟩)
  rcases hd with rfl | rfl
  · have hi : I__law_same_1 f [] [some (.sh (.lst xs)), some (.sh (.lst xs)), none, none] = .ok (zipD xs xs) [some (.sh (.lst xs)), some (.sh (.lst xs)), none, none] := by
      unfold I__law_same_1; simp_arith
    have hm := lcM_eq hi (by decide) g1
    unfold S__law_same
    simp_arith [hm, wipeD, allF_true, List.any_cons, List.any_nil, Bool.or_self, Bool.true_or, Bool.false_or, bne_self_eq_false]
  · have hi : I__law_same_1 f [] [some (.sh (.tup xs)), some (.sh (.tup xs)), none, none] = .ok (zipD xs xs) [some (.sh (.tup xs)), some (.sh (.tup xs)), none, none] := by
      unfold I__law_same_1; simp_arith
    have hm := lcM_eq hi (by decide) g1
    unfold S__law_same
    simp_arith [hm, wipeD, allF_true, List.any_cons, List.any_nil, Bool.or_self, Bool.true_or, Bool.false_or, bne_self_eq_false]
theorem same_ok : ∀ (n : Nat) (d : D), Good n d → D__law_same n [.sh d, .sh d] = .ok (.sh (.bl true)) [.sh d, .sh d]
  | 0, d, h => by cases d <;> exact h.elim
  | n + 1, d, h => by
    show runD 4 (S__law_same (D__law_same n)) [.sh d, .sh d] = _
    cases d with
    | int i =>
      unfold S__law_same
      simp_arith [List.any_cons, List.any_nil, Bool.or_self, Bool.true_or, Bool.false_or, bne_self_eq_false, isF, isNon, beq_self_eq_true]
    | bl b =>
      unfold S__law_same
      simp_arith [List.any_cons, List.any_nil, Bool.or_self, Bool.true_or, Bool.false_or, bne_self_eq_false, isF, isNon, beq_self_eq_true]
    | str x =>
      have e := eqF_same (n := 1) (a := .sh (.str x)) (b := .sh (.str x)) (by decide) h rfl
      unfold S__law_same
      simp_arith [List.any_cons, List.any_nil, Bool.or_self, Bool.true_or, Bool.false_or, bne_self_eq_false, isF, isNon, beq_self_eq_true, e]
    | non =>
      unfold S__law_same
      simp_arith [List.any_cons, List.any_nil, Bool.or_self, Bool.true_or, Bool.false_or, bne_self_eq_false, isF, isNon, beq_self_eq_true]
    | lst xs => exact same_seq (.inl rfl) h.2 fun x hx => same_ok n x (h.1 x hx)
    | tup xs => exact same_seq (.inr rfl) h.2 fun x hx => same_ok n x (h.1 x hx)
    | _ => exact h.elim
theorem good_ints {n : Nat} {l : List Int} : ∀ x ∈ l.map D.int, Good (n + 1) x := fun x hx => by
  obtain ⟨i, _, rfl⟩ := List.mem_map.mp hx
  trivial
end Y
namespace Y
open PySem Z
abbrev Rows := List (Int × List Int)
instance : Inhabited (Int × List Int) := ⟨(0, [])⟩
end Y
namespace Y
open PySem Z
abbrev tupI (l : List Int) : D := .tup (l.map D.int)
end Y
namespace Y
open PySem Z
def SetOk (p : Int) (row : List Int) : Prop := ∀ f ∈ row, 0 ≤ f ∧ f < p
end Y
namespace Y
open PySem Z
theorem power_p {p : Int} {k : Nat} (hp : 0 < p) (hp2 : p < 1000) (hk : k < 1000) : D_power_of [.sh (.int p), .sh (.int k)] = .ok (.sh (.int (p ^ k))) [.sh (.int p), .sh (.int k)] := by
  obtain ⟨env', g1, o, g2⟩ := forM_nx (pn := []) (t := .name 3) (s := L_power_of_1 []) (ds := rangeD 0 k) (n := 0) (env := [some (.sh (.int p)), some (.sh (.int k)), some (.sh (.int 1)), none])
    (fun i env => ∃ o : Option RV, env = [some (.sh (.int p)), some (.sh (.int k)), some (.sh (.int (p ^ i))), o]) ⟨none, by rw [Int.pow_zero]⟩ (by
      rintro i y env hy ⟨o, rfl⟩
      simp_all_arith [forStep, L_power_of_1]
      exact ⟨_, rfl, _, by rw [Int.pow_succ]⟩)
  have hl : (rangeD 0 k).length = k := by rw [rangeD_map, List.length_map, List.length_range]
  rw [hl, Nat.zero_add] at g2
  subst g2
  have hr : rng1F [.sh (.int k)] = some (rangeD 0 k) := by rw [rng1_int (by omega) (by omega), Int.toNat_natCast]
  unfold D_power_of S_power_of
  simp_all_arith [hr, g1]
theorem few_ok {p : Int} {k : Nat} (hp : 0 < p) (hp2 : p < 1000) (hk : k < 1000) (h : p ^ k ≤ 20000) : D_need_few [.sh (.int p), .sh (.int k)] = .ok (.sh .non) [.sh (.int p), .sh (.int k)] := by
  have h1 := power_p hp hp2 hk
  have h2 : ¬ (20000 : Int) < p ^ k := by omega
  unfold D_need_few S_need_few
  simp_all_arith [h1, h2]
theorem few_bad {p : Int} {k : Nat} (hp : 0 < p) (hp2 : p < 1000) (hk : k < 1000) (h : 20000 < p ^ k) : D_need_few [.sh (.int p), .sh (.int k)] = .err (exn1 "TooMany" "most" (.int 20000)) [.sh (.int p), .sh (.int k)] := by
  have h1 := power_p hp hp2 hk
  unfold D_need_few S_need_few
  simp_all_arith [h1, h]
end Y
namespace Y
open PySem Z
theorem need_dials_ok {n : Nat} (hn : n ≤ 200) : D_need_dials [.sh (.int n)] = .ok (.sh .non) [.sh (.int n)] := by
  have hw := within_ok (v := n) (lo := 0) (hi := 200) (by omega) (by omega)
  unfold D_need_dials S_need_dials
  simp_all_arith [hw]
end Y
namespace Y
open PySem Z
def allR (p : Int) : Nat → List (List Int)
  | 0 => [[]]
  | n + 1 => (List.range p.toNat).flatMap fun (x : Nat) => (allR p n).map fun r => r ++ [(x : Int)]
theorem allR_len (p : Int) : ∀ n : Nat, (allR p n).length = p.toNat ^ n
  | 0 => rfl
  | n + 1 => by
    have h : ∀ m : Nat, ((List.range m).flatMap fun (x : Nat) => (allR p n).map fun r => r ++ [(x : Int)]).length = m * (allR p n).length := by
      intro m
      induction m with
      | zero => simp
      | succ m ih => rw [List.range_succ, List.flatMap_append, List.length_append, ih]; simp [Nat.succ_mul]
    rw [allR, h, allR_len p n, Nat.pow_succ, Nat.mul_comm]
theorem allR_ok {p : Int} : ∀ {n : Nat} {r : List Int}, r ∈ allR p n → r.length = n ∧ SetOk p r
  | 0, r, h => by
    simp [allR] at h; subst h
    exact ⟨rfl, fun f hf => by simp at hf⟩
  | n + 1, r, h => by
    simp only [allR, List.mem_flatMap, List.mem_range, List.mem_map] at h
    obtain ⟨x, hx, q, hq, rfl⟩ := h
    obtain ⟨h1, h2⟩ := allR_ok hq
    refine ⟨by simp [h1], fun f hf => ?_⟩
    rcases List.mem_append.mp hf with hf | hf
    · exact h2 f hf
    · simp at hf; subst hf; omega
def stepR (L : List (List Int)) (acc : List (List Int)) (x : Nat) : List (List Int) := acc ++ L.map fun r => r ++ [(x : Int)]
theorem stepR_fold (L : List (List Int)) : ∀ (xs : List Nat) (acc : List (List Int)), xs.foldl (stepR L) acc = acc ++ xs.flatMap fun (x : Nat) => L.map fun r => r ++ [(x : Int)]
  | [], acc => by simp
  | x :: xs, acc => by rw [List.foldl_cons, stepR_fold L xs, stepR]; simp
theorem allrows_in {p many : RV} {o3 a6 : Option RV} {fn : RV} {L : List (List Int)} {q : Nat} (hf : fn = .ol (L.map tupI) ∨ fn = .sh (.lst (L.map tupI))) (hL : q * L.length ≤ 50000) (hr : ∀ r ∈ L, r.length ≤ 1000) {a5 : Option RV} :
    ∃ fn' o5 o6 lt, (fn' = .ol (L.map tupI) ∨ fn' = .sh (.lst (L.map tupI))) ∧ lt = .ol ((((List.range q).flatMap fun (x : Nat) => L.map fun r => r ++ [(x : Int)])).map tupI) ∧
      forM [] (.name 5) (L__law_all_rows_1 []) ((List.range q).map fun (i : Nat) => D.int (i : Int)) [some p, some many, some fn, o3, some (.ol []), a5, a6] = .nx [some p, some many, some fn', o3, some lt, o5, o6] := by
  obtain ⟨env', g1, ⟨fn', o5', o6', hfn, rfl⟩, g3⟩ := forM_exi (pn := []) (t := .name 5) (s := L__law_all_rows_1 [])
    (fun i (acc : List (List Int)) env => (∃ fn' o5 o6, (fn' = .ol (L.map tupI) ∨ fn' = .sh (.lst (L.map tupI))) ∧ env = [some p, some many, some fn', o3, some (.ol (acc.map tupI)), o5, o6]) ∧ acc.length = i * L.length)
    (stepR L) (fun (i : Nat) => D.int (i : Int)) (xs := List.range q) (n := 0) (x0 := []) (env := [some p, some many, some fn, o3, some (.ol []), a5, a6]) ⟨⟨fn, a5, a6, hf, rfl⟩, by simp⟩ (by
      rintro i acc x env hm ⟨⟨fn', o5, o6, hfn, rfl⟩, hl⟩
      obtain ⟨hi1, hi2⟩ := List.getElem?_eq_some_iff.mp hm
      rw [List.length_range] at hi1
      rw [List.getElem_range] at hi2
      subst hi2
      rw [Nat.zero_add] at hl
      have hb : (i + 1) * L.length ≤ q * L.length := Nat.mul_le_mul_right _ hi1
      rw [Nat.succ_mul] at hb
      have hI : I__law_all_rows_1 [] [some p, some many, some fn', o3, some (.ol (acc.map tupI)), some (.sh (.int (i : Int))), o6] = .ok (L.map tupI) [some p, some many, some (.sh (.lst (L.map tupI))), o3, some (.ol (acc.map tupI)), some (.sh (.int (i : Int))), o6] := by
        unfold I__law_all_rows_1
        rcases hfn with rfl | rfl
        · simp_all_arith
        · simp_all_arith
      have hw : ∀ o : Option RV, lcM [] [6] (.name 6) (I__law_all_rows_1 []) yesM (E__law_all_rows_1 []) [some p, some many, some fn', o3, some (.ol (acc.map tupI)), some (.sh (.int (i : Int))), o] = .ok (.ol ((L.map fun r => tupI (r ++ [(i : Int)])))) [some p, some many, some (.sh (.lst (L.map tupI))), o3, some (.ol (acc.map tupI)), some (.sh (.int (i : Int))), none] := fun o => by
        have hI2 : I__law_all_rows_1 [] [some p, some many, some fn', o3, some (.ol (acc.map tupI)), some (.sh (.int (i : Int))), o] = .ok (L.map tupI) [some p, some many, some (.sh (.lst (L.map tupI))), o3, some (.ol (acc.map tupI)), some (.sh (.int (i : Int))), o] := by
          unfold I__law_all_rows_1
          rcases hfn with rfl | rfl
          · simp_all_arith
          · simp_all_arith
        have hg := lcGo_map (pn := []) (vs := [6]) (t := .name 6) (me := E__law_all_rows_1 []) (enc := tupI) (g := fun r => tupI (r ++ [(i : Int)])) (env := [some p, some many, some (.sh (.lst (L.map tupI))), o3, some (.ol (acc.map tupI)), some (.sh (.int (i : Int))), none]) (xs := L) (acc := []) (by simp; omega) fun r hrm => by
          have hlr := hr r hrm
          have ha := addD_tup (xs := r.map D.int) (ys := [.int (i : Int)]) (by simp; omega)
          have e : r.map D.int ++ [.int (i : Int)] = (r ++ [(i : Int)]).map D.int := by simp
          rw [e] at ha
          simp_all_arith [lcStep, E__law_all_rows_1, ha]
          exact ⟨_, rfl, rfl⟩
        exact lcM_eq (mt := yesM) hI2 (by decide) hg
      have ha := addD_lst (a := .ol (acc.map tupI)) (b := .sh (.lst (L.map fun r => tupI (r ++ [(i : Int)])))) (xs := acc.map tupI) (ys := L.map fun r => tupI (r ++ [(i : Int)])) rfl rfl (by simp; omega)
      have e : acc.map tupI ++ (L.map fun r => tupI (r ++ [(i : Int)])) = (stepR L acc i).map tupI := by simp [stepR]
      rw [e] at ha
      simp_all_arith [forStep, L__law_all_rows_1, hw, ha]
      exact ⟨_, rfl, ⟨_, _, _, .inr rfl, rfl⟩, by rw [stepR, List.length_append, List.length_map, hl]; rw [Nat.add_mul, Nat.one_mul]⟩)
  rw [stepR_fold, List.nil_append] at g1
  exact ⟨fn', o5', o6', _, hfn, rfl, g1⟩
theorem allrows_p {p : Int} {n : Nat} (hp : 0 < p) (hp2 : p < 100) (hn : n ≤ 100) (hb : p.toNat ^ n ≤ 50000) : D__law_all_rows [.sh (.int p), .sh (.int n)] = .ok (if n = 0 then .ol ((allR p n).map tupI) else .sh (.lst ((allR p n).map tupI))) [.sh (.int p), .sh (.int n)] := by
  have hr := rng1_int (j := p) (by omega) (by omega)
  rw [rangeD_map] at hr
  have hr2 := rng1_int (j := (n : Int)) (by omega) (by omega)
  rw [Int.toNat_natCast] at hr2
  obtain ⟨env', g1, ⟨o3, o4, o5, o6, rfl⟩⟩ := forM_nx (pn := []) (t := .name 3) (s := L__law_all_rows_2 []) (ds := rangeD 0 n) (n := 0) (env := [some (.sh (.int p)), some (.sh (.int n)), some (.ol [.tup []]), none, none, none, none])
    (fun i env => ∃ (o3 o4 o5 o6 : Option RV), env = [some (.sh (.int p)), some (.sh (.int n)), some (if i = 0 then .ol ((allR p i).map tupI) else .sh (.lst ((allR p i).map tupI))), o3, o4, o5, o6]) ⟨none, none, none, none, rfl⟩ (by
      rintro i y env hy ⟨o3, o4, o5, o6, rfl⟩
      have hi : i < n := by
        have := (List.getElem?_eq_some_iff.mp hy).1
        simpa [rangeD] using this
      rw [Nat.zero_add]
      have hpow : p.toNat * (allR p i).length ≤ 50000 := by
        rw [allR_len, ← Nat.pow_succ']
        exact Nat.le_trans (Nat.pow_le_pow_right (by omega) (by omega)) hb
      have hbd : ∀ r ∈ allR p i, r.length ≤ 1000 := fun r hr => by have := (allR_ok hr).1; omega
      have hfn : (if i = 0 then RV.ol ((allR p i).map tupI) else .sh (.lst ((allR p i).map tupI))) = .ol ((allR p i).map tupI) ∨ (if i = 0 then RV.ol ((allR p i).map tupI) else .sh (.lst ((allR p i).map tupI))) = .sh (.lst ((allR p i).map tupI)) := by
        split
        · exact .inl rfl
        · exact .inr rfl
      obtain ⟨fn', q5, q6, lt, h1, rfl, h2⟩ := allrows_in (p := .sh (.int p)) (many := .sh (.int n)) (o3 := some (.sh y)) (a6 := o6) (a5 := o5) hfn hpow hbd
      generalize (if i = 0 then RV.ol ((allR p i).map tupI) else .sh (.lst ((allR p i).map tupI))) = fn at *
      have e : ((List.range p.toNat).flatMap fun (x : Nat) => (allR p i).map fun r => r ++ [(x : Int)]) = allR p (i + 1) := rfl
      rw [e] at h2
      simp_all_arith [forStep, L__law_all_rows_2, hr, h2]
      exact ⟨_, rfl, _, _, _, _, rfl⟩)
  have hl : 0 + (rangeD 0 n).length = n := by simp [rangeD]
  rw [hl] at g1
  unfold D__law_all_rows S__law_all_rows
  by_cases h0 : n = 0
  · rw [if_pos h0] at g1 ⊢
    simp_all_arith [hr2, g1]
  · rw [if_neg h0] at g1 ⊢
    simp_all_arith [hr2, g1]
end Y
namespace Y
open PySem Z
def digs (p : Int) : Int → Nat → List Int
  | _, 0 => []
  | n, k + 1 => n % p :: digs p (n / p) k
theorem digs_len {p : Int} : ∀ {k : Nat} {n : Int}, (digs p n k).length = k
  | 0, _ => rfl
  | k + 1, _ => by rw [digs, List.length_cons, digs_len]
theorem digs_add {p : Int} (hp : 0 < p) : ∀ {k : Nat} {i m : Int}, digs p (m * p ^ k + i) k = digs p i k
  | 0, _, _ => rfl
  | k + 1, i, m => by
    have e : m * p ^ (k + 1) + i = i + p * (m * p ^ k) := by
      rw [Int.pow_succ, Int.add_comm, ← Int.mul_assoc, Int.mul_comm p]
    rw [digs, digs, e, Int.add_mul_emod_self_left, Int.add_mul_ediv_left _ _ (by omega), Int.add_comm (i / p), digs_add hp]
theorem digs_snoc {p : Int} (hp : 0 < p) : ∀ {k : Nat} {n : Int}, digs p n (k + 1) = digs p n k ++ [n / p ^ k % p]
  | 0, n => by simp [digs]
  | k + 1, n => by
    rw [digs, digs_snoc hp, digs, List.cons_append, Int.ediv_ediv_of_nonneg (by omega), Int.pow_succ, Int.mul_comm p]
theorem range_mul (b : Nat) : ∀ a : Nat, List.range (a * b) = (List.range a).flatMap fun x => (List.range b).map fun i => x * b + i
  | 0 => by simp
  | a + 1 => by
    rw [Nat.succ_mul, List.range_add, range_mul b a, List.range_succ, List.flatMap_append]
    simp
theorem allR_digs {p : Int} (hp : 0 < p) : ∀ n : Nat, (List.range (p.toNat ^ n)).map (fun (i : Nat) => digs p (i : Int) n) = allR p n
  | 0 => by simp [allR, digs]
  | n + 1 => by
    have ep : ((p.toNat : Nat) : Int) = p := by omega
    have epn : ((p.toNat ^ n : Nat) : Int) = p ^ n := by rw [← ep]; push_cast; rfl
    rw [Nat.pow_succ, Nat.mul_comm, range_mul, List.map_flatMap, allR]
    rw [List.flatMap_def, List.flatMap_def]
    refine congrArg List.flatten (List.map_congr_left fun x hx => ?_)
    have hx := List.mem_range.mp hx
    rw [← allR_digs hp n, List.map_map, List.map_map]
    refine List.map_congr_left fun i hi => ?_
    have hi := List.mem_range.mp hi
    show digs p ((x * p.toNat ^ n + i : Nat) : Int) (n + 1) = digs p (i : Int) n ++ [(x : Int)]
    have e : ((x * p.toNat ^ n + i : Nat) : Int) = (x : Int) * p ^ n + (i : Int) := by rw [← epn]; push_cast; rfl
    have hpos : 0 < p ^ n := Int.pow_pos hp
    have hi2 : (i : Int) < p ^ n := by rw [← epn]; omega
    rw [e, digs_snoc hp, digs_add hp, Int.add_comm, Int.add_mul_ediv_right _ _ (by omega), Int.ediv_eq_zero_of_lt (by omega) hi2, Int.zero_add, Int.emod_eq_of_lt (by omega) (by omega)]
theorem np_q {p : Int} (hp : p = 2 ∨ p = 3 ∨ p = 5 ∨ p = 7) : D_need_prime [.sh (.int p)] = .ok (.sh .non) [.sh (.int p)] := by
  rcases hp with rfl | rfl | rfl | rfl <;> rfl
def digStep {α : Type} (p : Int) (s : List Int × Int) (_ : α) : List Int × Int := (s.1 ++ [s.2 % p], s.2 / p)
theorem dig_fold {α : Type} {p : Int} : ∀ {l : List α} {acc : List Int} {n : Int}, (l.foldl (digStep p) (acc, n)).1 = acc ++ digs p n l.length
  | [], acc, n => by rw [List.foldl_nil, List.length_nil, digs, List.append_nil]
  | a :: l, acc, n => by
    rw [List.foldl_cons, digStep, dig_fold, List.length_cons, digs, List.append_assoc]; rfl
theorem setting_q {p n : Int} {k : Nat} (hp : p = 2 ∨ p = 3 ∨ p = 5 ∨ p = 7) (hk : k ≤ 200) : D_setting_of [.sh (.int p), .sh (.int n), .sh (.int k)] = .ok (.sh (tupI (digs p n k))) [.sh (.int p), .sh (.int n), .sh (.int k)] := by
  have hn := need_dials_ok hk
  obtain ⟨env', g1, ⟨o, g2⟩, g3⟩ := forM_exi (pn := []) (t := .name 4) (s := L_setting_of_1 []) (fun i (a : List Int × Int) env => (∃ o : Option RV, env = [some (.sh (.int p)), some (.sh (.int a.2)), some (.sh (.int k)), some (.ol (a.1.map D.int)), o]) ∧ a.1.length = i)
    (digStep p) (fun (i : Nat) => D.int (i : Int)) (xs := List.range k) (n := 0) (x0 := ([], n)) (env := [some (.sh (.int p)), some (.sh (.int n)), some (.sh (.int k)), some (.ol []), none]) ⟨⟨none, rfl⟩, rfl⟩ (by
      rintro i a x env hx ⟨⟨o, rfl⟩, ha⟩
      have hi : i < k := by have := (List.getElem?_eq_some_iff.mp hx).1; simpa using this
      have hz : (a.1.map D.int).length < 16777216 := by rw [List.length_map]; omega
      have hp0 : 0 < p := by omega
      have hp1 : p < 1073741824 := by omega
      simp_all_arith [forStep, L_setting_of_1, hz, hp0, hp1]
      exact ⟨_, rfl, ⟨some (.sh (.int x)), by simp [digStep]⟩, by simp [digStep, ha]⟩)
  have hd := dig_fold (l := List.range k) (p := p) (acc := []) (n := n)
  rw [List.nil_append, List.length_range] at hd
  rw [hd] at g2
  subst g2
  have hr : rng1F [.sh (.int k)] = some ((List.range k).map fun (i : Nat) => D.int (i : Int)) := by rw [rng1_int (by omega) (by omega), Int.toNat_natCast, rangeD_map]
  have tf : tupleF [.ol ((digs p n k).map D.int)] = some (.sh (.tup ((digs p n k).map D.int))) := rfl
  unfold D_setting_of S_setting_of
  simp_all_arith [np_q hp, hn, hr, g1, tf]
theorem se_for {p : Int} {n : Nat} (hp : p = 2 ∨ p = 3 ∨ p = 5 ∨ p = 7) (hn : n ≤ 200) : ∀ (xs : List Nat) (o : Option RV), isSh o = true → ∃ o2,
    gFor (.name 2) (gSeq (gYl (shareM (fnA (pureF D_setting_of) [.inl 0, .inl 1, .inl 2] (consO (nameO 0) (consO (nameO 2) (consO (nameO 1) nilO))) nilO))) gNil) (xs.map fun (i : Nat) => D.int (i : Int))
      [some (.sh (.int p)), some (.sh (.int n)), o] = (xs.map fun (i : Nat) => tupI (digs p (i : Int) n), .nx [some (.sh (.int p)), some (.sh (.int n)), o2])
  | [], o, _ => ⟨o, rfl⟩
  | i :: xs, o, h => by
    have se := setting_q (n := (i : Int)) hp hn
    obtain ⟨o2, ih⟩ := se_for hp hn xs (some (.sh (.int i))) rfl
    refine ⟨o2, ?_⟩
    rw [List.map_cons, gFor]
    simp_all_arith [gSeq, gYl, gNil, isSh, List.all, se]
    rw [ih]
theorem settings_p {p : Int} {n : Nat} (hp : p = 2 ∨ p = 3 ∨ p = 5 ∨ p = 7) (hn : n ≤ 200) (hf : p ^ n ≤ 20000) : D_settings [.sh (.int p), .sh (.int n)] = ((allR p n).map tupI, .ok) := by
  have n1 := np_q hp
  have n2 := need_dials_ok hn
  have n3 := few_ok (p := p) (k := n) (by omega) (by omega) (by omega) hf
  have pw := power_p (p := p) (k := n) (by omega) (by omega) (by omega)
  have hpos : 0 ≤ p ^ n := Int.le_of_lt (Int.pow_pos (by omega))
  have ep : ((p.toNat : Nat) : Int) = p := by omega
  have epn : (p ^ n).toNat = p.toNat ^ n := by
    have : ((p.toNat ^ n : Nat) : Int) = p ^ n := by rw [← ep]; push_cast; rfl
    omega
  have hr : rng1F [.sh (.int (p ^ n))] = some ((List.range (p.toNat ^ n)).map fun (i : Nat) => D.int (i : Int)) := by rw [rng1_int (by omega) (by omega), epn, rangeD_map]
  obtain ⟨o2, fo⟩ := se_for hp hn (List.range (p.toNat ^ n)) none rfl
  have al : (List.range (p.toNat ^ n)).map (fun (i : Nat) => tupI (digs p (i : Int) n)) = (allR p n).map tupI := by
    rw [← allR_digs (by omega), List.map_map]; rfl
  rw [al] at fo
  unfold D_settings S_settings runG
  simp_all_arith [gSeq, gPl, gNil, gForS, n1, n2, n3, pw, hr, isSh, List.all]
  rw [fo]
end Y
namespace Y
open PySem Z
theorem exn1_code {c f : Str} {d : D} : List.lookup ("code" : Str) (exn1 c f d).fs = some (.str c) := rfl
theorem exn1_det {c f : Str} {d : D} : List.lookup ("details" : Str) (exn1 c f d).fs = some (.tup [d]) := rfl
theorem exn1_c {c f : Str} {d : D} : (exn1 c f d).c = c := rfl
theorem got_e1 {k : Nat} {I : LamI} {L : Nat} {ds : List D} {c f : Str} {d : D} {rs : List RV} (h : lamT k I ds [] = .err (exn1 c f d) rs) (hc : c ∈ excs) : D__law_got [.sh (.lam k I L ds)] = .ok (.sh (.tup [.str c, .tup [d]])) [.sh (.lam k I L ds)] := by
  unfold D__law_got S__law_got
  simp_arith [h, hc, exn1_code, exn1_det, exn1_c, List.set_cons_zero, List.set_cons_succ]
theorem got_ok {k : Nat} {I : LamI} {L : Nat} {ds : List D} {r : RV} {rs : List RV} (h : lamT k I ds [] = .ok r rs) : D__law_got [.sh (.lam k I L ds)] = .ok (.sh (.tup [.str "", r.d])) [.sh (.lam k I L ds)] := by
  unfold D__law_got S__law_got
  simp_arith [h]
inductive GotAll : List D → List D → Prop
  | nil : GotAll [] []
  | cons {l r : D} {ls rs : List D} : D__law_got [.sh l] = .ok (.sh r) [.sh l] → GotAll ls rs → GotAll (l :: ls) (r :: rs)
theorem all_go {A : RV} : ∀ {ls rs acc : List D} {o : Option RV}, GotAll ls rs → acc.length + ls.length ≤ 1000 → ∃ o', lcGo [] [1] (.name 1) yesM (E__law_all_got_1 []) ls acc [some A, o] = .ok (acc ++ rs) [some A, o']
  | _, _, acc, o, .nil, _ => ⟨o, by rw [List.append_nil]; rfl⟩
  | _, _, acc, o, @GotAll.cons l r ls rs h t, hl => by
    rw [List.length_cons] at hl
    obtain ⟨o', e⟩ := all_go (A := A) (acc := acc ++ [r]) (o := none) t (by simp; omega)
    refine ⟨o', ?_⟩
    rw [List.append_assoc] at e
    unfold lcGo
    have hz : acc.length < 16777216 := by omega
    simp_arith [E__law_all_got_1, h, wipeD, hz]
    exact e
theorem all_got_ok {ls rs : List D} (h : GotAll ls rs) (hl : ls.length ≤ 1000) : D__law_all_got [.sh (.lst ls)] = .ok (.ol rs) [.sh (.lst ls)] := by
  obtain ⟨o', e⟩ := all_go (A := .sh (.lst ls)) (acc := []) (o := none) h (by simpa using hl)
  have hi : I__law_all_got_1 [] [some (.sh (.lst ls)), none] = .ok ls [some (.sh (.lst ls)), none] := by
    unfold I__law_all_got_1; simp_arith
  have hm := lcM_eq hi (by decide) e
  unfold D__law_all_got S__law_all_got
  simp_arith [hm, wipeD, List.nil_append]
end Y
namespace Y
open PySem Z
theorem cv1_L {L : Nat} {cap : CapT} {env : DEnv} {k : Nat} {I : LamI} : cv1 L cap env (.lam k I L []) = cv0 L cap env k I := by
  unfold cv1; exact if_pos rfl
theorem cvD_l {L : Nat} {cap : CapT} {env : DEnv} {ds : List D} : cvD L cap env (.lst ds) = .lst (ds.map (cv1 L cap env)) := rfl
theorem good_up : ∀ {n : Nat} {d : D}, Good n d → Good (n + 1) d
  | 0, d, h => by cases d <;> exact h.elim
  | n + 1, d, h => by
    cases d <;> first | exact h.elim | trivial | exact h | exact ⟨fun x hx => good_up (h.1 x hx), h.2⟩
theorem good_le {n m : Nat} {d : D} (h : Good n d) (hm : n ≤ m) : Good m d := by
  induction hm with
  | refl => exact h
  | step _ ih => exact good_up ih
theorem good_err {n : Nat} {c : Str} {d : D} (hc : PyData.strOk c = true) (hd : Good n d) : Good (n + 2) (.tup [.str c, .tup [d]]) := ⟨fun x hx => by
  simp only [List.mem_cons, List.not_mem_nil, or_false] at hx
  rcases hx with rfl | rfl
  · exact hc
  · exact ⟨fun y hy => by obtain rfl := List.mem_singleton.mp hy; exact hd, by simp⟩, by simp⟩
/-- a list of good items -/
inductive Goods (n : Nat) : List D → Prop
  | nil : Goods n []
  | cons {d : D} {ds : List D} : Good n d → Goods n ds → Goods n (d :: ds)
theorem Goods.all {n : Nat} : ∀ {ds : List D}, Goods n ds → ∀ x ∈ ds, Good n x
  | _, .nil, x, h => by simp at h
  | _, .cons a t, x, h => by
    rcases List.mem_cons.mp h with rfl | h
    · exact a
    · exact t.all x h
theorem nl_int {i : Int} : noLam (.int i) = true := by rw [noLam]
end Y
namespace Y
open PySem Z
theorem mulX_rep {d : D} {n : Nat} (h : n ≤ 1000) : mulX (.sh (.tup [d])) (.sh (.int (n : Int))) = some (.sh (.tup (List.replicate n d))) := by
  match n, h with
  | 0, _ => rfl
  | 1, _ => rfl
  | n + 2, h => exact mulX_of (mulD_repT (by omega) h)
theorem few343 {p : Int} (hp : p = 2 ∨ p = 3 ∨ p = 5 ∨ p = 7) : ∃ fw : Nat, D__law_few [.sh (.int p)] = .ok (.sh (.int fw)) [.sh (.int p)] ∧ 1 ≤ fw ∧ fw ≤ 8 ∧ ∀ n, n ≤ fw → p.toNat ^ n ≤ 343 ∧ p ^ n ≤ 343 := by
  rcases hp with rfl | rfl | rfl | rfl
  · exact ⟨8, rfl, by decide, by decide, by decide⟩
  · exact ⟨5, rfl, by decide, by decide, by decide⟩
  · exact ⟨3, rfl, by decide, by decide, by decide⟩
  · exact ⟨3, rfl, by decide, by decide, by decide⟩
theorem good_tups {n : Nat} {L : List (List Int)} (hL : ∀ x ∈ L, x.length ≤ 1000) (hk : L.length ≤ 100000) : Good (n + 3) (.lst (L.map tupI)) := by
  refine ⟨fun d hd => ?_, by rw [List.length_map]; exact hk⟩
  obtain ⟨x, hx, rfl⟩ := List.mem_map.mp hd
  exact ⟨good_ints, by rw [List.length_map]; have := hL x hx; omega⟩
theorem pl_tups {n : Nat} {L : List (List Int)} : Pl (n + 3) (.lst (L.map tupI)) := fun d hd => by
  obtain ⟨x, _, rfl⟩ := List.mem_map.mp hd
  exact Pl.ints
theorem powI {p : Int} (hp : 0 < p) (n : Nat) : ((p.toNat ^ n : Nat) : Int) = p ^ n := by
  have ep : ((p.toNat : Nat) : Int) = p := by omega
  rw [← ep]; push_cast; rfl
theorem allR_at {p : Int} (hp : 0 < p) {n j : Nat} (hj : j < p.toNat ^ n) : (allR p n)[j]? = some (digs p (j : Int) n) := by
  rw [← allR_digs hp n, List.getElem?_map, List.getElem?_range hj]; rfl
def P03 (p : Int) (n : Nat) : Prop := (p = 2 ∧ n = 14) ∨ (p = 3 ∧ n = 9) ∨ (p = 5 ∧ n = 6) ∨ (p = 7 ∧ n = 5)
theorem P03.hn {p : Int} {n : Nat} (h : P03 p n) : n ≤ 14 ∧ 2 ≤ n ∧ p ^ n ≤ 20000 ∧ 100 ≤ p ^ n ∧ 20000 < p ^ (n + 1) := by rcases h with ⟨rfl, rfl⟩ | ⟨rfl, rfl⟩ | ⟨rfl, rfl⟩ | ⟨rfl, rfl⟩ <;> decide
theorem P03.last {p : Int} {n : Nat} (h : P03 p n) : digs p (p ^ n - 2) n = [p - 2] ++ List.replicate (n - 1) (p - 1) := by rcases h with ⟨rfl, rfl⟩ | ⟨rfl, rfl⟩ | ⟨rfl, rfl⟩ | ⟨rfl, rfl⟩ <;> decide
theorem P03.due {p : Int} {n : Nat} (h : P03 p n) : dcF [(.inl 2, .inl 16384), (.inl 3, .inl 19683), (.inl 5, .inl 15625), (.inl 7, .inl 16807)] (.sh (.int p)) = some (.sh (.int (p ^ n))) := by rcases h with ⟨rfl, rfl⟩ | ⟨rfl, rfl⟩ | ⟨rfl, rfl⟩ | ⟨rfl, rfl⟩ <;> rfl
theorem p03_ex {p : Int} (hp : p = 2 ∨ p = 3 ∨ p = 5 ∨ p = 7) : ∃ n : Nat, P03 p n ∧ dcF [(.inl 2, .inl 14), (.inl 3, .inl 9), (.inl 5, .inl 6), (.inl 7, .inl 5)] (.sh (.int p)) = some (.sh (.int (n : Int))) := by
  rcases hp with rfl | rfl | rfl | rfl
  · exact ⟨14, .inl ⟨rfl, rfl⟩, rfl⟩
  · exact ⟨9, .inr (.inl ⟨rfl, rfl⟩), rfl⟩
  · exact ⟨6, .inr (.inr (.inl ⟨rfl, rfl⟩)), rfl⟩
  · exact ⟨5, .inr (.inr (.inr ⟨rfl, rfl⟩)), rfl⟩
theorem pow200 {p : Int} (hp : p = 2 ∨ p = 3 ∨ p = 5 ∨ p = 7) : 20000 < p ^ 200 := by
  rw [← powI (by omega) 200]
  rcases hp with rfl | rfl | rfl | rfl
  · exact_mod_cast (by decide : 20000 < 2 ^ 200)
  · exact_mod_cast (by decide : 20000 < 3 ^ 200)
  · exact_mod_cast (by decide : 20000 < 5 ^ 200)
  · exact_mod_cast (by decide : 20000 < 7 ^ 200)
def bad03 : List D := [.int 6, .int 0, .non, .bl true]
def far03 : List D := [.int (-1), .int 201, .non, .str "1", .bl true]
structure Bad03 (o : D) : Prop where
  no : D_need_prime [.sh o] = .err (exn1 "InvalidPrime" "given" o) [.sh o]
  nl : noLam o = true
  gd : Good 3 o
structure Far03 (o : D) : Prop where
  no : D_need_dials [.sh o] = .err (exn1 "InvalidCount" "given" o) [.sh o]
  nl : noLam o = true
  gd : Good 3 o
theorem bad_ok {o : D} (h : o ∈ bad03) : Bad03 o := by
  simp only [bad03, List.mem_cons, List.not_mem_nil, or_false] at h
  rcases h with rfl | rfl | rfl | rfl <;> exact ⟨by kernel_rfl, by kernel_rfl, trivial⟩
theorem far_ok {o : D} (h : o ∈ far03) : Far03 o := by
  simp only [far03, List.mem_cons, List.not_mem_nil, or_false] at h
  have g3 : Good 3 (.str "1") := by
    show PyData.strOk "1" = true
    kernel_rfl
  rcases h with rfl | rfl | rfl | rfl | rfl <;> refine ⟨by kernel_rfl, by kernel_rfl, ?_⟩ <;> first | exact g3 | trivial
def eP (o : D) : Exn := exn1 "InvalidPrime" "given" o
def eC (o : D) : Exn := exn1 "InvalidCount" "given" o
def eM : Exn := exn1 "TooMany" "most" (.int 20000)
theorem se_bad {o f : D} (ho : Bad03 o) : D_settings [.sh o, .sh f] = ([], .err (eP o)) := by
  have no := ho.no
  unfold D_settings S_settings runG eP
  simp_all_arith [no, gSeq, gPl, isSh, List.all]
theorem se_far {p : Int} {f : D} (hp : p = 2 ∨ p = 3 ∨ p = 5 ∨ p = 7) (hf : Far03 f) : D_settings [.sh (.int p), .sh f] = ([], .err (eC f)) := by
  have no := hf.no
  have n1 := np_q hp
  unfold D_settings S_settings runG eC
  simp_all_arith [no, n1, gSeq, gPl, isSh, List.all]
theorem se_many {p : Int} {n : Nat} (hp : p = 2 ∨ p = 3 ∨ p = 5 ∨ p = 7) (hn : n ≤ 200) (hb : 20000 < p ^ n) : D_settings [.sh (.int p), .sh (.int n)] = ([], .err eM) := by
  have n1 := np_q hp
  have n2 := need_dials_ok hn
  have n3 := few_bad (p := p) (k := n) (by omega) (by omega) (by omega) hb
  unfold D_settings S_settings runG eM
  simp_all_arith [n1, n2, n3, gSeq, gPl, isSh, List.all]
def lamsA (L : Nat) (P M F B : D) : List D := [.lam 0 I_0 L [B, F], .lam 1 I_1 L [F, P], .lam 2 I_2 L [M, P], .lam 3 I_3 L [P]]
def lamsB (L : Nat) (P F B : D) : List D := [.lam 4 I_4 L [B, F], .lam 5 I_5 L [P]]
section
variable {L : Nat} {P M F B : D} {a0 a1 a2 a4 a5 a9 a10 a11 a12 : Option RV}
theorem cvA : cvD L cap_law [a0, a1, a2, some (.sh P), a4, a5, some (.sh M), some (.sh F), some (.sh B), a9, a10, a11, a12] (.lst [.lam 0 I_0 L [], .lam 1 I_1 L [], .lam 2 I_2 L [], .lam 3 I_3 L []]) = .lst (lamsA L P M F B) := by
  rw [cvD_l]
  simp only [List.map_cons, List.map_nil, cv1_L, cv0, cap_law_0, cap_law_1, cap_law_2, cap_law_3, capD, slot_0, slot_s, hid_sh, hid_ol, hid_od, hid_oo, hid_0, lamsA]
theorem cvB : cvD L cap_law [a0, a1, a2, some (.sh P), a4, a5, some (.sh M), some (.sh F), some (.sh B), a9, a10, a11, a12] (.lst [.lam 4 I_4 L [], .lam 5 I_5 L []]) = .lst (lamsB L P F B) := by
  rw [cvD_l]
  simp only [List.map_cons, List.map_nil, cv1_L, cv0, cap_law_4, cap_law_5, capD, slot_0, slot_s, hid_sh, hid_ol, hid_od, hid_oo, hid_0, lamsB]
end
def du (c : Str) (o : D) : D := .tup [.str c, .tup [o]]
def due03 (o f : D) : List D := [du "InvalidPrime" o, du "InvalidCount" f, du "TooMany" (.int 20000), du "TooMany" (.int 20000)]
def dueZ : D := .tup [.str "", .lst []]
theorem all03 {L : Nat} {p : Int} {n : Nat} {o f : D} (ho : Bad03 o) (hf : Far03 f) (h : P03 p n) (hp : p = 2 ∨ p = 3 ∨ p = 5 ∨ p = 7) :
    D__law_all_got [.sh (.lst (lamsA L (.int p) (.int n) f o))] = .ok (.ol (due03 o f)) [.sh (.lst (lamsA L (.int p) (.int n) f o))] := by
  obtain ⟨n1, n2, n3, n4, n5⟩ := h.hn
  have l0 := lamT_0 (d0 := o) (d1 := f) ⟨ho.nl, hf.nl⟩
  have l1 := lamT_1 (d0 := f) (d1 := .int p) ⟨hf.nl, nl_int⟩
  have l2 := lamT_2 (d0 := .int n) (d1 := .int p) ⟨nl_int, nl_int⟩
  have l3 := lamT_3 (d0 := .int p) nl_int
  have xP : (eP o).c ∈ excs := by show ("InvalidPrime" : Str) ∈ excs; decide
  have xC : (eC f).c ∈ excs := by show ("InvalidCount" : Str) ∈ excs; decide
  have xM : eM.c ∈ excs := by show ("TooMany" : Str) ∈ excs; decide
  have s0 := se_bad (f := f) ho
  have s1 := se_far hp hf
  have s2 := se_many (n := n + 1) hp (by omega) n5
  rw [show ((n + 1 : Nat) : Int) = (n : Int) + 1 by omega] at s2
  have s3 : D_settings [.sh (.int p), .sh (.int 200)] = ([], .err eM) := se_many (n := 200) hp (by decide) (pow200 hp)
  have r0 : ∃ rs, lamRun 2 (B_0 []) [.sh o, .sh f] = .err (eP o) rs := by
    unfold lamRun B_0; simp_all_arith [rsEnv, gnA, finG, lgM, s0, xP]; exact ⟨_, rfl⟩
  have r1 : ∃ rs, lamRun 3 (B_1 []) [.sh f, .sh (.int p), .sh (.int 0)] = .err (eC f) rs := by
    unfold lamRun B_1; simp_all_arith [rsEnv, gnA, finG, lgM, s1, xC]; exact ⟨_, rfl⟩
  have r2 : ∃ rs, lamRun 2 (B_2 []) [.sh (.int n), .sh (.int p)] = .err eM rs := by
    unfold lamRun B_2; simp_all_arith [rsEnv, gnA, finG, lgM, s2, xM]; exact ⟨_, rfl⟩
  have r3 : ∃ rs, lamRun 2 (B_3 []) [.sh (.int p), .sh (.int 0)] = .err eM rs := by
    unfold lamRun B_3; simp_all_arith [rsEnv, gnA, finG, lgM, s3, xM]; exact ⟨_, rfl⟩
  obtain ⟨_, r0⟩ := r0
  obtain ⟨_, r1⟩ := r1
  obtain ⟨_, r2⟩ := r2
  obtain ⟨_, r3⟩ := r3
  exact all_got_ok (.cons (got_e1 (l0.trans r0) (by decide)) (.cons (got_e1 (l1.trans r1) (by decide)) (.cons (got_e1 (l2.trans r2) (by decide)) (.cons (got_e1 (l3.trans r3) (by decide)) .nil)))) (by simp [lamsA])
end Y
namespace Y
open PySem Z
theorem addL_x {a b : RV} {xs ys zs : List D} (ha : listOf a = some xs) (hb : listOf b = some ys) (h : xs.length + ys.length ≤ 100000) (e : xs ++ ys = zs) : addD a b = some (.ol zs) := by
  rw [addD_lst ha hb h, e]
theorem allZ {L : Nat} {p : Int} {o f : D} (ho : noLam o = true) (hf : noLam f = true) : D__law_all_got [.sh (.lst (lamsB L (.int p) f o))] = .ok (.ol [dueZ, dueZ]) [.sh (.lst (lamsB L (.int p) f o))] := by
  have l4 := lamT_4 (d0 := o) (d1 := f) ⟨ho, hf⟩
  have l5 := lamT_5 (d0 := .int p) nl_int
  have r4 : ∃ rs, lamRun 3 (B_4 []) [.sh o, .sh f] = .ok (.ol []) rs := by
    have hI : I_c4_1 [] [some (.sh o), some (.sh f), none] = .ok [] [some (.sh o), some (.sh f), none] := by
      unfold I_c4_1; simp_all_arith [z0M, gnA, finG]
    have hm := lcM_eq (mt := yesM) (me := E_c4_1 []) (vs := [2]) (t := .name 2) (pn := []) (acc := []) hI (by decide) rfl
    unfold lamRun B_4; simp_all_arith [rsEnv, hm, wipeD]; exact ⟨_, rfl⟩
  have r5 : ∃ rs, lamRun 3 (B_5 []) [.sh (.int p), .sh (.int 0)] = .ok (.ol []) rs := by
    have hI : I_c5_1 [] [some (.sh (.int p)), some (.sh (.int 0)), none] = .ok [] [some (.sh (.int p)), some (.sh (.int 0)), none] := by
      unfold I_c5_1; simp_all_arith [z0M, gnA, finG]
    have hm := lcM_eq (mt := yesM) (me := E_c5_1 []) (vs := [2]) (t := .name 2) (pn := []) (acc := []) hI (by decide) rfl
    unfold lamRun B_5; simp_all_arith [rsEnv, hm, wipeD]; exact ⟨_, rfl⟩
  obtain ⟨_, r4⟩ := r4
  obtain ⟨_, r5⟩ := r5
  exact all_got_ok (.cons (got_ok (l4.trans r4)) (.cons (got_ok (l5.trans r5)) .nil)) (by simp [lamsB])
theorem good_due {o f : D} (ho : Good 3 o) (hf : Good 3 f) : Good 8 (.lst (due03 o f)) := by
  have s1 : PyData.strOk "InvalidPrime" = true := by kernel_rfl
  have s2 : PyData.strOk "InvalidCount" = true := by kernel_rfl
  have s3 : PyData.strOk "TooMany" = true := by kernel_rfl
  have a := good_err (n := 3) s1 ho
  have b := good_err (n := 3) s2 hf
  have c := good_err (n := 3) (d := .int 20000) s3 trivial
  exact good_le (n := 6) ⟨(Goods.cons a (.cons b (.cons c (.cons c .nil)))).all, by simp [due03]⟩ (by decide)
theorem good_dueZ : Good 8 (.lst [dueZ, dueZ]) := by
  have s1 : PyData.strOk "" = true := by kernel_rfl
  have z : Good 6 dueZ := ⟨fun y hy => by
    simp only [List.mem_cons, List.not_mem_nil, or_false] at hy
    rcases hy with rfl | rfl
    · exact s1
    · exact ⟨fun y hy => by simp at hy, by simp⟩, by simp⟩
  exact good_le (n := 7) ⟨fun y hy => by
    simp only [List.mem_cons, List.not_mem_nil, or_false] at hy
    rcases hy with rfl | rfl <;> exact z, by simp⟩ (by decide)
def Env03 (sc : RV) (env : DEnv) : Prop := ∃ (bag : List D) (o2 o3 o4 o5 o6 o7 o8 o9 o10 : Option RV), env = [some sc, some (.ol bag), o2, o3, o4, o5, o6, o7, o8, o9, o10, none, none] ∧ BagOk bag
theorem body03 {L : Nat} {sc : RV} {env : DEnv} (he : Env03 sc env) : ∃ env', L_law_1 L [] env = .nx env' ∧ Env03 sc env' := by
  obtain ⟨bag, o2, o3, o4, o5, o6, o7, o8, o9, o10, rfl, hb⟩ := he
  obtain ⟨p, bag1, h1, hp, hb1⟩ := prime_ok hb
  obtain ⟨fw, f1, f2, f3, f4⟩ := few343 hp
  obtain ⟨dn, bag2, h2, h8, h9, hb2⟩ := pull_ok (m := (fw : Int) + 1) hb1 (by omega) (by omega)
  obtain ⟨n, rfl⟩ : ∃ n : Nat, dn = n := ⟨dn.toNat, by omega⟩
  obtain ⟨q1, q2⟩ := f4 n (by omega)
  obtain ⟨N, hN, hd⟩ := p03_ex hp
  obtain ⟨f, bag3, h3, hf, hb3⟩ := of_ok (xs := [.int (-1), .int 201, .non, .str "1", .bl true]) hb2 (by simp) (by simp)
  obtain ⟨o, bag4, h4, ho, hb4⟩ := of_ok (xs := [.int 6, .int 0, .non, .bl true]) hb3 (by simp) (by simp)
  have ho := bad_ok ho
  have hf := far_ok hf
  have se := settings_p (p := p) (n := n) hp (by omega) (by omega)
  have lenA := allR_len p n
  have okA : ∀ x ∈ allR p n, x.length ≤ 1000 := fun x hx => by rw [(allR_ok hx).1]; omega
  have hal := allrows_p (p := p) (n := n) (by omega) (by omega) (by omega) (by omega)
  have lc := lcM_map (pn := []) (vs := [12]) (t := .name 12) (mi := I_law_1 L []) (me := E_law_1 L []) (enc := tupI) (g := tupI) (env := [some sc, some (.ol bag2), o2, some (.sh (.int p)), some (.sh (.int n)), o5, o6, o7, o8, o9, o10, none, none]) (xs := allR p n) (by
    unfold I_law_1
    simp_all_arith [okG, gnA, finG, se]) (by decide) rfl (by omega) (fun y _ => ⟨_, by simp_all_arith [lcStep, E_law_1]; rfl, rfl⟩)
  have sm := same_ok 8 _ (good_tups (n := 5) okA (by omega))
  have hb : Nat.ble (p.toNat ^ n) 16777216 = true := Nat.ble_eq.mpr (by omega)
  have hlen : ((allR p n).map tupI).length = p.toNat ^ n := by rw [List.length_map, lenA]
  have nq1 : neF (.sh (.lst ((allR p n).map tupI))) (.ol ((allR p n).map tupI)) = some (.sh (.bl false)) := neF_same (n := 3) (by decide) pl_tups rfl
  have nq2 : neF (.sh (.lst ((allR p n).map tupI))) (.sh (.lst ((allR p n).map tupI))) = some (.sh (.bl false)) := neF_same (n := 3) (by decide) pl_tups rfl
  have al := all03 (L := L) ho hf hN hp
  have az := allZ (L := L) (p := p) ho.nl hf.nl
  have a1 : addD (.ol [.lam 0 I_0 L [], .lam 1 I_1 L []]) (.sh (.lst [.lam 2 I_2 L [], .lam 3 I_3 L []])) = some (.ol [.lam 0 I_0 L [], .lam 1 I_1 L [], .lam 2 I_2 L [], .lam 3 I_3 L []]) := addL_x rfl rfl (by simp) rfl
  have m4 : mulD (.sh (.lst [.tup [.str "", .lst []]])) (.sh (.int 2)) = some (.ol [dueZ, dueZ]) := mulD_rep (d := .tup [.str "", .lst []]) (n := 2) (by decide)
  have cA := fun a0 a1 a2 a4 a5 a9 a10 a11 a12 => cvA (L := L) (P := .int p) (M := .int N) (F := f) (B := o) (a0 := a0) (a1 := a1) (a2 := a2) (a4 := a4) (a5 := a5) (a9 := a9) (a10 := a10) (a11 := a11) (a12 := a12)
  have cB := fun a0 a1 a2 a4 a5 a9 a10 a11 a12 => cvB (L := L) (P := .int p) (M := .int N) (F := f) (B := o) (a0 := a0) (a1 := a1) (a2 := a2) (a4 := a4) (a5 := a5) (a9 := a9) (a10 := a10) (a11 := a11) (a12 := a12)
  have nA : noLamR (.ol (due03 o f)) = true := by simp only [noLamR, due03, du, noLams, noLam, ho.nl, hf.nl, Bool.and_self]
  have nB : noLamR (.ol [dueZ, dueZ]) = true := by kernel_rfl
  have sA := same_ok 8 _ (good_due ho.gd hf.gd)
  have sB := same_ok 8 _ good_dueZ
  simp only [due03, du] at al nA sA
  generalize (allR p n).map tupI = A at *
  unfold L_law_1
  by_cases hz : n = 0
  · rw [if_pos hz] at hal
    simp_all_arith [h1, f1, h2, lc, hal, sm, gnA, finG, lgM, se, hb, hlen, nq1, nq2, hd, h3, h4, a1, m4, cA, cB, al, az, nA, nB, sA, sB]
    exact ⟨_, rfl, bag4, _, _, _, _, _, _, _, _, _, rfl, hb4⟩
  · rw [if_neg hz] at hal
    simp_all_arith [h1, f1, h2, lc, hal, sm, gnA, finG, lgM, se, hb, hlen, nq1, nq2, hd, h3, h4, a1, m4, cA, cB, al, az, nA, nB, sA, sB]
    exact ⟨_, rfl, bag4, _, _, _, _, _, _, _, _, _, rfl, hb4⟩
theorem plain (L : Nat) (ns : List Int) (hn : ns.length ≤ 63) : ∃ rs, D_law L [.sh (.fls (ns.map D.int))] = .ok (.sh (.bl true)) rs := by
  obtain ⟨bag, h1, hb⟩ := bag_ok ns
  obtain ⟨env', g1, bag', o2, o3, o4, o5, o6, o7, o8, o9, o10, rfl, hb'⟩ := forM_nx (pn := []) (t := .name 2) (s := L_law_1 L []) (ds := rangeD 0 3) (n := 0) (env := [some (.sh (.fls (ns.map D.int))), some (.ol bag), none, none, none, none, none, none, none, none, none, none, none])
    (fun _ env => Env03 (.sh (.fls (ns.map D.int))) env) ⟨bag, none, none, none, none, none, none, none, none, none, rfl, hb⟩ (by
      rintro i y env hy ⟨bag, o2, o3, o4, o5, o6, o7, o8, o9, o10, rfl, hb⟩
      simp_arith [forStep]
      exact body03 ⟨bag, _, _, _, _, _, _, _, _, _, rfl, hb⟩)
  have hr : rng1F [.sh (.int 3)] = some (rangeD 0 3) := rng1_int (by decide) (by decide)
  obtain ⟨x, bag2, h2, hx, hb2⟩ := of_ok (xs := [.int 2, .int 3, .int 5, .int 7]) hb' (by simp) (by simp)
  obtain ⟨p, rfl, hp⟩ : ∃ p : Int, x = .int p ∧ (p = 2 ∨ p = 3 ∨ p = 5 ∨ p = 7) := by
    simp only [List.mem_cons, List.not_mem_nil, or_false] at hx
    rcases hx with rfl | rfl | rfl | rfl
    · exact ⟨2, rfl, .inl rfl⟩
    · exact ⟨3, rfl, .inr (.inl rfl)⟩
    · exact ⟨5, rfl, .inr (.inr (.inl rfl))⟩
    · exact ⟨7, rfl, .inr (.inr (.inr rfl))⟩
  obtain ⟨n, h, hd⟩ := p03_ex hp
  obtain ⟨n1, n2, n3, n4, n5⟩ := h.hn
  have hp0 : 0 < p := by omega
  have pn := powI hp0 n
  have du := h.due
  have se := settings_p (p := p) (n := n) hp (by omega) n3
  have hlen : ((allR p n).map tupI).length = p.toNat ^ n := by rw [List.length_map, allR_len]
  have lc := lcM_map (pn := []) (vs := [12]) (t := .name 12) (mi := I_law_2 L []) (me := E_law_2 L []) (enc := tupI) (g := tupI) (env := [some (.sh (.fls (ns.map D.int))), some (.ol bag2), o2, o3, o4, o5, o6, some (.sh (.int p)), o8, o9, o10, none, none]) (xs := allR p n) (by
    unfold I_law_2
    simp_all_arith [okG, gnA, finG, hd, se]) (by decide) rfl (by rw [allR_len]; omega) (fun y _ => ⟨_, by simp_all_arith [lcStep, E_law_2]; rfl, rfl⟩)
  have at1 : L2.atI ((allR p n).map tupI) (p ^ n - 2) = some (tupI ((p - 2) :: List.replicate (n - 1) (p - 1))) := by
    rw [show p ^ n - 2 = ((p.toNat ^ n - 2 : Nat) : Int) by omega, atN (by rw [hlen]; omega), List.getElem?_map, allR_at hp0 (by omega), show ((p.toNat ^ n - 2 : Nat) : Int) = p ^ n - 2 by omega, h.last]; rfl
  have at0 : L2.atI ((allR p n).map tupI) 0 = some (tupI (digs p 0 n)) := by
    rw [show (0 : Int) = ((0 : Nat) : Int) from rfl, atN (by rw [hlen]; omega), List.getElem?_map, allR_at hp0 (by omega)]; rfl
  have dl : ((digs p 0 n).map D.int).length = n := by rw [List.length_map, digs_len]
  have mx : mulX (.sh (.tup [.int (p - 1)])) (.sh (.int ((n : Int) - 1))) = some (.sh (.tup (List.replicate (n - 1) (.int (p - 1))))) := by
    rw [show (n : Int) - 1 = ((n - 1 : Nat) : Int) by omega]
    exact mulX_rep (by omega)
  have ad : addD (.sh (.tup [.int (p - 2)])) (.sh (.tup (List.replicate (n - 1) (.int (p - 1))))) = some (.sh (tupI ((p - 2) :: List.replicate (n - 1) (p - 1)))) := by
    rw [addD_tup (by simp; omega)]
    simp
  have g : Good 8 (tupI ((p - 2) :: List.replicate (n - 1) (p - 1))) := ⟨good_ints, by simp; omega⟩
  have sm := same_ok 8 _ g
  generalize ((p - 2) :: List.replicate (n - 1) (p - 1)) = z at *
  generalize (allR p n).map tupI = A at *
  unfold D_law S_law
  simp_all_arith [h1, hr, g1, h2, lc, du, hlen, pn, at1, at0, dl, mx, ad, sm]
  exact ⟨_, rfl⟩
end Y
open PySem PySem.W PySem.Calls PyProof.Rows in
theorem PySem.Challenge.cw_lowturns_k03_settings_yielded_holds : PySem.Challenge.rw_lowturns_k03_settings_yielded.Holds := by
  w_on; refine Y.opened fun said => ?_
  refine HandSHeadRun.head_any (r := OpenLaw.row PySem.Challenge.rw_lowturns_k03_settings_yielded) (q := view (OpenLaw.row PySem.Challenge.rw_lowturns_k03_settings_yielded).prog [30]) (H := Y.hk) (ob := Y.ob) (M := 20000) (loose := Y.names) (d := HandSHeadRun.topDef (OpenLaw.row PySem.Challenge.rw_lowturns_k03_settings_yielded).prog 30) (kwd := []) Y.ob_eq
    (by kernel_rfl) (fun s => by kernel_rfl) Y.run (by kernel_rfl) (by kernel_rfl) (by kernel_rfl) (by rfl) (by first | assumption | decide +kernel) (by decide +kernel) ⟨rfl,rfl,rfl,rfl,rfl,ZTw.tw⟩ ?hw ?hc
  case hw => w_witness2
  case hc =>
    refine Z.walk_ofZT (l := PySem.Challenge.rw_lowturns_k03_settings_yielded) (n := 63) (k := 12) (x := "_law_script") (f := Y.D_law) rfl (by decide) (by kernel_rfl) ⟨rfl, by decide, by decide⟩ Y.plain ?F
    intro w mg fa h Y G hmg0
    obtain ⟨K, KX, c⟩ := Y
    have T := Y.txt_of KX G c.z
    have hmg : mg ("law" : PySem.Str) = some (.ref fa) := by
      have e : (HandSHeadRun.topDef (OpenLaw.row PySem.Challenge.rw_lowturns_k03_settings_yielded).prog 30).name = ("law" : PySem.Str) := by kernel_rfl
      rw [← e]; exact hmg0
    have e := hmg.symm.trans T.g_law
    cases e
    obtain ⟨fd, F⟩ := T.f_law
    have b := L2.FunD.bindsA (ps := ["_law_script"]) F fun _ _ _ _ _ _ us hl => match us, hl with | [_], _ => rfl
    exact ⟨K, fd, KX, fun s v => b s [v] rfl, c.empty, c.out, c.hd, fun base _ _ tb => Y.ok_law (⟨by kernel_rfl, by kernel_rfl⟩ : Z.PrOk (PySem.Challenge.rw_lowturns_k03_settings_yielded).prog "/claim/cut.py") tb T F⟩
