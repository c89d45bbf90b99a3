import PyProof.Rows.All
import Wide.All
import OpenK.AllK
import Wide.FinOn
import HandS.ForMost
import HandS.ForExc
import HandS.Codes
import HandS.TryMany
import HandS.IsInst
import HandS.ExcIs
import HandS.Lambda
import HandS.EndTab
import HandS.Style
import HandS.TupAny
import HandS.SetFor
import HandS.Strs
import HandS.SortInts
import HandS.Conv
import HandS.Walk
import PySem.Challenge.RW_sparetrees_k10_whole_trees_judged
import KE.GoesEnum
import KE.DataEq
set_option Elab.async false
set_option linter.all false
set_option maxRecDepth 100000
set_option maxHeartbeats 4000000
/-! The text by places, the promises' common words. -/
namespace ST
open PySem PySem.Spec PyProof.Rows L2 C8

def top (i : Nat) : Stmt := PySem.Challenge.pw_sparetrees_k10_whole_trees_judged.main.body.getD i (.Pass ⟨0, 0, 0, 0⟩)

/-- a def that stands under its name, all its parameters given -/
structure DB (K : PySem.W.Frag) (mg : Str → Option Value) (x : Str) (st : Stmt) (ps : List Str) : Prop where
  ex : ∃ (f : Addr) (fd : FuncData), C8.Def K mg x st f fd ∧ Binds K fd ps []

/-- names of the module that are built-ins -/
structure Nb (mg : Str → Option Value) : Prop where
  isi : mg "isinstance" = none
  int : mg "int" = none
  bool : mg "bool" = none
  tuple : mg "tuple" = none
  len : mg "len" = none
  list : mg "list" = none
  all : mg "all" = none
  any : mg "any" = none
  sorted : mg "sorted" = none
  set : mg "set" = none
  range : mg "range" = none
  enum : mg "enumerate" = none
  repr : mg "repr" = none
  abs : mg "abs" = none
  max : mg "max" = none

section
variable {P : Program} {w : World} {K : PySem.W.Frag} {mg : Str → Option Value} {base : Heap}
theorem calB {x : Str} {st : Stmt} {N ps : List Str} {k : Nat} {sp : Sp} (D : DB K mg x st ps) (S : FnScope N ps (C8.fnScope st)) (len : ∀ vs H Q E, sp vs H Q E → vs.length = ps.length)
    (hbody : ∀ (f : Addr) (cdv : Value) (A : Around) (outer : List Env) (s : Shared) (H : Hp) (vs : List V) (Q : VK) (E : XK), Room k (A.deeper (envOfC x (C8.fnScope st) s.heap.objs.size f cdv)) → sp vs H Q E →
      ∃ t, PSs (cxOf C8.CX0 P w K mg base N x (C8.fnScope st) f cdv A outer s H E).nox (C8.fnBody st) t ∧ t { nx := fun _ H' => Q .non H', rt := Q } (start N vs) H) : Cal P w K mg base (k + 1) x sp [] := by
  obtain ⟨f, fd, F, b⟩ := D.ex
  exact cal0 F b .nil S len (hbody f)
end

/-! ### heaps: what stays -/
theorem same_upd {H : Hp} {p : Addr} {o : HO} (h : H p = none) : Same H (upd H p o) := fun b x e => by
  rw [upd_ne (ne_of_none e h)]
  exact e
/-- all that was tracked stays, but for what stands at h (the hand) -/
def Kp (h : Addr) (H H' : Hp) : Prop := ∀ b o, H b = some o → b ≠ h → H' b = some o
/-- the hand: a list of the numbers' list and three ints -/
def HandAt (h c : Addr) (H : Hp) : Prop := (∃ i j k : Int, H h = some (.lst [.ref c, .int i, .int j, .int k])) ∧ ∃ ns : List Int, H c = some (.lst (ns.map V.int)) ∧ ns.length ≤ 63
theorem HandAt.ne {h c : Addr} {H : Hp} (x : HandAt h c H) : c ≠ h := by
  obtain ⟨⟨i, j, k, e1⟩, ns, e2, _⟩ := x
  intro z
  rw [z, e1] at e2
  have e3 := HO.lst.inj (Option.some.inj e2)
  cases ns with
  | nil => cases e3
  | cons n r => cases e3
/-- from the heap H₀ to H: the hand is there in both, all else stays -/
structure Sx (h c : Addr) (H0 H : Hp) : Prop where
  kp : Kp h H0 H
  a0 : HandAt h c H0
  a1 : HandAt h c H
section
variable {h c : Addr} {H0 H H1 : Hp}
theorem Sx.refl (x : HandAt h c H) : Sx h c H H := ⟨fun _ _ e _ => e, x, x⟩
theorem Sx.trans (x : Sx h c H0 H) (y : Sx h c H H1) : Sx h c H0 H1 := ⟨fun b o e n => y.kp b o (x.kp b o e n) n, x.a0, y.a1⟩
theorem Sx.free {l : Addr} (x : Sx h c H0 H) (e : H l = none) : H0 l = none := by
  cases q : H0 l with
  | none => rfl
  | some o =>
    by_cases z : l = h
    · obtain ⟨⟨i, j, k, e1⟩, _⟩ := x.a1
      rw [z, e1] at e
      cases e
    · rw [x.kp l o q z] at e
      cases e
theorem HandAt.nel {l : Addr} (x : HandAt h c H0) (e : H0 l = none) : l ≠ h ∧ l ≠ c := by
  obtain ⟨⟨i, j, k, e1⟩, ns, e2, _⟩ := x
  exact ⟨fun z => (ne_of_none e1 e) z.symm, fun z => (ne_of_none e2 e) z.symm⟩
theorem HandAt.upd {l : Addr} {o : HO} (x : HandAt h c H) (n1 : l ≠ h) (n2 : l ≠ c) : HandAt h c (upd H l o) := by
  obtain ⟨⟨i, j, k, e1⟩, ns, e2, e3⟩ := x
  exact ⟨⟨i, j, k, by rw [upd_ne n1.symm]; exact e1⟩, ns, by rw [upd_ne n2.symm]; exact e2, e3⟩
/-- an object that H₀ did not know is written -/
theorem Sx.put {l : Addr} {o : HO} (x : Sx h c H0 H) (n : H0 l = none) : Sx h c H0 (L2.upd H l o) :=
  ⟨fun b u e z => by rw [upd_ne (ne_of_none e n)]; exact x.kp b u e z, x.a0, x.a1.upd (x.a0.nel n).1 (x.a0.nel n).2⟩
/-- a new object -/
theorem Sx.new {l : Addr} {o : HO} (x : Sx h c H0 H) (n : H l = none) : Sx h c H0 (L2.upd H l o) := x.put (x.free n)
theorem Sx.same (x : Sx h c H0 H) (s : Same H H1) : Sx h c H0 H1 := by
  refine ⟨fun b o e n => s b o (x.kp b o e n), x.a0, ?_⟩
  obtain ⟨⟨i, j, k, e1⟩, ns, e2, e3⟩ := x.a1
  exact ⟨⟨i, j, k, s _ _ e1⟩, ns, s _ _ e2, e3⟩
theorem Sx.tup (x : Sx h c H0 H) {b : Addr} {xs : List V} (e : H0 b = some (.tup xs)) : H b = some (.tup xs) := x.kp b _ e fun z => by
  obtain ⟨⟨i, j, k, e1⟩, _⟩ := x.a0
  rw [z, e1] at e
  cases e
theorem Sx.ins (x : Sx h c H0 H) {b C dx : Addr} {fs : List (Str × V)} (e : H0 b = some (.ins C dx fs)) : H b = some (.ins C dx fs) := x.kp b _ e fun z => by
  obtain ⟨⟨i, j, k, e1⟩, _⟩ := x.a0
  rw [z, e1] at e
  cases e
end

/-! ### things: what stands at a value, h being no part of it -/
mutual
inductive Dq (h : Addr) (H : Hp) : V → PyData → Prop
  | non : Dq h H .non .none
  | bl (b : Bool) : Dq h H (.bl b) (.bool b)
  | int (i : Int) : Dq h H (.int i) (.int i)
  | str (x : Str) : Dq h H (.str x) (.str x)
  | lst {a : Addr} {xs : List V} {ds : List PyData} : a ≠ h → H a = some (.lst xs) → DqAll h H xs ds → Dq h H (.ref a) (.list ds)
  | tup {a : Addr} {xs : List V} {ds : List PyData} : H a = some (.tup xs) → DqAll h H xs ds → Dq h H (.ref a) (.tuple ds)
  | dic {a : Addr} (kvs : List (Int × Int)) : H a = some (.dK (kvs.map fun p => (Sum.inl p.1, V.int p.2))) → Dq h H (.ref a) (.dict (kvs.map fun p => (.int p.1, .int p.2)))
inductive DqAll (h : Addr) (H : Hp) : List V → List PyData → Prop
  | nil : DqAll h H [] []
  | cons {v : V} {vs : List V} {d : PyData} {ds : List PyData} : Dq h H v d → DqAll h H vs ds → DqAll h H (v :: vs) (d :: ds)
end
/-- what a thing leans on: lists but h, tuples, dicts -/
def Kt (h : Addr) (H H' : Hp) : Prop := (∀ b xs, H b = some (.lst xs) → b ≠ h → H' b = some (.lst xs)) ∧ (∀ b xs, H b = some (.tup xs) → H' b = some (.tup xs)) ∧ ∀ b kvs, H b = some (.dK kvs) → H' b = some (.dK kvs)
mutual
theorem Dq.keep {h : Addr} {H H' : Hp} (k : Kt h H H') : ∀ (d : PyData) (v : V), Dq h H v d → Dq h H' v d
  | .none, _, x => by cases x; exact .non
  | .bool b, _, x => by cases x; exact .bl b
  | .int i, _, x => by cases x; exact .int i
  | .str z, _, x => by cases x; exact .str z
  | .list ds, _, x => by
    cases x with
    | lst n e a => exact .lst n (k.1 _ _ e n) (DqAll.keep k ds _ a)
  | .tuple ds, _, x => by
    cases x with
    | tup e a => exact .tup (k.2.1 _ _ e) (DqAll.keep k ds _ a)
  | .dict kvs, _, x => by
    cases x with
    | dic kvs e => exact .dic kvs (k.2.2 _ _ e)
theorem DqAll.keep {h : Addr} {H H' : Hp} (k : Kt h H H') : ∀ (ds : List PyData) (vs : List V), DqAll h H vs ds → DqAll h H' vs ds
  | [], _, x => by cases x; exact .nil
  | d :: ds, _, x => by
    cases x with
    | cons a b => exact .cons (Dq.keep k d _ a) (DqAll.keep k ds _ b)
end
theorem Kt.same {h : Addr} {H H' : Hp} (s : Same H H') : Kt h H H' := ⟨fun b _ e _ => s b _ e, fun b _ e => s b _ e, fun b _ e => s b _ e⟩
theorem Sx.kt {h c : Addr} {H H' : Hp} (x : Sx h c H H') : Kt h H H' := ⟨fun b _ e n => x.kp b _ e n, fun b _ e => x.tup e, fun b kvs e => x.kp b _ e fun z => by
  obtain ⟨⟨i, j, k, e1⟩, _⟩ := x.a0
  rw [z, e1] at e
  cases e⟩
theorem DqAll.len {h : Addr} {H : Hp} : ∀ {vs : List V} {ds : List PyData}, DqAll h H vs ds → vs.length = ds.length
  | _, _, .nil => rfl
  | _, _, .cons _ t => by rw [List.length_cons, List.length_cons, t.len]
theorem DqAll.get {h : Addr} {H : Hp} : ∀ {vs : List V} {ds : List PyData} {i : Nat} {v : V}, DqAll h H vs ds → vs[i]? = some v → ∃ d, ds[i]? = some d ∧ Dq h H v d
  | _, _, _, _, .nil, e => by simp at e
  | _, _, 0, _, .cons x _, e => by simp at e; subst e; exact ⟨_, rfl, x⟩
  | _, _, i + 1, v, .cons _ t, e => by
    obtain ⟨d, h1, h2⟩ := DqAll.get (i := i) (v := v) t (by simpa using e)
    exact ⟨d, by simpa using h1, h2⟩
theorem DqAll.append {h : Addr} {H : Hp} : ∀ {vs us : List V} {ds es : List PyData}, DqAll h H vs ds → DqAll h H us es → DqAll h H (vs ++ us) (ds ++ es)
  | _, _, _, _, .nil, s => s
  | _, _, _, _, .cons r t, s => .cons r (DqAll.append t s)
theorem DqAll.ints {h : Addr} {H : Hp} : ∀ ns : List Int, DqAll h H (ns.map V.int) (ns.map PyData.int)
  | [] => .nil
  | n :: r => .cons (.int n) (DqAll.ints r)
/-- the type's name -/
def tyD : PyData → String
  | .none => "NoneType"
  | .bool _ => "bool"
  | .int _ => "int"
  | .str _ => "str"
  | .list _ => "list"
  | .tuple _ => "tuple"
  | .dict _ => "dict"
theorem Dq.ty {K : PySem.W.Frag} {h : Addr} {H : Hp} {v : V} {d : PyData} (x : Dq h H v d) : TyX K H v (.type (tyD d)) := by
  cases x with
  | non => exact .base .non
  | bl b => exact .base (.bl b)
  | int i => exact .base (.int i)
  | str z => exact .base (.str z)
  | lst n e a => exact .base (.lst e)
  | tup e a => exact .base (.tup e)
  | dic kvs e => exact .base (.dK e)
def isIntD : PyData → Bool
  | .int _ => true
  | .bool _ => true
  | _ => false
def isBoolD : PyData → Bool
  | .bool _ => true
  | _ => false
def isTupD : PyData → Bool
  | .tuple _ => true
  | _ => false
theorem isa_int (d : PyData) : kitB (tyD d) "int" = some (isIntD d) := by
  cases d with
  | none => show kitB "NoneType" "int" = some false; decide +kernel
  | bool b => show kitB "bool" "int" = some true; decide +kernel
  | int b => show kitB "int" "int" = some true; decide +kernel
  | str b => show kitB "str" "int" = some false; decide +kernel
  | list b => show kitB "list" "int" = some false; decide +kernel
  | tuple b => show kitB "tuple" "int" = some false; decide +kernel
  | dict b => show kitB "dict" "int" = some false; decide +kernel
theorem isa_bool (d : PyData) : kitB (tyD d) "bool" = some (isBoolD d) := by
  cases d with
  | none => show kitB "NoneType" "bool" = some false; decide +kernel
  | bool b => show kitB "bool" "bool" = some true; decide +kernel
  | int b => show kitB "int" "bool" = some false; decide +kernel
  | str b => show kitB "str" "bool" = some false; decide +kernel
  | list b => show kitB "list" "bool" = some false; decide +kernel
  | tuple b => show kitB "tuple" "bool" = some false; decide +kernel
  | dict b => show kitB "dict" "bool" = some false; decide +kernel
theorem isa_tuple (d : PyData) : kitB (tyD d) "tuple" = some (isTupD d) := by
  cases d with
  | none => show kitB "NoneType" "tuple" = some false; decide +kernel
  | bool b => show kitB "bool" "tuple" = some false; decide +kernel
  | int b => show kitB "int" "tuple" = some false; decide +kernel
  | str b => show kitB "str" "tuple" = some false; decide +kernel
  | list b => show kitB "list" "tuple" = some false; decide +kernel
  | tuple b => show kitB "tuple" "tuple" = some true; decide +kernel
  | dict b => show kitB "dict" "tuple" = some false; decide +kernel
end ST

/-! checks: is_integer, is_within, is_pair, is_lot -/
namespace ST
open PySem PySem.Spec PyProof.Rows L2 C8
section
variable {P : Program} {w : World} {K : PySem.W.Frag} {mg : Str → Option Value} {base : Heap}
/-- isinstance(x, T) of a thing, T a built-in class -/
theorem pe_isi {X : Cx} {T : Str} {tn : String} {i : Nat} (B : Nb X.mg) {p p1 p2 pos : Pos} {x : Str} {d : PyData}
    (hg : Gl X "isinstance") (hT : Gl X T) (hmT : X.mg T = none) (hv : bootBuiltins T = some (.type tn)) (hN : X.N[i]? = some x) (hvis : Vis X.env.scope x)
    (h1 : T ≠ "__name__" := by decide) (h2 : (T == ("__debug__" : Str)) = false := by decide) (h3 : (x == ("__debug__" : Str)) = false := by decide) (h4 : (x == ("__classdict__" : Str)) = false := by decide) :
    PE X (.Call (.Name "isinstance" p) [.Name x p1, .Name T p2] [] pos) (fun σ H Q => ∃ v d h b, σ[i]? = some (some v) ∧ Dq h H v d ∧ kitB (tyD d) tn = some b ∧ Q (.bl b) H) := by
  refine ⟨fun pins s σ H Q I hw => ?_⟩
  obtain ⟨v, d, h, b, e, x, k, q⟩ := hw
  exact (pe_callB call_isi hg B.isi (by decide +kernel) (pa_cons (pe_var hN hvis h3 h4) (pa_cons (pe_bltn hT hmT hv (v := .ty tn) rfl h1 h2) pa_nil))).run pins s σ H Q I
    ⟨v, e, v, .ty tn, _, _, b, rfl, .ty tn, x.ty, kit_ty k, q⟩

/-! ### is_integer -/
abbrev sIsInteger : Stmt := top 1
theorem scIsInteger : FnScope ["thing"] ["thing"] (C8.fnScope sIsInteger) := fnScope_by (by decide +kernel)
def isI : PyData → Bool
  | .int _ => true
  | _ => false
def spIsInteger : Sp := fun vs H Q _ => ∃ v d h, vs = [v] ∧ Dq h H v d ∧ Q (.bl (isI d)) H
theorem ok_is_integer (B : Nb mg) (D : DB K mg "is_integer" sIsInteger ["thing"]) : Cal P w K mg base 1 "is_integer" spIsInteger [] := by
  refine calB D scIsInteger (fun vs H Q E h => ?_) (fun f cdv A outer s H vs Q E hr h => ?_)
  · obtain ⟨v, d, h, rfl, _⟩ := h
    rfl
  · obtain ⟨v, d, h, rfl, x, q⟩ := h
    refine ⟨_, pss_one (ps_ret (pe_and (pe_isi (i := 0) (tn := "int") (d := d) B rfl rfl B.int (by decide +kernel) rfl (.inl rfl)) (pe_one (pe_not (pe_isi (i := 0) (tn := "bool") (d := d) B rfl rfl B.bool (by decide +kernel) rfl (.inl rfl)))))), ?_⟩
    refine ⟨v, d, h, _, rfl, x, isa_int d, _, rfl, ?_⟩
    cases d with
    | bool b => exact iteT ⟨v, _, h, _, rfl, x, isa_bool _, _, rfl, q⟩
    | int b => exact iteT ⟨v, _, h, _, rfl, x, isa_bool _, _, rfl, q⟩
    | _ => exact iteF q

/-! ### is_within -/
abbrev sIsWithin : Stmt := top 2
theorem scIsWithin : FnScope ["thing", "least", "most"] ["thing", "least", "most"] (C8.fnScope sIsWithin) := fnScope_by (by decide +kernel)
def within (a b : Int) : PyData → Bool
  | .int i => decide (a ≤ i) && decide (i ≤ b)
  | _ => false
def spIsWithin : Sp := fun vs H Q _ => ∃ v d h a b, vs = [v, .int a, .int b] ∧ Dq h H v d ∧ Q (.bl (within a b d)) H
theorem ok_is_within (D : DB K mg "is_within" sIsWithin ["thing", "least", "most"]) (c1 : Cal P w K mg base 1 "is_integer" spIsInteger []) : Cal P w K mg base 2 "is_within" spIsWithin [] := by
  refine calB D scIsWithin (fun vs H Q E h => ?_) (fun f cdv A outer s H vs Q E hr h => ?_)
  · obtain ⟨v, d, h, a, b, rfl, _⟩ := h
    rfl
  · obtain ⟨v, d, h, a, b, rfl, x, q⟩ := h
    refine ⟨_, pss_one (ps_ret (pe_and (pe_c c1 hr (by decide) (by rfl) (pa_cons (pv 0) pa_nil)) (pe_one (pe_chain op_le op_le (pv 1) (pv 0) (pv 2))))), ?_⟩
    refine ⟨v, rfl, v, d, h, rfl, x, isI d, rfl, ?_⟩
    cases d with
    | int i =>
      cases x
      refine iteT ⟨_, rfl, _, rfl, a, i, rfl, rfl, decide (a ≤ i), rfl, ?_⟩
      have q : Q (.bl (decide (a ≤ i) && decide (i ≤ b))) H := q
      cases e : decide (a ≤ i) with
      | true =>
        rw [e] at q
        exact iteT ⟨_, rfl, i, b, rfl, rfl, q⟩
      | false =>
        rw [e] at q
        exact iteF q
    | _ => exact iteF q

/-! ### is_pair -/
abbrev sIsPair : Stmt := top 3
theorem scIsPair : FnScope ["thing"] ["thing"] (C8.fnScope sIsPair) := fnScope_by (by decide +kernel)
def spIsPair : Sp := fun vs H Q _ => ∃ p x y, vs = [.ref p] ∧ H p = some (.tup [x, y]) ∧ Q (.bl true) H
theorem ok_is_pair (B : Nb mg) (D : DB K mg "is_pair" sIsPair ["thing"]) : Cal P w K mg base 1 "is_pair" spIsPair [] := by
  refine calB D scIsPair (fun vs H Q E h => ?_) (fun f cdv A outer s H vs Q E hr h => ?_)
  · obtain ⟨p, x, y, rfl, _⟩ := h
    rfl
  · obtain ⟨p, x, y, rfl, e, q⟩ := h
    refine ⟨_, pss_one (ps_ret (pe_and (pe_callB call_isi (by rfl) B.isi (by decide +kernel) (pa_cons (pv 0) (pa_cons (pe_bltn (by rfl) B.tuple (v := .ty "tuple") (u := .type "tuple") (by decide +kernel) rfl) pa_nil)))
      (pe_one (pe_cmpR op_eq (pe_callB call_len_seq (by rfl) B.len PySem.boot_len (pa_cons (pv 0) pa_nil)) pe_int (nomark _))))), ?_⟩
    refine ⟨_, rfl, .ref p, .ty "tuple", _, _, true, rfl, .ty "tuple", .base (.tup e), kit_ty (by decide +kernel), _, rfl, iteT ?_⟩
    exact ⟨_, rfl, p, _, rfl, .inr (SqT.of e), rfl, q⟩

/-! ### is_lot -/
abbrev sIsLot : Stmt := top 4
theorem scIsLot : FnScope ["thing", "many", "last", "number"] ["thing", "many"] (C8.fnScope sIsLot) := fnScope_by (by decide +kernel)
/-- the ascending look: the last one, the bound -/
def lotL (m : Int) : Int → List PyData → Bool
  | _, [] => true
  | l, .int i :: r => (decide (l + 1 ≤ i) && decide (i ≤ m - 1)) && lotL m i r
  | _, _ :: _ => false
def lotD (m : Int) : PyData → Bool
  | .tuple ds => lotL m (-1) ds
  | _ => false
theorem lotL_cons {m l : Int} {d : PyData} {r : List PyData} : lotL m l (d :: r) = (within (l + 1) (m - 1) d && match d with | .int i => lotL m i r | _ => false) := by
  cases d <;> simp [lotL, within]
def spIsLot : Sp := fun vs H Q _ => ∃ v d h m, vs = [v, .int m] ∧ Dq h H v d ∧ Q (.bl (lotD m d)) H
theorem ok_is_lot (B : Nb mg) (D : DB K mg "is_lot" sIsLot ["thing", "many"]) (c1 : Cal P w K mg base 2 "is_within" spIsWithin []) : Cal P w K mg base 3 "is_lot" spIsLot [] := by
  refine calB D scIsLot (fun vs H Q E h => ?_) (fun f cdv A outer s H vs Q E hr h => ?_)
  · obtain ⟨v, d, h, m, rfl, _⟩ := h
    rfl
  · obtain ⟨v, d, h, m, rfl, x, q⟩ := h
    refine ⟨_, pss_cons (ps_if (pt_not (pt_val (pe_isi (i := 0) (tn := "tuple") (d := d) B rfl rfl B.tuple (by decide +kernel) rfl (.inl rfl)))) (pss_one (ps_ret pe_bl)) pss_nil)
      (pss_cons (ps_set (i := 2) scIsLot.nd rfl (.inl rfl) (pe_un un_neg pe_int))
      (pss_cons (ps_for PassesOwn.never rfl (pi_tup (pv 0)) (pg_name (i := 3) scIsLot.nd rfl (.inl rfl))
        (pss_cons (ps_if (pt_not (pt_val (pe_c c1 hr (by decide) (by rfl) (pa_cons (pv 3) (pa_cons (pe_op op_add (pv 2) pe_int) (pa_cons (pe_op op_sub (pv 1) pe_int) pa_nil)))))) (pss_one (ps_ret pe_bl)) pss_nil)
          (pss_one (ps_set (i := 2) scIsLot.nd rfl (.inl rfl) (pv 3)))))
      (pss_one (ps_ret pe_bl)))), ?_⟩
    refine ⟨v, d, h, _, rfl, x, isa_tuple d, _, rfl, ?_⟩
    cases d with
    | tuple ds =>
      cases x with
      | @tup a xs _ e ha =>
        refine iteF ?_
        refine ⟨1, rfl, _, rfl, a, rfl, ⟨_, SqT.of e⟩, for_tup (K := K) (a := a) (xs := xs) (fun i σ H2 => ∃ (l : Int) (y : Option V), σ = [some (.ref a), some (.int m), some (.int l), y] ∧ H2 = H ∧ lotL m (-1) ds = lotL m l (ds.drop i)) ⟨-1, none, rfl, rfl, rfl⟩
          (fun i σ H2 _ hh => by obtain ⟨_, _, _, rfl, _⟩ := hh; exact SqT.of e) (fun i z σ H2 hz hh => ?_) (fun σ H2 hh => ?_)⟩
        · obtain ⟨l, y, rfl, rfl, el⟩ := hh
          obtain ⟨d, hd, dz⟩ := ha.get hz
          have hlt : i < ds.length := (List.getElem?_eq_some_iff.mp hd).1
          have edr : ds.drop i = d :: ds.drop (i + 1) := by
            rw [List.drop_eq_getElem_cons hlt]
            congr 1
            exact (List.getElem?_eq_some_iff.mp hd).2
          rw [edr, lotL_cons] at el
          refine ⟨z, rfl, _, rfl, l, 1, rfl, rfl, _, rfl, m, 1, rfl, rfl, z, d, h, _, _, rfl, dz, _, rfl, ?_⟩
          cases ew : within (l + 1) (m - 1) d with
          | false =>
            refine iteT ?_
            rw [ew, Bool.false_and] at el
            have q' : Q (.bl (lotL m (-1) ds)) H2 := q
            rw [el] at q'
            exact q'
          | true =>
            refine iteF ?_
            rw [ew, Bool.true_and] at el
            cases d with
            | int k =>
              cases dz
              exact ⟨.int k, rfl, k, _, rfl, rfl, el⟩
            | _ => cases ew
        · obtain ⟨l, y, rfl, rfl, el⟩ := hh
          have q' : Q (.bl (lotL m (-1) ds)) H2 := q
          rw [el, ha.len, List.drop_length] at q'
          exact q'
    | _ => exact iteT q
end
end ST

/-! for i, x in enumerate(t), t a tuple -/
namespace ST
open PySem PySem.Spec PyProof.Rows L2 C8
/-- an enumerate object as it is laid, its iterator at it -/
abbrev enumO (it : Addr) : Obj := { cls := .type "enumerate", data := .fields #[.none, .bool false, .ref it, rawInt 0, .none, .none] }
set_option maxHeartbeats 2000000 in
/-- enumerate(v): first v's iterator, then the object -/
theorem enum_lays {v : Value} {o : Obj} {H : Heap → Prop} (B : Begins v o H) : Meets (Builtin.«enumerate.__new__» ⟨[.type "enumerate", v], []⟩)
    (fun _ R s => H s.heap ∧ R (.ok (.ret (.ref (s.heap.push o).objs.size))) { s with heap := (s.heap.push o).push (enumO s.heap.objs.size) }) := by
  refine .of_wp fun prog w A R s x => ?_
  rcases s with ⟨hp, gs, dr, tk, os⟩
  have own := sub_enumerate
  have laid : ∀ {A' : Around} {E Q : Value → Shared → Prop} , Q (.ref hp.objs.size) ⟨hp.push o, gs, dr, tk, os⟩ → wpAny (model prog w) A' (pyIter v) Q E ⟨hp, gs, dr, tk, os⟩ := fun k => B.iter prog w _ _ ⟨hp, gs, dr, tk, os⟩ _ x.1 k
  have r := x.2
  wp_walk using laid
  refine wpAny_stack_any fun _ => wpAny_pure (?_ : wpAny _ _ _ _ _ _)
  split
  · next c _ _ _ _ _ => cases (c == Value.type "enumerate") <;> (wp_walk using laid; exact ⟨_, rfl, r⟩)
  · wp_walk using laid
    exact ⟨_, rfl, r⟩
theorem enum_call {P : Program} {w : World} {A : Around} {E Q : Value → Shared → Prop} {s : Shared} {v : Value} {o : Obj} {H : Heap → Prop} (B : Begins v o H) (now : H s.heap)
    (k : ∀ h', IsEnum h' (s.heap.objs.size + 1) s.heap.objs.size 0 .none → h'.get? s.heap.objs.size = some o → (∀ b u, s.heap.get? b = some u → h'.get? b = some u) → Q (.ref (s.heap.objs.size + 1)) { s with heap := h' }) :
    wpAny (model P w) A (call (.type "enumerate") [v]) Q E s := by
  have sz : (s.heap.push o).objs.size = s.heap.objs.size + 1 := Heap.size_push ..
  have en : IsEnum ((s.heap.push o).push (enumO s.heap.objs.size)) (s.heap.objs.size + 1) s.heap.objs.size 0 .none := sz ▸ Heap.get?_push_size (s.heap.push o) (o := enumO s.heap.objs.size) rfl
  refine callType_new F.called_enumerate (by decide) (F.typeCall_enumerate_1 _) (F.newCall_enumerate_1 _) (fun obj => F.args_object_init_2 obj _) F.entry_enumerate_new (enum_lays B) ⟨now, ?_⟩
  rw [sz]
  exact ⟨⟨_, en, rfl⟩, k _ en (Heap.get?_push_of_some _ (Heap.get?_push_size _ B.free)) fun b u e => Heap.get?_push_of_some _ (Heap.get?_push_of_some _ e)⟩
/-- a tuple is neither an enumerate object nor a tuple's iterator -/
theorem tup_no_enum {h : Heap} {a e it : Addr} {k : Int} {old : Value} {items : Array Value} (t : h.IsTuple a items) (x : IsEnum h e it k old) : a ≠ e := fun z => by
  obtain ⟨o, ho, _, _, hd⟩ := t
  cases (z ▸ ho).symm.trans x
  cases hd
theorem tup_no_iter {h : Heap} {a it b : Addr} {i : Nat} {items : Array Value} (t : h.IsTuple a items) (x : h.IsTupleIter it b i) : a ≠ it := fun z => by
  obtain ⟨o, ho, _, _, hd⟩ := t
  obtain ⟨o', ho', _, hd'⟩ := x
  cases (z ▸ ho).symm.trans ho'
  cases hd.symm.trans hd'
/-- the tuple at a, each item in a new pair -/
def IteT (K : PySem.W.Frag) (a : Addr) : It where
  go := fun i H => ∃ (xs : List V) (x : V), SqT K H a xs ∧ xs[i]? = some x
  yld := fun i H v H' => ∃ T x, v = .ref T ∧ H T = none ∧ H' = upd H T (.tup [.int (i : Nat), x]) ∧ ∀ xs, SqT K H a xs → xs[i]? = some x
  stop := fun i H => ∃ xs : List V, SqT K H a xs ∧ i = xs.length
/-- the state at turn i: the enumerate object at e, its iterator at it -/
def EnumAt (a e it : Addr) (i : Nat) (h : Heap) : Prop := (∃ old, IsEnum h e it ((i : Nat) : Int) old) ∧ h.IsTupleIter it a i ∧ e ≠ it
theorem two_mem {b e it : Addr} (h : b ∈ [e, it]) : b = e ∨ b = it := (List.mem_cons.mp h).imp_right List.mem_singleton.mp
section
variable {P : Program} {w : World} {K : PySem.W.Frag} {elts : List Expr} {kk : Nat} {tpos : Pos} {a e it : Addr}
theorem draws_tup {A : Around} {its : Array Value} (hh : A.handled = none) (n : a ≠ it) : Draws P w A.in1 it [it, a] its.size (fun i v => its[i]? = some v) (fun i h => h.IsTupleIter it a i ∧ h.IsTuple a its) := Draws.tuple (by rw [Around.in1_handled]; exact hh) it a n its
theorem turn_enumT : Turn P w K (.Tuple elts kk tpos) (IteT K a) [e, it] e (EnumAt a e it) where
  mem := .head _
  obj := fun i h ⟨⟨old, en⟩, ⟨o, ho, hc, hd⟩, _⟩ b hb => by
    rcases two_mem hb with rfl | rfl
    · exact ⟨_, en, fun v z => nomatch z⟩
    · exact ⟨o, ho, fun v z => by rw [hd] at z; cases z⟩
  keep := fun i h h' ⟨⟨old, en⟩, ti, ne⟩ k => ⟨⟨old, k e (.head _) _ en⟩, ti.at fun o z => k it (.tail _ (.head _)) o z, ne⟩
  item := by
    rintro X rfl rfl rfl hc i pins s σ H E I free ⟨⟨old, en⟩, ti, ne⟩ ⟨xs, x, seen, hx⟩
    obtain ⟨its, rv, tp, _⟩ := I.tuple seen
    obtain ⟨u, hu, ru⟩ := rv.get hx
    have le := Heap.lt_size en
    have li : it < s.heap.objs.size := let ⟨_, z, _⟩ := ti; Heap.lt_size z
    have nae := tup_no_enum tp en
    refine wpAny_pyNext_enum_itemD (draws_tup (I.ok.hd hc) (tup_no_iter tp ti)) en ⟨ti, tp⟩ (by rw [List.size_toArray]; exact (List.getElem?_eq_some_iff.mp hu).1) ne (by simp [ne, nae.symm]) fun y h' tk hy ho st at_ _ kept => ?_
    rw [List.getElem?_toArray, hu] at hy
    cases hy
    refine ⟨_, rfl, wpAny_letOwnedTupleGo_enum (s := { s with heap := h', toks := tk + 1 }) ho fun h2 en2 same => ?_⟩
    have pair : h2.get? s.heap.objs.size = some { cls := .type "tuple", data := .seq #[.int i tk, u] } := (same.2 _ (Nat.ne_of_gt le)).trans at_
    have J : Inv X pins σ (upd H s.heap.objs.size (.tup [.int (i : Nat), x])) { s with heap := h2, toks := tk + 1 } := by
      refine I.turnedNew (ch := [e, it]) (fun b ob hb z => ?_) free (Nat.le_refl _) ⟨by show 2 ≤ sizeLine; decide, [.int i tk, u], .cons ⟨_, rfl⟩ (.cons ru .nil), ⟨_, pair, rfl, _, rfl⟩⟩
      have n1 : b ≠ e := fun y => hb (y ▸ .head _)
      exact (same.2 b n1).trans (kept b ob n1 (fun y => hb (y ▸ .tail _ (.head _))) z)
    refine ⟨.ref s.heap.objs.size, _, J, rfl, ⟨_, x, rfl, I.hok.fresh (Nat.le_refl _), rfl, fun ys hy => I.tuple_inj hy seen ▸ hx⟩, ⟨⟨u, ?_⟩, st.1.at fun o z => (same.2 it ne.symm).trans z, ne⟩, fun b hb => ?_⟩
    · have : ((i + 1 : Nat) : Int) = (i : Int) + 1 := by omega
      rw [this]
      exact en2
    · have : b ≠ s.heap.objs.size := by rcases two_mem hb with rfl | rfl <;> exact Nat.ne_of_lt ‹_›
      rw [upd_ne this]
      exact (free b hb).1
  done := by
    rintro X rfl rfl rfl hc i pins s σ H E I free ⟨⟨old, en⟩, ti, ne⟩ ⟨xs, seen, hx⟩
    obtain ⟨its, rv, tp, _⟩ := I.tuple seen
    have last : i = its.toArray.size := by rw [hx, List.size_toArray]; exact rv.length
    obtain ⟨f0, f1, _, f3, f4, f5⟩ := free it (.tail _ (.head _))
    exact wpAny_pyNext_enum_endD (draws_tup (I.ok.hd hc) (tup_no_iter tp ti)) en ⟨last ▸ ti, tp⟩ fun h' z => ⟨rfl, I.turned (t' := s.toks) (fun b o hb q => z b o hb q) f0 f1 f3 f4 f5⟩
  self := fun A i s Q E ⟨⟨_, en⟩, _⟩ k => wpAny_pyIter_enum en k
end
def iEnumT (K : PySem.W.Frag) (ta : TA) : TI := fun σ H R => ta σ H fun vs H1 => ∃ a xs, vs = [.ref a] ∧ SqT K H1 a xs ∧ R (IteT K a) H1
theorem pi_enumT {X : Cx} {e : Expr} {ta : TA} {p pos tpos : Pos} {elts : List Expr} {kk : Nat} (hg : Gl X "enumerate") (hm : X.mg "enumerate" = none) (ha : PA X [e] ta) (hs : starEach [e] X.env = [(false, eval e X.env)] := by rfl) :
    PI X (.Tuple elts kk tpos) (.Call (.Name "enumerate" p) [e] [] pos) (iEnumT X.K ta) := by
  constructor
  intro pins s σ H R I h
  refine Call_ (ld_blt I hg hm boot_enumerate (PyProof.Rows.callWith_type1 (thn (ha.run pos pins s σ H _ I h) fun us t ⟨vs, H1, J, rel, a, xs, ev, seen, q⟩ => ?_) hs rfl))
  rw [ev] at rel
  rw [Vals.ref1 rel]
  obtain ⟨its, rv, tp, _⟩ := J.tuple seen
  refine enum_call (begins_tuple a its.toArray) tp fun h' en it kept => wpAny_pyIter_enum en ?_
  have J' : Inv X pins σ H1 { t with heap := h' } := J.kept (t' := t.toks) kept
  refine ⟨t.heap.objs.size + 1, [t.heap.objs.size + 1, t.heap.objs.size], _, _, H1, rfl, J', turn_enumT (e := t.heap.objs.size + 1) (it := t.heap.objs.size), ⟨⟨.none, en⟩, ⟨_, it, rfl, rfl⟩, Nat.succ_ne_self _⟩, fun b hb => ?_, q⟩
  have new : t.heap.objs.size ≤ b := by
    rcases two_mem hb with rfl | rfl
    · exact Nat.le_succ _
    · exact Nat.le_refl _
  exact J.fpOk new (J.hok.fresh new)
theorem walk_enumT {K : PySem.W.Frag} {a : Addr} {xs : List V} : Walk (IteT K a) xs.length (fun H => SqT K H a xs) (YPair (fun i => some (.int (i : Nat))) (fun i => xs[i]?)) :=
  ⟨fun i H hi q => ⟨xs, xs[i], q, List.getElem?_eq_getElem hi⟩, fun H q => ⟨xs, q, rfl⟩, fun i H v H' hi q ⟨T, x, e1, e2, e3, e4⟩ => ⟨T, _, x, e1, e2, e3, rfl, e4 xs q⟩⟩
end ST

/-! nets: Net, is_link, check_net, is_lot_of -/
namespace ST
open PySem PySem.Spec PyProof.Rows L2 C8

/-! ### links and nets in the heap -/
abbrev Lk := Int × Int
def LinkV (H : Hp) (v : V) (e : Lk) : Prop := ∃ l, v = .ref l ∧ H l = some (.tup [.int e.1, .int e.2])
def LinksAt (H : Hp) (vs : List V) (es : List Lk) : Prop := vs.length = es.length ∧ ∀ (i : Nat) (e : Lk), es[i]? = some e → ∃ v, vs[i]? = some v ∧ LinkV H v e
/-- a link between unlike places -/
def GoodL (m : Int) (e : Lk) : Prop := 0 ≤ e.1 ∧ e.1 < m ∧ 0 ≤ e.2 ∧ e.2 < m ∧ e.1 ≠ e.2
def TupS (H H' : Hp) : Prop := ∀ b xs, H b = some (.tup xs) → H' b = some (.tup xs)
theorem tS {H H' : Hp} (s : Same H H') : TupS H H' := fun b xs e => s b _ e
theorem Sx.tupS {h c : Addr} {H H' : Hp} (s : Sx h c H H') : TupS H H' := fun b xs e => s.tup e
theorem LinkV.keep {H H' : Hp} (s : TupS H H') {v : V} {e : Lk} (x : LinkV H v e) : LinkV H' v e := by
  obtain ⟨l, e1, e2⟩ := x
  exact ⟨l, e1, s _ _ e2⟩
theorem LinksAt.keep {H H' : Hp} (s : TupS H H') {vs : List V} {es : List Lk} (x : LinksAt H vs es) : LinksAt H' vs es :=
  ⟨x.1, fun i e h => let ⟨v, h1, h2⟩ := x.2 i e h; ⟨v, h1, h2.keep s⟩⟩
theorem LinksAt.get {H : Hp} {vs : List V} {es : List Lk} (x : LinksAt H vs es) {i : Nat} {v : V} (h : vs[i]? = some v) : ∃ e, es[i]? = some e ∧ LinkV H v e := by
  have hi : i < es.length := by
    rw [← x.1]
    exact (List.getElem?_eq_some_iff.mp h).1
  obtain ⟨v', h1, h2⟩ := x.2 i _ (List.getElem?_eq_getElem hi)
  rw [h] at h1
  cases h1
  exact ⟨_, List.getElem?_eq_getElem hi, h2⟩
/-- a net of the class at C -/
def NetAt (C : Addr) (H : Hp) (n : Addr) (m r : Int) (t : Addr) : Prop := ∃ dx fs, H n = some (.ins C dx fs) ∧ fs.lookup ("many" : Str) = some (.int m) ∧ fs.lookup ("root" : Str) = some (.int r) ∧ fs.lookup ("links" : Str) = some (.ref t)
/-- the class Net as the top has made it -/
structure NetC (K : PySem.W.Frag) (mg : Str → Option Value) (C : Addr) : Prop where
  cl : Cls K C
  nM : NoAttr K C "many"
  nR : NoAttr K C "root"
  nL : NoAttr K C "links"
  mgC : mg "Net" = some (.ref C)
  ca : PySem.W.findIn K (.ref C) "__class__" = some (some (.builtin "object.__class__"))
  cn : PySem.W.specialIn K (.builtin "object.__class__") "__get__" = some (some (.builtin "getset_descriptor.__get__"))
  ct : PySem.W.takesIn K (.builtin "object.__class__") = some true
  cm : PySem.W.mroIn K C (.type "object") = some true
  ck : PySem.W.kitOne K (.ref C) (.ref C) = some true
/-- everything of a net: the tuple of links at t, a link between unlike places each -/
structure NetOk (C : Addr) (H : Hp) (n : Addr) (m r : Int) (t : Addr) (ls : List V) (es : List Lk) : Prop where
  at_ : NetAt C H n m r t
  lt : H t = some (.tup ls)
  la : LinksAt H ls es
  few : es.length ≤ 60
  good : ∀ e ∈ es, GoodL m e
  m2 : 2 ≤ m
  m10 : m ≤ 10
  r0 : 0 ≤ r
  rm : r < m
def InsS (H H' : Hp) : Prop := ∀ b C dx fs, H b = some (.ins C dx fs) → H' b = some (.ins C dx fs)
theorem iS {H H' : Hp} (s : Same H H') : InsS H H' := fun b _ _ _ e => s b _ e
theorem Sx.insS {h c : Addr} {H H' : Hp} (s : Sx h c H H') : InsS H H' := fun b _ _ _ e => s.ins e
theorem NetAt.keep {C : Addr} {H H' : Hp} (s : InsS H H') {n : Addr} {m r : Int} {t : Addr} (x : NetAt C H n m r t) : NetAt C H' n m r t := by
  obtain ⟨dx, fs, e, r⟩ := x
  exact ⟨dx, fs, s _ _ _ _ e, r⟩
theorem NetOk.keep {C : Addr} {H H' : Hp} (s : TupS H H') (s2 : InsS H H') {n : Addr} {m r : Int} {t : Addr} {ls : List V} {es : List Lk} (x : NetOk C H n m r t ls es) : NetOk C H' n m r t ls es :=
  ⟨x.at_.keep s2, s _ _ x.lt, x.la.keep s, x.few, x.good, x.m2, x.m10, x.r0, x.rm⟩

/-! ### is_link -/
section
variable {P : Program} {w : World} {K : PySem.W.Frag} {mg : Str → Option Value} {base : Heap}
abbrev sIsLink : Stmt := top 17
theorem scIsLink : FnScope ["many", "thing", "place"] ["many", "thing"] (C8.fnScope sIsLink) := fnScope_by (by decide +kernel)
def spIsLink : Sp := fun vs H Q _ => ∃ m l e, vs = [.int m, .ref l] ∧ H l = some (.tup [.int e.1, .int e.2]) ∧ GoodL m e ∧ ∀ H', Same H H' → Q (.bl true) H'
theorem rep_snoc (i : Nat) : (List.replicate i true).map V.bl ++ [V.bl true] = (List.replicate (i + 1) true).map V.bl := by
  rw [List.replicate_succ', List.map_append]
  rfl
theorem ok_is_link (B : Nb mg) (D : DB K mg "is_link" sIsLink ["many", "thing"]) (c1 : Cal P w K mg base 1 "is_pair" spIsPair []) (c2 : Cal P w K mg base 2 "is_within" spIsWithin []) : Cal P w K mg base 3 "is_link" spIsLink [] := by
  refine calB D scIsLink (fun vs H Q E h => ?_) (fun f cdv A outer s H vs Q E hr h => ?_)
  · obtain ⟨m, l, e, rfl, _⟩ := h
    rfl
  · obtain ⟨m, l, e, rfl, he, ⟨g1, g2, g3, g4, g5⟩, q⟩ := h
    refine ⟨_, pss_cons (ps_if (PW.pt (pw_or (pt_not (pt_val (pe_c c1 hr (by decide) (by rfl) (pa_cons (pv 1) pa_nil))))
        (pw_or1 (pt_not (pt_val (pe_callB (cr_all rfl) (by rfl) B.all (by decide +kernel) (pa_cons
          (pe_lc (own := [("place", 2)]) (g := gName 2) (tt := tYes) rfl scIsLink.nd (pi_tup (pv 1)) (blkOk_by (N := ["many", "thing", "place"]) (sc := C8.fnScope sIsLink) (by decide +kernel))
            (fun _ _ _ _ _ => pg_name (i := 2) scIsLink.nd rfl (Or.inl rfl)) (fun _ _ _ _ _ => pts_nil)
            (fun _ _ _ _ _ => pe_c c2 hr (by decide) (by rfl) (pa_cons (pv 2) (pa_cons pe_int (pa_cons (pe_op op_sub (pv 0) pe_int) pa_nil))))) pa_nil))))))) (pss_one (ps_ret pe_bl)) pss_nil)
      (pss_one (ps_ret (pe_cmpR op_ne (pe_ix ix_tup (pv 1) pe_int (fun _ _ => rfl)) (pe_ix ix_tup (pv 1) pe_int (fun _ _ => rfl)) (nomark _)))), ?_⟩
    refine ⟨_, rfl, l, _, _, rfl, he, true, rfl, iteF ?_⟩
    refine ⟨_, rfl, l, rfl, ⟨_, SqT.of he⟩, fun D hD => lc_tup (K := K) (a := l) (xs := [.int e.1, .int e.2]) (fun i H2 => Same H H2 ∧ H2 D = some (.lst ((List.replicate i true).map V.bl))) ⟨same_upd hD, upd_same⟩ (fun i H2 _ hh => SqT.of (hh.1 _ _ he)) (fun i x H2 hx hh => ?_) (fun H2 hh => ?_)⟩
    · obtain ⟨S, eD⟩ := hh
      refine ⟨rfl, ?_⟩
      obtain ⟨k, ex, k0, k1⟩ : ∃ k : Int, x = .int k ∧ 0 ≤ k ∧ k ≤ m - 1 := by
        match i, hx with
        | 0, hx => exact ⟨e.1, (Option.some.inj hx).symm, g1, by omega⟩
        | 1, hx => exact ⟨e.2, (Option.some.inj hx).symm, g3, by omega⟩
        | i + 2, hx => simp at hx
      subst ex
      have hi : i < 2 := (List.getElem?_eq_some_iff.mp hx).1
      refine ⟨_, rfl, _, rfl, m, 1, rfl, rfl, .int k, .int k, 0, 0, m - 1, rfl, .int k, ?_⟩
      have ew : within 0 (m - 1) (.int k) = true := by simp [within, k0, k1]
      rw [ew]
      refine ⟨_, eD, ?_, fun b o eb => ?_, ?_⟩
      · rw [List.length_map, List.length_replicate]
        exact small1000 (by omega)
      · rw [upd_ne (ne_of_none eb hD)]
        exact S b o eb
      · rw [upd_same, rep_snoc]
    · obtain ⟨S, eD⟩ := hh
      refine ⟨D, List.replicate 2 true, rfl, SqL.of eD, _, rfl, ?_⟩
      refine iteF ?_
      have he2 := S _ _ he
      refine ⟨_, rfl, l, _, 0, .int e.1, rfl, rfl, SqT.of he2, atI_nat (j := 0) rfl, _, rfl, l, _, 1, .int e.2, rfl, rfl, SqT.of he2, atI_nat (j := 1) rfl, rfl, ?_⟩
      have ed : (!decide (V.int e.1 = V.int e.2)) = true := by
        rw [decide_eq_false (fun z => g5 (V.int.inj z))]
        rfl
      rw [ed]
      exact q H2 S

/-! ### Net.__init__ -/
abbrev sNetInit : Stmt := inClass (top 16) 0
theorem scNetInit : FnScope ["self", "many", "root", "links", "number", "link"] ["self", "many", "root", "links"] (C8.fnScope sNetInit) := fnScope_by (by decide +kernel)
structure NetG (mg : Str → Option Value) : Prop where
  least : ∃ t, mg "LEAST_PLACES" = some (.int 2 t)
  most : ∃ t, mg "MOST_PLACES" = some (.int 10 t)
  links : ∃ t, mg "MOST_LINKS" = some (.int 60 t)
def spNetInit (C : Addr) : Sp := fun vs H Q _ => ∃ p dx m r t ls es, vs = [.ref p, .int m, .int r, .ref t] ∧ H p = some (.ins C dx []) ∧ H t = some (.tup ls) ∧ LinksAt H ls es ∧ es.length ≤ 60 ∧ (∀ e ∈ es, GoodL m e) ∧ 2 ≤ m ∧ m ≤ 10 ∧ 0 ≤ r ∧ r < m ∧
  ∀ H', (∀ b o, H b = some o → b ≠ p → H' b = some o) → NetOk C H' p m r t ls es → Q .non H'
def nf (m r : Int) (t : Addr) : List (Str × V) := putF "links" (.ref t) (putF "root" (.int r) (putF "many" (.int m) []))
theorem nf_many (m r : Int) (t : Addr) : (nf m r t).lookup ("many" : Str) = some (.int m) := by
  unfold nf
  rw [lookup_putF, if_neg (by decide +kernel), lookup_putF, if_neg (by decide +kernel), lookup_putF, if_pos rfl]
theorem nf_root (m r : Int) (t : Addr) : (nf m r t).lookup ("root" : Str) = some (.int r) := by
  unfold nf
  rw [lookup_putF, if_neg (by decide +kernel), lookup_putF, if_pos rfl]
theorem nf_links (m r : Int) (t : Addr) : (nf m r t).lookup ("links" : Str) = some (.ref t) := by
  unfold nf
  rw [lookup_putF, if_pos rfl]
theorem ok_net_init {C : Addr} {f : Addr} {fd : FuncData} (B : Nb mg) (T : NetC K mg C) (G : NetG mg) (M : Mk K C f) (F : C8.Fun K "__init__" "Net.__init__" sNetInit f fd) (b : Binds K fd ["self", "many", "root", "links"] [])
    (c1 : Cal P w K mg base 2 "is_within" spIsWithin []) (c2 : Cal P w K mg base 3 "is_link" spIsLink []) : Mak P w K mg base 4 "Net" C (spNetInit C) [] := by
  refine mak0 M T.mgC F b .nil scNetInit (fun vs H Q E h => ?_) (fun cdv A outer s H vs Q E hr h => ?_)
  · obtain ⟨p, dx, m, r, t, ls, es, rfl, _⟩ := h
    rfl
  · obtain ⟨p, dx, m, r, t, ls, es, rfl, hp, ht, hla, hfew, hgood, m2, m10, r0, rm, q⟩ := h
    obtain ⟨t1, g1⟩ := G.least
    obtain ⟨t2, g2⟩ := G.most
    obtain ⟨t3, g3⟩ := G.links
    refine ⟨_, pss_cons (ps_if (pt_not (pt_val (pe_c c1 hr (by decide) (by rfl) (pa_cons (pv 1) (pa_cons (pe_glob (v := .int 2) (by rfl) g1 ⟨_, rfl⟩) (pa_cons (pe_glob (v := .int 10) (by rfl) g2 ⟨_, rfl⟩) pa_nil)))))) pss_never pss_nil)
      (pss_cons (ps_if (pt_not (pt_val (pe_c c1 hr (by decide) (by rfl) (pa_cons (pv 2) (pa_cons pe_int (pa_cons (pe_op op_sub (pv 1) pe_int) pa_nil)))))) pss_never pss_nil)
      (pss_cons (ps_if (PW.pt (pw_or (pt_not (pt_val (pe_callB call_isi (by rfl) B.isi (by decide +kernel) (pa_cons (pv 3) (pa_cons (pe_bltn (by rfl) B.tuple (v := .ty "tuple") (u := .type "tuple") (by decide +kernel) rfl) pa_nil)))))
        (pw_or1 (pt_cmpR op_gt (pe_callB call_len_seq (by rfl) B.len PySem.boot_len (pa_cons (pv 3) pa_nil)) (pe_glob (v := .int 60) (by rfl) g3 ⟨_, rfl⟩) (nomark _))))) pss_never pss_nil)
      (pss_cons (ps_for PassesOwn.never rfl (pi_enumT (by rfl) B.enum (pa_cons (pv 3) pa_nil)) (pg_tup rfl (pgs_cons (pg_name (i := 4) scNetInit.nd rfl (.inl rfl)) (pgs_cons (pg_name (i := 5) scNetInit.nd rfl (.inl rfl)) pgs_nil)))
        (pss_one (ps_if (pt_not (pt_val (pe_c c2 hr (by decide) (by rfl) (pa_cons (pv 1) (pa_cons (pv 5) pa_nil))))) pss_never pss_nil)))
      (pss_cons (ps_fld (pv 0) (pv 1) rfl) (pss_cons (ps_fld (pv 0) (pv 2) rfl) (pss_one (ps_fld (pv 0) (pv 3) rfl))))))), ?_⟩
    have w1 : within 2 10 (.int m) = true := by simp [within, m2, m10]
    have w2 : within 0 (m - 1) (.int r) = true := by simp [within, r0]; omega
    refine ⟨_, rfl, _, .int m, 0, 2, 10, rfl, .int m, ?_⟩
    rw [w1]
    refine ⟨_, rfl, iteF ?_⟩
    refine ⟨_, rfl, _, rfl, m, 1, rfl, rfl, _, .int r, 0, 0, m - 1, rfl, .int r, ?_⟩
    rw [w2]
    refine ⟨_, rfl, iteF ?_⟩
    refine ⟨_, rfl, .ref t, .ty "tuple", _, _, true, rfl, .ty "tuple", .base (.tup ht), kit_ty (by decide +kernel), _, rfl, iteF ?_⟩
    refine ⟨_, rfl, t, ls, rfl, .inr (SqT.of ht), _, 60, rfl, rfl, _, rfl, ?_⟩
    rw [decide_eq_false (show ¬ (60 : Int) < (ls.length : Int) by rw [hla.1]; omega)]
    refine iteF ?_
    have hpt : p ≠ t := ne_of hp ht (by intro z; cases z)
    refine ⟨_, rfl, t, ls, rfl, SqT.of ht, for_it (walk_enumT (K := K) (a := t) (xs := ls)) (fun i σ H2 => ∃ a4 a5, σ = [some (.ref p), some (.int m), some (.int r), some (.ref t), a4, a5] ∧ Same H H2) ⟨none, none, rfl, Same.refl H⟩
      (fun i σ H2 _ hh => by obtain ⟨_, _, _, S⟩ := hh; exact SqT.of (S _ _ ht)) (fun i x σ H2 H3 hi hh y => ?_) (fun σ H2 hh => ?_)⟩
    · obtain ⟨a4, a5, rfl, S⟩ := hh
      obtain ⟨T0, x1, x2, rfl, nT, rfl, e1, e2⟩ := y
      have e1' : x1 = .int (i : Nat) := (Option.some.inj e1).symm
      subst e1'
      refine ⟨T0, _, rfl, SqT.of upd_same, rfl, _, _, rfl, _, _, rfl, rfl, ?_⟩
      obtain ⟨e, he, l, rfl, hl⟩ := hla.get e2
      have S3 : Same H (upd H2 T0 (.tup [.int (i : Nat), .ref l])) := S.trans (same_upd nT)
      refine ⟨_, rfl, _, rfl, m, l, e, rfl, S3 _ _ hl, hgood e (List.mem_of_getElem? he), fun H4 S4 => ⟨_, rfl, iteF ?_⟩⟩
      exact ⟨_, _, rfl, S3.trans S4⟩
    · obtain ⟨a4, a5, rfl, S⟩ := hh
      refine ⟨_, rfl, _, rfl, p, C, dx, [], rfl, S _ _ hp, T.cl, T.nM, (by show 0 < 1000; decide), ?_⟩
      refine ⟨_, rfl, _, rfl, p, C, dx, _, rfl, upd_same, T.cl, T.nR, (by show 1 < 1000; decide), ?_⟩
      refine ⟨_, rfl, _, rfl, p, C, dx, _, rfl, upd_same, T.cl, T.nL, (by show 2 < 1000; decide), ?_⟩
      rw [upd_upd, upd_upd]
      have tu : TupS H (upd H2 p (.ins C dx (nf m r t))) := fun b xs e => by
        rw [upd_ne (ne_of e hp (by intro z; cases z))]
        exact S _ _ e
      refine q _ (fun b o e nb => ?_) ⟨⟨dx, nf m r t, upd_same, nf_many m r t, nf_root m r t, nf_links m r t⟩, tu _ _ ht, hla.keep tu, hfew, hgood, m2, m10, r0, rm⟩
      show (upd H2 p (.ins C dx (nf m r t))) b = some o
      rw [upd_ne nb]
      exact S _ _ e

/-! ### check_net, is_lot_of -/
abbrev sCheckNet : Stmt := top 18
theorem scCheckNet : FnScope ["net"] ["net"] (C8.fnScope sCheckNet) := fnScope_by (by decide +kernel)
def spCheckNet (C : Addr) : Sp := fun vs H Q _ => ∃ n m r t, vs = [.ref n] ∧ NetAt C H n m r t ∧ Q .non H
theorem ok_check_net {C : Addr} (B : Nb mg) (T : NetC K mg C) (D : DB K mg "check_net" sCheckNet ["net"]) : Cal P w K mg base 1 "check_net" (spCheckNet C) [] := by
  refine calB D scCheckNet (fun vs H Q E h => ?_) (fun f cdv A outer s H vs Q E hr h => ?_)
  · obtain ⟨n, m, r, t, rfl, _⟩ := h
    rfl
  · obtain ⟨n, m, r, t, rfl, ⟨dx, fs, hn, _⟩, q⟩ := h
    refine ⟨_, pss_one (ps_if (pt_not (pt_val (pe_callB call_isi (by rfl) B.isi (by decide +kernel) (pa_cons (pv 0) (pa_cons (pe_glob (v := .ref C) (by rfl) T.mgC rfl) pa_nil))))) pss_never pss_nil), ?_⟩
    exact ⟨_, rfl, .ref n, .ref C, _, _, true, rfl, .own C, .base (.ins hn T.cl T.ca T.cn T.ct T.cm), T.ck, _, rfl, iteF q⟩
abbrev sIsLotOf : Stmt := top 19
theorem scIsLotOf : FnScope ["net", "thing"] ["net", "thing"] (C8.fnScope sIsLotOf) := fnScope_by (by decide +kernel)
def spIsLotOf (C : Addr) : Sp := fun vs H Q _ => ∃ n m r t ls v d h, vs = [.ref n, v] ∧ NetAt C H n m r t ∧ H t = some (.tup ls) ∧ Dq h H v d ∧ Q (.bl (lotD ls.length d)) H
theorem ok_is_lot_of {C : Addr} (B : Nb mg) (T : NetC K mg C) (D : DB K mg "is_lot_of" sIsLotOf ["net", "thing"]) (c1 : Cal P w K mg base 3 "is_lot" spIsLot []) : Cal P w K mg base 4 "is_lot_of" (spIsLotOf C) [] := by
  refine calB D scIsLotOf (fun vs H Q E h => ?_) (fun f cdv A outer s H vs Q E hr h => ?_)
  · obtain ⟨n, m, r, t, ls, v, d, h, rfl, _⟩ := h
    rfl
  · obtain ⟨n, m, r, t, ls, v, d, h, rfl, ⟨dx, fs, hn, _, _, fl⟩, ht, x, q⟩ := h
    refine ⟨_, pss_one (ps_ret (pe_c c1 hr (by decide) (by rfl) (pa_cons (pv 1) (pa_cons (pe_callB call_len_seq (by rfl) B.len PySem.boot_len (pa_cons (pe_fld (pv 0) rfl) pa_nil)) pa_nil)))), ?_⟩
    exact ⟨v, rfl, _, rfl, n, C, dx, fs, _, rfl, hn, T.cl, T.nL, fl, t, ls, rfl, .inr (SqT.of ht), v, d, h, _, rfl, x, q⟩
end
end ST

/-! set(xs) of a list of ints, len of a set -/
namespace ST
open PySem PySem.Spec PyProof.Rows L2 C8
/-- the set as it is laid -/
abbrev newSet (w : World) : Obj := { cls := .type "set", dict := none, data := .set #[] 0 (.fresh 0 0 (!w.params.followText "set-order")) }
/-- what the filling of the set at s's end leaves: the members, all else as it was -/
def Filled (w : World) (s : Shared) (ns : List Int) (t : Shared) : Prop := ∃ h' tk c, t = { s with heap := h', toks := tk } ∧ SetR w h' s.heap.objs.size (fun j => decide (j ∈ ns)) c ∧ c ≤ ns.length ∧ ∀ b o, s.heap.get? b = some o → h'.get? b = some o
section
variable {P : Program} {w : World} {A : Around} {E : Value → Shared → Prop} {s : Shared} {l : Addr} {its : Array Value} {ns : List Int}
theorem ints_at (ok : IntsAre its.toList ns) (hn : its.size = ns.length) (i : Nat) (v : Value) (h : its[i]? = some v) : ∃ k t, ns[i]? = some k ∧ v = Value.int k t := by
  have hi : i < ns.length := hn ▸ (Array.getElem?_eq_some_iff.mp h).1
  obtain ⟨t, e⟩ := PyProof.Rows.IntsAre.int_at ok i v (by rw [Array.getElem?_toList, h])
  have e2 : ns.getD i 0 = ns[i] := by rw [List.getD_eq_getElem?_getD, List.getElem?_eq_getElem hi, Option.getD_some]
  exact ⟨ns[i], t, List.getElem?_eq_getElem hi, by rw [e]; first | rfl | rw [e2]⟩
set_option maxHeartbeats 3200000 in
/-- set.__init__(S, l) of the set that was laid last -/
theorem set_fills (none_ : A.handled = none) (ls : s.heap.IsList l its) (ok : IntsAre its.toList ns) (few : ns.length + 1 < scanBound) :
    codeAny (model P w) A (.call (.builtin "set.__init__") ⟨[.ref s.heap.objs.size, .ref l], []⟩) (wants (fun r t => r = .none ∧ Filled w s ns t) E) { s with heap := s.heap.push (newSet w) } := by
  have hn : its.size = ns.length := by rw [← Array.length_toList]; exact IntsAre.length ok
  have there : (s.heap.push (newSet w)).get? s.heap.objs.size = some (newSet w) := Heap.get?_push_size _ rfl
  refine codeAny_call_builtin PySem.F.called_set.init.plain PySem.F.entry_set_init (check_set_init_1 ⟨_, there, rfl⟩ ?_)
  obtain ⟨⟨oc, od, dt, osl⟩, e1, e2, n, e3⟩ := ls
  cases (show oc = Value.type "list" from e2)
  cases (show dt = Data.seq its n from e3)
  have lt : l < s.heap.objs.size := Heap.lt_size e1
  have e1p := Heap.get?_push_of_some (newSet w) e1
  have ls' : (s.heap.push (newSet w)).IsList l its := ⟨_, e1p, rfl, n, rfl⟩
  have noS := PySem.F.sub_list_set
  have noF := PySem.F.sub_list_frozenset
  have noD : (Value.type "list" == Value.type "dict") = false := rfl
  unfold Builtin.«set.__init__»
  unfold noKeywords Builtin.Frozenset.updateFrom
  generalize hPI : pyIter = PI
  wp_walk
  subst hPI
  refine wpAny_pyIter_list ls' (wpAny_bind (wpAny_runValue ?_))
  have sz : (s.heap.push (newSet w)).objs.size = s.heap.objs.size + 1 := Heap.size_push ..
  have apart : l ≠ (s.heap.push (newSet w)).objs.size := by rw [sz]; exact Nat.ne_of_lt (Nat.lt_succ_of_lt lt)
  have notIn : s.heap.objs.size ∉ [(s.heap.push (newSet w)).objs.size, l] := fun z => by
    rw [sz] at z
    rcases List.mem_cons.mp z with y | y
    · exact Nat.ne_of_lt (Nat.lt_succ_self _) y
    · exact Nat.ne_of_gt lt (List.mem_singleton.mp y)
  refine set_update_ints ((Walks.list (by simp [none_]) _ l apart its).toS) s.heap.objs.size notIn ns hn few (ints_at ok hn) (its.size - 0) 0 _ (by omega) (Nat.zero_le _) ⟨⟨_, Heap.get?_push_size _ rfl, rfl, rfl⟩, ls'.push _⟩ ⟨0, Nat.le_refl 0, setR_new_at (Heap.get?_push_of_some _ there)⟩ fun t c mv hc R => ?_
  obtain ⟨h', gs, dr, tk, os⟩ := t
  cases (show gs = s.gens from mv.gens)
  cases (show dr = s.drawn from mv.drawn)
  cases (show os = s.os from mv.os)
  show wpAny _ _ _ _ _ _
  refine wpAny_pure (show wpAny _ _ (ret Value.none) _ _ _ from wpAny_pure ⟨rfl, h', tk, c, rfl, R, hn ▸ hc, fun b o e => ?_⟩)
  have lb := Heap.lt_size e
  refine mv.heap b o (fun z => ?_) (Heap.get?_push_of_some _ (Heap.get?_push_of_some _ e))
  rw [sz] at z
  rcases List.mem_cons.mp z with y | y
  · exact Nat.ne_of_lt lb y
  · exact Nat.ne_of_lt (Nat.lt_succ_of_lt lb) (List.mem_singleton.mp y)
set_option maxHeartbeats 3200000 in
/-- set(l) -/
theorem set_of_list (ns : List Int) {Q : Value → Shared → Prop} (none_ : A.handled = none) (ls : s.heap.IsList l its) (ok : IntsAre its.toList ns) (few : ns.length + 1 < scanBound) (fin : ∀ t, Filled w s ns t → Q (.ref s.heap.objs.size) t) :
    wpAny (model P w) A (call (.type "set") [.ref l]) Q E s := by
  have T := PySem.F.called_set
  obtain ⟨c, tl, m1⟩ := T.mro
  have m2 := T.made
  have m3 := T.sub
  have m4 := T.notType
  have m5 := T.canCreate
  have m6 := PySem.F.typeCall_set_1 (.ref l)
  have m7 := T.init.lookup
  have m8 := T.init.bind (.ref s.heap.objs.size)
  refine wpAny_call (codeAny_of_tree (show wpAny _ _ (callAny (.type "set") _) _ _ _ from wpAny_pure ⟨Code.quiet_builtin _ (by decide +kernel), codeAny_builtin PySem.F.entry_type_call ?_⟩))
  rw [Around.under_plain (weight_type_call_type "set" [Value.ref l] []) rfl]
  repeat any_goals first | assumption | wp_step
  refine codeAny_mono (code_set_led1 (.ref l) (E := E) (Q₁ := fun obj t => obj = .ref s.heap.objs.size ∧ t = { s with heap := s.heap.push (newSet w) }) ⟨rfl, rfl⟩) fun r t hr => ?_
  match r, hr with
  | .error e, hr => exact hr
  | .ok (.ret obj), hr =>
    obtain ⟨rfl, rfl⟩ := hr
    have isSet : Shared.TypeIs { s with heap := s.heap.push (newSet w) } (.ref s.heap.objs.size) "set" := ⟨_, Heap.get?_push_size _ rfl, rfl⟩
    repeat any_goals first | assumption | wp_step
    refine codeAny_mono (set_fills (E := E) (by simp [none_]) ls ok few) fun r2 t2 hr2 => ?_
    match r2, hr2 with
    | .error e, hr2 => exact hr2
    | .ok (.ret _), hr2 =>
      obtain ⟨rfl, f⟩ := hr2
      have keep := fin t2 f
      repeat any_goals first | assumption | wp_step
end
/-- the members of a set by a list without repeats -/
theorem setR_keys {w : World} {h : Heap} {a : Addr} {S : Int → Bool} {n : Nat} (R : SetR w h a S n) : ∃ ks : List Int, ks.Nodup ∧ ks.length = n ∧ ∀ k, k ∈ ks ↔ S k = true := by
  obtain ⟨o, es, ep, t, _, _, _, _, nd, hm, _, _, hn, _⟩ := R
  exact ⟨es.toList.map keyOf, nd, by rw [List.length_map, Array.length_toList]; exact hn, fun k => (hm k).symm⟩
/-- set(xs), ints -/
def rSetL (K : PySem.W.Frag) (w : World) : List V → Hp → VK → Prop := fun vs H Q => ∃ (l : Addr) (ns : List Int), vs = [.ref l] ∧ SqL K H l (ns.map V.int) ∧ ns.length ≤ 1000 ∧
  ∀ (p : Addr) (n : Nat) (ks : List Int), H p = none → n ≤ ns.length → ks.Nodup → ks.length = n → (∀ k, k ∈ ks ↔ k ∈ ns) → Q (.ref p) (upd H p (SetO w p (fun j => decide (j ∈ ns)) n))
theorem cr_setL {X : Cx} (hc : X.calm = true) : CallR X (.type "set") (rSetL X.K X.w) := by
  rintro pins s σ H _ us Q I r ⟨l, ns, rfl, seen, few, q⟩
  obtain ⟨its, rv, pl, _⟩ := I.list seen
  rw [Vals.ref1 r]
  refine set_of_list ns (I.ok.hd hc) pl.isList (by simpa using rv.ints) (by unfold scanBound; omega) ?_
  rintro _ ⟨h', tk, c, rfl, R, hc', kept⟩
  obtain ⟨ks, k1, k2, k3⟩ := setR_keys R
  refine ⟨.ref _, _, I.laid (t' := tk) (o := SetO X.w s.heap.objs.size (fun j => decide (j ∈ ns)) c) kept (Nat.le_refl _) (setO_new R), rfl, ?_⟩
  exact q _ _ ks (I.hok.fresh (Nat.le_refl _)) hc' k1 k2 fun z => by rw [k3 z, decide_eq_true_iff]
/-- len(a set) -/
theorem cr_lenSet {X : Cx} : CallR X (.builtin "len") (fun vs H Q => ∃ (a : Addr) (S : Int → Bool) (n : Nat), vs = [.ref a] ∧ H a = some (SetO X.w a S n) ∧ n ≤ 1000 ∧ Q (.int (n : Nat)) H) := by
  rintro pins s σ H _ us Q I r ⟨a, S, n, rfl, ha, few, q⟩
  rw [Vals.ref1 r]
  obtain ⟨o, es, ep, t, ho, hx, hd, _, _, _, _, hf, hn, _⟩ := setO_get I ha
  exact call_len_set ho hx hd hf (by omega) ⟨.int (n : Nat), H, I.tok _, ⟨_, by rw [hn]⟩, q⟩
end ST

/-! The mathematics of trees: no program in sight. -/
namespace ST
abbrev Lnk := Int × Int
def toL (es : List Lnk) (n : Int) : Int := (es.getD n.toNat (0, 0)).2
def frL (es : List Lnk) (n : Int) : Int := (es.getD n.toNat (0, 0)).1
/-- x is reached from r by k links of the lot -/
inductive Rt (es : List Lnk) (ns : List Int) (r : Int) : Nat → Int → Prop
  | root : Rt es ns r 0 r
  | step {k : Nat} {n : Int} : n ∈ ns → Rt es ns r k (frL es n) → Rt es ns r (k + 1) (toL es n)
def ends (es : List Lnk) (ns : List Int) : List Int := ns.map (toL es)
/-- what the trees have in common: each place entered once at most, the root never -/
def Once (es : List Lnk) (ns : List Int) (r : Int) : Prop := (ends es ns).Nodup ∧ r ∉ ends es ns
/-- each end is reached -/
def AllR (es : List Lnk) (ns : List Int) (r : Int) : Prop := ∀ n ∈ ns, ∃ k, Rt es ns r k (toL es n)
def AllB (es : List Lnk) (ns : List Int) (r m : Int) : Prop := ∀ n ∈ ns, ∃ k : Nat, (k : Int) < m ∧ Rt es ns r k (toL es n)
/-- one step back -/
def ahead (es : List Lnk) (ns : List Int) (x : Int) : Int := match ns.find? (fun n => decide (toL es n = x)) with
  | some n => frL es n
  | none => x
def iterA (es : List Lnk) (ns : List Int) : Nat → Int → Int
  | 0, x => x
  | k + 1, x => iterA es ns k (ahead es ns x)
/-- the way back from a place, at most so many links -/
def wayF (es : List Lnk) (ns : List Int) : Nat → Int → List Int
  | 0, _ => []
  | k + 1, x => match ns.find? (fun n => decide (toL es n = x)) with
    | some n => wayF es ns k (frL es n) ++ [n]
    | none => []

theorem nodup_bound : ∀ (m : Nat) (l : List Int), l.Nodup → (∀ x ∈ l, 0 ≤ x ∧ x < (m : Int)) → l.length ≤ m
  | 0, l, _, h => by
    cases l with
    | nil => exact Nat.le_refl 0
    | cons x r =>
      have := h x List.mem_cons_self
      omega
  | m + 1, l, nd, h => by
    have h1 : (l.filter fun x => decide (x ≠ (m : Int))).length ≤ m := by
      refine nodup_bound m _ (nd.filter _) fun x hx => ?_
      have a := h x (List.mem_filter.mp hx).1
      have b : x ≠ (m : Int) := of_decide_eq_true (List.mem_filter.mp hx).2
      omega
    have h2 : l.length ≤ (l.filter fun x => decide (x ≠ (m : Int))).length + 1 := by
      have e := List.length_eq_countP_add_countP (fun x : Int => decide (x ≠ (m : Int))) (l := l)
      rw [List.countP_eq_length_filter] at e
      have c : List.countP (fun x => !decide (x ≠ (m : Int))) l = l.count (m : Int) := by
        unfold List.count
        congr 1
        funext x
        by_cases z : x = (m : Int) <;> simp [z]
      have c2 : l.count (m : Int) ≤ 1 := List.nodup_iff_count.mp nd _
      have e2 : l.length = (l.filter fun x => decide (x ≠ (m : Int))).length + List.countP (fun x => !decide (x ≠ (m : Int))) l := by
        refine e.trans ?_
        congr 1
        congr 1
        funext x
        by_cases z : x = (m : Int) <;> simp [z]
      rw [c] at e2
      omega
    omega

section
variable {es : List Lnk} {ns : List Int} {r m : Int}
theorem end_unique (o : Once es ns r) {n n' : Int} (h : n ∈ ns) (h' : n' ∈ ns) (e : toL es n = toL es n') : n = n' := by
  have nd : (ns.map (toL es)).Nodup := o.1
  have key : ∀ l : List Int, (l.map (toL es)).Nodup → n ∈ l → n' ∈ l → n = n' := by
    intro l
    induction l with
    | nil => intro _ h; simp at h
    | cons a t ih =>
      intro nd h h'
      rw [List.map_cons, List.nodup_cons] at nd
      rcases List.mem_cons.mp h with h1 | h1 <;> rcases List.mem_cons.mp h' with h2 | h2
      · rw [h1, h2]
      · exact absurd (List.mem_map.mpr ⟨n', h2, by rw [← e, h1]⟩) nd.1
      · exact absurd (List.mem_map.mpr ⟨n, h1, by rw [e, h2]⟩) nd.1
      · exact ih nd.2 h1 h2
  exact key ns nd h h'
theorem find_at (o : Once es ns r) {n : Int} (h : n ∈ ns) : ns.find? (fun k => decide (toL es k = toL es n)) = some n := by
  cases e : ns.find? (fun k => decide (toL es k = toL es n)) with
  | none =>
    have := List.find?_eq_none.mp e n h
    simp at this
  | some k =>
    have h1 := List.find?_some e
    have h2 := List.mem_of_find?_eq_some e
    rw [end_unique o h2 h (of_decide_eq_true h1)]
theorem find_root (o : Once es ns r) : ns.find? (fun k => decide (toL es k = r)) = none := by
  rw [List.find?_eq_none]
  intro x hx z
  exact o.2 (List.mem_map.mpr ⟨x, hx, of_decide_eq_true z⟩)
theorem ahead_at (o : Once es ns r) {n : Int} (h : n ∈ ns) : ahead es ns (toL es n) = frL es n := by
  unfold ahead
  rw [find_at o h]
theorem ahead_root (o : Once es ns r) : ahead es ns r = r := by
  unfold ahead
  rw [find_root o]
theorem iter_root (o : Once es ns r) : ∀ k, iterA es ns k r = r
  | 0 => rfl
  | k + 1 => by
    show iterA es ns k (ahead es ns r) = r
    rw [ahead_root o]
    exact iter_root o k
theorem iter_of_rt (o : Once es ns r) : ∀ (j k : Nat) (x : Int), Rt es ns r k x → k ≤ j → iterA es ns j x = r
  | j, 0, x, h, _ => by
    cases h
    exact iter_root o j
  | 0, k + 1, x, h, hk => absurd hk (by omega)
  | j + 1, k + 1, x, h, hk => by
    cases h with
    | step hn hr =>
      show iterA es ns j (ahead es ns _) = r
      rw [ahead_at o hn]
      exact iter_of_rt o j k _ hr (by omega)
theorem rt_of_iter (o : Once es ns r) : ∀ (j : Nat) (x : Int), iterA es ns j x = r → ∃ k, Rt es ns r k x
  | 0, x, h => by
    have e : x = r := h
    rw [e]
    exact ⟨0, .root⟩
  | j + 1, x, h => by
    have h' : iterA es ns j (ahead es ns x) = r := h
    obtain ⟨k, hk⟩ := rt_of_iter o j _ h'
    cases e : ns.find? (fun n => decide (toL es n = x)) with
    | none =>
      have ea : ahead es ns x = x := by unfold ahead; rw [e]
      rw [ea] at hk
      exact ⟨k, hk⟩
    | some n =>
      have ea : ahead es ns x = frL es n := by unfold ahead; rw [e]
      rw [ea] at hk
      have ex0 := List.find?_some e
      have ex : toL es n = x := of_decide_eq_true ex0
      rw [← ex]
      exact ⟨k + 1, .step (List.mem_of_find?_eq_some e) hk⟩
/-- as many links as places but one: each place but the root is an end -/
theorem is_end (o : Once es ns r) (hv : ∀ n ∈ ns, 0 ≤ toL es n ∧ toL es n < m) (hl : (ns.length : Int) = m - 1) (h0 : 0 ≤ r) (h1 : r < m) {p : Int} (p0 : 0 ≤ p) (p1 : p < m) (hp : p ≠ r) : p ∈ ends es ns := by
  refine Classical.byContradiction fun hn => ?_
  have nd : (p :: r :: ends es ns).Nodup := by
    rw [List.nodup_cons, List.nodup_cons]
    refine ⟨fun z => ?_, o.2, o.1⟩
    rcases List.mem_cons.mp z with z | z
    · exact hp z
    · exact hn z
  have hm : ((m.toNat : Nat) : Int) = m := by omega
  have b := nodup_bound m.toNat (p :: r :: ends es ns) nd fun x hx => by
    rw [hm]
    rcases List.mem_cons.mp hx with z | hx
    · rw [z]; exact ⟨p0, p1⟩
    · rcases List.mem_cons.mp hx with z | hx
      · rw [z]; exact ⟨h0, h1⟩
      · obtain ⟨n, hn, e⟩ := List.mem_map.mp hx
        rw [← e]
        exact hv n hn
  have hle : (ends es ns).length = ns.length := by unfold ends; rw [List.length_map]
  rw [List.length_cons, List.length_cons, hle] at b
  omega
theorem law_of_tree (o : Once es ns r) (hv : ∀ n ∈ ns, 0 ≤ toL es n ∧ toL es n < m) (hl : (ns.length : Int) = m - 1) (h0 : 0 ≤ r) (h1 : r < m) (a : AllB es ns r m) {p : Int} (p0 : 0 ≤ p) (p1 : p < m) : iterA es ns m.toNat p = r := by
  by_cases hp : p = r
  · rw [hp]
    exact iter_root o _
  · obtain ⟨n, hn, e⟩ := List.mem_map.mp (is_end o hv hl h0 h1 p0 p1 hp)
    obtain ⟨k, hk, hr⟩ := a n hn
    rw [← e]
    exact iter_of_rt o _ k _ hr (by omega)
theorem tree_of_law (o : Once es ns r) (hv : ∀ n ∈ ns, 0 ≤ toL es n ∧ toL es n < m) (h : ∀ p : Int, 0 ≤ p → p < m → iterA es ns m.toNat p = r) : AllR es ns r := fun n hn => rt_of_iter o _ _ (h _ (hv n hn).1 (hv n hn).2)
theorem way_root (o : Once es ns r) : ∀ k, wayF es ns k r = []
  | 0 => rfl
  | k + 1 => by
    unfold wayF
    rw [find_root o]
theorem way_step (o : Once es ns r) {n : Int} (h : n ∈ ns) (k : Nat) : wayF es ns (k + 1) (toL es n) = wayF es ns k (frL es n) ++ [n] := by
  show (match ns.find? (fun k => decide (toL es k = toL es n)) with
    | some n => wayF es ns k (frL es n) ++ [n]
    | none => []) = _
  rw [find_at o h]
theorem rt_back (o : Once es ns r) {k : Nat} {x : Int} (h : Rt es ns r k x) (hx : x ≠ r) : ∃ j n, k = j + 1 ∧ n ∈ ns ∧ x = toL es n ∧ Rt es ns r j (frL es n) := by
  cases h with
  | root => exact absurd rfl hx
  | step hn hr => exact ⟨_, _, rfl, hn, rfl, hr⟩
/-- any place of a tree is reached by fewer links than there are places -/
theorem rt_any (o : Once es ns r) (hv : ∀ n ∈ ns, 0 ≤ toL es n ∧ toL es n < m) (hl : (ns.length : Int) = m - 1) (h0 : 0 ≤ r) (h1 : r < m) (a : AllB es ns r m) {p : Int} (p0 : 0 ≤ p) (p1 : p < m) : ∃ k : Nat, (k : Int) < m ∧ Rt es ns r k p := by
  by_cases hp : p = r
  · rw [hp]
    exact ⟨0, by show (0 : Int) < m; omega, .root⟩
  · obtain ⟨n, hn, e⟩ := List.mem_map.mp (is_end o hv hl h0 h1 p0 p1 hp)
    obtain ⟨k, hk, hr⟩ := a n hn
    exact ⟨k, hk, by rw [← e]; exact hr⟩
end
end ST

/-! helpers: a link's place read, comprehensions over ints -/
namespace ST
open PySem PySem.Spec PyProof.Rows L2 C8
/-! the rules with the written part named: for a comprehension's block -/
section
variable {X : Cx}
theorem ixT (K : PySem.W.Frag) (e : X.K = K := by rfl) : IxR X (rIxT K) := by subst e; exact ix_tup
theorem ixL (K : PySem.W.Frag) (e : X.K = K := by rfl) : IxR X (rIxL K) := by subst e; exact ix_list
theorem inK (K : PySem.W.Frag) (e : X.K = K := by rfl) : OpR X (compareOp .In) (rIn K false) := by subst e; exact op_in_seq
theorem ninK (K : PySem.W.Frag) (e : X.K = K := by rfl) : OpR X (compareOp .NotIn) (rIn K true) := by subst e; exact op_notIn_seq
theorem lenK (K : PySem.W.Frag) (e : X.K = K := by rfl) : CallR X (.builtin "len") (fun xs H Q => ∃ p ys, xs = [.ref p] ∧ (SqL K H p ys ∨ SqT K H p ys) ∧ Q (.int ys.length) H) := by subst e; exact call_len_seq
end
theorem pe_fldK {X : Cx} (K : PySem.W.Frag) {o : Expr} {ta : TE} {f : Str} {pos : Pos} (he : PE X o ta) (hb : attributeBase o f X.env (eval o X.env) = eval o X.env) (e : X.K = K := by rfl) : PE X (.Attribute o f pos) (tFld K ta f) := by
  subst e
  exact pe_fld he hb
section
variable {K : PySem.W.Frag} {mg : Str → Option Value} {C : Addr} {σ : L2.St} {H : Hp} {Q : VK}
theorem int_nat {k : Int} (h : 0 ≤ k) : ∃ j : Nat, k = (j : Int) := ⟨k.toNat, by omega⟩
/-- L[link][1], L[link][0], where the links' tuple stands at t -/
theorem rd_lk {tb : TE} {j c : Nat} {t : Addr} {ls : List V} {es : List Lk} {k : Int} (hb : ∀ Q' : VK, Q' (.ref t) H → tb σ H Q') (ht : H t = some (.tup ls)) (la : LinksAt H ls es) (hj : σ[j]? = some (some (.int k))) (h0 : 0 ≤ k) (h1 : k < es.length)
    (q : ∀ e, es[k.toNat]? = some e → Q (.int (if c = 0 then e.1 else e.2)) H) (hc : c < 2) : tOp (rIxT K) (tOp (rIxT K) tb (tVar j)) (tC (.int (c : Nat))) σ H Q := by
  obtain ⟨i, rfl⟩ := int_nat h0
  have hi : i < es.length := by omega
  obtain ⟨v, hv, l, rfl, hl⟩ := la.2 i _ (List.getElem?_eq_getElem hi)
  refine hb _ ⟨_, hj, t, ls, _, _, rfl, rfl, SqT.of ht, atI_nat hv, l, _, _, (if c = 0 then V.int (es[i]).1 else V.int (es[i]).2), rfl, rfl, SqT.of hl, ?_, ?_⟩
  · match c, hc with
    | 0, _ => exact atI_nat (j := 0) rfl
    | 1, _ => exact atI_nat (j := 1) rfl
  · have z := q _ (by rw [Int.toNat_natCast]; exact List.getElem?_eq_getElem hi)
    by_cases e : c = 0
    · rw [if_pos e] at z ⊢
      exact z
    · rw [if_neg e] at z ⊢
      exact z
theorem toL_of {es : List Lk} {k : Int} {e : Lk} (h : es[k.toNat]? = some e) : toL es k = e.2 ∧ frL es k = e.1 := by
  unfold toL frL
  rw [List.getD_eq_getElem?_getD, h]
  exact ⟨rfl, rfl⟩
theorem rd_to {tb : TE} {j : Nat} {t : Addr} {ls : List V} {es : List Lk} {k : Int} (hb : ∀ Q' : VK, Q' (.ref t) H → tb σ H Q') (ht : H t = some (.tup ls)) (la : LinksAt H ls es) (hj : σ[j]? = some (some (.int k))) (h0 : 0 ≤ k) (h1 : k < es.length)
    (q : Q (.int (toL es k)) H) : tOp (rIxT K) (tOp (rIxT K) tb (tVar j)) (tC (.int 1)) σ H Q :=
  rd_lk (c := 1) hb ht la hj h0 h1 (fun e he => by rw [(toL_of he).1] at q; exact q) (by decide)
theorem rd_fr {tb : TE} {j : Nat} {t : Addr} {ls : List V} {es : List Lk} {k : Int} (hb : ∀ Q' : VK, Q' (.ref t) H → tb σ H Q') (ht : H t = some (.tup ls)) (la : LinksAt H ls es) (hj : σ[j]? = some (some (.int k))) (h0 : 0 ≤ k) (h1 : k < es.length)
    (q : Q (.int (frL es k)) H) : tOp (rIxT K) (tOp (rIxT K) tb (tVar j)) (tC (.int 0)) σ H Q :=
  rd_lk (c := 0) hb ht la hj h0 h1 (fun e he => by rw [(toL_of he).2] at q; exact q) (by decide)
/-- net.links, net.root, net.many -/
theorem rd_links (T : NetC K mg C) {i : Nat} {n t : Addr} {m r : Int} (N : NetAt C H n m r t) (hi : σ[i]? = some (some (.ref n))) (q : Q (.ref t) H) : tFld K (tVar i) "links" σ H Q := by
  obtain ⟨dx, fs, hn, _, _, fl⟩ := N
  exact ⟨_, hi, n, C, dx, fs, _, rfl, hn, T.cl, T.nL, fl, q⟩
theorem rd_root (T : NetC K mg C) {i : Nat} {n t : Addr} {m r : Int} (N : NetAt C H n m r t) (hi : σ[i]? = some (some (.ref n))) (q : Q (.int r) H) : tFld K (tVar i) "root" σ H Q := by
  obtain ⟨dx, fs, hn, _, fr, _⟩ := N
  exact ⟨_, hi, n, C, dx, fs, _, rfl, hn, T.cl, T.nR, fr, q⟩
theorem rd_many (T : NetC K mg C) {i : Nat} {n t : Addr} {m r : Int} (N : NetAt C H n m r t) (hi : σ[i]? = some (some (.ref n))) (q : Q (.int m) H) : tFld K (tVar i) "many" σ H Q := by
  obtain ⟨dx, fs, hn, fm, _, _⟩ := N
  exact ⟨_, hi, n, C, dx, fs, _, rfl, hn, T.cl, T.nM, fm, q⟩
end
theorem flat_ints (ns : List Int) : (ns.map V.int).all flatV = true := by
  induction ns with
  | nil => rfl
  | cons n r ih =>
    rw [List.map_cons, List.all_cons, ih]
    rfl
theorem in_ints (a : Int) (ns : List Int) : inV (.int a) (ns.map V.int) = decide (a ∈ ns) := by
  induction ns with
  | nil => simp [inV]
  | cons n r ih =>
    have e : inV (.int a) ((n :: r).map V.int) = (eqV (.int n) (.int a) || inV (.int a) (r.map V.int)) := rfl
    rw [e, ih]
    show ((n == a) || decide (a ∈ r)) = decide (a ∈ n :: r)
    by_cases z : a = n
    · subst z; simp
    · have z' : ¬ n = a := fun q => z q.symm
      simp [z, z', beq_eq_false_iff_ne.mpr z']
/-- x in xs, x not in xs, ints -/
theorem rd_in {K : PySem.W.Frag} {H : Hp} {Q : VK} {p : Addr} {ns : List Int} {a : Int} (h : SqL K H p (ns.map V.int) ∨ SqT K H p (ns.map V.int)) (q : Q (.bl (decide (a ∈ ns))) H) : rIn K false (.int a) (.ref p) H Q :=
  ⟨p, _, rfl, h, rfl, flat_ints ns, by rw [in_ints]; exact q⟩
theorem rd_notin {K : PySem.W.Frag} {H : Hp} {Q : VK} {p : Addr} {ns : List Int} {a : Int} (h : SqL K H p (ns.map V.int) ∨ SqT K H p (ns.map V.int)) (q : Q (.bl (!decide (a ∈ ns))) H) : rIn K true (.int a) (.ref p) H Q :=
  ⟨p, _, rfl, h, rfl, flat_ints ns, by rw [in_ints]; exact q⟩
theorem Same.list {K : PySem.W.Frag} {H H' : Hp} (s : Same H H') {a : Addr} {xs : List V} (h : SqT K H a xs) : SqT K H' a xs := by
  rcases h with (h | ⟨o, h⟩) | h
  · exact .inl (.inl (s _ _ h))
  · exact .inl (.inr ⟨o, s _ _ h⟩)
  · exact .inr h
/-- a comprehension over ints, its tests and its element by functions -/
theorem lc_filt {J : It} {G : Hp → Prop} {ns : List Int} (w : Walk J ns.length G (YAt (ns.map V.int))) {j : Nat} {vs : List Nat} {σ : L2.St} {H1 : Hp} {D : Addr} {Qd : Hp → Prop} {tt : TT} {te : TE} (p : Int → Bool) (f : Int → V)
    (hw : ∀ x, wipe ((wipe σ vs).set j (some x)) vs = wipe σ vs) (hD : H1 D = none) (hlen : ns.length ≤ 1000) (hG : ∀ H2, Same H1 H2 → G H2)
    (ht : ∀ k H2 (Qb : Bool → Hp → Prop), k ∈ ns → Same H1 H2 → Qb (p k) H2 → tt ((wipe σ vs).set j (some (.int k))) H2 Qb)
    (he : ∀ k H2 (Qv : VK), k ∈ ns → p k = true → Same H1 H2 → (∀ H3, Same H2 H3 → Qv (f k) H3) → te ((wipe σ vs).set j (some (.int k))) H2 Qv)
    (hd : ∀ H2, Same H1 H2 → H2 D = some (.lst ((ns.filter p).map f)) → Qd H2) :
    ∃ W : Nat → Nat → Hp → Prop, (∃ m, W 0 m (upd H1 D (.lst []))) ∧ ∀ i m H, W i m H →
      (J.stop i H ∧ Qd H) ∨ (J.go i H ∧ ∃ Nx : Hp → Prop, (∀ H', Nx H' → ∃ m', m' < m ∧ W (i + 1) m' H') ∧ ∀ x H', J.yld i H x H' → gName j x (wipe σ vs) H' fun σ2 H2 => wipe σ2 vs = wipe σ vs ∧ tt σ2 H2 fun b H3 =>
        if b = true then te σ2 H3 fun y H4 => ∃ acc, H4 D = some (.lst acc) ∧ acc.length < sizeLine ∧ Nx (upd H4 D (.lst (acc ++ [y]))) else Nx H3) := by
  refine lc_it w (fun i H2 => Same H1 H2 ∧ H2 D = some (.lst (((ns.take i).filter p).map f))) ⟨same_upd hD, upd_same⟩ (fun i H2 _ hh => hG H2 hh.1) (fun i x H2 H3 hi hh y => ?_) (fun H2 hh => ?_)
  · obtain ⟨S, eD⟩ := hh
    obtain ⟨rfl, hx⟩ := y
    have ek : ns[i]? = some ns[i] := List.getElem?_eq_getElem hi
    have ex : x = .int ns[i] := by
      rw [List.getElem?_map, ek] at hx
      exact (Option.some.inj hx).symm
    subst ex
    have hm : ns[i] ∈ ns := List.getElem_mem hi
    have et : ns.take (i + 1) = ns.take i ++ [ns[i]] := by rw [List.take_add_one, ek]; rfl
    refine ⟨hw _, ht _ _ _ hm S ?_⟩
    cases e : p ns[i] with
    | true =>
      refine iteT (he _ _ _ hm e S fun H4 S4 => ⟨_, S4 _ _ eD, ?_, ?_, ?_⟩)
      · rw [List.length_map]
        have h1 := List.length_filter_le p (ns.take i)
        rw [List.length_take] at h1
        exact small1000 (by omega)
      · intro b o eb
        rw [upd_ne (ne_of_none eb hD)]
        exact S4 _ _ (S b o eb)
      · rw [upd_same, et, List.filter_append, List.map_append]
        simp [e]
    | false =>
      refine iteF ⟨S, ?_⟩
      rw [et, List.filter_append]
      simp only [List.filter_cons, e, List.filter_nil, Bool.false_eq_true, if_false, List.append_nil]
      exact eD
  · obtain ⟨S, eD⟩ := hh
    rw [List.take_length] at eD
    exact hd H2 S eD
theorem filterT (ns : List Int) : (ns.filter fun _ => true) = ns := List.filter_eq_self.mpr fun _ _ => rfl
theorem walkT {K : PySem.W.Frag} {a : Addr} (ns : List Int) : Walk (Itt K a) ns.length (fun H => SqT K H a (ns.map V.int)) (YAt (ns.map V.int)) := by
  have w := walk_tup (K := K) (a := a) (xs := ns.map V.int)
  rw [List.length_map] at w
  exact w
theorem walkL {K : PySem.W.Frag} {a : Addr} (ns : List Int) : Walk (Itl K a) ns.length (fun H => SqL K H a (ns.map V.int)) (YAt (ns.map V.int)) := by
  have w := walk_list (K := K) (a := a) (xs := ns.map V.int)
  rw [List.length_map] at w
  exact w
/-- an ascending lot's ints -/
def Lot (ns : List Int) (m : Nat) : Prop := ns.Pairwise (· < ·) ∧ ∀ k ∈ ns, 0 ≤ k ∧ k < (m : Int)
theorem lotL_true {m : Int} : ∀ (ds : List PyData) (l : Int), lotL m l ds = true → ∃ ns : List Int, ds = ns.map PyData.int ∧ ns.Pairwise (· < ·) ∧ ∀ k ∈ ns, l < k ∧ k < m
  | [], l, _ => ⟨[], rfl, .nil, by simp⟩
  | d :: r, l, h => by
    rw [lotL_cons] at h
    cases d with
    | int i =>
      have h' : ((decide (l + 1 ≤ i) && decide (i ≤ m - 1)) && lotL m i r) = true := h
      rw [Bool.and_eq_true, Bool.and_eq_true, decide_eq_true_eq, decide_eq_true_eq] at h'
      obtain ⟨⟨h1, h2⟩, h3⟩ := h'
      obtain ⟨ns, e, pw, b⟩ := lotL_true r i h3
      refine ⟨i :: ns, by rw [e]; rfl, List.pairwise_cons.mpr ⟨fun k hk => (b k hk).1, pw⟩, fun k hk => ?_⟩
      rcases List.mem_cons.mp hk with z | z
      · rw [z]; omega
      · have := b k z
        omega
    | _ => simp [within] at h
theorem lotD_true {m : Nat} {d : PyData} (h : lotD m d = true) : ∃ ns : List Int, d = .tuple (ns.map PyData.int) ∧ Lot ns m := by
  cases d with
  | tuple ds =>
    obtain ⟨ns, e, pw, b⟩ := lotL_true ds (-1) h
    exact ⟨ns, by rw [e], pw, fun k hk => by have := b k hk; omega⟩
  | _ => cases h
theorem Lot.len : ∀ {ns : List Int} {m : Nat}, Lot ns m → ns.length ≤ m := fun {ns m} h =>
  nodup_bound m ns (h.1.imp fun z e => by omega) h.2
theorem dq_ints {h : Addr} {H : Hp} {v : V} : ∀ {ns : List Int}, Dq h H v (.tuple (ns.map PyData.int)) → ∃ a, v = .ref a ∧ H a = some (.tup (ns.map V.int)) := by
  intro ns x
  cases x with
  | @tup a xs _ e ha =>
    refine ⟨a, rfl, ?_⟩
    have key : ∀ (ns : List Int) (xs : List V), DqAll h H xs (ns.map PyData.int) → xs = ns.map V.int := by
      intro ns
      induction ns with
      | nil => intro xs z; cases z; rfl
      | cons n r ih =>
        intro xs z
        cases z with
        | cons z1 z2 =>
          cases z1
          rw [ih _ z2]
          rfl
    rw [← key ns xs ha]
    exact e
end ST

/-! packing: reached, is_wood, is_grown, is_tree -/
namespace ST
open PySem PySem.Spec PyProof.Rows L2 C8
section
variable {P : Program} {w : World} {K : PySem.W.Frag} {mg : Str → Option Value} {base : Heap}
abbrev sReached : Stmt := top 21
abbrev nReached : List Str := ["net", "lot", "places", "found", "is_longer", "ends", "more", "link", "place"]
theorem scReached : FnScope nReached ["net", "lot", "places"] (C8.fnScope sReached) := fnScope_by (by decide +kernel)
/-- what has been found so far -/
structure Found (m r : Int) (es : List Lk) (ns fs : List Int) : Prop where
  nd : fs.Nodup
  inb : ∀ x ∈ fs, 0 ≤ x ∧ x < m
  root : r ∈ fs
  rt : ∀ x ∈ fs, ∃ k, k + 1 ≤ fs.length ∧ Rt es ns r k x
theorem Found.len {m r : Int} {es : List Lk} {ns fs : List Int} (F : Found m r es ns fs) (h0 : 0 ≤ m) : (fs.length : Int) ≤ m := by
  have := nodup_bound m.toNat fs F.nd fun x hx => by
    have := F.inb x hx
    omega
  omega
theorem Found.start {m r : Int} {es : List Lk} {ns : List Int} (h0 : 0 ≤ r) (h1 : r < m) : Found m r es ns [r] :=
  ⟨by simp, fun x hx => by have e : x = r := by simpa using hx
                           rw [e]; exact ⟨h0, h1⟩, by simp, fun x hx => by
    have e : x = r := by simpa using hx
    rw [e]
    exact ⟨0, by simp, .root⟩⟩
def stepE (es : List Lk) (ns fs : List Int) : List Int := (ns.filter fun n => decide (frL es n ∈ fs)).map (toL es)
theorem Found.step {m r : Int} {es : List Lk} {ns fs ks : List Int} (F : Found m r es ns fs) (hv : ∀ n ∈ ns, 0 ≤ toL es n ∧ toL es n < m) (pw : ks.Pairwise (· < ·)) (hk : ∀ k, k ∈ ks ↔ k ∈ (stepE es ns fs).filter fun x => !decide (x ∈ fs)) : Found m r es ns (fs ++ ks) := by
  have hk2 : ∀ k ∈ ks, k ∉ fs ∧ ∃ n ∈ ns, frL es n ∈ fs ∧ toL es n = k := fun k h => by
    have h1 := List.mem_filter.mp ((hk k).mp h)
    obtain ⟨n, hn, e⟩ := List.mem_map.mp h1.1
    have h2 := List.mem_filter.mp hn
    refine ⟨?_, n, h2.1, of_decide_eq_true h2.2, e⟩
    simpa using h1.2
  refine ⟨List.nodup_append.mpr ⟨F.nd, pw.imp fun z e => by omega, fun a ha b hb e => (hk2 b hb).1 (by rw [← e]; exact ha)⟩, fun x hx => ?_, List.mem_append_left _ F.root, fun x hx => ?_⟩
  · rcases List.mem_append.mp hx with z | z
    · exact F.inb x z
    · obtain ⟨_, n, hn, _, e⟩ := hk2 x z
      rw [← e]
      exact hv n hn
  · rw [List.length_append]
    rcases List.mem_append.mp hx with z | z
    · obtain ⟨k, h1, h2⟩ := F.rt x z
      exact ⟨k, by omega, h2⟩
    · obtain ⟨_, n, hn, hf, e⟩ := hk2 x z
      obtain ⟨k, h1, h2⟩ := F.rt _ hf
      have h3 : 0 < ks.length := List.length_pos_of_mem z
      exact ⟨k + 1, by omega, by rw [← e]; exact .step hn h2⟩
def spReached (C : Addr) : Sp := fun vs H Q _ => ∃ n a pl m r t ls es ns, vs = [.ref n, .ref a, .ref pl] ∧ NetOk C H n m r t ls es ∧ H a = some (.tup (ns.map V.int)) ∧ Lot ns es.length ∧ H pl = some (.lst [.int r]) ∧
  ∀ H' p fs, Same H H' → H p = none → H' p = some (.lst (fs.map V.int)) → Found m r es ns fs → (∀ n ∈ ns, frL es n ∈ fs → toL es n ∈ fs) → Q (.ref p) H'
theorem good_to {m : Int} {es : List Lk} {ns : List Int} (g : ∀ e ∈ es, GoodL m e) (L : Lot ns es.length) : ∀ n ∈ ns, 0 ≤ toL es n ∧ toL es n < m := fun n hn => by
  have b := L.2 n hn
  have hi : n.toNat < es.length := by omega
  have e := toL_of (List.getElem?_eq_getElem hi)
  have z := g _ (List.getElem_mem hi)
  rw [e.1]
  exact ⟨z.2.2.1, z.2.2.2.1⟩
theorem good_fr {m : Int} {es : List Lk} {ns : List Int} (g : ∀ e ∈ es, GoodL m e) (L : Lot ns es.length) : ∀ n ∈ ns, 0 ≤ frL es n ∧ frL es n < m := fun n hn => by
  have b := L.2 n hn
  have hi : n.toNat < es.length := by omega
  have e := toL_of (List.getElem?_eq_getElem hi)
  have z := g _ (List.getElem_mem hi)
  rw [e.2]
  exact ⟨z.1, z.2.1⟩
theorem ok_reached {C : Addr} (B : Nb mg) (T : NetC K mg C) (D : DB K mg "reached" sReached ["net", "lot", "places"]) : Cal P w K mg base 1 "reached" (spReached C) [] := by
  refine calB D scReached (fun vs H Q E h => ?_) (fun f cdv A outer s H vs Q E hr h => ?_)
  · obtain ⟨n, a, pl, m, r, t, ls, es, ns, rfl, _⟩ := h
    rfl
  · obtain ⟨n, a, pl, m, r, t, ls, es, ns, rfl, N, ha, L, hpl, q⟩ := h
    have nd := scReached.nd
    refine ⟨_, pss_cons (ps_set (i := 3) nd rfl (.inr rfl) (pe_callTy call_list_of (by rfl) B.list (by decide +kernel) (pa_cons (pv 2) pa_nil)))
      (pss_cons (ps_set (i := 4) nd rfl (.inl rfl) pe_bl)
      (pss_cons (ps_while PassesOwn.never (pt_val (pv 4))
        (pss_cons (ps_setLc (i := 5) (own := [("link", 7)]) (g := gName 7) rfl nd rfl rfl (sw_true rfl rfl rfl (by decide +kernel)) (pi_tup (pv 1)) (blkOk_by (N := nReached) (sc := C8.fnScope sReached) (by decide +kernel))
            (fun _ _ _ _ _ => pg_name (i := 7) nd rfl (Or.inl rfl))
            (fun _ _ _ _ _ => pts_one (pt_cmpR (inK K) (pe_ix (ixT K) (pe_ix (ixT K) (pe_fldK K (pv 0) rfl) (pv 7) (fun _ _ => rfl)) pe_int (fun _ _ => rfl)) (pv 3) (by rfl)))
            (fun _ _ _ _ _ => pe_ix (ixT K) (pe_ix (ixT K) (pe_fldK K (pv 0) rfl) (pv 7) (fun _ _ => rfl)) pe_int (fun _ _ => rfl)))
        (pss_cons (ps_set (i := 6) nd rfl (.inl rfl) (pe_callB (cr_sortedSet rfl) (by rfl) B.sorted (by decide +kernel) (pa_cons (pe_callTy (cr_setL rfl) (by rfl) B.set (by decide +kernel) (pa_cons
            (pe_lc (own := [("place", 8)]) (g := gName 8) rfl nd (pi_list (pv 5)) (blkOk_by (N := nReached) (sc := C8.fnScope sReached) (by decide +kernel))
              (fun _ _ _ _ _ => pg_name (i := 8) nd rfl (Or.inl rfl)) (fun _ _ _ _ _ => pts_one (pt_cmpR (ninK K) (pv 8) (pv 3) (by rfl))) (fun _ _ _ _ _ => pv 8)) pa_nil)) pa_nil)))
        (pss_cons (ps_set (i := 4) nd rfl (.inl rfl) (pe_cmpR op_gt (pe_callB call_len_seq (by rfl) B.len PySem.boot_len (pa_cons (pv 6) pa_nil)) pe_int (nomark _)))
        (pss_one (ps_expr (pe_bm PySem.F.plainAttrs_list PySem.F.slot_list_extend PySem.F.type_list_extend mt_extend (pv 3) (pa_cons (pv 6) pa_nil))))))))
      (pss_one (ps_ret (pv 3))))), ?_⟩
    refine ⟨_, rfl, pl, _, rfl, .inl (SqL.of hpl), fun l hl => ?_⟩
    have hv := good_to N.good L
    have hlen : ns.length ≤ 60 := Nat.le_trans L.len N.few
    -- the loop
    refine ⟨fun k σ H2 => ∃ (fs : List Int) (lo : Bool) (x5 x6 : Option V), σ = [some (.ref n), some (.ref a), some (.ref pl), some (.ref l), some (.bl lo), x5, x6, none, none] ∧ Same H H2 ∧ H2 l = some (.lst (fs.map V.int)) ∧ Found m r es ns fs ∧
      (lo = false → ∀ n ∈ ns, frL es n ∈ fs → toL es n ∈ fs) ∧ (lo = true → k = m.toNat + 1 - fs.length), ⟨_, [r], true, none, none, rfl, same_upd hl, upd_same, Found.start N.r0 N.rm, (fun z => nomatch z), fun _ => rfl⟩, ?_⟩
    rintro k σ H2 ⟨fs, lo, x5, x6, rfl, S, el, F, hcl, hk⟩
    refine ⟨_, rfl, lo, rfl, ?_⟩
    cases lo with
    | false => exact iteF ⟨_, rfl, q H2 l fs S hl el F (hcl rfl)⟩
    | true =>
      have hk := hk rfl
      have hfl := F.len (by have := N.m2; omega)
      have N2 : NetOk C H2 n m r t ls es := N.keep (tS S) (iS S)
      have ha2 := S _ _ ha
      refine iteT ⟨fun σ' H' => ∃ m', m' < k ∧ ∃ (fs : List Int) (lo : Bool) (x5 x6 : Option V), σ' = [some (.ref n), some (.ref a), some (.ref pl), some (.ref l), some (.bl lo), x5, x6, none, none] ∧ Same H H' ∧ H' l = some (.lst (fs.map V.int)) ∧ Found m r es ns fs ∧
        (lo = false → ∀ n ∈ ns, frL es n ∈ fs → toL es n ∈ fs) ∧ (lo = true → m' = m.toNat + 1 - fs.length), fun σ' H' h => h, ?_⟩
      refine ⟨_, rfl, a, rfl, ⟨_, SqT.of ha2⟩, fun D hD => lc_filt (walkT ns) (fun n => decide (frL es n ∈ fs)) (fun n => .int (toL es n)) (fun _ => rfl) hD (by omega) (fun H3 S3 => SqT.of (S3 _ _ ha2)) (fun k H3 Qb hkm S3 qb => ?_) (fun k H3 Qv hkm _ S3 qv => ?_) (fun H3 S3 eD => ?_)⟩
      · have N3 := N2.keep (tS S3) (iS S3)
        have b := L.2 k hkm
        exact rd_fr (fun Q' q' => rd_links T N3.at_ rfl q') N3.lt N3.la rfl b.1 b.2 ⟨_, rfl, rd_in (.inl (SqL.of (S3 _ _ el))) ⟨_, rfl, qb⟩⟩
      · have N3 := N2.keep (tS S3) (iS S3)
        have b := L.2 k hkm
        exact rd_to (fun Q' q' => rd_links T N3.at_ rfl q') N3.lt N3.la rfl b.1 b.2 (qv H3 (Same.refl H3))
      · have eD' : H3 D = some (.lst ((stepE es ns fs).map V.int)) := by
          rw [eD]
          unfold stepE
          rw [List.map_map]
          rfl
        have hse : (stepE es ns fs).length ≤ 60 := by
          unfold stepE
          rw [List.length_map]
          exact Nat.le_trans (List.length_filter_le _ _) hlen
        have el3 := S3 _ _ el
        refine ⟨_, rfl, D, rfl, ⟨_, SqL.of eD'⟩, fun D2 hD2 => lc_filt (walkL (stepE es ns fs)) (fun x => !decide (x ∈ fs)) V.int (fun _ => rfl) hD2 (by omega) (fun H4 S4 => SqL.of (S4 _ _ eD')) (fun k H4 Qb hkm S4 qb => ?_) (fun k H4 Qv hkm _ S4 qv => ?_) (fun H4 S4 eD2 => ?_)⟩
        · exact ⟨_, rfl, _, rfl, rd_notin (.inl (SqL.of (S4 _ _ el3))) ⟨_, rfl, qb⟩⟩
        · exact ⟨_, rfl, qv H4 (Same.refl H4)⟩
        · refine ⟨D2, _, rfl, SqL.of eD2, ?_, fun p5 c5 ks5 hp5 hc5 _ _ _ => ?_⟩
          · have := List.length_filter_le (fun x => !decide (x ∈ fs)) (stepE es ns fs)
            omega
          have hc6 : c5 < 64 := by
            have := List.length_filter_le (fun x => !decide (x ∈ fs)) (stepE es ns fs)
            omega
          refine ⟨p5, _, c5, rfl, upd_same, hc6, fun ks p6 pw hks hlen6 hp6 => ?_⟩
          have hks' : ∀ k, k ∈ ks ↔ k ∈ (stepE es ns fs).filter fun x => !decide (x ∈ fs) := fun k => by rw [hks k, decide_eq_true_iff]
          generalize h6 : upd (upd H4 p5 _) p6 _ = H6
          have S6 : Same H3 H6 := by rw [← h6]; exact (S4.trans (same_upd hp5)).trans (same_upd hp6)
          have el6 := S6 _ _ el3
          have e6 : H6 p6 = some (.lst (ks.map V.int)) := by rw [← h6]; exact upd_same
          have S06 := (S.trans S3).trans S6
          refine ⟨_, rfl, p6, _, rfl, .inl (SqL.of e6), _, 0, rfl, rfl, ?_⟩
          refine ⟨_, rfl, .inl ⟨rfl, _, SqL.of el6⟩, _, rfl, l, p6, _, _, rfl, rfl, el6, e6, ?_, ?_⟩
          · rw [List.length_map, List.length_map, hlen6, sizeLine_eq]
            have := N.m10
            omega
          · have F' := F.step hv pw hks'
            have hfl' := F'.len (by have := N.m2; omega)
            rw [List.length_append] at hfl'
            rw [List.length_map]
            refine ⟨if ks = [] then 0 else m.toNat + 1 - (fs ++ ks).length, ?_, fs ++ ks, decide ((0 : Int) < (ks.length : Int)), _, _, rfl, fun b o eb => ?_, ?_, F', fun z n hn hf => ?_, fun z => if_neg fun hz => ?_⟩
            · by_cases hz : ks = []
              · rw [if_pos hz]
                omega
              · rw [if_neg hz, List.length_append]
                have := List.length_pos_iff.mpr hz
                omega
            · rw [upd_ne (ne_of_none eb hl)]
              exact S06 b o eb
            · rw [upd_same, List.map_append]
            · have hk0 : ks = [] := by
                cases ks with
                | nil => rfl
                | cons x r =>
                  have := of_decide_eq_false z
                  rw [List.length_cons] at this
                  omega
              rw [hk0, List.append_nil] at hf ⊢
              refine Classical.byContradiction fun hn2 => ?_
              have : toL es n ∈ ks := (hks' _).mpr (List.mem_filter.mpr ⟨List.mem_map.mpr ⟨n, List.mem_filter.mpr ⟨hn, decide_eq_true hf⟩, rfl⟩, by simp [hn2]⟩)
              rw [hk0] at this
              cases this
            · rw [hz] at z
              exact absurd (of_decide_eq_true z) (by decide)

/-! ### is_wood -/
abbrev sIsWood : Stmt := top 22
abbrev nIsWood : List Str := ["net", "lot", "places", "ends", "heard", "link", "place"]
theorem scIsWood : FnScope nIsWood ["net", "lot", "places"] (C8.fnScope sIsWood) := fnScope_by (by decide +kernel)
/-- a lot's links enter each place once at most, the root never, all that they enter is reached -/
def Wood (es : List Lk) (ns : List Int) (r : Int) : Prop := Once es ns r ∧ AllR es ns r
def spIsWood (C : Addr) : Sp := fun vs H Q _ => ∃ n a pl m r t ls es ns, vs = [.ref n, .ref a, .ref pl] ∧ NetOk C H n m r t ls es ∧ H a = some (.tup (ns.map V.int)) ∧ Lot ns es.length ∧ H pl = some (.lst [.int r]) ∧
  ∀ H' b, Same H H' → (b = true ↔ Wood es ns r) → (b = true → AllB es ns r m) → Q (.bl b) H'
theorem card_nodup {ns ks : List Int} (nd : ks.Nodup) (h : ∀ k, k ∈ ks ↔ k ∈ ns) : ks.length < ns.length ↔ ¬ ns.Nodup := by
  constructor
  · intro hl hn
    have h1 : ns.length ≤ ks.length := by
      have := List.Nodup.length_le_of_subset hn (l₂ := ks) (fun x hx => (h x).mpr hx)
      exact this
    omega
  · intro hn
    obtain ⟨x, hx⟩ : ∃ x, 1 < ns.count x := Classical.byContradiction fun hc => hn (List.nodup_iff_count.mpr fun a => Nat.le_of_not_lt fun z => hc ⟨a, z⟩)
    have hm : x ∈ ns := List.count_pos_iff.mp (by omega)
    have hm2 : x ∈ ns.erase x := List.count_pos_iff.mp (by rw [List.count_erase_self]; omega)
    have h1 : ks.length ≤ (ns.erase x).length := List.Nodup.length_le_of_subset nd fun y hy => by
      by_cases e : y = x
      · rw [e]; exact hm2
      · exact (List.mem_erase_of_ne e).mpr ((h y).mp hy)
    rw [List.length_erase_of_mem hm] at h1
    have := List.length_pos_of_mem hm
    omega
theorem ok_is_wood {C : Addr} (B : Nb mg) (T : NetC K mg C) (D : DB K mg "is_wood" sIsWood ["net", "lot", "places"]) (c1 : Cal P w K mg base 1 "reached" (spReached C) []) : Cal P w K mg base 2 "is_wood" (spIsWood C) [] := by
  refine calB D scIsWood (fun vs H Q E h => ?_) (fun f cdv A outer s H vs Q E hr h => ?_)
  · obtain ⟨n, a, pl, m, r, t, ls, es, ns, rfl, _⟩ := h
    rfl
  · obtain ⟨n, a, pl, m, r, t, ls, es, ns, rfl, N, ha, L, hpl, q⟩ := h
    have nd := scIsWood.nd
    refine ⟨_, pss_cons (ps_set (i := 3) nd rfl (.inr rfl) (pe_lc (own := [("link", 5)]) (g := gName 5) (tt := tYes) rfl nd (pi_tup (pv 1)) (blkOk_by (N := nIsWood) (sc := C8.fnScope sIsWood) (by decide +kernel))
            (fun _ _ _ _ _ => pg_name (i := 5) nd rfl (Or.inl rfl)) (fun _ _ _ _ _ => pts_nil)
            (fun _ _ _ _ _ => pe_ix (ixT K) (pe_ix (ixT K) (pe_fldK K (pv 0) rfl) (pv 5) (fun _ _ => rfl)) pe_int (fun _ _ => rfl))))
      (pss_cons (ps_if (PW.pt (pw_or (pt_cmpR op_lt (pe_callB cr_lenSet (by rfl) B.len PySem.boot_len (pa_cons (pe_callTy (cr_setL rfl) (by rfl) B.set (by decide +kernel) (pa_cons (pv 3) pa_nil)) pa_nil)) (pe_callB call_len_seq (by rfl) B.len PySem.boot_len (pa_cons (pv 3) pa_nil)) (nomark _))
          (pw_or1 (pt_val (pe_callB (cr_any rfl) (by rfl) B.any (by decide +kernel) (pa_cons (pe_lc (own := [("place", 6)]) (g := gName 6) (tt := tYes) rfl nd (pi_list (pv 2)) (blkOk_by (N := nIsWood) (sc := C8.fnScope sIsWood) (by decide +kernel))
            (fun _ _ _ _ _ => pg_name (i := 6) nd rfl (Or.inl rfl)) (fun _ _ _ _ _ => pts_nil)
            (fun _ _ _ _ _ => pe_cmpR (inK K) (pv 6) (pv 3) (by rfl))) pa_nil)))))) (pss_one (ps_ret pe_bl)) pss_nil)
      (pss_cons (ps_set (i := 4) nd rfl (.inr rfl) (pe_c c1 hr (by decide) (by rfl) (pa_cons (pv 0) (pa_cons (pv 1) (pa_cons (pv 2) pa_nil)))))
      (pss_one (ps_ret (pe_callB (cr_all rfl) (by rfl) B.all (by decide +kernel) (pa_cons (pe_lc (own := [("place", 6)]) (g := gName 6) (tt := tYes) rfl nd (pi_list (pv 3)) (blkOk_by (N := nIsWood) (sc := C8.fnScope sIsWood) (by decide +kernel))
            (fun _ _ _ _ _ => pg_name (i := 6) nd rfl (Or.inl rfl)) (fun _ _ _ _ _ => pts_nil)
            (fun _ _ _ _ _ => pe_cmpR (inK K) (pv 6) (pv 4) (by rfl))) pa_nil)))))), ?_⟩
    have hlen : ns.length ≤ 60 := Nat.le_trans L.len N.few
    have hle : (ends es ns).length = ns.length := by unfold ends; rw [List.length_map]
    -- ends
    refine ⟨_, rfl, a, rfl, ⟨_, SqT.of ha⟩, fun D hD => lc_filt (walkT ns) (fun _ => true) (fun n => .int (toL es n)) (fun _ => rfl) hD (by omega) (fun H3 S3 => SqT.of (S3 _ _ ha)) (fun k H3 Qb hkm S3 qb => qb) (fun k H3 Qv hkm _ S3 qv => ?_) (fun H3 S3 eD => ?_)⟩
    · have N3 := N.keep (tS S3) (iS S3)
      have b := L.2 k hkm
      exact rd_to (fun Q' q' => rd_links T N3.at_ rfl q') N3.lt N3.la rfl b.1 b.2 (qv H3 (Same.refl H3))
    · have eE : H3 D = some (.lst ((ends es ns).map V.int)) := by
        rw [eD, filterT]
        unfold ends
        rw [List.map_map]
        rfl
      -- len(set(ends)) < len(ends)
      refine ⟨_, rfl, D, ends es ns, rfl, SqL.of eE, by omega, fun p c ks hp hc kn kl km => ?_⟩
      refine ⟨p, _, c, rfl, upd_same, by omega, ?_⟩
      generalize h4 : upd H3 p _ = H4
      have S34 : Same H3 H4 := by rw [← h4]; exact same_upd hp
      have eE4 := S34 _ _ eE
      have S4 := S3.trans S34
      refine ⟨_, rfl, D, _, rfl, .inl (SqL.of eE4), _, _, rfl, rfl, _, rfl, ?_⟩
      have hcd : decide ((c : Int) < (((ends es ns).map V.int).length : Int)) = !decide (ends es ns).Nodup := by
        rw [List.length_map, ← kl]
        have z := card_nodup kn km
        by_cases hn : (ends es ns).Nodup
        · rw [decide_eq_true hn]
          exact decide_eq_false fun hh => (z.mp (by omega)) hn
        · rw [decide_eq_false hn]
          exact decide_eq_true (by have := z.mpr hn; omega)
      rw [hcd]
      by_cases hn : (ends es ns).Nodup
      · rw [decide_eq_true hn]
        refine iteF ?_
        -- any([place in ends for place in places])
        have hpl4 := S4 _ _ hpl
        refine ⟨_, rfl, pl, rfl, ⟨_, SqL.of hpl4⟩, fun D2 hD2 => lc_filt (walkL [r]) (fun _ => true) (fun x => .bl (decide (x ∈ ends es ns))) (fun _ => rfl) hD2 (by show 1 ≤ 1000; decide) (fun H5 S5 => SqL.of (S5 _ _ hpl4)) (fun k H5 Qb hkm S5 qb => qb) (fun k H5 Qv hkm _ S5 qv => ?_) (fun H5 S5 eD2 => ?_)⟩
        · exact ⟨_, rfl, _, rfl, rd_in (.inl (SqL.of (S5 _ _ eE4))) (qv H5 (Same.refl H5))⟩
        · refine ⟨D2, [decide (r ∈ ends es ns)], rfl, SqL.of eD2, _, rfl, ?_⟩
          have ea : [decide (r ∈ ends es ns)].any id = decide (r ∈ ends es ns) := by simp
          rw [ea]
          by_cases hre : r ∈ ends es ns
          · rw [decide_eq_true hre]
            exact q H5 false (S4.trans S5) ⟨fun z => (nomatch z), fun z => absurd hre z.1.2⟩ (fun z => nomatch z)
          · rw [decide_eq_false hre]
            refine iteF ?_
            have N5 := N.keep (tS (S4.trans S5)) (iS (S4.trans S5))
            have S05 := S4.trans S5
            refine ⟨_, rfl, _, rfl, _, rfl, n, a, pl, m, r, t, ls, es, ns, rfl, N5, S05 _ _ ha, L, S05 _ _ hpl, fun H6 p6 fs S6 hp6 e6 F cl => ?_⟩
            have eE6 := S6 _ _ (S5 _ _ eE4)
            refine ⟨_, rfl, D, rfl, ⟨_, SqL.of eE6⟩, fun D3 hD3 => lc_filt (walkL (ends es ns)) (fun _ => true) (fun x => .bl (decide (x ∈ fs))) (fun _ => rfl) hD3 (by omega) (fun H7 S7 => SqL.of (S7 _ _ eE6)) (fun k H7 Qb hkm S7 qb => qb) (fun k H7 Qv hkm _ S7 qv => ?_) (fun H7 S7 eD3 => ?_)⟩
            · exact ⟨_, rfl, _, rfl, rd_in (.inl (SqL.of (S7 _ _ e6))) (qv H7 (Same.refl H7))⟩
            · have eD4 : H7 D3 = some (.lst (((ends es ns).map fun x => decide (x ∈ fs)).map V.bl)) := by
                rw [eD3, filterT, List.map_map]
                rfl
              refine ⟨D3, _, rfl, SqL.of eD4, ?_⟩
              have hb : ((ends es ns).map fun x => decide (x ∈ fs)).all id = true ↔ ∀ n ∈ ns, toL es n ∈ fs := by
                rw [List.all_map, List.all_eq_true]
                constructor
                · intro z n hn'
                  exact of_decide_eq_true (z _ (List.mem_map.mpr ⟨n, hn', rfl⟩))
                · intro z x hx
                  obtain ⟨n, hn', rfl⟩ := List.mem_map.mp hx
                  exact decide_eq_true (z n hn')
              have clo : ∀ (k : Nat) (x : Int), Rt es ns r k x → x ∈ fs := by
                intro k x hk
                induction hk with
                | root => exact F.root
                | step hn' _ ih => exact cl _ hn' ih
              refine q H7 _ ((S05.trans S6).trans S7) ?_ ?_
              · rw [hb]
                exact ⟨fun z => ⟨⟨hn, hre⟩, fun n hn' => let ⟨k, _, hk⟩ := F.rt _ (z n hn'); ⟨k, hk⟩⟩, fun z n hn' => let ⟨k, hk⟩ := z.2 n hn'; clo k _ hk⟩
              · rw [hb]
                intro z n hn'
                obtain ⟨k, h1, h2⟩ := F.rt _ (z n hn')
                have := F.len (by have := N.m2; omega)
                exact ⟨k, by omega, h2⟩
      · rw [decide_eq_false hn]
        exact q H4 false S4 ⟨fun z => (nomatch z), fun z => absurd z.1.1 hn⟩ (fun z => nomatch z)

/-! ### is_grown, is_tree -/
abbrev sIsGrown : Stmt := top 23
theorem scIsGrown : FnScope ["net", "thing"] ["net", "thing"] (C8.fnScope sIsGrown) := fnScope_by (by decide +kernel)
/-- a thing is a grown part: a lot, and a wood from the root -/
def IsGrown (es : List Lk) (r : Int) (d : PyData) : Prop := ∃ ns, d = .tuple (ns.map PyData.int) ∧ Lot ns es.length ∧ lotD es.length d = true ∧ Wood es ns r
def GrownB (es : List Lk) (r m : Int) (d : PyData) : Prop := ∃ ns, d = .tuple (ns.map PyData.int) ∧ Lot ns es.length ∧ lotD es.length d = true ∧ Wood es ns r ∧ AllB es ns r m
def spIsGrown (C : Addr) : Sp := fun vs H Q _ => ∃ n v m r t ls es d h, vs = [.ref n, v] ∧ NetOk C H n m r t ls es ∧ Dq h H v d ∧
  ∀ H' b, Same H H' → (b = true ↔ IsGrown es r d) → (b = true → GrownB es r m d) → Q (.bl b) H'
theorem ints_inj : ∀ {ns ks : List Int}, ns.map PyData.int = ks.map PyData.int → ns = ks
  | [], [], _ => rfl
  | [], _ :: _, e => nomatch e
  | _ :: _, [], e => nomatch e
  | n :: r, k :: t, e => by
    rw [List.map_cons, List.map_cons, List.cons.injEq] at e
    rw [PyData.int.inj e.1, ints_inj e.2]
theorem ok_is_grown {C : Addr} (T : NetC K mg C) (D : DB K mg "is_grown" sIsGrown ["net", "thing"]) (c1 : Cal P w K mg base 1 "check_net" (spCheckNet C) []) (c2 : Cal P w K mg base 4 "is_lot_of" (spIsLotOf C) []) (c3 : Cal P w K mg base 2 "is_wood" (spIsWood C) []) :
    Cal P w K mg base 5 "is_grown" (spIsGrown C) [] := by
  refine calB D scIsGrown (fun vs H Q E h => ?_) (fun f cdv A outer s H vs Q E hr h => ?_)
  · obtain ⟨n, v, m, r, t, ls, es, d, h, rfl, _⟩ := h
    rfl
  · obtain ⟨n, v, m, r, t, ls, es, d, h, rfl, N, x, q⟩ := h
    refine ⟨_, pss_cons (ps_expr (pe_c c1 hr (by decide) (by rfl) (pa_cons (pv 0) pa_nil)))
      (pss_one (ps_ret (pe_and (pe_c c2 hr (by decide) (by rfl) (pa_cons (pv 0) (pa_cons (pv 1) pa_nil)))
        (pe_one (pe_c c3 hr (by decide) (by rfl) (pa_cons (pv 0) (pa_cons (pv 1) (pa_cons (pe_lst (pa_cons (pe_fld (pv 0) rfl) pa_nil)) pa_nil)))))))), ?_⟩
    refine ⟨_, rfl, n, m, r, t, rfl, N.at_, ?_⟩
    refine ⟨_, rfl, _, rfl, n, m, r, t, ls, v, d, h, rfl, N.at_, N.lt, x, _, rfl, ?_⟩
    rw [N.la.1]
    cases e : lotD es.length d with
    | false =>
      refine iteF (q H false (Same.refl H) ⟨fun z => (nomatch z), fun ⟨_, _, _, z, _⟩ => ?_⟩ (fun z => nomatch z))
      rw [e] at z
      cases z
    | true =>
      obtain ⟨ns, rfl, L⟩ := lotD_true e
      obtain ⟨a, rfl, ha⟩ := dq_ints x
      refine iteT ⟨_, rfl, _, rfl, ?_⟩
      refine rd_root T N.at_ rfl ⟨by show 1 ≤ sizeLine; decide, fun p hp => ?_⟩
      have S1 : Same H (upd H p (.lst [.int r])) := same_upd hp
      refine ⟨n, a, p, m, r, t, ls, es, ns, rfl, N.keep (tS S1) (iS S1), S1 _ _ ha, L, upd_same, fun H' b S2 hb hB => ?_⟩
      refine q H' b (S1.trans S2) (hb.trans ⟨fun z => ⟨ns, rfl, L, e, z⟩, fun ⟨ks, e1, _, _, z⟩ => ?_⟩) fun z => ⟨ns, rfl, L, e, hb.mp z, hB z⟩
      have e2 := ints_inj (PyData.tuple.inj e1)
      rw [e2]
      exact z
abbrev sIsTree : Stmt := top 24
theorem scIsTree : FnScope ["net", "thing"] ["net", "thing"] (C8.fnScope sIsTree) := fnScope_by (by decide +kernel)
/-- a thing is a tree: its links, and how far each end is from the root -/
structure TreeB (es : List Lk) (r m : Int) (d : PyData) (ns : List Int) : Prop where
  dt : d = .tuple (ns.map PyData.int)
  lot : Lot ns es.length
  lotd : lotD es.length d = true
  once : Once es ns r
  all : AllB es ns r m
  len : (ns.length : Int) = m - 1
def IsTree (es : List Lk) (r m : Int) (d : PyData) : Prop := ∃ ns, d = .tuple (ns.map PyData.int) ∧ Lot ns es.length ∧ lotD es.length d = true ∧ Wood es ns r ∧ (ns.length : Int) = m - 1
def spIsTree (C : Addr) : Sp := fun vs H Q _ => ∃ n v m r t ls es d h, vs = [.ref n, v] ∧ NetOk C H n m r t ls es ∧ Dq h H v d ∧
  ∀ H' b, Same H H' → (b = true ↔ IsTree es r m d) → (b = true → ∃ ns, TreeB es r m d ns) → Q (.bl b) H'
theorem ok_is_tree {C : Addr} (B : Nb mg) (T : NetC K mg C) (D : DB K mg "is_tree" sIsTree ["net", "thing"]) (c1 : Cal P w K mg base 5 "is_grown" (spIsGrown C) []) : Cal P w K mg base 6 "is_tree" (spIsTree C) [] := by
  refine calB D scIsTree (fun vs H Q E h => ?_) (fun f cdv A outer s H vs Q E hr h => ?_)
  · obtain ⟨n, v, m, r, t, ls, es, d, h, rfl, _⟩ := h
    rfl
  · obtain ⟨n, v, m, r, t, ls, es, d, h, rfl, N, x, q⟩ := h
    refine ⟨_, pss_one (ps_ret (pe_and (pe_c c1 hr (by decide) (by rfl) (pa_cons (pv 0) (pa_cons (pv 1) pa_nil)))
      (pe_one (pe_cmpR op_eq (pe_callB call_len_seq (by rfl) B.len PySem.boot_len (pa_cons (pv 1) pa_nil)) (pe_op op_sub (pe_fld (pv 0) rfl) pe_int) (nomark _))))), ?_⟩
    refine ⟨_, rfl, _, rfl, n, v, m, r, t, ls, es, d, h, rfl, N, x, fun H' b S hb hB => ⟨b, rfl, ?_⟩⟩
    cases b with
    | false =>
      refine iteF (q H' false S ⟨fun z => (nomatch z), fun ⟨ns, e1, e2, e3, e4, e5⟩ => ?_⟩ (fun z => nomatch z))
      exact hb.mpr ⟨ns, e1, e2, e3, e4⟩
    | true =>
      obtain ⟨ns, rfl, L, e3, W, AB⟩ := hB rfl
      obtain ⟨a, rfl, ha⟩ := dq_ints x
      have N' := N.keep (tS S) (iS S)
      refine iteT ⟨_, rfl, a, _, rfl, .inr (SqT.of (S _ _ ha)), ?_⟩
      refine rd_many T N'.at_ rfl ⟨m, 1, rfl, rfl, rfl, ?_⟩
      have ed : decide (V.int (((ns.map V.int).length : Nat) : Int) = V.int (m - 1)) = decide ((ns.length : Int) = m - 1) := by
        rw [List.length_map, dec_int, Bool.beq_eq_decide_eq]
      rw [ed]
      refine q H' _ S ?_ fun z => ⟨ns, rfl, L, e3, W.1, AB, of_decide_eq_true z⟩
      rw [decide_eq_true_iff]
      exact ⟨fun z => ⟨ns, rfl, L, e3, W, z⟩, fun ⟨ks, e1, _, _, _, z⟩ => by rw [ints_inj (PyData.tuple.inj e1)]; exact z⟩
end
end ST

/-! trees: check_tree, links_to, depths, way_in -/
namespace ST
open PySem PySem.Spec PyProof.Rows L2 C8

/-! ### defs that may raise -/
section
variable {X : Cx} {C : Addr} {bmB : List Value} {B newId initId : String}
/-- X() of an own exception class -/
theorem pmk_own0 {x : Str} {p pos : Pos} (F : ExcBaseFacts B newId initId bmB) (q : PySem.W.excIn X.K C bmB newId = true) (gC : X.mg x = some (.ref C)) (kC : PySem.W.keepIn X.K (.ref C) = true) (r : Raises X (.ref C)) (hg : Gl X x)
    (hdb : (x == ("__debug__" : Str)) = false := by decide) : PMk X (.Call (.Name x p) [] [] pos) (fun _ H Q => Q (.ref C) none H) := by
  intro pins s σ H Q I hq
  refine wpAny_Call_Name_kw (ld_glob I hg gC ?_ hdb)
  refine PySem.W.callWith_K0 I.kIn kC ?_
  obtain ⟨bm, N, nm, qn, bs, hdct, sn, sub, ab, col, dd, k0, k1, k2, k3, k5, mN, hC, hN, hni, T⟩ := exc_obj I.kIn q
  refine wpAny_call_exc_subT F T hC hN hni (fun h' e hm => ?_) (Nat.zero_le _)
  exact mk_of I hm r hq (I.hok.gone hm.new)
end
/-- an own exception class of the module without an own __init__ -/
structure Xc (K : PySem.W.Frag) (mg : Str → Option Value) (x : Str) (C : Addr) : Prop where
  ex : PySem.W.excIn K C [.type "ValueError", .type "Exception", .type "BaseException", .type "object"] "ValueError.__new__" = true
  gl : mg x = some (.ref C)
  kp : PySem.W.keepIn K (.ref C) = true
  sb : PySem.W.subIn K (.ref C) (.type "BaseException") = some true
  ty : PySem.W.typeIn K (.ref C) = some (.type "type")
section
variable {P : Program} {w : World} {K : PySem.W.Frag} {mg : Str → Option Value} {base : Heap}
theorem Xc.mk_ {X : Cx} {x : Str} {C : Addr} {p pos : Pos} (T : Xc X.K X.mg x C) (hg : Gl X x) (hdb : (x == ("__debug__" : Str)) = false := by decide) : PMk X (.Call (.Name x p) [] [] pos) (fun _ H Q => Q (.ref C) none H) :=
  pmk_own0 PySem.F.excBase_ValueError T.ex T.gl T.kp (raises_own T.sb T.ty) hg hdb
/-- a def that may raise, called by its name -/
structure CalX (P : Program) (w : World) (K : PySem.W.Frag) (mg : Str → Option Value) (base : Heap) (k : Nat) (x : Str) (sp : Sp) : Prop where
  ex : ∃ (f : Addr) (fd : FuncData) (ps : List Str), FnOk P w K mg base (L2.CX P w) k f fd ps sp ∧ mg x = some (.ref f) ∧ PySem.W.keepIn K (.ref f) = true ∧ Binds K fd ps []
theorem calXB {x : Str} {st : Stmt} {N ps : List Str} {k : Nat} {sp : Sp} (D : DB K mg x st ps) (S : FnScope N ps (C8.fnScope st)) (len : ∀ vs H Q E, sp vs H Q E → vs.length = ps.length)
    (hbody : ∀ (f : Addr) (cdv : Value) (A : Around) (outer : List Env) (s : Shared) (H : Hp) (vs : List V) (Q : VK) (E : XK), Room k (A.deeper (envOfC x (C8.fnScope st) s.heap.objs.size f cdv)) → sp vs H Q E →
      ∃ t, PSs (cxOf (L2.CX P w) P w K mg base N x (C8.fnScope st) f cdv A outer s H E) (C8.fnBody st) t ∧ t { nx := fun _ H' => Q .non H', rt := Q } (start N vs) H) : CalX P w K mg base (k + 1) x sp := by
  obtain ⟨f, fd, ⟨⟨oc, od, dV, kV, doc, pm, an, cdv, ct, osl, rfl, lk, hcd⟩, hm, kp⟩, b⟩ := D.ex
  exact ⟨f, _, ps, fn_of lk hcd S len fun A outer s H vs Q E hr hsp => hbody f cdv A outer s H vs Q E hr hsp, hm, kp, b⟩
/-- its call where the body's own wish about exceptions is E -/
theorem pe_cX {X : Cx} {k j : Nat} {x : Str} {sp : Sp} {E : XK} {p pos : Pos} {e : Expr} {es : List Expr} {t : TA} (c : CalX X.prog X.w X.K X.mg X.base k x sp) (hr : Room j X.A) (hk : k ≤ j) (hg : Gl X x) (tk : Takes X fun cls d _ H => E cls d H) (ha : PA X (e :: es) t)
    (hdb : (x == ("__debug__" : Str)) = false := by decide) (he : starEach (e :: es) X.env = (false, eval e X.env) :: starEach es X.env := by rfl) (hpl : (backTo pos (starEach es X.env)).any (·.1) = false := by rfl) :
    PE X (.Call (.Name x p) (e :: es) [] pos) (tCall sp [] E t) := by
  obtain ⟨f, fd, ps, F, hm, kp, b⟩ := c.ex
  exact pe_call F (hr.mono hk) hg hm kp b .nil (passes_call tk fun _ _ _ _ z => z) ha hdb he hpl

/-! ### check_tree -/
abbrev sCheckTree : Stmt := top 26
theorem scCheckTree : FnScope ["net", "tree"] ["net", "tree"] (C8.fnScope sCheckTree) := fnScope_by (by decide +kernel)
def spCheckTree (C CT : Addr) : Sp := fun vs H Q E => ∃ n v m r t ls es d h, vs = [.ref n, v] ∧ NetOk C H n m r t ls es ∧ Dq h H v d ∧
  (∀ H' ns, Same H H' → TreeB es r m d ns → Q .non H') ∧ (∀ H', Same H H' → ¬ IsTree es r m d → E (.ref CT) none H')
theorem TreeB.is {es : List Lk} {r m : Int} {d : PyData} {ns : List Int} (T : TreeB es r m d ns) : IsTree es r m d :=
  ⟨ns, T.dt, T.lot, T.lotd, ⟨T.once, fun n hn => let ⟨k, _, h⟩ := T.all n hn; ⟨k, h⟩⟩, T.len⟩
theorem ok_check_tree {C CT : Addr} (XT : Xc K mg "NoTree" CT) (D : DB K mg "check_tree" sCheckTree ["net", "tree"]) (c1 : Cal P w K mg base 1 "check_net" (spCheckNet C) []) (c2 : Cal P w K mg base 6 "is_tree" (spIsTree C) []) :
    CalX P w K mg base 7 "check_tree" (spCheckTree C CT) := by
  refine calXB D scCheckTree (fun vs H Q E h => ?_) (fun f cdv A outer s H vs Q E hr h => ?_)
  · obtain ⟨n, v, m, r, t, ls, es, d, h, rfl, _⟩ := h
    rfl
  · obtain ⟨n, v, m, r, t, ls, es, d, h, rfl, N, x, q1, q2⟩ := h
    refine ⟨_, pss_cons (ps_expr (pe_c c1 hr (by decide) (by rfl) (pa_cons (pv 0) pa_nil)))
      (pss_one (ps_if (pt_not (pt_val (pe_c c2 hr (by decide) (by rfl) (pa_cons (pv 0) (pa_cons (pv 1) pa_nil))))) (pss_one (ps_raise rfl (takes_of rfl rfl rfl rfl) (XT.mk_ rfl))) pss_nil)), ?_⟩
    refine ⟨_, rfl, n, m, r, t, rfl, N.at_, ?_⟩
    refine ⟨_, rfl, _, rfl, n, v, m, r, t, ls, es, d, h, rfl, N, x, fun H' b S hb hB => ⟨b, rfl, ?_⟩⟩
    cases b with
    | true =>
      obtain ⟨ns, TB⟩ := hB rfl
      exact iteF (q1 H' ns S TB)
    | false => exact iteT (q2 H' S fun z => nomatch hb.mpr z)

/-! ### links_to -/
abbrev sLinksTo : Stmt := top 27
abbrev nLinksTo : List Str := ["net", "tree", "place", "found", "link", "one"]
theorem scLinksTo : FnScope nLinksTo ["net", "tree", "place"] (C8.fnScope sLinksTo) := fnScope_by (by decide +kernel)
def spLinksTo (C : Addr) : Sp := fun vs H Q _ => ∃ n a p m r t ls es ns, vs = [.ref n, .ref a, .int p] ∧ NetOk C H n m r t ls es ∧ H a = some (.tup (ns.map V.int)) ∧ TreeB es r m (.tuple (ns.map PyData.int)) ns ∧ 0 ≤ p ∧ p < m ∧
  ∀ H' q, Same H H' → H' q = some (.tup ((wayF es ns m.toNat p).map V.int)) → Q (.ref q) H'
theorem way_len {es : List Lk} {ns : List Int} : ∀ (k : Nat) (x : Int), (wayF es ns k x).length ≤ k
  | 0, x => Nat.le_refl 0
  | k + 1, x => by
    unfold wayF
    split
    · rw [List.length_append]
      have := way_len (es := es) (ns := ns) k (frL es ‹Int›)
      simp only [List.length_cons, List.length_nil]
      omega
    · exact Nat.zero_le _
theorem head_filter {l : List Int} {p : Int → Bool} {n : Int} (h : l.find? p = some n) : ((l.filter p).map V.int)[0]? = some (.int n) := by
  have e : (l.filter p).head? = some n := by rw [List.head?_filter]; exact h
  rw [List.getElem?_map, ← List.head?_eq_getElem?, e]
  rfl
theorem ok_links_to {C : Addr} (B : Nb mg) (T : NetC K mg C) (D : DB K mg "links_to" sLinksTo ["net", "tree", "place"]) : Cal P w K mg base 1 "links_to" (spLinksTo C) [] := by
  refine calB D scLinksTo (fun vs H Q E h => ?_) (fun f cdv A outer s H vs Q E hr h => ?_)
  · obtain ⟨n, a, p, m, r, t, ls, es, ns, rfl, _⟩ := h
    rfl
  · obtain ⟨n, a, p, m, r, t, ls, es, ns, rfl, N, ha, TB, p0, p1, q⟩ := h
    have nd := scLinksTo.nd
    refine ⟨_, pss_cons (ps_set (i := 3) nd rfl (.inl rfl) (pe_tup pa_nil))
      (pss_cons (ps_while PassesOwn.never (pt_cmpR op_ne (pv 2) (pe_fld (pv 0) rfl) (nomark _))
        (pss_cons (ps_set (i := 4) nd rfl (.inl rfl) (pe_ix ix_list (pe_lc (own := [("one", 5)]) (g := gName 5) rfl nd (pi_tup (pv 1)) (blkOk_by (N := nLinksTo) (sc := C8.fnScope sLinksTo) (by decide +kernel))
            (fun _ _ _ _ _ => pg_name (i := 5) nd rfl (Or.inl rfl))
            (fun _ _ _ _ _ => pts_one (pt_cmpR op_eq (pe_ix (ixT K) (pe_ix (ixT K) (pe_fldK K (pv 0) rfl) (pv 5) (fun _ _ => rfl)) pe_int (fun _ _ => rfl)) (pv 2) (nomark _)))
            (fun _ _ _ _ _ => pv 5)) pe_int (fun _ _ => rfl)))
        (pss_cons (ps_set (i := 3) nd rfl (.inl rfl) (pe_op op_catT (pe_tup (pa_cons (pv 4) pa_nil)) (pv 3)))
        (pss_one (ps_set (i := 2) nd rfl (.inr rfl) (pe_ix ix_tup (pe_ix ix_tup (pe_fld (pv 0) rfl) (pv 4) (fun _ _ => rfl)) pe_int (fun _ _ => rfl)))))))
      (pss_one (ps_ret (pv 3)))), ?_⟩
    have hv := good_to N.good TB.lot
    have hlen : ns.length ≤ 60 := Nat.le_trans TB.lot.len N.few
    have hm10 := N.m10
    refine ⟨Nat.zero_le _, fun z hz => ?_⟩
    obtain ⟨k0, hk0, hrt0⟩ := rt_any TB.once hv TB.len N.r0 N.rm TB.all p0 p1
    refine ⟨fun k σ H2 => ∃ (x : Int) (u : Addr) (acc : List Int) (j : Nat) (x4 : Option V), σ = [some (.ref n), some (.ref a), some (.int x), some (.ref u), x4, none] ∧ Same H H2 ∧ H2 u = some (.tup (acc.map V.int)) ∧ Rt es ns r k x ∧ k ≤ j ∧ wayF es ns m.toNat p = wayF es ns j x ++ acc,
      ⟨k0, p, z, [], m.toNat, none, rfl, same_upd hz, upd_same, hrt0, by omega, (List.append_nil _).symm⟩, ?_⟩
    rintro k σ H2 ⟨x, u, acc, j, x4, rfl, S, eu, hrt, hkj, hway⟩
    have N2 := N.keep (tS S) (iS S)
    have ha2 := S _ _ ha
    refine ⟨_, rfl, rd_root T N2.at_ rfl ⟨rfl, _, rfl, ?_⟩⟩
    by_cases hx : x = r
    · rw [hx, decide_eq_true rfl]
      refine iteF ⟨_, rfl, q H2 u S ?_⟩
      rw [hway, hx, way_root TB.once, List.nil_append]
      exact eu
    · rw [decide_eq_false (fun e => hx (V.int.inj e))]
      obtain ⟨k', n', rfl, hn', rfl, hrt'⟩ := rt_back TB.once hrt hx
      obtain ⟨j', rfl⟩ : ∃ j', j = j' + 1 := ⟨j - 1, by omega⟩
      have hw2 := way_step TB.once hn' j'
      have hfa := find_at TB.once hn'
      refine iteT ⟨fun σ' H' => ∃ (x : Int) (u : Addr) (acc : List Int) (j : Nat) (x4 : Option V), σ' = [some (.ref n), some (.ref a), some (.int x), some (.ref u), x4, none] ∧ Same H H' ∧ H' u = some (.tup (acc.map V.int)) ∧ Rt es ns r k' x ∧ k' ≤ j ∧ wayF es ns m.toNat p = wayF es ns j x ++ acc, fun σ' H' h => ⟨k', Nat.lt_succ_self _, h⟩, ?_⟩
      refine ⟨_, rfl, a, rfl, ⟨_, SqT.of ha2⟩, fun D hD => lc_filt (walkT ns) (fun k => decide (toL es k = toL es n')) V.int (fun _ => rfl) hD (by omega) (fun H3 S3 => SqT.of (S3 _ _ ha2)) (fun k H3 Qb hkm S3 qb => ?_) (fun k H3 Qv hkm _ S3 qv => ?_) (fun H3 S3 eD => ?_)⟩
      · have N3 := N2.keep (tS S3) (iS S3)
        have b := TB.lot.2 k hkm
        refine rd_to (fun Q' q' => rd_links T N3.at_ rfl q') N3.lt N3.la rfl b.1 b.2 ⟨_, rfl, rfl, _, rfl, ?_⟩
        rw [dec_int, Bool.beq_eq_decide_eq]
        exact qb
      · exact ⟨_, rfl, qv H3 (Same.refl H3)⟩
      · refine ⟨D, _, 0, .int n', rfl, rfl, SqL.of eD, atI_nat (j := 0) (head_filter hfa), ?_⟩
        have eu3 := S3 _ _ eu
        refine ⟨_, rfl, by show 1 ≤ sizeLine; decide, fun w1 hw1 => ?_⟩
        refine ⟨_, rfl, w1, u, [.int n'], acc.map V.int, rfl, rfl, SqT.of upd_same, SqT.of (same_upd hw1 _ _ eu3), by simp, ?_, fun z => ?_, fun z w2 hw2' => ?_⟩
        · have h1 := way_len (es := es) (ns := ns) m.toNat p
          rw [hway, List.length_append] at h1
          rw [List.length_map]
          have : m.toNat ≤ 10 := by omega
          show 1 + acc.length ≤ sizeLine
          rw [sizeLine_eq]
          omega
        · have ea : acc = [] := by
            cases acc with
            | nil => rfl
            | cons _ _ => simp at z
          have S4 : Same H (upd H3 w1 (.tup [.int n'])) := (S.trans S3).trans (same_upd hw1)
          have N4 := N.keep (tS S4) (iS S4)
          have b := TB.lot.2 n' hn'
          refine rd_fr (fun Q' q' => rd_links T N4.at_ rfl q') N4.lt N4.la rfl b.1 b.2 ⟨_, w1, [n'], j', _, rfl, S4, upd_same, hrt', by omega, ?_⟩
          rw [hway, hw2, ea, List.append_nil]
        · have S4 : Same H (upd (upd H3 w1 (.tup [.int n'])) w2 (.tup ([.int n'] ++ acc.map V.int))) := ((S.trans S3).trans (same_upd hw1)).trans (same_upd hw2')
          have N4 := N.keep (tS S4) (iS S4)
          have b := TB.lot.2 n' hn'
          refine rd_fr (fun Q' q' => rd_links T N4.at_ rfl q') N4.lt N4.la rfl b.1 b.2 ⟨_, w2, n' :: acc, j', _, rfl, S4, upd_same, hrt', by omega, ?_⟩
          rw [hway, hw2, List.append_assoc]
          rfl

/-- a comprehension over range(n), its element by a function -/
theorem lc_rng {n : Nat} {j : Nat} {vs : List Nat} {σ : L2.St} {H1 : Hp} {D : Addr} {Qd : Hp → Prop} {te : TE} (f : Nat → V) (hw : ∀ x, wipe ((wipe σ vs).set j (some x)) vs = wipe σ vs) (hD : H1 D = none) (hlen : n ≤ 1000)
    (he : ∀ i H2 (Qv : VK), i < n → Same H1 H2 → (∀ H3, Same H2 H3 → Qv (f i) H3) → te ((wipe σ vs).set j (some (.int (i : Nat)))) H2 Qv)
    (hd : ∀ H2, Same H1 H2 → H2 D = some (.lst ((List.range n).map f)) → Qd H2) :
    ∃ W : Nat → Nat → Hp → Prop, (∃ m, W 0 m (upd H1 D (.lst []))) ∧ ∀ i m H, W i m H →
      ((Itr 0 n).stop i H ∧ Qd H) ∨ ((Itr 0 n).go i H ∧ ∃ Nx : Hp → Prop, (∀ H', Nx H' → ∃ m', m' < m ∧ W (i + 1) m' H') ∧ ∀ x H', (Itr 0 n).yld i H x H' → gName j x (wipe σ vs) H' fun σ2 H2 => wipe σ2 vs = wipe σ vs ∧ tYes σ2 H2 fun b H3 =>
        if b = true then te σ2 H3 fun y H4 => ∃ acc, H4 D = some (.lst acc) ∧ acc.length < sizeLine ∧ Nx (upd H4 D (.lst (acc ++ [y]))) else Nx H3) := by
  refine lc_range (lo := 0) (n := n) (fun i H2 => Same H1 H2 ∧ H2 D = some (.lst ((List.range i).map f))) ⟨same_upd hD, upd_same⟩ (fun i H2 hi hh => ?_) (fun H2 hh => hd H2 hh.1 hh.2)
  obtain ⟨S, eD⟩ := hh
  refine ⟨hw _, ?_⟩
  rw [show (0 : Int) + ((i : Nat) : Int) = ((i : Nat) : Int) by omega]
  refine he i H2 _ hi S fun H3 S3 => ⟨_, S3 _ _ eD, ?_, fun b o eb => ?_, ?_⟩
  · rw [List.length_map, List.length_range]
    exact small1000 (by omega)
  · rw [upd_ne (ne_of_none eb hD)]
    exact S3 _ _ (S b o eb)
  · rw [upd_same, List.range_succ, List.map_append]
    rfl

/-! ### depths, way_in -/
abbrev sDepths : Stmt := top 28
abbrev nDepths : List Str := ["net", "tree", "place"]
theorem scDepths : FnScope nDepths ["net", "tree"] (C8.fnScope sDepths) := fnScope_by (by decide +kernel)
def depV (es : List Lk) (ns : List Int) (m : Int) : List V := (List.range m.toNat).map fun i => .int ((wayF es ns m.toNat ((i : Nat) : Int)).length : Nat)
def spDepths (C CT : Addr) : Sp := fun vs H Q E => ∃ n v m r t ls es d h, vs = [.ref n, v] ∧ NetOk C H n m r t ls es ∧ Dq h H v d ∧
  (∀ H' ns q, Same H H' → TreeB es r m d ns → H' q = some (.tup (depV es ns m)) → Q (.ref q) H') ∧ (∀ H', Same H H' → ¬ IsTree es r m d → E (.ref CT) none H')
theorem ok_depths {C CT : Addr} (B : Nb mg) (T : NetC K mg C) (D : DB K mg "depths" sDepths ["net", "tree"]) (c1 : CalX P w K mg base 7 "check_tree" (spCheckTree C CT)) (c2 : Cal P w K mg base 1 "links_to" (spLinksTo C) []) :
    CalX P w K mg base 8 "depths" (spDepths C CT) := by
  refine calXB D scDepths (fun vs H Q E h => ?_) (fun f cdv A outer s H vs Q E hr h => ?_)
  · obtain ⟨n, v, m, r, t, ls, es, d, h, rfl, _⟩ := h
    rfl
  · obtain ⟨n, v, m, r, t, ls, es, d, h, rfl, N, x, q1, q2⟩ := h
    have nd := scDepths.nd
    refine ⟨_, pss_cons (ps_expr (pe_cX c1 hr (by decide) (by rfl) (takes_of rfl rfl rfl rfl) (pa_cons (pv 0) (pa_cons (pv 1) pa_nil))))
      (pss_one (ps_ret (pe_callTy call_tuple_of (by rfl) B.tuple (by decide +kernel) (pa_cons
        (pe_lc (own := [("place", 2)]) (g := gName 2) (tt := tYes) rfl nd (pi_range1 (by rfl) B.range (pa_cons (pe_fld (pv 0) rfl) pa_nil)) (blkOk_by (N := nDepths) (sc := C8.fnScope sDepths) (by decide +kernel))
            (fun _ _ _ _ _ => pg_name (i := 2) nd rfl (Or.inl rfl)) (fun _ _ _ _ _ => pts_nil)
            (fun _ _ _ _ _ => pe_callB (lenK K) (by rfl) B.len PySem.boot_len (pa_cons (pe_c c2 hr (by decide) (by rfl) (pa_cons (pv 0) (pa_cons (pv 1) (pa_cons (pv 2) pa_nil)))) pa_nil))) pa_nil)))), ?_⟩
    refine ⟨_, rfl, _, rfl, n, v, m, r, t, ls, es, d, h, rfl, N, x, fun H1 ns S1 TB => ?_, fun H1 S1 nt => q2 H1 S1 nt⟩
    have edt := TB.dt
    subst edt
    obtain ⟨a, rfl, ha⟩ := dq_ints x
    have N1 := N.keep (tS S1) (iS S1)
    have h2 := N.m2
    have h10 := N.m10
    refine rd_many T N1.at_ rfl ⟨m, rfl, by omega, by omega, fun D hD => lc_rng (fun i => .int ((wayF es ns m.toNat ((i : Nat) : Int)).length : Nat)) (fun _ => rfl) hD (by omega) (fun i H2 Qv hi S2 qv => ?_) (fun H2 S2 eD => ?_)⟩
    · have S02 := S1.trans S2
      have N2 := N.keep (tS S02) (iS S02)
      refine ⟨_, rfl, _, rfl, _, rfl, n, a, ((i : Nat) : Int), m, r, t, ls, es, ns, rfl, N2, S02 _ _ ha, TB, by omega, by omega, fun H3 q S3 eq => ?_⟩
      refine ⟨q, _, rfl, .inr (SqT.of eq), ?_⟩
      rw [List.length_map]
      exact qv H3 S3
    · refine ⟨D, _, rfl, .inl ⟨SqL.of eD, fun q hq => ?_⟩⟩
      exact q1 _ ns q ((S1.trans S2).trans (same_upd hq)) TB upd_same

abbrev sWayIn : Stmt := top 29
theorem scWayIn : FnScope ["net", "tree", "place"] ["net", "tree", "place"] (C8.fnScope sWayIn) := fnScope_by (by decide +kernel)
def spWayIn (C CT CP : Addr) : Sp := fun vs H Q E => ∃ n v pv m r t ls es d pd h, vs = [.ref n, v, pv] ∧ NetOk C H n m r t ls es ∧ Dq h H v d ∧ Dq h H pv pd ∧
  (∀ H' ns q p, Same H H' → TreeB es r m d ns → pd = .int p → 0 ≤ p → p < m → H' q = some (.tup ((wayF es ns m.toNat p).map V.int)) → Q (.ref q) H') ∧ (∀ H', Same H H' → ¬ IsTree es r m d → E (.ref CT) none H') ∧
  (∀ H', Same H H' → IsTree es r m d → within 0 (m - 1) pd = false → E (.ref CP) none H')
theorem ok_way_in {C CT CP : Addr} (T : NetC K mg C) (XP : Xc K mg "NoPlace" CP) (D : DB K mg "way_in" sWayIn ["net", "tree", "place"]) (c1 : CalX P w K mg base 7 "check_tree" (spCheckTree C CT)) (c2 : Cal P w K mg base 1 "links_to" (spLinksTo C) [])
    (c3 : Cal P w K mg base 2 "is_within" spIsWithin []) : CalX P w K mg base 8 "way_in" (spWayIn C CT CP) := by
  refine calXB D scWayIn (fun vs H Q E h => ?_) (fun f cdv A outer s H vs Q E hr h => ?_)
  · obtain ⟨n, v, pv, m, r, t, ls, es, d, pd, h, rfl, _⟩ := h
    rfl
  · obtain ⟨n, v, pv', m, r, t, ls, es, d, pd, h, rfl, N, x, xp, q1, q2, q3⟩ := h
    refine ⟨_, pss_cons (ps_expr (pe_cX c1 hr (by decide) (by rfl) (takes_of rfl rfl rfl rfl) (pa_cons (pv 0) (pa_cons (pv 1) pa_nil))))
      (pss_cons (ps_if (pt_not (pt_val (pe_c c3 hr (by decide) (by rfl) (pa_cons (pv 2) (pa_cons pe_int (pa_cons (pe_op op_sub (pe_fld (pv 0) rfl) pe_int) pa_nil)))))) (pss_one (ps_raise rfl (takes_of rfl rfl rfl rfl) (XP.mk_ rfl))) pss_nil)
      (pss_one (ps_ret (pe_c c2 hr (by decide) (by rfl) (pa_cons (pv 0) (pa_cons (pv 1) (pa_cons (pv 2) pa_nil))))))), ?_⟩
    refine ⟨_, rfl, _, rfl, n, v, m, r, t, ls, es, d, h, rfl, N, x, fun H1 ns S1 TB => ?_, fun H1 S1 nt => q2 H1 S1 nt⟩
    have edt := TB.dt
    subst edt
    obtain ⟨a, rfl, ha⟩ := dq_ints x
    have N1 := N.keep (tS S1) (iS S1)
    obtain ⟨dx, fs, hn, fm, _, _⟩ := id N1.at_
    refine ⟨_, rfl, _, rfl, n, C, dx, fs, _, rfl, hn, T.cl, T.nM, fm, m, 1, rfl, rfl, pv', pd, h, 0, m - 1, rfl, Dq.keep (Kt.same S1) _ _ xp, _, rfl, ?_⟩
    cases e : within 0 (m - 1) pd with
    | false => exact iteT (q3 H1 S1 TB.is e)
    | true =>
      refine iteF ?_
      cases pd with
      | int p =>
        cases xp
        have e' : (decide (0 ≤ p) && decide (p ≤ m - 1)) = true := e
        rw [Bool.and_eq_true, decide_eq_true_eq, decide_eq_true_eq] at e'
        exact ⟨_, rfl, _, rfl, _, rfl, n, a, p, m, r, t, ls, es, ns, rfl, N1, S1 _ _ ha, TB, e'.1, by omega, fun H3 q S3 eq => q1 H3 ns q p (S1.trans S3) TB rfl e'.1 (by omega) eq⟩
      | _ => cases e
end
end ST

/-! the law's draws and looks -/
namespace ST
open PySem PySem.Spec PyProof.Rows L2 C8
theorem cr_int {X : Cx} : CallR X (.type "int") (fun xs H Q => ∃ i, xs = [.int i] ∧ Q (.int i) H) := fun pins s σ H xs us Q I r h => call_int1 pins s σ H xs us Q I r (.inl h)
theorem cr_intB {X : Cx} : CallR X (.type "int") (fun xs H Q => ∃ k, xs = [.bl k] ∧ Q (.int (if k then 1 else 0)) H) := fun pins s σ H xs us Q I r h => call_int1 pins s σ H xs us Q I r (.inr h)
section
variable {P : Program} {w : World} {K : PySem.W.Frag} {mg : Str → Option Value} {base : Heap}
theorem boot_int1 : bootBuiltins "int" = some (.type "int") := by decide +kernel

/-! ### _law_mixed -/
abbrev sMixed : Stmt := top 31
theorem scMixed : FnScope ["_law_cell", "_law_turn", "_law_number"] ["_law_cell", "_law_turn"] (C8.fnScope sMixed) := fnScope_by (by decide +kernel)
def spMixed : Sp := fun vs H Q _ => ∃ a b : Int, vs = [.int a, .int b] ∧ ∀ r : Int, Q (.int r) H
theorem mul_small {n j : Int} (h0 : 0 ≤ n) (h1 : n < 2147483647) : CMul n j := .inl ⟨by omega, by omega⟩
theorem ok_mixed (B : Nb mg) (D : DB K mg "_law_mixed" sMixed ["_law_cell", "_law_turn"]) : Cal P w K mg base 1 "_law_mixed" spMixed [] := by
  refine calB D scMixed (fun vs H Q E h => ?_) (fun f cdv A outer s H vs Q E hr h => ?_)
  · obtain ⟨a, b, rfl, _⟩ := h
    rfl
  · obtain ⟨a, b, rfl, q⟩ := h
    have nd := scMixed.nd
    refine ⟨_, pss_cons (ps_set (i := 2) nd rfl (.inl rfl) (pe_op op_mod (pe_callTy cr_int (by rfl) B.int boot_int1 (pa_cons (pe_op op_mul
          (pe_op op_add (pe_op op_add (pe_op op_mod (pe_callTy cr_int (by rfl) B.int boot_int1 (pa_cons (pv 0) pa_nil)) pe_int) (pe_op op_mul pe_int (pv 1))) pe_int) pe_int) pa_nil)) pe_int))
      (pss_cons (ps_set (i := 2) nd rfl (.inl rfl) (pe_op op_mod (pe_callTy cr_int (by rfl) B.int boot_int1 (pa_cons (pe_op op_mul (pv 2) (pe_op op_add (pe_op op_fdiv (pv 2) pe_int) pe_int)) pa_nil)) pe_int))
      (pss_one (ps_ret (pe_op op_fdiv (pe_op op_mod (pe_callTy cr_int (by rfl) B.int boot_int1 (pa_cons (pe_op op_mul (pv 2) (pe_op op_add (pe_op op_fdiv (pv 2) pe_int) pe_int)) pa_nil)) pe_int) pe_int)))), ?_⟩
    have pm : (0 : Int) < 2147483647 := by decide
    have bd : ∀ e : Int, 0 ≤ e % 2147483647 ∧ e % 2147483647 < 2147483647 := fun e => ⟨Int.emod_nonneg _ (by decide), Int.emod_lt_of_pos _ (by decide)⟩
    refine ⟨_, rfl, a, rfl, a, 2147483647, rfl, rfl, pm, _, rfl, 7919, b, rfl, rfl, .inl ⟨by decide, by decide⟩, _, _, rfl, rfl, _, 1, rfl, rfl, _, 48271, rfl, rfl, .inr ⟨by decide, by decide⟩, _, rfl, _, 2147483647, rfl, rfl, pm, ?_⟩
    refine ⟨_, rfl, _, rfl, _, 1009, rfl, rfl, ⟨by decide, by decide⟩, _, 69621, rfl, rfl, _, _, rfl, rfl, mul_small (bd _).1 (bd _).2, _, rfl, _, 2147483647, rfl, rfl, pm, ?_⟩
    exact ⟨_, rfl, _, rfl, _, 2003, rfl, rfl, ⟨by decide, by decide⟩, _, 40692, rfl, rfl, _, _, rfl, rfl, mul_small (bd _).1 (bd _).2, _, rfl, _, 2147483399, rfl, rfl, (by show (0 : Int) < 2147483399; decide), _, 16, rfl, rfl, ⟨by decide, by decide⟩, q _⟩

/-! ### _law_hand -/
abbrev sHand : Stmt := top 32
abbrev nHand : List Str := ["_law_script", "_law_cell"]
theorem scHand : FnScope nHand ["_law_script"] (C8.fnScope sHand) := fnScope_by (by decide +kernel)
def spHand (K : PySem.W.Frag) : Sp := fun vs H Q _ => ∃ (a : Addr) (ns : List Int), vs = [.ref a] ∧ SqL K H a (ns.map V.int) ∧ ns.length ≤ 63 ∧ ∀ H' h c, Same H H' → H h = none → HandAt h c H' → Q (.ref h) H'
theorem cut_ints (ns : List Int) (lo hi : Option Int) : ∃ ks : List Int, cutV (ns.map V.int) lo hi = ks.map V.int ∧ ks.length ≤ ns.length := by
  refine ⟨(ns.drop (HT.sIx (ns.map V.int).length 0 lo)).take (HT.sIx (ns.map V.int).length (ns.map V.int).length hi - HT.sIx (ns.map V.int).length 0 lo), ?_, ?_⟩
  · unfold cutV
    rw [List.map_take, List.map_drop]
  · rw [List.length_take, List.length_drop]
    omega
theorem ok_hand (B : Nb mg) (D : DB K mg "_law_hand" sHand ["_law_script"]) : Cal P w K mg base 1 "_law_hand" (spHand K) [] := by
  refine calB D scHand (fun vs H Q E h => ?_) (fun f cdv A outer s H vs Q E hr h => ?_)
  · obtain ⟨a, ns, rfl, _⟩ := h
    rfl
  · obtain ⟨a, ns, rfl, hS, hl, q⟩ := h
    have nd := scHand.nd
    refine ⟨_, pss_one (ps_ret (pe_lst (pa_cons (pe_lc (own := [("_law_cell", 1)]) (g := gName 1) (tt := tYes) rfl nd (pi_list (pe_slice sl_list (pv 0) po_none (po_some pe_int))) (blkOk_by (N := nHand) (sc := C8.fnScope sHand) (by decide +kernel))
        (fun _ _ _ _ _ => pg_name (i := 1) nd rfl (Or.inl rfl)) (fun _ _ _ _ _ => pts_nil) (fun _ _ _ _ _ => pe_callTy cr_int (by rfl) B.int boot_int1 (pa_cons (pv 1) pa_nil)))
      (pa_cons pe_int (pa_cons pe_int (pa_cons pe_int pa_nil)))))), ?_⟩
    obtain ⟨ks, ek, hk⟩ := cut_ints ns none (some 63)
    refine ⟨_, rfl, 63, rfl, a, _, rfl, hS, fun p hp => ?_⟩
    rw [ek]
    generalize h1 : upd H p _ = H1
    have S1 : Same H H1 := by rw [← h1]; exact same_upd hp
    have ep : H1 p = some (.lst (ks.map V.int)) := by rw [← h1]; exact upd_same
    refine ⟨p, rfl, ⟨_, SqL.of ep⟩, fun D hD => lc_filt (walkL ks) (fun _ => true) V.int (fun _ => rfl) hD (by omega) (fun H2 S2 => SqL.of (S2 _ _ ep)) (fun k H2 Qb hkm S2 qb => qb) (fun k H2 Qv hkm _ S2 qv => ?_) (fun H2 S2 eD => ?_)⟩
    · exact ⟨_, rfl, k, rfl, qv H2 (Same.refl H2)⟩
    · rw [filterT] at eD
      refine ⟨by show 4 ≤ sizeLine; decide, fun h hh => ?_⟩
      have S3 : Same H (upd H2 h (.lst [.ref D, .int 0, .int 0, .int 0])) := (S1.trans S2).trans (same_upd hh)
      refine q _ h D S3 ((S1.trans S2).free hh) ⟨⟨0, 0, 0, upd_same⟩, ks, same_upd hh _ _ eD, by omega⟩

/-! ### _law_draw -/
abbrev sDraw : Stmt := top 33
theorem scDraw : FnScope ["_law_hand_here", "_law_many", "_law_found", "_law_cells", "_law_at", "_law_cell"] ["_law_hand_here", "_law_many"] (C8.fnScope sDraw) := fnScope_by (by decide +kernel)
def spDraw : Sp := fun vs H Q _ => ∃ h c m, vs = [.ref h, .int m] ∧ HandAt h c H ∧ 0 < m ∧ m < 1000000 ∧ ∀ H' r, Sx h c H H' → 0 ≤ r → r < m → Q (.int r) H'
theorem Sx.hand {h c : Addr} {H0 H : Hp} (x : Sx h c H0 H) (i j k : Int) : Sx h c H0 (upd H h (.lst [.ref c, .int i, .int j, .int k])) := by
  have n := x.a1.ne
  obtain ⟨_, ns, e2, e3⟩ := id x.a1
  exact ⟨fun b o e z => by rw [upd_ne z]; exact x.kp b o e z, x.a0, ⟨i, j, k, upd_same⟩, ns, by rw [upd_ne n]; exact e2, e3⟩
theorem ok_draw (B : Nb mg) (D : DB K mg "_law_draw" sDraw ["_law_hand_here", "_law_many"]) (c1 : Cal P w K mg base 1 "_law_mixed" spMixed []) : Cal P w K mg base 2 "_law_draw" spDraw [] := by
  refine calB D scDraw (fun vs H Q E h => ?_) (fun f cdv A outer s H vs Q E hr h => ?_)
  · obtain ⟨h, c, m, rfl, _⟩ := h
    rfl
  · obtain ⟨h, c, m, rfl, hh, m0, m1, q⟩ := h
    have nd := scDraw.nd
    have ix (i : Nat) : True := trivial
    refine ⟨_, pss_cons (ps_asg (pe_op op_add (pe_ix ix_list (pv 0) pe_int (fun _ _ => rfl)) pe_int) (pg_sub (pv 0) pe_int set_list))
      (pss_cons (ps_if (pt_cmpR op_gt (pe_ix ix_list (pv 0) pe_int (fun _ _ => rfl)) pe_int (nomark _))
        (pss_cons (ps_set (i := 2) nd rfl (.inl rfl) (pe_op op_mod (pe_callTy cr_int (by rfl) B.int boot_int1 (pa_cons (pe_ix ix_list (pv 0) pe_int (fun _ _ => rfl)) pa_nil)) (pv 1)))
        (pss_cons (ps_asg (pe_op op_fdiv (pe_ix ix_list (pv 0) pe_int (fun _ _ => rfl)) (pv 1)) (pg_sub (pv 0) pe_int set_list))
        (pss_one (ps_ret (pv 2))))) pss_nil)
      (pss_cons (ps_par (i := 3) (j := 4) (by rfl) nd rfl rfl (by decide) rfl rfl (pa_cons (pe_ix ix_list (pv 0) pe_int (fun _ _ => rfl)) (pa_cons (pe_ix ix_list (pv 0) pe_int (fun _ _ => rfl)) pa_nil)) (by rfl))
      (pss_cons (ps_asg (pe_op op_add (pv 4) pe_int) (pg_sub (pv 0) pe_int set_list))
      (pss_cons (ps_if (pt_cmpR op_eq (pe_callB call_len_seq (by rfl) B.len PySem.boot_len (pa_cons (pv 3) pa_nil)) pe_int (nomark _))
        (pss_one (ps_ret (pe_op op_mod (pe_callTy cr_int (by rfl) B.int boot_int1 (pa_cons (pe_c c1 hr (by decide) (by rfl) (pa_cons pe_int (pa_cons (pe_ix ix_list (pv 0) pe_int (fun _ _ => rfl)) pa_nil))) pa_nil)) (pv 1)))) pss_nil)
      (pss_cons (ps_set (i := 5) nd rfl (.inl rfl) (pe_ix ix_list (pv 3) (pe_op op_mod (pe_callTy cr_int (by rfl) B.int boot_int1 (pa_cons (pv 4) pa_nil)) (pe_callB call_len_seq (by rfl) B.len PySem.boot_len (pa_cons (pv 3) pa_nil))) (fun _ _ => rfl)))
      (pss_cons (ps_if (PW.pt (pw_and (pt_cmpR op_lt (pv 4) (pe_callB call_len_seq (by rfl) B.len PySem.boot_len (pa_cons (pv 3) pa_nil)) (nomark _))
          (pw_and1 (pt_cmpR op_ge (pe_callB call_abs (by rfl) B.abs (by decide +kernel) (pa_cons (pv 5) pa_nil)) (pe_op op_pow pe_int pe_int) (nomark _)))))
        (pss_cons (ps_asg (pe_op op_fdiv (pe_callB call_abs (by rfl) B.abs (by decide +kernel) (pa_cons (pv 5) pa_nil)) (pv 1)) (pg_sub (pv 0) pe_int set_list))
        (pss_one (ps_ret (pe_op op_mod (pe_callTy cr_int (by rfl) B.int boot_int1 (pa_cons (pe_callB call_abs (by rfl) B.abs (by decide +kernel) (pa_cons (pv 5) pa_nil)) pa_nil)) (pv 1))))) pss_nil)
      (pss_one (ps_ret (pe_op op_mod (pe_callTy cr_int (by rfl) B.int boot_int1 (pa_cons (pe_c c1 hr (by decide) (by rfl) (pa_cons (pv 5) (pa_cons (pe_ix ix_list (pv 0) pe_int (fun _ _ => rfl)) pa_nil))) pa_nil)) (pv 1)))))))))), ?_⟩
    obtain ⟨⟨i, j, k, eh⟩, ns, ec, hn⟩ := id hh
    have X0 := Sx.refl hh
    refine ⟨_, rfl, h, _, 3, .int k, rfl, rfl, SqL.of eh, atI_nat (j := 3) rfl, k, 1, rfl, rfl, _, rfl, h, _, 3, 3, rfl, rfl, eh, rfl, ?_⟩
    have X1 : Sx h c H (upd H h (.lst [.ref c, .int i, .int j, .int (k + 1)])) := X0.hand i j (k + 1)
    have eh1 : (upd H h (.lst [.ref c, .int i, .int j, .int (k + 1)])) h = some (.lst [.ref c, .int i, .int j, .int (k + 1)]) := upd_same
    show _
    generalize h1 : upd H h _ = H1
    have h1' : H1 = upd H h (.lst [.ref c, .int i, .int j, .int (k + 1)]) := h1.symm
    rw [← h1'] at X1 eh1
    refine ⟨_, rfl, h, _, 2, .int j, rfl, rfl, SqL.of eh1, atI_nat (j := 2) rfl, j, 0, rfl, rfl, _, rfl, ite2 (fun hj => ?_) (fun hj => ?_)⟩
    · refine ⟨_, rfl, h, _, 2, .int j, rfl, rfl, SqL.of eh1, atI_nat (j := 2) rfl, j, rfl, _, rfl, j, m, rfl, rfl, m0, ?_⟩
      refine ⟨_, rfl, h, _, 2, .int j, rfl, rfl, SqL.of eh1, atI_nat (j := 2) rfl, _, rfl, j, m, rfl, rfl, ⟨m0, by omega⟩, _, rfl, h, _, 2, 2, rfl, rfl, eh1, rfl, ?_⟩
      exact ⟨_, rfl, q _ _ (X1.hand i (j / m) (k + 1)) (Int.emod_nonneg _ (by omega)) (Int.emod_lt_of_pos _ m0)⟩
    · refine ⟨_, rfl, h, _, 0, .ref c, rfl, rfl, SqL.of eh1, atI_nat (j := 0) rfl, _, rfl, h, _, 1, .int i, rfl, rfl, SqL.of eh1, atI_nat (j := 1) rfl, _, _, rfl, ?_⟩
      refine ⟨_, rfl, i, 1, rfl, rfl, _, rfl, h, _, 1, 1, rfl, rfl, eh1, rfl, ?_⟩
      have X2 : Sx h c H (upd H1 h (.lst [.ref c, .int (i + 1), .int j, .int (k + 1)])) := X1.hand (i + 1) j (k + 1)
      have eh2 : (upd H1 h (.lst [.ref c, .int (i + 1), .int j, .int (k + 1)])) h = some (.lst [.ref c, .int (i + 1), .int j, .int (k + 1)]) := upd_same
      generalize h2 : upd H1 h _ = H2
      have h2' : H2 = upd H1 h (.lst [.ref c, .int (i + 1), .int j, .int (k + 1)]) := h2.symm
      rw [← h2'] at X2 eh2
      have ec2 := X2.kp _ _ ec hh.ne
      refine ⟨_, rfl, c, _, rfl, .inl (SqL.of ec2), rfl, _, rfl, ite2 (fun hz => ?_) (fun hz => ?_)⟩
      · refine ⟨_, rfl, h, _, 3, .int (k + 1), rfl, rfl, SqL.of eh2, atI_nat (j := 3) rfl, 0, k + 1, rfl, fun r => ⟨r, rfl, _, rfl, r, m, rfl, rfl, m0, ?_⟩⟩
        exact q _ _ X2 (Int.emod_nonneg _ (by omega)) (Int.emod_lt_of_pos _ m0)
      · have hpos : 0 < ns.length := by
          cases ns with
          | nil => exact absurd (decide_eq_true rfl) hz
          | cons x r => exact Nat.zero_lt_succ _
        refine ⟨_, rfl, _, rfl, i, rfl, _, rfl, c, _, rfl, .inl (SqL.of ec2), i, _, rfl, rfl, by rw [List.length_map]; omega, ?_⟩
        obtain ⟨u, hu⟩ := int_nat (Int.emod_nonneg i (show (((ns.map V.int).length : Nat) : Int) ≠ 0 by rw [List.length_map]; omega))
        have hul : u < ns.length := by
          have := Int.emod_lt_of_pos i (show (0 : Int) < (((ns.map V.int).length : Nat) : Int) by rw [List.length_map]; omega)
          rw [hu, List.length_map] at this
          omega
        refine ⟨c, _, _, .int ns[u], rfl, rfl, SqL.of ec2, by rw [hu]; exact atI_nat (by rw [List.getElem?_map, List.getElem?_eq_getElem hul]; rfl), ?_⟩
        have fin : ∀ v : Int, (tOp (rI (fun _ j => 0 < j) fun i j => .int (i % j)) (tC (.int v)) (tVar 1)) [some (.ref h), some (.int m), none, some (.ref c), some (.int i), some (.int ns[u])] H2 Q := fun v =>
          ⟨_, rfl, v, m, rfl, rfl, m0, q _ _ X2 (Int.emod_nonneg _ (by omega)) (Int.emod_lt_of_pos _ m0)⟩
        refine ⟨_, rfl, _, rfl, c, _, rfl, .inl (SqL.of ec2), _, _, rfl, rfl, _, rfl, ?_⟩
        have last : (tRet (tOp (rI (fun _ j => 0 < j) fun i j => .int (i % j)) (tCB (fun xs H Q => ∃ i, xs = [V.int i] ∧ Q (.int i) H) (tCons (tCall spMixed [] C8.E0 (tCons (tVar 5) (tCons (tOp (rIxL K) (tVar 0) (tC (.int 3))) tNil))) tNil)) (tVar 1)))
            { nx := fun _ H' => Q .non H', rt := Q } [some (.ref h), some (.int m), none, some (.ref c), some (.int i), some (.int ns[u])] H2 := by
          refine ⟨_, rfl, _, rfl, h, _, 3, .int (k + 1), rfl, rfl, SqL.of eh2, atI_nat (j := 3) rfl, ns[u], k + 1, rfl, fun r => ⟨r, rfl, ?_⟩⟩
          exact ⟨_, rfl, r, m, rfl, rfl, m0, q _ _ X2 (Int.emod_nonneg _ (by omega)) (Int.emod_lt_of_pos _ m0)⟩
        refine ite2 (fun hlt => ?_) (fun hlt => ?_)
        · refine ⟨_, rfl, ns[u], rfl, 10, 18, rfl, rfl, ⟨by decide, by decide, by decide⟩, _, _, rfl, rfl, _, rfl, ite2 (fun hge => ?_) (fun hge => last)⟩
          refine ⟨_, rfl, ns[u], rfl, _, rfl, _, m, rfl, rfl, ⟨m0, by omega⟩, _, rfl, h, _, 2, 2, rfl, rfl, eh2, rfl, ?_⟩
          exact ⟨_, rfl, ns[u], rfl, _, rfl, _, rfl, _, m, rfl, rfl, m0, q _ _ (X2.hand (i + 1) _ (k + 1)) (Int.emod_nonneg _ (by omega)) (Int.emod_lt_of_pos _ m0)⟩
        · exact last
end
end ST

/-! the law's looks at things; shuffling -/
namespace ST
open PySem PySem.Spec PyProof.Rows L2 C8
section
variable {P : Program} {w : World} {K : PySem.W.Frag} {mg : Str → Option Value} {base : Heap}
/-! ### _law_is -/
abbrev sIs : Stmt := top 34
theorem scIs : FnScope ["_law_told_here", "_law_due"] ["_law_told_here", "_law_due"] (C8.fnScope sIs) := fnScope_by (by decide +kernel)
def spIs : Sp := fun vs H Q _ => ∃ a b : Bool, vs = [.bl a, .bl b] ∧ Q (.bl (decide (a = b))) H
theorem ok_is (B : Nb mg) (D : DB K mg "_law_is" sIs ["_law_told_here", "_law_due"]) : Cal P w K mg base 1 "_law_is" spIs [] := by
  refine calB D scIs (fun vs H Q E h => ?_) (fun f cdv A outer s H vs Q E hr h => ?_)
  · obtain ⟨a, b, rfl, _⟩ := h
    rfl
  · obtain ⟨a, b, rfl, q⟩ := h
    refine ⟨_, pss_one (ps_ret (pe_and (pe_isi (i := 0) (tn := "bool") (d := .bool a) B rfl rfl B.bool (by decide +kernel) rfl (.inl rfl)) (pe_one (pe_cmpR op_eq (pv 0) (pv 1) (nomark _))))), ?_⟩
    refine ⟨_, .bool a, 0, true, rfl, .bl a, isa_bool (.bool a), _, rfl, iteT ⟨_, rfl, _, rfl, rfl, ?_⟩⟩
    have e : decide (V.bl a = V.bl b) = decide (a = b) := by rw [dec_bl, Bool.beq_eq_decide_eq]
    rw [e]
    exact q
/-! ### _law_is_int -/
abbrev sIsInt : Stmt := top 35
theorem scIsInt : FnScope ["_law_thing", "_law_least", "_law_most"] ["_law_thing", "_law_least", "_law_most"] (C8.fnScope sIsInt) := fnScope_by (by decide +kernel)
theorem ok_is_int (B : Nb mg) (D : DB K mg "_law_is_int" sIsInt ["_law_thing", "_law_least", "_law_most"]) : Cal P w K mg base 1 "_law_is_int" spIsWithin [] := by
  refine calB D scIsInt (fun vs H Q E h => ?_) (fun f cdv A outer s H vs Q E hr h => ?_)
  · obtain ⟨v, d, h, a, b, rfl, _⟩ := h
    rfl
  · obtain ⟨v, d, h, a, b, rfl, x, q⟩ := h
    refine ⟨_, pss_one (ps_ret (pe_and (pe_isi (i := 0) (tn := "int") (d := d) B rfl rfl B.int (by decide +kernel) rfl (.inl rfl)) (pe_and (pe_not (pe_isi (i := 0) (tn := "bool") (d := d) B rfl rfl B.bool (by decide +kernel) rfl (.inl rfl)))
      (pe_one (pe_chain op_le op_le (pv 1) (pv 0) (pv 2)))))), ?_⟩
    refine ⟨v, d, h, _, rfl, x, isa_int d, _, rfl, ?_⟩
    cases d with
    | int i =>
      cases x
      refine iteT ⟨_, .int i, h, _, rfl, .int i, isa_bool _, _, rfl, _, rfl, iteT ?_⟩
      refine ⟨_, rfl, _, rfl, a, i, rfl, rfl, decide (a ≤ i), rfl, ?_⟩
      have q : Q (.bl (decide (a ≤ i) && decide (i ≤ b))) H := q
      cases e : decide (a ≤ i) with
      | true =>
        rw [e] at q
        exact iteT ⟨_, rfl, i, b, rfl, rfl, q⟩
      | false =>
        rw [e] at q
        exact iteF q
    | bool i => exact iteT ⟨_, _, h, _, rfl, x, isa_bool _, _, rfl, _, rfl, iteF q⟩
    | _ => exact iteF q
/-! ### _law_is_lot -/
abbrev sLawLot : Stmt := top 36
theorem scLawLot : FnScope ["_law_thing", "_law_many", "_law_last", "_law_one"] ["_law_thing", "_law_many"] (C8.fnScope sLawLot) := fnScope_by (by decide +kernel)
theorem ok_law_lot (B : Nb mg) (D : DB K mg "_law_is_lot" sLawLot ["_law_thing", "_law_many"]) (c1 : Cal P w K mg base 1 "_law_is_int" spIsWithin []) : Cal P w K mg base 2 "_law_is_lot" spIsLot [] := by
  refine calB D scLawLot (fun vs H Q E h => ?_) (fun f cdv A outer s H vs Q E hr h => ?_)
  · obtain ⟨v, d, h, m, rfl, _⟩ := h
    rfl
  · obtain ⟨v, d, h, m, rfl, x, q⟩ := h
    have nd := scLawLot.nd
    refine ⟨_, pss_cons (ps_if (pt_not (pt_val (pe_isi (i := 0) (tn := "tuple") (d := d) B rfl rfl B.tuple (by decide +kernel) rfl (.inl rfl)))) (pss_one (ps_ret pe_bl)) pss_nil)
      (pss_cons (ps_set (i := 2) nd rfl (.inl rfl) (pe_un un_neg pe_int))
      (pss_cons (ps_for PassesOwn.never rfl (pi_tup (pv 0)) (pg_name (i := 3) nd rfl (.inl rfl))
        (pss_cons (ps_if (pt_not (pt_val (pe_c c1 hr (by decide) (by rfl) (pa_cons (pv 3) (pa_cons (pe_op op_add (pv 2) pe_int) (pa_cons (pe_op op_sub (pv 1) pe_int) pa_nil)))))) (pss_one (ps_ret pe_bl)) pss_nil)
          (pss_one (ps_set (i := 2) nd rfl (.inl rfl) (pv 3)))))
      (pss_one (ps_ret pe_bl)))), ?_⟩
    refine ⟨v, d, h, _, rfl, x, isa_tuple d, _, rfl, ?_⟩
    cases d with
    | tuple ds =>
      cases x with
      | @tup a xs _ e ha =>
        refine iteF ⟨1, rfl, _, rfl, a, rfl, ⟨_, SqT.of e⟩, for_tup (K := K) (a := a) (xs := xs) (fun i σ H2 => ∃ (l : Int) (y : Option V), σ = [some (.ref a), some (.int m), some (.int l), y] ∧ H2 = H ∧ lotL m (-1) ds = lotL m l (ds.drop i)) ⟨-1, none, rfl, rfl, rfl⟩
          (fun i σ H2 _ hh => by obtain ⟨_, _, _, rfl, _⟩ := hh; exact SqT.of e) (fun i z σ H2 hz hh => ?_) (fun σ H2 hh => ?_)⟩
        · obtain ⟨l, y, rfl, rfl, el⟩ := hh
          obtain ⟨d, hd, dz⟩ := ha.get hz
          have hlt : i < ds.length := (List.getElem?_eq_some_iff.mp hd).1
          have edr : ds.drop i = d :: ds.drop (i + 1) := by
            rw [List.drop_eq_getElem_cons hlt]
            congr 1
            exact (List.getElem?_eq_some_iff.mp hd).2
          rw [edr, lotL_cons] at el
          refine ⟨z, rfl, _, rfl, l, 1, rfl, rfl, _, rfl, m, 1, rfl, rfl, z, d, h, _, _, rfl, dz, _, rfl, ?_⟩
          have q' : Q (.bl (lotL m (-1) ds)) H2 := q
          cases ew : within (l + 1) (m - 1) d with
          | false =>
            rw [ew, Bool.false_and] at el
            rw [el] at q'
            exact iteT q'
          | true =>
            rw [ew, Bool.true_and] at el
            cases d with
            | int k =>
              cases dz
              exact iteF ⟨.int k, rfl, k, _, rfl, rfl, el⟩
            | _ => cases ew
        · obtain ⟨l, y, rfl, rfl, el⟩ := hh
          have q' : Q (.bl (lotL m (-1) ds)) H2 := q
          rw [el, ha.len, List.drop_length] at q'
          exact q'
    | _ => exact iteT q
/-! ### _law_shuffled -/
theorem erase_perm : ∀ (l : List V) (k : Nat) (hk : k < l.length), (l[k] :: l.eraseIdx k).Perm l
  | [], k, hk => absurd hk (Nat.not_lt_zero _)
  | x :: r, 0, _ => List.Perm.refl _
  | x :: r, k + 1, hk => by
    have ih := erase_perm r k (Nat.lt_of_succ_lt_succ hk)
    exact (List.Perm.swap _ _ _).trans (ih.cons x)
abbrev sShuffled : Stmt := top 37
theorem scShuffled : FnScope ["_law_hand_here", "_law_things", "_law_left", "_law_found", "_law_turn"] ["_law_hand_here", "_law_things"] (C8.fnScope sShuffled) := fnScope_by (by decide +kernel)
def spShuffled : Sp := fun vs H Q _ => ∃ h c l xs, vs = [.ref h, .ref l] ∧ HandAt h c H ∧ l ≠ h ∧ H l = some (.lst xs) ∧ xs.length ≤ 1000 ∧
  ∀ H' q ys, Sx h c H H' → H q = none → H' q = some (.lst ys) → ys.Perm xs → Q (.ref q) H'
theorem ok_shuffled (B : Nb mg) (D : DB K mg "_law_shuffled" sShuffled ["_law_hand_here", "_law_things"]) (c1 : Cal P w K mg base 2 "_law_draw" spDraw []) : Cal P w K mg base 3 "_law_shuffled" spShuffled [] := by
  refine calB D scShuffled (fun vs H Q E h => ?_) (fun f cdv A outer s H vs Q E hr h => ?_)
  · obtain ⟨h, c, l, xs, rfl, _⟩ := h
    rfl
  · obtain ⟨h, c, l, xs, rfl, hh, nl, el, hlen, q⟩ := h
    have nd := scShuffled.nd
    refine ⟨_, pss_cons (ps_par (i := 2) (j := 3) (by rfl) nd rfl rfl (by decide) rfl rfl (pa_cons (pe_callTy call_list_of (by rfl) B.list (by decide +kernel) (pa_cons (pv 1) pa_nil)) (pa_cons (pe_lst pa_nil) pa_nil)) (by rfl))
      (pss_cons (ps_for PassesOwn.never rfl (pi_range1 (by rfl) B.range (pa_cons (pe_callB call_len_seq (by rfl) B.len PySem.boot_len (pa_cons (pv 1) pa_nil)) pa_nil)) (pg_name (i := 4) nd rfl (.inl rfl))
        (pss_one (ps_expr (pe_bm PySem.F.plainAttrs_list PySem.F.slot_list_append PySem.F.type_list_append mt_append (pv 3) (pa_cons
          (pe_bm PySem.F.plainAttrs_list PySem.F.slot_list_pop PySem.F.type_list_pop mt_popAt (pv 2) (pa_cons
            (pe_c c1 hr (by decide) (by rfl) (pa_cons (pv 0) (pa_cons (pe_callB call_len_seq (by rfl) B.len PySem.boot_len (pa_cons (pv 2) pa_nil)) pa_nil))) pa_nil)) pa_nil)))))
      (pss_one (ps_ret (pv 3)))), ?_⟩
    refine ⟨_, rfl, l, _, rfl, .inl (SqL.of el), fun a ha => ⟨Nat.zero_le _, fun b hb => ⟨_, _, rfl, ?_⟩⟩⟩
    have X0 : Sx h c H (upd (upd H a (.lst xs)) b (.lst [])) := ((Sx.refl hh).new ha).new hb
    have nab : a ≠ b := ne_of_none upd_same hb
    have hb0 : H b = none := (same_upd ha).free hb
    have ea0 : (upd (upd H a (.lst xs)) b (.lst [])) a = some (.lst xs) := by rw [upd_ne nab, upd_same]
    have eb0 : (upd (upd H a (.lst xs)) b (.lst [])) b = some (.lst []) := upd_same
    generalize hH1 : upd (upd H a _) b _ = H1
    have hH1' := hH1.symm
    rw [← hH1'] at X0 ea0 eb0
    refine ⟨_, rfl, l, xs, rfl, .inl (SqL.of (X0.kp _ _ el nl)), _, rfl, by omega, by omega, ?_⟩
    rw [Int.toNat_natCast]
    refine for_range (lo := 0) (n := xs.length) (fun i σ H2 => ∃ (ls fs : List V) (x4 : Option V), σ = [some (.ref h), some (.ref l), some (.ref a), some (.ref b), x4] ∧ Sx h c H H2 ∧ H2 a = some (.lst ls) ∧ H2 b = some (.lst fs) ∧ (fs ++ ls).Perm xs ∧ ls.length + i = xs.length)
      ⟨xs, [], none, rfl, X0, ea0, eb0, List.Perm.refl _, rfl⟩ (fun i σ H2 hi hI => ?_) (fun σ H2 hI => ?_)
    · obtain ⟨ls, fs, x4, rfl, X2, ea, eb, pm, hl⟩ := hI
      refine ⟨_, rfl, .inl ⟨rfl, _, SqL.of eb⟩, _, rfl, .inl ⟨rfl, _, SqL.of ea⟩, _, rfl, _, rfl, a, _, rfl, .inl (SqL.of ea), h, c, _, rfl, X2.a1, by omega, by omega, fun H3 r X3 r0 r1 => ?_⟩
      have neh : ∀ z, H z = none → z ≠ h := fun z hz => (hh.nel hz).1
      have ea3 := X3.kp _ _ ea (neh a ha)
      have eb3 := X3.kp _ _ eb (neh b hb0)
      obtain ⟨k, rfl⟩ := int_nat r0
      have hk : k < ls.length := by omega
      refine ⟨a, ls, ((k : Nat) : Int), k, ls[k], rfl, rfl, ea3, by omega, by omega, by rw [seqIndex_of (by omega) (by omega), Int.toNat_natCast], List.getElem?_eq_getElem hk, ?_⟩
      refine ⟨b, fs, ls[k], rfl, rfl, by rw [upd_ne nab.symm]; exact eb3, ?_, ?_⟩
      · have := pm.length_eq
        rw [List.length_append] at this
        exact small1000 (by omega)
      · have X4 : Sx h c H (upd (upd H3 a (.lst (ls.eraseIdx k))) b (.lst (fs ++ [ls[k]]))) := ((X2.trans X3).put ha).put hb0
        refine ⟨ls.eraseIdx k, fs ++ [ls[k]], _, rfl, X4, by rw [upd_ne nab, upd_same], upd_same, ?_, by rw [List.length_eraseIdx_of_lt hk]; omega⟩
        refine List.Perm.trans ?_ pm
        rw [List.append_assoc]
        exact List.Perm.append_left fs (erase_perm ls k hk)
    · obtain ⟨ls, fs, x4, rfl, X2, ea, eb, pm, hl⟩ := hI
      have e0 : ls = [] := List.eq_nil_of_length_eq_zero (by omega)
      rw [e0, List.append_nil] at pm
      exact ⟨_, rfl, q H2 b fs X2 hb0 eb pm⟩
end
end ST

/-! the law's nets: some_tree, some_links -/
namespace ST
open PySem PySem.Spec PyProof.Rows L2 C8
def rng (n : Nat) : List Int := (List.range n).map fun i => ((i : Nat) : Int)
theorem rng_len (n : Nat) : (rng n).length = n := by unfold rng; rw [List.length_map, List.length_range]
theorem rng_mem {n : Nat} {x : Int} : x ∈ rng n ↔ 0 ≤ x ∧ x < n := by
  unfold rng
  rw [List.mem_map]
  constructor
  · rintro ⟨i, hi, rfl⟩
    have := List.mem_range.mp hi
    omega
  · intro h
    exact ⟨x.toNat, List.mem_range.mpr (by omega), by omega⟩
theorem rng_nodup (n : Nat) : (rng n).Nodup := by
  unfold rng
  exact List.Pairwise.map _ (fun a b h e => h (by omega)) (List.nodup_range (n := n))
theorem walkR (n : Nat) : Walk (Itr 0 n) (rng n).length (fun _ => True) (YAt ((rng n).map V.int)) := by
  rw [rng_len]
  refine (walk_range (lo := 0) (n := n)).mono (fun _ h => h) fun i H x H' hi _ y => ?_
  obtain ⟨e1, e2⟩ := y
  refine ⟨e1, ?_⟩
  unfold rng
  rw [List.getElem?_map, List.getElem?_map, List.getElem?_range hi, e2]
  show some (V.int ((i : Nat) : Int)) = some (V.int (0 + ((i : Nat) : Int)))
  rw [show (0 : Int) + ((i : Nat) : Int) = ((i : Nat) : Int) by omega]
def unI : V → Int
  | .int i => i
  | _ => 0
theorem perm_ints {ys : List V} {ks : List Int} (h : ys.Perm (ks.map V.int)) : ∃ ps : List Int, ys = ps.map V.int ∧ ps.Perm ks := by
  refine ⟨ys.map unI, ?_, ?_⟩
  · rw [List.map_map]
    have : ys = ys.map id := (List.map_id ys).symm
    refine this.trans (List.map_congr_left fun y hy => ?_)
    obtain ⟨k, _, rfl⟩ := List.mem_map.mp (h.mem_iff.mp hy)
    rfl
  · have z := h.map unI
    rw [List.map_map] at z
    have e : (unI ∘ V.int) = id := rfl
    rw [e, List.map_id] at z
    exact z
theorem last_ints {l : List Int} (h : l ≠ []) : ∃ x ∈ l, atI (l.map V.int) (-1) = some (.int x) := by
  refine ⟨l.getLast h, List.getLast_mem h, ?_⟩
  have e : l.map V.int = l.dropLast.map V.int ++ [V.int (l.getLast h)] := by
    rw [← List.map_singleton, ← List.map_append, List.dropLast_concat_getLast]
  rw [e]
  exact atI_last _ _
theorem LinksAt.snoc {H : Hp} {vs : List V} {es : List Lk} {v : V} {e : Lk} (x : LinksAt H vs es) (y : LinkV H v e) : LinksAt H (vs ++ [v]) (es ++ [e]) := by
  refine ⟨by rw [List.length_append, List.length_append, x.1]; rfl, fun i e' h => ?_⟩
  by_cases hi : i < es.length
  · rw [List.getElem?_append_left hi] at h
    obtain ⟨v', h1, h2⟩ := x.2 i e' h
    exact ⟨v', by rw [List.getElem?_append_left (by rw [x.1]; exact hi)]; exact h1, h2⟩
  · rw [List.getElem?_append_right (by omega)] at h
    have hl : i - es.length = 0 := by
      have := (List.getElem?_eq_some_iff.mp h).1
      simp only [List.length_cons, List.length_nil] at this
      omega
    rw [hl] at h
    have e1 : e = e' := Option.some.inj h
    subst e1
    exact ⟨v, by rw [List.getElem?_append_right (by rw [x.1]; omega), x.1, hl]; rfl, y⟩
theorem LinksAt.nil {H : Hp} : LinksAt H [] [] := ⟨rfl, fun i e h => by simp at h⟩
theorem LinksAt.append {H : Hp} {vs us : List V} {es fs : List Lk} (x : LinksAt H vs es) (y : LinksAt H us fs) : LinksAt H (vs ++ us) (es ++ fs) := by
  refine ⟨by rw [List.length_append, List.length_append, x.1, y.1], fun i e' h => ?_⟩
  by_cases hi : i < es.length
  · rw [List.getElem?_append_left hi] at h
    obtain ⟨v', h1, h2⟩ := x.2 i e' h
    exact ⟨v', by rw [List.getElem?_append_left (by rw [x.1]; exact hi)]; exact h1, h2⟩
  · rw [List.getElem?_append_right (by omega)] at h
    obtain ⟨v', h1, h2⟩ := y.2 _ e' h
    exact ⟨v', by rw [List.getElem?_append_right (by rw [x.1]; omega), x.1]; exact h1, h2⟩
section
variable {P : Program} {w : World} {K : PySem.W.Frag} {mg : Str → Option Value} {base : Heap}
/-! ### _law_some_tree -/
abbrev sSomeTree : Stmt := top 38
abbrev nSomeTree : List Str := ["_law_hand_here", "_law_many", "_law_root", "_law_heard", "_law_found", "_law_is_deep", "_law_place", "_law_one"]
theorem scSomeTree : FnScope nSomeTree ["_law_hand_here", "_law_many", "_law_root"] (C8.fnScope sSomeTree) := fnScope_by (by decide +kernel)
/-- a new list of good links -/
def spSomeTree : Sp := fun vs H Q _ => ∃ h c m r, vs = [.ref h, .int m, .int r] ∧ HandAt h c H ∧ 2 ≤ m ∧ m ≤ 10 ∧ 0 ≤ r ∧ r < m ∧
  ∀ H' q vs es, Sx h c H H' → H q = none → H' q = some (.lst vs) → LinksAt H' vs es → (∀ e ∈ es, GoodL m e) → (es.length : Int) ≤ m - 1 → Q (.ref q) H'
theorem ok_some_tree (B : Nb mg) (D : DB K mg "_law_some_tree" sSomeTree ["_law_hand_here", "_law_many", "_law_root"]) (c1 : Cal P w K mg base 2 "_law_draw" spDraw []) (c2 : Cal P w K mg base 3 "_law_shuffled" spShuffled []) :
    Cal P w K mg base 4 "_law_some_tree" spSomeTree [] := by
  refine calB D scSomeTree (fun vs H Q E h => ?_) (fun f cdv A outer s H vs Q E hr h => ?_)
  · obtain ⟨h, c, m, r, rfl, _⟩ := h
    rfl
  · obtain ⟨h, c, m, r, rfl, hh, m2, m10, r0, r1, q⟩ := h
    have nd := scSomeTree.nd
    refine ⟨_, pss_cons (ps_par3 (i := 3) (j := 4) (l := 5) (by rfl) nd rfl rfl rfl (by decide) (by decide) (by decide) rfl rfl rfl (pa_cons (pe_lst (pa_cons (pv 2) pa_nil)) (pa_cons (pe_lst pa_nil)
        (pa_cons (pe_cmpR op_eq (pe_c c1 hr (by decide) (by rfl) (pa_cons (pv 0) (pa_cons pe_int pa_nil))) pe_int (nomark _)) pa_nil))) (by rfl))
      (pss_cons (ps_for PassesOwn.never rfl (pi_list (pe_c c2 hr (by decide) (by rfl) (pa_cons (pv 0) (pa_cons
            (pe_lc (own := [("_law_place", 6)]) (g := gName 6) rfl nd (pi_range1 (by rfl) B.range (pa_cons (pv 1) pa_nil)) (blkOk_by (N := nSomeTree) (sc := C8.fnScope sSomeTree) (by decide +kernel))
              (fun _ _ _ _ _ => pg_name (i := 6) nd rfl (Or.inl rfl)) (fun _ _ _ _ _ => pts_one (pt_cmpR op_ne (pv 6) (pv 2) (nomark _))) (fun _ _ _ _ _ => pv 6)) pa_nil)))) (pg_name (i := 6) nd rfl (.inl rfl))
        (pss_cons (ps_set (i := 7) nd rfl (.inl rfl) (pe_ifExp (pt_val (pv 5)) (pe_ix ix_list (pv 3) (pe_un un_neg pe_int) (fun _ _ => rfl))
            (pe_ix ix_list (pv 3) (pe_c c1 hr (by decide) (by rfl) (pa_cons (pv 0) (pa_cons (pe_callB call_len_seq (by rfl) B.len PySem.boot_len (pa_cons (pv 3) pa_nil)) pa_nil))) (fun _ _ => rfl))))
        (pss_cons (ps_expr (pe_bm PySem.F.plainAttrs_list PySem.F.slot_list_append PySem.F.type_list_append mt_append (pv 4) (pa_cons (pe_tup (pa_cons (pv 7) (pa_cons (pv 6) pa_nil))) pa_nil)))
        (pss_one (ps_expr (pe_bm PySem.F.plainAttrs_list PySem.F.slot_list_append PySem.F.type_list_append mt_append (pv 3) (pa_cons (pv 6) pa_nil)))))))
      (pss_one (ps_ret (pv 4)))), ?_⟩
    refine ⟨_, rfl, by show 1 ≤ sizeLine; decide, fun a ha => ⟨Nat.zero_le _, fun b hb => ?_⟩⟩
    have hb0 : H b = none := (same_upd ha).free hb
    have nab : a ≠ b := ne_of_none upd_same hb
    have X0 : Sx h c H (upd (upd H a (.lst [.int r])) b (.lst [])) := ((Sx.refl hh).new ha).new hb
    have ea0 : (upd (upd H a (.lst [.int r])) b (.lst [])) a = some (.lst [.int r]) := by rw [upd_ne nab, upd_same]
    have eb0 : (upd (upd H a (.lst [.int r])) b (.lst [])) b = some (.lst []) := upd_same
    generalize hH1 : upd (upd H a _) b _ = H1
    have hH1' := hH1.symm
    rw [← hH1'] at X0 ea0 eb0
    have neh : ∀ z, H z = none → z ≠ h := fun z hz => (hh.nel hz).1
    refine ⟨_, rfl, h, c, 4, rfl, X0.a1, by decide, by decide, fun H2 dr X1 _ _ => ⟨rfl, _, _, _, rfl, ?_⟩⟩
    have X2 := X0.trans X1
    have ea2 := X1.kp _ _ ea0 (neh a ha)
    have eb2 := X1.kp _ _ eb0 (neh b hb0)
    have hm : m.toNat ≤ 10 := by omega
    refine ⟨_, rfl, _, rfl, m, rfl, by omega, by omega, fun D hD => lc_filt (walkR m.toNat) (fun x => !decide (x = r)) V.int (fun _ => rfl) hD (by rw [rng_len]; omega) (fun _ _ => trivial) (fun k H3 Qb hkm S3 qb => ?_) (fun k H3 Qv hkm _ S3 qv => ?_) (fun H3 S3 eD => ?_)⟩
    · refine ⟨_, rfl, _, rfl, rfl, _, rfl, ?_⟩
      rw [dec_int, Bool.beq_eq_decide_eq]
      exact qb
    · exact ⟨_, rfl, qv H3 (Same.refl H3)⟩
    · have X3 := X2.same S3
      have hlen := List.length_filter_le (fun x => !decide (x = r)) (rng m.toNat)
      rw [rng_len] at hlen
      refine ⟨h, c, D, _, rfl, X3.a1, neh D (X2.free hD), eD, by rw [List.length_map]; omega, fun H4 q4 ys X4 hq4 eq4 pm => ?_⟩
      obtain ⟨ps, rfl, pp⟩ := perm_ints pm
      have hps : ∀ x ∈ ps, (0 ≤ x ∧ x < m) ∧ x ≠ r := fun x hx => by
        have := List.mem_filter.mp (pp.mem_iff.mp hx)
        have h1 := rng_mem.mp this.1
        refine ⟨by omega, ?_⟩
        simpa using this.2
      have hpn : ps.Nodup := pp.nodup_iff.mpr ((rng_nodup _).filter _)
      have hpl : (ps.length : Int) ≤ m - 1 := by
        have h1 : (r :: ps).Nodup := List.nodup_cons.mpr ⟨fun z => (hps r z).2 rfl, hpn⟩
        have h2 := nodup_bound m.toNat (r :: ps) h1 fun x hx => by
          rcases List.mem_cons.mp hx with z | z
          · rw [z]; omega
          · have := (hps x z).1
            omega
        rw [List.length_cons] at h2
        omega
      have X5 := X3.trans X4
      have eD4 := X4.kp _ _ eD (neh D (X2.free hD))
      have hq0 : H q4 = none := X3.free hq4
      have ea4 := X4.kp _ _ (S3 _ _ ea2) (neh a ha)
      have eb4 := X4.kp _ _ (S3 _ _ eb2) (neh b hb0)
      have naq : a ≠ q4 := fun z => by rw [← z, S3 _ _ ea2] at hq4; cases hq4
      have nbq : b ≠ q4 := fun z => by rw [← z, S3 _ _ eb2] at hq4; cases hq4
      refine ⟨q4, rfl, ⟨_, SqL.of eq4⟩, for_list (K := K) (a := q4) (xs := ps.map V.int) (fun i σ H6 => ∃ (vs : List V) (es : List Lk) (x6 x7 : Option V), σ = [some (.ref h), some (.int m), some (.int r), some (.ref a), some (.ref b), some (.bl (decide (V.int dr = V.int 0))), x6, x7] ∧ Sx h c H H6 ∧
        H6 q4 = some (.lst (ps.map V.int)) ∧ H6 a = some (.lst ((r :: ps.take i).map V.int)) ∧ H6 b = some (.lst vs) ∧ LinksAt H6 vs es ∧ (∀ e ∈ es, GoodL m e) ∧ es.length = i) ⟨[], [], none, none, rfl, X5, eq4, ea4, eb4, LinksAt.nil, by simp, rfl⟩
        (fun i σ H6 _ hI => by obtain ⟨_, _, _, _, _, _, e, _⟩ := hI; exact SqL.of e) (fun i x σ H6 hx hI => ?_) (fun σ H6 hI => ?_)⟩
      · obtain ⟨vs, es, x6, x7, rfl, X6, eq6, ea6, eb6, la, good, hes⟩ := hI
        rw [List.getElem?_map] at hx
        obtain ⟨p, hp, rfl⟩ : ∃ p, ps[i]? = some p ∧ x = .int p := by
          cases e : ps[i]? with
          | none => rw [e] at hx; cases hx
          | some p => rw [e] at hx; exact ⟨p, rfl, (Option.some.inj hx).symm⟩
        have hpm := List.mem_of_getElem? hp
        have hi : i < ps.length := (List.getElem?_eq_some_iff.mp hp).1
        have et : r :: ps.take (i + 1) = (r :: ps.take i) ++ [p] := by rw [List.take_add_one, hp]; rfl
        have hone : ∀ o ∈ r :: ps.take i, GoodL m (o, p) := fun o ho => by
          have hp2 := hps p hpm
          rcases List.mem_cons.mp ho with z | z
          · rw [z]
            exact ⟨r0, r1, hp2.1.1, hp2.1.2, fun e => hp2.2 e.symm⟩
          · have ho2 := hps o (List.mem_of_mem_take z)
            refine ⟨ho2.1.1, ho2.1.2, hp2.1.1, hp2.1.2, fun e => ?_⟩
            have e' : o = p := e
            obtain ⟨j, hj, e2⟩ := List.getElem_of_mem z
            rw [List.getElem_take] at e2
            rw [List.length_take] at hj
            have e3 : ps[j]? = ps[i]? := by
              rw [hp, List.getElem?_eq_getElem (by omega), e2, e']
            have := (List.getElem?_inj (by omega) hpn).mp e3
            omega
        refine ⟨_, rfl, ?_⟩
        -- one is a heard place
        have fin : ∀ (H7 : Hp) (o : Int), Sx h c H6 H7 → o ∈ r :: ps.take i →
            tSeq (tDrop (tBM K "list" L2.rAppend (tVar 4) (tCons (tTup (tCons (tVar 7) (tCons (tVar 6) tNil))) tNil))) (tDrop (tBM K "list" L2.rAppend (tVar 3) (tCons (tVar 6) tNil)))
              { nx := fun σ H6 => ∃ (vs : List V) (es : List Lk) (x6 x7 : Option V), σ = [some (.ref h), some (.int m), some (.int r), some (.ref a), some (.ref b), some (.bl (decide (V.int dr = V.int 0))), x6, x7] ∧ Sx h c H H6 ∧
                  H6 q4 = some (.lst (ps.map V.int)) ∧ H6 a = some (.lst ((r :: ps.take (i + 1)).map V.int)) ∧ H6 b = some (.lst vs) ∧ LinksAt H6 vs es ∧ (∀ e ∈ es, GoodL m e) ∧ es.length = i + 1, rt := Q }
              [some (.ref h), some (.int m), some (.int r), some (.ref a), some (.ref b), some (.bl (decide (V.int dr = V.int 0))), some (.int p), some (.int o)] H7 := fun H7 o X7 ho => by
          have X67 := X6.trans X7
          have ea7 := X7.kp _ _ ea6 (neh a ha)
          have eb7 := X7.kp _ _ eb6 (neh b hb0)
          have eq7 := X7.kp _ _ eq6 (neh q4 hq0)
          refine ⟨_, rfl, .inl ⟨rfl, _, SqL.of eb7⟩, _, rfl, _, rfl, by show 2 ≤ sizeLine; decide, fun T0 hT => ?_⟩
          have S8 : Same H7 (upd H7 T0 (.tup [.int o, .int p])) := same_upd hT
          have X8 := X67.same S8
          have la8 := (la.keep X7.tupS).keep (tS S8)
          have lv : LinkV (upd H7 T0 (.tup [.int o, .int p])) (.ref T0) (o, p) := ⟨T0, rfl, upd_same⟩
          have ea8 := S8 _ _ ea7
          have eb8 := S8 _ _ eb7
          have eq8 := S8 _ _ eq7
          generalize hH8 : upd H7 T0 _ = H8
          have hH8' := hH8.symm
          rw [← hH8'] at X8 la8 lv ea8 eb8 eq8
          refine ⟨b, vs, _, rfl, rfl, eb8, ?_, ?_⟩
          · rw [la8.1]
            exact small1000 (by omega)
          have X9 := X8.put (o := .lst (vs ++ [.ref T0])) hb0
          have tu9 : TupS H8 (upd H8 b (.lst (vs ++ [.ref T0]))) := fun z xs e => by
            rw [upd_ne (ne_of e eb8 (by intro y; cases y))]
            exact e
          have ea9 : (upd H8 b (.lst (vs ++ [.ref T0]))) a = some (.lst ((r :: ps.take i).map V.int)) := by rw [upd_ne nab]; exact ea8
          refine ⟨_, rfl, .inl ⟨rfl, _, SqL.of ea9⟩, _, rfl, a, _, _, rfl, rfl, ea9, ?_, ?_⟩
          · rw [List.length_map, List.length_cons, List.length_take]
            exact small1000 (by omega)
          have X10 := X9.put (o := .lst ((r :: ps.take i).map V.int ++ [.int p])) ha
          have tu10 : TupS (upd H8 b (.lst (vs ++ [.ref T0]))) (upd (upd H8 b (.lst (vs ++ [.ref T0]))) a (.lst ((r :: ps.take i).map V.int ++ [.int p]))) := fun z xs e => by
            rw [upd_ne (ne_of e ea9 (by intro y; cases y))]
            exact e
          refine ⟨vs ++ [.ref T0], es ++ [(o, p)], _, _, rfl, X10, ?_, ?_, ?_, ((la8.snoc lv).keep tu9).keep tu10, ?_, ?_⟩
          · rw [upd_ne naq.symm, upd_ne nbq.symm]
            exact eq8
          · rw [upd_same, et, List.map_append]
            rfl
          · rw [upd_ne nab.symm, upd_same]
          · intro e he
            rcases List.mem_append.mp he with z | z
            · exact good e z
            · rw [List.mem_singleton.mp z]
              exact hone o ho
          · rw [List.length_append, hes]
            rfl
        refine ⟨_, rfl, ite2 (fun hd => ?_) (fun hd => ?_)⟩
        · obtain ⟨o, ho, eo⟩ := last_ints (l := r :: ps.take i) (by simp)
          refine ⟨_, rfl, 1, rfl, a, _, _, .int o, rfl, rfl, SqL.of ea6, eo, ?_⟩
          exact fin H6 o (Sx.refl X6.a1) ho
        · have hl6 : ((r :: ps.take i).map V.int).length = i + 1 := by
            rw [List.length_map, List.length_cons, List.length_take]
            omega
          refine ⟨_, rfl, _, rfl, _, rfl, a, _, rfl, .inl (SqL.of ea6), h, c, _, rfl, X6.a1, by rw [hl6]; omega, by rw [hl6]; omega, fun H7 u X7 u0 u1 => ?_⟩
          rw [hl6] at u1
          obtain ⟨k, rfl⟩ := int_nat u0
          have hk : k < (r :: ps.take i).length := by
            rw [List.length_map] at hl6
            omega
          refine ⟨a, _, _, .int (r :: ps.take i)[k], rfl, rfl, SqL.of (X7.kp _ _ ea6 (neh a ha)), atI_nat (by rw [List.getElem?_map, List.getElem?_eq_getElem hk]; rfl), ?_⟩
          exact fin H7 _ X7 (List.getElem_mem hk)
      · obtain ⟨vs, es, x6, x7, rfl, X6, eq6, ea6, eb6, la, good, hes⟩ := hI
        rw [List.length_map] at hes
        exact ⟨_, rfl, q H6 b vs es X6 hb0 eb6 la good (by omega)⟩
end
end ST

/-! the law's nets: some_links, parts_of, grow -/
namespace ST
open PySem PySem.Spec PyProof.Rows L2 C8
/-- each of these values is a good link -/
def AllLk (H : Hp) (m : Int) (vs : List V) : Prop := ∀ v ∈ vs, ∃ e, LinkV H v e ∧ GoodL m e
theorem AllLk.keep {H H' : Hp} (s : TupS H H') {m : Int} {vs : List V} (x : AllLk H m vs) : AllLk H' m vs := fun v hv => let ⟨e, h1, h2⟩ := x v hv; ⟨e, h1.keep s, h2⟩
theorem AllLk.of {H : Hp} {m : Int} {vs : List V} {es : List Lk} (x : LinksAt H vs es) (g : ∀ e ∈ es, GoodL m e) : AllLk H m vs := fun v hv => by
  obtain ⟨i, hi, e⟩ := List.getElem_of_mem hv
  obtain ⟨e', h1, h2⟩ := x.get (show vs[i]? = some v by rw [List.getElem?_eq_getElem hi, e])
  exact ⟨e', h2, g _ (List.mem_of_getElem? h1)⟩
theorem AllLk.links {H : Hp} {m : Int} : ∀ {vs : List V}, AllLk H m vs → ∃ es, LinksAt H vs es ∧ ∀ e ∈ es, GoodL m e
  | [], _ => ⟨[], LinksAt.nil, by simp⟩
  | v :: r, x => by
    obtain ⟨es, h1, h2⟩ := AllLk.links (vs := r) fun u hu => x u (List.mem_cons_of_mem _ hu)
    obtain ⟨e, h3, h4⟩ := x v List.mem_cons_self
    refine ⟨e :: es, ⟨by rw [List.length_cons, List.length_cons, h1.1], fun i e' hi => ?_⟩, fun e' he => ?_⟩
    · match i, hi with
      | 0, hi =>
        have : e = e' := Option.some.inj hi
        subst this
        exact ⟨v, rfl, h3⟩
      | i + 1, hi => exact h1.2 i e' hi
    · rcases List.mem_cons.mp he with z | z
      · rw [z]; exact h4
      · exact h2 e' z
section
variable {P : Program} {w : World} {K : PySem.W.Frag} {mg : Str → Option Value} {base : Heap}
/-! ### _law_some_links -/
abbrev sSomeLinks : Stmt := top 39
abbrev nSomeLinks : List Str := ["_law_hand_here", "_law_many", "_law_most", "_law_found", "_law_turn", "_law_one", "_law_link"]
theorem scSomeLinks : FnScope nSomeLinks ["_law_hand_here", "_law_many", "_law_most"] (C8.fnScope sSomeLinks) := fnScope_by (by decide +kernel)
def spSomeLinks : Sp := fun vs H Q _ => ∃ h c m k, vs = [.ref h, .int m, .int k] ∧ HandAt h c H ∧ 2 ≤ m ∧ m ≤ 10 ∧ 0 ≤ k ∧ k ≤ 100 ∧
  ∀ H' q vs, Sx h c H H' → H q = none → H' q = some (.lst vs) → AllLk H' m vs → (vs.length : Int) ≤ k → Q (.ref q) H'
theorem good_next {m o u : Int} (m2 : 2 ≤ m) (o0 : 0 ≤ o) (o1 : o < m) (u0 : 0 ≤ u) (u1 : u < m - 1) : GoodL m (o, (o + 1 + u) % m) := by
  refine ⟨o0, o1, Int.emod_nonneg _ (by omega), Int.emod_lt_of_pos _ (by omega), fun e => ?_⟩
  have e' : o = (o + 1 + u) % m := e
  by_cases hb : o + 1 + u < m
  · rw [Int.emod_eq_of_lt (by omega) hb] at e'
    omega
  · have : (o + 1 + u) % m = o + 1 + u - m := by
      rw [← Int.sub_emod_right, Int.emod_eq_of_lt (by omega) (by omega)]
    omega
theorem ok_some_links (B : Nb mg) (D : DB K mg "_law_some_links" sSomeLinks ["_law_hand_here", "_law_many", "_law_most"]) (c1 : Cal P w K mg base 2 "_law_draw" spDraw []) : Cal P w K mg base 3 "_law_some_links" spSomeLinks [] := by
  refine calB D scSomeLinks (fun vs H Q E h => ?_) (fun f cdv A outer s H vs Q E hr h => ?_)
  · obtain ⟨h, c, m, k, rfl, _⟩ := h
    rfl
  · obtain ⟨h, c, m, k, rfl, hh, m2, m10, k0, k1, q⟩ := h
    have nd := scSomeLinks.nd
    refine ⟨_, pss_cons (ps_set (i := 3) nd rfl (.inl rfl) (pe_lst pa_nil))
      (pss_cons (ps_for PassesOwn.never rfl (pi_range1 (by rfl) B.range (pa_cons (pe_c c1 hr (by decide) (by rfl) (pa_cons (pv 0) (pa_cons (pe_op op_add (pv 2) pe_int) pa_nil))) pa_nil)) (pg_name (i := 4) nd rfl (.inl rfl))
        (pss_cons (ps_set (i := 5) nd rfl (.inl rfl) (pe_c c1 hr (by decide) (by rfl) (pa_cons (pv 0) (pa_cons (pv 1) pa_nil))))
        (pss_cons (ps_set (i := 6) nd rfl (.inl rfl) (pe_tup (pa_cons (pv 5) (pa_cons (pe_op op_mod (pe_callTy cr_int (by rfl) B.int boot_int1 (pa_cons
            (pe_op op_add (pe_op op_add (pv 5) pe_int) (pe_c c1 hr (by decide) (by rfl) (pa_cons (pv 0) (pa_cons (pe_op op_sub (pv 1) pe_int) pa_nil)))) pa_nil)) (pv 1)) pa_nil))))
        (pss_cut (ps_if (PW.pt (pw_and (pt_cmpR op_gt (pe_callB call_len_seq (by rfl) B.len PySem.boot_len (pa_cons (pv 3) pa_nil)) pe_int (nomark _))
            (pw_and1 (pt_cmpR op_eq (pe_c c1 hr (by decide) (by rfl) (pa_cons (pv 0) (pa_cons pe_int pa_nil))) pe_int (nomark _)))))
            (pss_one (ps_set (i := 6) nd rfl (.inl rfl) (pe_ix ix_list (pv 3) (pe_c c1 hr (by decide) (by rfl) (pa_cons (pv 0) (pa_cons (pe_callB call_len_seq (by rfl) B.len PySem.boot_len (pa_cons (pv 3) pa_nil)) pa_nil))) (fun _ _ => rfl)))) pss_nil)
        (pss_one (ps_expr (pe_bm PySem.F.plainAttrs_list PySem.F.slot_list_append PySem.F.type_list_append mt_append (pv 3) (pa_cons (pv 6) pa_nil))))))))
      (pss_one (ps_ret (pv 3)))), ?_⟩
    refine ⟨Nat.zero_le _, fun b hb => ?_⟩
    have X0 : Sx h c H (upd H b (.lst [])) := (Sx.refl hh).new hb
    have neh : ∀ z, H z = none → z ≠ h := fun z hz => (hh.nel hz).1
    refine ⟨_, rfl, _, rfl, k, 1, rfl, rfl, h, c, _, rfl, X0.a1, by omega, by omega, fun H1 n X1 n0 n1 => ⟨n, rfl, by omega, by omega, ?_⟩⟩
    have X01 := X0.trans X1
    have eb1 := X1.kp _ _ (upd_same (H := H) (a := b) (o := .lst [])) (neh b hb)
    refine for_range (lo := 0) (n := n.toNat) (fun i σ H2 => ∃ (vs : List V) (x4 x5 x6 : Option V), σ = [some (.ref h), some (.int m), some (.int k), some (.ref b), x4, x5, x6] ∧ Sx h c H H2 ∧ H2 b = some (.lst vs) ∧ AllLk H2 m vs ∧ vs.length = i)
      ⟨[], none, none, none, rfl, X01, eb1, (fun v hv => nomatch hv), rfl⟩ (fun i σ H2 hi hI => ?_) (fun σ H2 hI => ?_)
    · obtain ⟨vs, x4, x5, x6, rfl, X2, eb2, al, hl⟩ := hI
      refine ⟨_, rfl, _, rfl, h, c, m, rfl, X2.a1, by omega, by omega, fun H3 o X3 o0 o1 => ?_⟩
      refine ⟨_, rfl, _, rfl, _, _, rfl, rfl, _, rfl, _, rfl, m, 1, rfl, rfl, h, c, _, rfl, (X2.trans X3).a1, by omega, by omega, fun H4 u X4 u0 u1 => ?_⟩
      refine ⟨_, _, rfl, rfl, _, rfl, _, rfl, _, m, rfl, rfl, by show 0 < m; omega, by show 2 ≤ sizeLine; decide, fun T0 hT => ?_⟩
      have gd : GoodL m (o, (o + 1 + u) % m) := good_next m2 o0 o1 u0 u1
      have X34 := X3.trans X4
      have eb4 := X34.kp _ _ eb2 (neh b hb)
      have al4 := al.keep X34.tupS
      have S5 : Same H4 (upd H4 T0 (.tup [.int o, .int ((o + 1 + u) % m)])) := same_upd hT
      have X5 := (X2.trans X34).same S5
      have eb5 := S5 _ _ eb4
      have al5 := al4.keep (tS S5)
      have lv5 : LinkV (upd H4 T0 (.tup [.int o, .int ((o + 1 + u) % m)])) (.ref T0) (o, (o + 1 + u) % m) := ⟨T0, rfl, upd_same⟩
      generalize hH5 : upd H4 T0 _ = H5
      have hH5' := hH5.symm
      rw [← hH5'] at X5 eb5 al5 lv5
      refine ⟨fun σ H6 => ∃ (x4 x5 : Option V) (v : V), σ = [some (.ref h), some (.int m), some (.int k), some (.ref b), x4, x5, some v] ∧ Sx h c H H6 ∧ H6 b = some (.lst vs) ∧ AllLk H6 m vs ∧ ∃ e, LinkV H6 v e ∧ GoodL m e, ?_, fun σ H6 hM => ?_⟩
      · have skip : ∀ H6, Sx h c H5 H6 → ∃ (x4 x5 : Option V) (v : V), ([some (.ref h), some (.int m), some (.int k), some (.ref b), some (V.int (0 + (i : Nat))), some (.int o), some (.ref T0)] : L2.St) = [some (.ref h), some (.int m), some (.int k), some (.ref b), x4, x5, some v] ∧ Sx h c H H6 ∧ H6 b = some (.lst vs) ∧ AllLk H6 m vs ∧ ∃ e, LinkV H6 v e ∧ GoodL m e := fun H6 X6 =>
          ⟨_, _, _, rfl, X5.trans X6, X6.kp _ _ eb5 (neh b hb), al5.keep X6.tupS, _, lv5.keep X6.tupS, gd⟩
        refine ⟨_, rfl, b, vs, rfl, .inl (SqL.of eb5), _, 0, rfl, rfl, _, rfl, ite2 (fun hv => ?_) (fun hv => skip H5 (Sx.refl X5.a1))⟩
        have hv' : 0 < vs.length := by
          have := of_decide_eq_true hv
          omega
        refine ⟨_, rfl, h, c, 6, rfl, X5.a1, by decide, by decide, fun H6 u6 X6 _ _ => ⟨rfl, _, rfl, ite2 (fun hz => ?_) (fun hz => skip H6 X6)⟩⟩
        have eb6 := X6.kp _ _ eb5 (neh b hb)
        refine ⟨_, rfl, _, rfl, _, rfl, b, vs, rfl, .inl (SqL.of eb6), h, c, _, rfl, X6.a1, by omega, by omega, fun H7 u7 X7 u70 u71 => ?_⟩
        obtain ⟨j, rfl⟩ := int_nat u70
        have hj : j < vs.length := by omega
        have eb7 := X7.kp _ _ eb6 (neh b hb)
        have X67 := X6.trans X7
        refine ⟨b, vs, _, vs[j], rfl, rfl, SqL.of eb7, atI_nat (List.getElem?_eq_getElem hj), ?_⟩
        exact ⟨_, _, _, rfl, X5.trans X67, eb7, al5.keep X67.tupS, (al5.keep X67.tupS) _ (List.getElem_mem hj)⟩
      · obtain ⟨y4, y5, v, rfl, X6, eb6, al6, e, lv, ge⟩ := hM
        have tu : TupS H6 (upd H6 b (.lst (vs ++ [v]))) := fun z xs ez => by
          rw [upd_ne (ne_of ez eb6 (by intro y; cases y))]
          exact ez
        refine ⟨_, rfl, .inl ⟨rfl, _, SqL.of eb6⟩, _, rfl, b, vs, v, rfl, rfl, eb6, small1000 (by omega), ?_⟩
        refine ⟨vs ++ [v], _, _, _, rfl, X6.put hb, upd_same, fun y hy => ?_, by rw [List.length_append, hl]; rfl⟩
        rcases List.mem_append.mp hy with z | z
        · exact (al6.keep tu) y z
        · rw [List.mem_singleton.mp z]
          exact ⟨e, lv.keep tu, ge⟩
    · obtain ⟨vs, x4, x5, x6, rfl, X2, eb2, al, hl⟩ := hI
      exact ⟨_, rfl, q H2 b vs X2 hb eb2 al (by omega)⟩
end
end ST

/-! the law's nets: parts_of, grow -/
namespace ST
open PySem PySem.Spec PyProof.Rows L2 C8
section
variable {P : Program} {w : World} {K : PySem.W.Frag} {mg : Str → Option Value} {base : Heap}
/-! ### _law_parts_of -/
abbrev sPartsOf : Stmt := top 40
abbrev nPartsOf : List Str := ["_law_hand_here", "_law_many", "_law_root", "_law_kind", "_law_links", "_law_turn"]
theorem scPartsOf : FnScope nPartsOf ["_law_hand_here"] (C8.fnScope sPartsOf) := fnScope_by (by decide +kernel)
/-- the parts of a net at p: how many places, the root, the tuple of links at t -/
structure PartsOk (H : Hp) (p : Addr) (m r : Int) (t : Addr) (ls : List V) (es : List Lk) : Prop where
  at_ : H p = some (.tup [.int m, .int r, .ref t])
  lt : H t = some (.tup ls)
  la : LinksAt H ls es
  few : es.length ≤ 60
  good : ∀ e ∈ es, GoodL m e
  m2 : 2 ≤ m
  m10 : m ≤ 10
  r0 : 0 ≤ r
  rm : r < m
theorem PartsOk.keep {H H' : Hp} (s : TupS H H') {p : Addr} {m r : Int} {t : Addr} {ls : List V} {es : List Lk} (x : PartsOk H p m r t ls es) : PartsOk H' p m r t ls es :=
  ⟨s _ _ x.at_, s _ _ x.lt, x.la.keep s, x.few, x.good, x.m2, x.m10, x.r0, x.rm⟩
def spPartsOf : Sp := fun vs H Q _ => ∃ h c, vs = [.ref h] ∧ HandAt h c H ∧ ∀ H' p m r t ls es, Sx h c H H' → PartsOk H' p m r t ls es → Q (.ref p) H'
theorem many_at {k : Nat} (hk : k < 12) : ∃ m : Int, (([2, 3, 3, 4, 4, 5, 5, 6, 7, 8, 9, 10] : List Int).map V.int)[k]? = some (.int m) ∧ 2 ≤ m ∧ m ≤ 10 := by
  have key : ∀ x ∈ ([2, 3, 3, 4, 4, 5, 5, 6, 7, 8, 9, 10] : List Int), 2 ≤ x ∧ x ≤ 10 := by decide
  have hl : k < ([2, 3, 3, 4, 4, 5, 5, 6, 7, 8, 9, 10] : List Int).length := hk
  refine ⟨([2, 3, 3, 4, 4, 5, 5, 6, 7, 8, 9, 10] : List Int)[k], ?_, key _ (List.getElem_mem hl)⟩
  rw [List.getElem?_map, List.getElem?_eq_getElem hl]
  rfl
/-- a list at l that H₀ did not know, good links all -/
structure LL (h c : Addr) (H0 H : Hp) (m : Int) (l : Addr) (vs : List V) : Prop where
  sx : Sx h c H0 H
  nw : H0 l = none
  at_ : H l = some (.lst vs)
  al : AllLk H m vs
theorem LL.step {h c : Addr} {H0 H H1 : Hp} {m : Int} {l : Addr} {vs : List V} (x : LL h c H0 H m l vs) (y : Sx h c H H1) : LL h c H0 H1 m l vs :=
  ⟨x.sx.trans y, x.nw, y.kp _ _ x.at_ (x.sx.a0.nel x.nw).1, x.al.keep y.tupS⟩
theorem ok_parts_of (B : Nb mg) (D : DB K mg "_law_parts_of" sPartsOf ["_law_hand_here"]) (c1 : Cal P w K mg base 2 "_law_draw" spDraw []) (c2 : Cal P w K mg base 3 "_law_shuffled" spShuffled []) (c3 : Cal P w K mg base 4 "_law_some_tree" spSomeTree [])
    (c4 : Cal P w K mg base 3 "_law_some_links" spSomeLinks []) : Cal P w K mg base 5 "_law_parts_of" spPartsOf [] := by
  refine calB D scPartsOf (fun vs H Q E h => ?_) (fun f cdv A outer s H vs Q E hr h => ?_)
  · obtain ⟨h, c, rfl, _⟩ := h
    rfl
  · obtain ⟨h, c, rfl, hh, q⟩ := h
    have nd := scPartsOf.nd
    refine ⟨_, pss_cons (ps_set (i := 1) nd rfl (.inl rfl) (pe_ix ix_list (pe_lst (pa_cons pe_int (pa_cons pe_int (pa_cons pe_int (pa_cons pe_int (pa_cons pe_int (pa_cons pe_int (pa_cons pe_int (pa_cons pe_int (pa_cons pe_int (pa_cons pe_int (pa_cons pe_int (pa_cons pe_int pa_nil)))))))))))))
        (pe_c c1 hr (by decide) (by rfl) (pa_cons (pv 0) (pa_cons pe_int pa_nil))) (fun _ _ => rfl)))
      (pss_cons (ps_par (i := 2) (j := 3) (by rfl) nd rfl rfl (by decide) rfl rfl (pa_cons (pe_c c1 hr (by decide) (by rfl) (pa_cons (pv 0) (pa_cons (pv 1) pa_nil))) (pa_cons (pe_c c1 hr (by decide) (by rfl) (pa_cons (pv 0) (pa_cons pe_int pa_nil))) pa_nil)) (by rfl))
      (pss_cons (ps_set (i := 4) nd rfl (.inl rfl) (pe_lst pa_nil))
      (pss_cut (ps_if (pt_cmpR op_gt (pv 3) pe_int (nomark _))
        (pss_one (ps_for PassesOwn.never rfl (pi_range1 (by rfl) B.range (pa_cons (pe_op op_add pe_int (pe_c c1 hr (by decide) (by rfl) (pa_cons (pv 0) (pa_cons (pe_callB (call_max2 rfl) (by rfl) B.max (by decide +kernel) (pa_cons pe_int (pa_cons (pe_op op_fdiv pe_int (pv 1)) pa_nil))) pa_nil)))) pa_nil)) (pg_name (i := 5) nd rfl (.inl rfl))
          (pss_one (ps_if (pt_cmpR op_le (pe_op op_add (pe_callB call_len_seq (by rfl) B.len PySem.boot_len (pa_cons (pv 4) pa_nil)) (pv 1)) pe_int (nomark _))
            (pss_one (ps_set (i := 4) nd rfl (.inl rfl) (pe_op op_cat (pv 4) (pe_c c3 hr (by decide) (by rfl) (pa_cons (pv 0) (pa_cons (pv 1) (pa_cons (pv 2) pa_nil))))))) pss_nil)))) pss_nil)
      (pss_cons (ps_set (i := 4) nd rfl (.inl rfl) (pe_op op_cat (pv 4) (pe_c c4 hr (by decide) (by rfl) (pa_cons (pv 0) (pa_cons (pv 1) (pa_cons
          (pe_ix ix_list (pe_lst (pa_cons pe_int (pa_cons pe_int pa_nil))) (pe_callTy cr_intB (by rfl) B.int boot_int1 (pa_cons (pe_cmpR op_eq (pv 3) pe_int (nomark _)) pa_nil)) (fun _ _ => rfl)) pa_nil))))))
      (pss_cons (ps_set (i := 4) nd rfl (.inl rfl) (pe_slice sl_list (pe_c c2 hr (by decide) (by rfl) (pa_cons (pv 0) (pa_cons (pv 4) pa_nil))) po_none (po_some pe_int)))
      (pss_cons (ps_for PassesOwn.never rfl (pi_range1 (by rfl) B.range (pa_cons (pe_c c1 hr (by decide) (by rfl) (pa_cons (pv 0) (pa_cons pe_int pa_nil))) pa_nil)) (pg_name (i := 5) nd rfl (.inl rfl))
          (pss_one (ps_if (PW.pt (pw_and (pt_cmpR op_gt (pe_callB call_len_seq (by rfl) B.len PySem.boot_len (pa_cons (pv 4) pa_nil)) pe_int (nomark _)) (pw_and1 (pt_cmpR op_eq (pv 3) pe_int (nomark _)))))
            (pss_one (ps_expr (pe_bm PySem.F.plainAttrs_list PySem.F.slot_list_pop PySem.F.type_list_pop mt_popAt (pv 4) (pa_cons (pe_c c1 hr (by decide) (by rfl) (pa_cons (pv 0) (pa_cons (pe_callB call_len_seq (by rfl) B.len PySem.boot_len (pa_cons (pv 4) pa_nil)) pa_nil))) pa_nil)))) pss_nil)))
      (pss_one (ps_ret (pe_tup (pa_cons (pv 1) (pa_cons (pv 2) (pa_cons (pe_callTy call_tuple_of (by rfl) B.tuple (by decide +kernel) (pa_cons (pv 4) pa_nil)) pa_nil)))))))))))), ?_⟩
    have neh : ∀ z, H z = none → z ≠ h := fun z hz => (hh.nel hz).1
    -- many
    refine ⟨by show 12 ≤ sizeLine; decide, fun d hd => ?_⟩
    have Xd : Sx h c H (upd H d (.lst (([2, 3, 3, 4, 4, 5, 5, 6, 7, 8, 9, 10] : List Int).map V.int))) := (Sx.refl hh).new hd
    refine ⟨_, rfl, h, c, 12, rfl, Xd.a1, by decide, by decide, fun H1 k X1 k0 k1 => ?_⟩
    obtain ⟨k, rfl⟩ := int_nat k0
    obtain ⟨m, em, m2, m10⟩ := many_at (k := k) (by omega)
    have ed1 : H1 d = some (.lst (([2, 3, 3, 4, 4, 5, 5, 6, 7, 8, 9, 10] : List Int).map V.int)) := X1.kp _ _ upd_same (neh d hd)
    have X01 := Xd.trans X1
    refine ⟨d, _, _, .int m, rfl, rfl, SqL.of ed1, atI_nat em, ?_⟩
    -- root, kind
    refine ⟨_, rfl, _, rfl, h, c, m, rfl, X01.a1, by omega, by omega, fun H2 r X2 r0 r1 => ⟨_, rfl, h, c, 4, rfl, (X01.trans X2).a1, by decide, by decide, fun H3 kd X3 kd0 kd1 => ⟨_, _, rfl, ?_⟩⟩⟩
    have X03 := (X01.trans X2).trans X3
    -- links = []
    refine ⟨Nat.zero_le _, fun l hl => ?_⟩
    have LL0 : LL h c H (upd H3 l (.lst [])) m l [] := ⟨X03.new hl, X03.free hl, upd_same, fun v hv => nomatch hv⟩
    generalize hH4 : upd H3 l _ = H4
    have hH4' := hH4.symm
    rw [← hH4'] at LL0
    have fdv : 0 ≤ (50 : Int) / m ∧ (50 : Int) / m ≤ 50 := ⟨Int.ediv_nonneg (by decide) (by omega), Int.ediv_le_self m (a := 50) (by decide)⟩
    refine ⟨fun σ H5 => ∃ (l : Addr) (vs : List V) (x5 : Option V), σ = [some (.ref h), some (.int m), some (.int r), some (.int kd), some (.ref l), x5] ∧ LL h c H H5 m l vs ∧ vs.length ≤ 52, ?_, fun σ H5 hM => ?_⟩
    · refine ⟨_, rfl, _, _, rfl, rfl, _, rfl, ite2 (fun hk => ?_) (fun hk => ⟨l, [], none, rfl, LL0, Nat.zero_le _⟩)⟩
      refine ⟨_, rfl, _, rfl, 50, m, rfl, rfl, ⟨by omega, by omega⟩, 1, _, rfl, h, c, _, rfl, LL0.sx.a1, ?_, ?_, fun H5 u X5 u0 u1 => ?_⟩
      · show (0 : Int) < if (50 : Int) / m > 1 then (50 : Int) / m else 1
        split <;> omega
      · show (if (50 : Int) / m > 1 then (50 : Int) / m else 1) < 1000000
        split <;> omega
      have u1' : u < if (50 : Int) / m > 1 then (50 : Int) / m else 1 := u1
      have u2 : u ≤ 50 := by split at u1' <;> omega
      refine ⟨1, u, rfl, rfl, _, rfl, by omega, by omega, ?_⟩
      refine for_range (lo := 0) (n := (1 + u).toNat) (fun i σ H6 => ∃ (l : Addr) (vs : List V) (x5 : Option V), σ = [some (.ref h), some (.int m), some (.int r), some (.int kd), some (.ref l), x5] ∧ LL h c H H6 m l vs ∧ vs.length ≤ 52)
        ⟨l, [], none, rfl, LL0.step X5, Nat.zero_le _⟩ (fun i σ H6 hi hI => ?_) (fun σ H6 hI => hI)
      obtain ⟨l, vs, x5, rfl, LL6, hvl⟩ := hI
      refine ⟨_, rfl, l, vs, rfl, .inl (SqL.of LL6.at_), _, rfl, _, m, rfl, rfl, _, 52, rfl, rfl, _, rfl, ite2 (fun hk2 => ?_) (fun hk2 => ⟨l, vs, _, rfl, LL6, hvl⟩)⟩
      have hk3 := of_decide_eq_true hk2
      refine ⟨_, rfl, _, rfl, _, rfl, _, rfl, h, c, m, r, rfl, LL6.sx.a1, m2, m10, r0, r1, fun H7 q7 us es7 X7 hq7 eq7 la7 g7 hl7 => ?_⟩
      have LL7 := LL6.step X7
      have hql : us.length ≤ 9 := by rw [la7.1]; omega
      refine ⟨l, q7, vs, us, rfl, rfl, LL7.at_, eq7, by rw [sizeLine_eq]; omega, fun p hp => ?_⟩
      have S8 : Same H7 (upd H7 p (.lst (vs ++ us))) := same_upd hp
      refine ⟨p, vs ++ us, _, rfl, ⟨LL7.sx.same S8, LL7.sx.free hp, upd_same, fun v hv => ?_⟩, ?_⟩
      · rcases List.mem_append.mp hv with z | z
        · exact (LL7.al.keep (tS S8)) v z
        · exact ((AllLk.of la7 g7).keep (tS S8)) v z
      · rw [List.length_append, la7.1]
        omega
    · obtain ⟨l, vs, x5, rfl, LL5, hvl⟩ := hM
      -- links + some_links
      refine ⟨_, rfl, _, rfl, _, rfl, by show 2 ≤ sizeLine; decide, fun d2 hd2 => ?_⟩
      have S6 : Same H5 (upd H5 d2 (.lst [.int 8, .int 60])) := same_upd hd2
      have LL6 : LL h c H (upd H5 d2 (.lst [.int 8, .int 60])) m l vs := LL5.step ((Sx.refl LL5.sx.a1).same S6)
      have ed2 : (upd H5 d2 (.lst [.int 8, .int 60])) d2 = some (.lst [.int 8, .int 60]) := upd_same
      generalize hH6 : upd H5 d2 _ = H6
      have hH6' := hH6.symm
      rw [← hH6'] at LL6 ed2
      refine ⟨_, rfl, rfl, decide (V.int kd = V.int 0), rfl, ?_⟩
      obtain ⟨k, hk0, hk1, hat⟩ : ∃ k : Int, 0 ≤ k ∧ k ≤ 60 ∧ atI ([.int 8, .int 60] : List V) (if decide (V.int kd = V.int 0) = true then 1 else 0) = some (.int k) := by
        by_cases z : decide (V.int kd = V.int 0) = true
        · rw [if_pos z]
          exact ⟨60, by decide, by decide, atI_nat (j := 1) rfl⟩
        · rw [if_neg z]
          exact ⟨8, by decide, by decide, atI_nat (j := 0) rfl⟩
      refine ⟨d2, _, _, _, rfl, rfl, SqL.of ed2, hat, ?_⟩
      refine ⟨h, c, m, k, rfl, LL6.sx.a1, m2, m10, hk0, by omega, fun H7 q7 us X7 hq7 eq7 al7 hl7 => ?_⟩
      have LL7 := LL6.step X7
      refine ⟨l, q7, vs, us, rfl, rfl, LL7.at_, eq7, by rw [sizeLine_eq]; omega, fun p hp => ?_⟩
      have S8 : Same H7 (upd H7 p (.lst (vs ++ us))) := same_upd hp
      have LL8 : LL h c H (upd H7 p (.lst (vs ++ us))) m p (vs ++ us) := ⟨LL7.sx.same S8, LL7.sx.free hp, upd_same, fun v hv => by
        rcases List.mem_append.mp hv with z | z
        · exact (LL7.al.keep (tS S8)) v z
        · exact (al7.keep (tS S8)) v z⟩
      have hvl8 : (vs ++ us).length ≤ 112 := by
        rw [List.length_append]
        omega
      generalize hH8 : upd H7 p _ = H8
      have hH8' := hH8.symm
      rw [← hH8'] at LL8
      generalize hvs8 : vs ++ us = vs8
      rw [hvs8] at LL8 hvl8
      -- shuffled, [:60]
      refine ⟨_, rfl, _, rfl, h, c, p, vs8, rfl, LL8.sx.a1, neh p LL8.nw, LL8.at_, by omega, fun H9 q9 ys X9 hq9 eq9 pm => ?_⟩
      have LL9 := LL8.step X9
      refine ⟨60, rfl, q9, ys, rfl, SqL.of eq9, fun l2 hl2 => ?_⟩
      have S10 : Same H9 (upd H9 l2 (.lst (cutV ys none (some 60)))) := same_upd hl2
      have cl : (cutV ys none (some 60)).length ≤ 60 := by
        unfold cutV
        rw [List.length_take, HT.sIx_none]
        have e60 : HT.sIx ys.length ys.length (some 60) = min 60 ys.length := HT.sIx_nat ys.length ys.length 60
        rw [e60]
        omega
      have cm : ∀ v ∈ cutV ys none (some 60), v ∈ ys := fun v hv => by
        unfold cutV at hv
        exact List.mem_of_mem_drop (List.mem_of_mem_take hv)
      have LL10 : LL h c H (upd H9 l2 (.lst (cutV ys none (some 60)))) m l2 (cutV ys none (some 60)) := ⟨LL9.sx.same S10, LL9.sx.free hl2, upd_same, fun v hv => (LL9.al.keep (tS S10)) v (pm.mem_iff.mp (cm v hv))⟩
      generalize hH10 : upd H9 l2 _ = H10
      have hH10' := hH10.symm
      rw [← hH10'] at LL10
      generalize hcut : cutV ys none (some 60) = cs
      rw [hcut] at LL10 cl
      -- the last pops
      refine ⟨_, rfl, h, c, 3, rfl, LL10.sx.a1, by decide, by decide, fun H11 u X11 u0 u1 => ⟨u, rfl, by omega, by omega, ?_⟩⟩
      refine for_range (lo := 0) (n := u.toNat) (fun i σ H6 => ∃ (vs : List V) (x5 : Option V), σ = [some (.ref h), some (.int m), some (.int r), some (.int kd), some (.ref l2), x5] ∧ LL h c H H6 m l2 vs ∧ vs.length ≤ 60)
        ⟨cs, _, rfl, LL10.step X11, cl⟩ (fun i σ H12 hi hI => ?_) (fun σ H12 hI => ?_)
      · obtain ⟨vs, x5, rfl, LL12, hvl⟩ := hI
        have skip : ∃ (vs : List V) (x6 : Option V), ([some (.ref h), some (.int m), some (.int r), some (.int kd), some (.ref l2), some (V.int (0 + (i : Nat)))] : L2.St) = [some (.ref h), some (.int m), some (.int r), some (.int kd), some (.ref l2), x6] ∧ LL h c H H12 m l2 vs ∧ vs.length ≤ 60 := ⟨vs, _, rfl, LL12, hvl⟩
        refine ⟨_, rfl, l2, vs, rfl, .inl (SqL.of LL12.at_), _, 0, rfl, rfl, _, rfl, ite2 (fun hv => ?_) (fun hv => skip)⟩
        have hv' : 0 < vs.length := by
          have := of_decide_eq_true hv
          omega
        refine ⟨_, rfl, rfl, _, rfl, ite2 (fun hk => ?_) (fun hk => skip)⟩
        refine ⟨_, rfl, .inl ⟨rfl, _, SqL.of LL12.at_⟩, _, rfl, _, rfl, l2, vs, rfl, .inl (SqL.of LL12.at_), h, c, _, rfl, LL12.sx.a1, by omega, by omega, fun H13 j X13 j0 j1 => ?_⟩
        obtain ⟨j, rfl⟩ := int_nat j0
        have hj : j < vs.length := by omega
        have LL13 := LL12.step X13
        refine ⟨l2, vs, _, j, vs[j], rfl, rfl, LL13.at_, by omega, by omega, by rw [seqIndex_of (by omega) (by omega), Int.toNat_natCast], List.getElem?_eq_getElem hj, ?_⟩
        have tu : TupS H13 (upd H13 l2 (.lst (vs.eraseIdx j))) := fun z xs ez => by
          rw [upd_ne (ne_of ez LL13.at_ (by intro y; cases y))]
          exact ez
        exact ⟨vs.eraseIdx j, _, rfl, ⟨LL13.sx.put LL13.nw, LL13.nw, upd_same, fun v hv => (LL13.al.keep tu) v (List.mem_of_mem_eraseIdx hv)⟩, by rw [List.length_eraseIdx_of_lt hj]; omega⟩
      · obtain ⟨vs, x5, rfl, LL12, hvl⟩ := hI
        refine ⟨_, rfl, _, rfl, _, rfl, l2, vs, rfl, .inl ⟨SqL.of LL12.at_, fun t ht => ?_⟩⟩
        have S13 : Same H12 (upd H12 t (.tup vs)) := same_upd ht
        obtain ⟨es, la, ge⟩ := (LL12.al.keep (tS S13)).links
        refine ⟨by show 3 ≤ sizeLine; decide, fun p hp => ?_⟩
        have S14 : Same (upd H12 t (.tup vs)) (upd (upd H12 t (.tup vs)) p (.tup [.int m, .int r, .ref t])) := same_upd hp
        exact q _ p m r t vs es (LL12.sx.same (S13.trans S14)) ⟨upd_same, S14 _ _ upd_same, la.keep (tS S14), by rw [← la.1]; exact hvl, ge, m2, m10, r0, r1⟩
end
end ST

/-! the law's trees: grow -/
namespace ST
open PySem PySem.Spec PyProof.Rows L2 C8
section
variable {P : Program} {w : World} {K : PySem.W.Frag} {mg : Str → Option Value} {base : Heap}
/-! ### _law_grow -/
abbrev sGrow : Stmt := top 42
abbrev nGrow : List Str := ["_law_hand_here", "_law_parts", "_law_sources", "_law_free", "_law_most", "_law_links", "_law_heard", "_law_found", "_law_turn", "_law_some", "_law_link"]
theorem scGrow : FnScope nGrow ["_law_hand_here", "_law_parts", "_law_sources", "_law_free", "_law_most"] (C8.fnScope sGrow) := fnScope_by (by decide +kernel)
def spGrow : Sp := fun vs H Q _ => ∃ (h c p so fr : Addr) (m r : Int) (t : Addr) (ls : List V) (es : List Lk) (fs : List Int), vs = [.ref h, .ref p, .ref so, .ref fr, .int m] ∧ HandAt h c H ∧ PartsOk H p m r t ls es ∧ H so = some (.lst [.int r]) ∧ so ≠ h ∧ H fr = some (.lst (fs.map V.int)) ∧ fr ≠ h ∧ (∀ n ∈ fs, 0 ≤ n ∧ n < (es.length : Int)) ∧ fs.length ≤ 60 ∧
  ∀ (H' : Hp) (q : Addr) (ns : List Int), Sx h c H H' → H' q = some (.tup (ns.map V.int)) → (∀ n ∈ ns, 0 ≤ n ∧ n < (es.length : Int)) → ns.length ≤ 10 → Q (.ref q) H'
theorem ok_grow (B : Nb mg) (D : DB K mg "_law_grow" sGrow ["_law_hand_here", "_law_parts", "_law_sources", "_law_free", "_law_most"]) (c1 : Cal P w K mg base 2 "_law_draw" spDraw []) : Cal P w K mg base 3 "_law_grow" spGrow [] := by
  refine calB D scGrow (fun vs H Q E h => ?_) (fun f cdv A outer s H vs Q E hr h => ?_)
  · obtain ⟨h, c, p, so, fr, m, r, t, ls, es, fs, rfl, _⟩ := h
    rfl
  · obtain ⟨h, c, p, so, fr, m, r, t, ls, es, fs, rfl, hh, hp, hso, nso, hfr, nfr, hfs, hfl, q⟩ := h
    have nd := scGrow.nd
    refine ⟨_, pss_cons (ps_asg (pe_tup (pa_cons (pe_ix ix_tup (pv 1) pe_int (fun _ _ => rfl)) (pa_cons (pe_callTy call_list_of (by rfl) B.list (by decide +kernel) (pa_cons (pv 2) pa_nil)) (pa_cons (pe_lst pa_nil) pa_nil))))
        (pg_tup rfl (pgs_cons (pg_name (i := 5) nd rfl (.inr rfl)) (pgs_cons (pg_name (i := 6) nd rfl (.inr rfl)) (pgs_cons (pg_name (i := 7) nd rfl (.inl rfl)) pgs_nil)))))
      (pss_cut (ps_for PassesOwn.never rfl (pi_range1 (by rfl) B.range (pa_cons (pv 4) pa_nil)) (pg_name (i := 8) nd rfl (.inl rfl))
        (pss_cons (ps_setLc (i := 9) (own := [("_law_link", 10)]) (g := gName 10) rfl nd rfl rfl (sw_true rfl rfl rfl (by decide +kernel)) (pi_list (pv 3)) (blkOk_by (N := nGrow) (sc := C8.fnScope sGrow) (by decide +kernel))
            (fun _ _ _ _ _ => pg_name (i := 10) nd rfl (Or.inl rfl))
            (fun _ _ _ _ _ => pts_one (PW.pt (pw_and (pt_cmpR (inK K) (pe_ix (ixT K) (pe_ix (ixT K) (pv 5) (pv 10) (fun _ _ => rfl)) pe_int (fun _ _ => rfl)) (pv 6) (by rfl))
              (pw_and1 (pt_cmpR (ninK K) (pe_ix (ixT K) (pe_ix (ixT K) (pv 5) (pv 10) (fun _ _ => rfl)) pe_int (fun _ _ => rfl)) (pv 6) (by rfl))))))
            (fun _ _ _ _ _ => pv 10))
        (pss_cons (ps_if (pt_cmpR op_eq (pe_callB call_len_seq (by rfl) B.len PySem.boot_len (pa_cons (pv 9) pa_nil)) pe_int (nomark _)) (pss_one ps_break) pss_nil)
        (pss_cons (ps_expr (pe_bm PySem.F.plainAttrs_list PySem.F.slot_list_append PySem.F.type_list_append mt_append (pv 7) (pa_cons (pe_ix ix_list (pv 9) (pe_c c1 hr (by decide) (by rfl) (pa_cons (pv 0) (pa_cons (pe_callB call_len_seq (by rfl) B.len PySem.boot_len (pa_cons (pv 9) pa_nil)) pa_nil))) (fun _ _ => rfl)) pa_nil)))
        (pss_one (ps_expr (pe_bm PySem.F.plainAttrs_list PySem.F.slot_list_append PySem.F.type_list_append mt_append (pv 6) (pa_cons (pe_ix ix_tup (pe_ix ix_tup (pv 5) (pe_ix ix_list (pv 7) (pe_un un_neg pe_int) (fun _ _ => rfl)) (fun _ _ => rfl)) pe_int (fun _ _ => rfl)) pa_nil))))))))
      (pss_one (ps_ret (pe_callTy call_tuple_of (by rfl) B.tuple (by decide +kernel) (pa_cons (pe_callB cr_sortedI (by rfl) B.sorted (by decide +kernel) (pa_cons (pv 7) pa_nil)) pa_nil))))), ?_⟩
    have neh : ∀ z, H z = none → z ≠ h := fun z hz => (hh.nel hz).1
    have hm10 := hp.m10
    have hm2 := hp.m2
    -- links, heard, found
    refine ⟨_, rfl, p, _, _, .ref t, rfl, rfl, SqT.of hp.at_, atI_nat (j := 2) rfl, ?_⟩
    refine ⟨_, rfl, so, _, rfl, .inl (SqL.of hso), fun hd hhd => ?_⟩
    have X1 : Sx h c H (upd H hd (.lst [.int r])) := (Sx.refl hh).new hhd
    refine ⟨Nat.zero_le _, fun fd hfd => ?_⟩
    have X2 : Sx h c H (upd (upd H hd (.lst [.int r])) fd (.lst [])) := X1.new hfd
    have hfd0 : H fd = none := X1.free hfd
    have nhf : hd ≠ fd := ne_of_none upd_same hfd
    have eh2 : (upd (upd H hd (.lst [.int r])) fd (.lst [])) hd = some (.lst [.int r]) := by rw [upd_ne nhf, upd_same]
    have ef2 : (upd (upd H hd (.lst [.int r])) fd (.lst [])) fd = some (.lst []) := upd_same
    generalize hH2 : upd (upd H hd _) fd _ = H2
    have hH2' := hH2.symm
    rw [← hH2'] at X2 eh2 ef2
    refine ⟨by show 3 ≤ sizeLine; decide, fun tu htu => ?_⟩
    have S3 : Same H2 (upd H2 tu (.tup [.ref t, .ref hd, .ref fd])) := same_upd htu
    refine ⟨tu, _, rfl, SqT.of upd_same, rfl, _, _, rfl, _, _, rfl, _, _, rfl, rfl, ?_⟩
    have X3 := X2.same S3
    have eh3 := S3 _ _ eh2
    have ef3 := S3 _ _ ef2
    generalize hH3 : upd H2 tu _ = H3
    have hH3' := hH3.symm
    rw [← hH3'] at X3 eh3 ef3
    refine ⟨fun σ H4 => ∃ (ks : List Int) (hs : List Int) (x8 x9 : Option V), σ = [some (.ref h), some (.ref p), some (.ref so), some (.ref fr), some (.int m), some (.ref t), some (.ref hd), some (.ref fd), x8, x9, none] ∧ Sx h c H H4 ∧
        H4 fd = some (.lst (ks.map V.int)) ∧ (∀ n ∈ ks, 0 ≤ n ∧ n < (es.length : Int)) ∧ ks.length ≤ 10, ?_, fun σ H4 hM => ?_⟩
    · refine ⟨_, rfl, m, rfl, by omega, by omega, ?_⟩
      refine for_range (lo := 0) (n := m.toNat) (fun i σ H4 => ∃ (ks : List Int) (hs : List Int) (x8 x9 : Option V), σ = [some (.ref h), some (.ref p), some (.ref so), some (.ref fr), some (.int m), some (.ref t), some (.ref hd), some (.ref fd), x8, x9, none] ∧ Sx h c H H4 ∧
        H4 fd = some (.lst (ks.map V.int)) ∧ (∀ n ∈ ks, 0 ≤ n ∧ n < (es.length : Int)) ∧ ks.length ≤ i ∧ H4 hd = some (.lst (hs.map V.int)) ∧ hs.length ≤ i + 1) ⟨[], [r], none, none, rfl, X3, ef3, (fun _ z => nomatch z), Nat.zero_le _, eh3, Nat.le_refl _⟩ (fun i σ H4 hi hI => ?_) (fun σ H4 hI => ?_)
      · obtain ⟨ks, hs, x8, x9, rfl, X4, ef4, hks, hkl, eh4, hhl⟩ := hI
        have P4 := hp.keep X4.tupS
        have efr4 := X4.kp _ _ hfr nfr
        refine ⟨_, rfl, fr, rfl, ⟨_, SqL.of efr4⟩, fun D hD => lc_filt (walkL fs) (fun n => decide (frL es n ∈ hs) && !decide (toL es n ∈ hs)) V.int (fun _ => rfl) hD (by omega) (fun H5 S5 => SqL.of (S5 _ _ efr4)) (fun k H5 Qb hkm S5 qb => ?_) (fun k H5 Qv hkm _ S5 qv => ?_) (fun H5 S5 eD => ?_)⟩
        · have P5 := P4.keep (tS S5)
          have b := hfs k hkm
          have eh5 := S5 _ _ eh4
          refine rd_fr (fun Q' q' => ⟨_, rfl, q'⟩) P5.lt P5.la rfl b.1 b.2 ⟨_, rfl, rd_in (.inl (SqL.of eh5)) ⟨_, rfl, ?_⟩⟩
          cases e : decide (frL es k ∈ hs) with
          | false =>
            rw [e, Bool.false_and] at qb
            exact iteF qb
          | true =>
            rw [e, Bool.true_and] at qb
            exact iteT (rd_to (fun Q' q' => ⟨_, rfl, q'⟩) P5.lt P5.la rfl b.1 b.2 ⟨_, rfl, rd_notin (.inl (SqL.of eh5)) ⟨_, rfl, qb⟩⟩)
        · exact ⟨_, rfl, qv H5 (Same.refl H5)⟩
        · have X5 := X4.same S5
          have ef5 := S5 _ _ ef4
          have eh5 := S5 _ _ eh4
          have hsub : ∀ n ∈ fs.filter (fun n => decide (frL es n ∈ hs) && !decide (toL es n ∈ hs)), 0 ≤ n ∧ n < (es.length : Int) := fun n hn => hfs n (List.mem_filter.mp hn).1
          have hsl : (fs.filter (fun n => decide (frL es n ∈ hs) && !decide (toL es n ∈ hs))).length ≤ 60 := Nat.le_trans (List.length_filter_le _ _) hfl
          generalize hsm : fs.filter (fun n => decide (frL es n ∈ hs) && !decide (toL es n ∈ hs)) = sm
          rw [hsm] at eD hsub hsl
          refine ⟨_, rfl, D, _, rfl, .inl (SqL.of eD), rfl, _, rfl, ite2 (fun h0 => ?_) (fun h0 => ?_)⟩
          · exact ⟨ks, hs, _, _, rfl, X5, ef5, hks, by omega⟩
          · have hpos : 0 < sm.length := by
              cases sm with
              | nil => exact absurd (decide_eq_true rfl) h0
              | cons x y => exact Nat.succ_pos _
            refine ⟨_, rfl, .inl ⟨rfl, _, SqL.of ef5⟩, _, rfl, _, rfl, _, rfl, D, _, rfl, .inl (SqL.of eD), h, c, _, rfl, X5.a1, by rw [List.length_map]; omega, by rw [List.length_map]; omega, fun H6 u X6 u0 u1 => ?_⟩
            rw [List.length_map] at u1
            obtain ⟨k, rfl⟩ := int_nat u0
            have hk : k < sm.length := by omega
            have eD6 := X6.kp _ _ eD (neh D (X4.free hD))
            have ef6 := X6.kp _ _ ef5 (neh fd hfd0)
            have eh6 := X6.kp _ _ eh5 (neh hd hhd)
            have X7 := X5.trans X6
            refine ⟨D, _, _, .int sm[k], rfl, rfl, SqL.of eD6, atI_nat (by rw [List.getElem?_map, List.getElem?_eq_getElem hk]; rfl), ?_⟩
            have hb := hsub _ (List.getElem_mem hk)
            refine ⟨fd, _, _, rfl, rfl, ef6, by rw [List.length_map]; exact small1000 (by omega), ?_⟩
            have X8 := X7.put (o := .lst (ks.map V.int ++ [.int sm[k]])) hfd0
            have ef8 : (upd H6 fd (.lst (ks.map V.int ++ [.int sm[k]]))) fd = some (.lst ((ks ++ [sm[k]]).map V.int)) := by rw [upd_same, List.map_append]; rfl
            have eh8 : (upd H6 fd (.lst (ks.map V.int ++ [.int sm[k]]))) hd = some (.lst (hs.map V.int)) := by rw [upd_ne nhf]; exact eh6
            generalize hH8 : upd H6 fd _ = H8
            have hH8' := hH8.symm
            rw [← hH8'] at X8 ef8 eh8
            have P8 := hp.keep X8.tupS
            refine ⟨_, rfl, .inl ⟨rfl, _, SqL.of eh8⟩, _, rfl, _, rfl, 1, rfl, fd, _, _, .int sm[k], rfl, rfl, SqL.of ef8, ?_, ?_⟩
            · rw [List.map_append]
              exact atI_last _ _
            obtain ⟨j, hj⟩ := int_nat hb.1
            have hj2 : j < es.length := by omega
            obtain ⟨v, hv, l, rfl, hl⟩ := P8.la.2 j _ (List.getElem?_eq_getElem hj2)
            refine ⟨t, ls, _, _, rfl, rfl, SqT.of P8.lt, by rw [hj]; exact atI_nat hv, l, _, _, .int (es[j]).2, rfl, rfl, SqT.of hl, atI_nat (j := 1) rfl, ?_⟩
            refine ⟨hd, _, _, rfl, rfl, eh8, by rw [List.length_map]; exact small1000 (by omega), ?_⟩
            refine ⟨ks ++ [sm[k]], hs ++ [(es[j]).2], _, _, rfl, X8.put hhd, by rw [upd_ne nhf.symm]; exact ef8, fun n hn => ?_, by rw [List.length_append]; exact Nat.succ_le_succ hkl, by rw [upd_same, List.map_append]; rfl, by rw [List.length_append]; exact Nat.succ_le_succ hhl⟩
            rcases List.mem_append.mp hn with z | z
            · exact hks n z
            · rw [List.mem_singleton.mp z]
              exact hb
      · obtain ⟨ks, hs, x8, x9, rfl, X4, ef4, hks, hkl, eh4, hhl⟩ := hI
        exact ⟨ks, hs, x8, x9, rfl, X4, ef4, hks, by omega⟩
    · obtain ⟨ks, hs, x8, x9, rfl, X4, ef4, hks, hkl⟩ := hM
      refine ⟨_, rfl, fd, ks, rfl, SqL.of ef4, fun ns p2 pm _ hp2 => ?_⟩
      have S5 : Same H4 (upd H4 p2 (.lst (ns.map V.int))) := same_upd hp2
      refine ⟨p2, _, rfl, .inl ⟨SqL.of upd_same, fun t2 ht2 => ?_⟩⟩
      have S6 : Same (upd H4 p2 (.lst (ns.map V.int))) (upd (upd H4 p2 (.lst (ns.map V.int))) t2 (.tup (ns.map V.int))) := same_upd ht2
      exact q _ t2 ns (X4.same (S5.trans S6)) upd_same (fun n hn => hks n (pm.mem_iff.mp hn)) (by rw [pm.length_eq]; exact hkl)
end
end ST

/-! rule: t[::-1] of a tuple -/
namespace ST
open PySem PySem.Spec PyProof.Rows L2 C8
/-- from the last place down, all of them -/
theorem back_places (n : Nat) : Builtin.Slice.slicePlaces ((n : Int) - 1) (-1) (-1) = n := by
  have no : ¬ ((-1 : Int) > (0 : Int)) := by omega
  have one : (- (-1) : Int) = (1 : Int) := rfl
  simp only [Builtin.Slice.slicePlaces, no, if_false, one, Int.ediv_one]
  by_cases many : (n : Int) - 1 > -1
  · rw [if_pos many]; omega
  · rw [if_neg many]; omega
theorem back_ends (n : Nat) : Builtin.Slice.sliceAdjust none none (-1) (n : Int) = ((n : Int) - 1, -1) := by
  simp only [Builtin.Slice.sliceAdjust, show ((-1 : Int) < (0 : Int)) from by omega, if_true]
theorem back_items (its : Array Value) : ((List.range its.size).filterMap fun (j : Nat) => its[(((its.size : Int) - 1) + (j : Int) * (-1)).toNat]?).toArray = its.toList.reverse.toArray := by
  have turn : (List.range its.size).filterMap (fun (j : Nat) => its[(((its.size : Int) - 1) + (j : Int) * (-1)).toNat]?) = ((List.range its.size).map fun j => its.size - 1 - j).filterMap (its[·]?) := by
    rw [List.filterMap_map]
    refine congrArg (fun g => List.filterMap g _) (funext fun j => ?_)
    have : (((its.size : Int) - 1) + (j : Int) * (-1)).toNat = its.size - 1 - j := by omega
    exact congrArg (its[·]?) this
  rw [turn, PySem.W.krv_range, List.filterMap_reverse, PySem.W.krv_all its]
section
variable {M : Program} {w : World} {A : Around} {s : Shared} {Ex : Value → Shared → Prop}
/-- the slice [::-1] of n places -/
theorem back_slice {c : Addr} {step : Value} {n : Nat} {R : Int × Int × Nat → Shared → Prop} (sl : s.heap.IsSliceOf c .none .none step) (st : IsPart step (some (-1))) (k : R ((n : Int) - 1, -1, n) s) :
    wpAny (model M w) A (Builtin.Slice.sliceApplied (.ref c) (pure (n : Int))) R Ex s := by
  obtain ⟨o, ho, _, hd⟩ := sl
  unfold Builtin.Slice.sliceApplied
  unfold Builtin.Slice.sliceFields
  refine wpAny_bind (wpAny_bind (wpAny_field ho hd (x := Value.none) rfl (wpAny_bind (wpAny_field ho hd (x := Value.none) rfl (wpAny_bind (wpAny_field ho hd (x := step) rfl (wpAny_pure (wpAny_bind (HT.slicePart_ st ?_)))))))))
  show wpAny _ A (if ((-1 : Int) == (0 : Int)) = true then _ else _) R Ex s
  rw [if_neg (show ¬ (((-1 : Int) == (0 : Int)) = true) by decide)]
  refine wpAny_bind (HT.slicePart_ IsPart.none (wpAny_bind (HT.slicePart_ IsPart.none (wpAny_bind (wpAny_pure ?_)))))
  show wpAny _ A (match Builtin.Slice.sliceAdjust none none (-1) (n : Int) with | (lo, hi) => pure (lo, (-1 : Int), Builtin.Slice.slicePlaces lo hi (-1))) R Ex s
  rw [back_ends]
  show wpAny _ A (pure ((n : Int) - 1, (-1 : Int), Builtin.Slice.slicePlaces ((n : Int) - 1) (-1) (-1))) R Ex s
  rw [back_places]
  exact wpAny_pure k
/-- t[::-1], t a tuple, the slice laid at c -/
theorem back_item {b c : Addr} {its : Array Value} {step : Value} {R : Value → Shared → Prop} (tp : IsTup s.heap b its) (sl : s.heap.IsSliceOf c .none .none step) (st : IsPart step (some (-1))) (small : its.size ≤ sizeLine)
    (k : R (.ref s.heap.objs.size) { s with heap := s.heap.push { cls := .type "tuple", data := .seq its.toList.reverse.toArray } }) : wpAny (model M w) A (getItem (.ref b) (.ref c)) R Ex s := by
  have fits : sizeOk (.seq its.toList.reverse.toArray) := show its.toList.reverse.toArray.size ≤ sizeLine by simpa using small
  have isSl : s.TypeIs (.ref c) "slice" := let ⟨o, ho, hc, _⟩ := sl; ⟨o, ho, hc⟩
  unfold getItem
  try with_reducible refine wpAny_holding (?_ : wpAny _ _ _ _ _ _)
  first | refine wpAny_bind (wpAny_pure (?_ : wpAny _ _ _ _ _ _)) | skip
  refine wpAny_bind (wpAny_sequenceKey tp.typeIs (by decide) (wpAny_bind (wpAny_callSpecial?_slot (name := Str.ofString "__getitem__") tp.typeIs PyProof.Rows.slot_tuple_getitem (wpAny_call_entry PyProof.Rows.slot_tuple_getitem tp.typeIs entry_tuple_getitem ?_ (args_tuple_getitem _ _)))))
  show wpAny _ _ (Builtin.Tuple.tupleItemsOf (.ref b) >>= _) _ _ s
  refine wpAny_bind (tupleItemsOf_ tp (wpAny_bind (wpAny_typeOf isSl ?_)))
  rw [if_pos (by decide)]
  refine wpAny_bind (back_slice sl st ?_)
  show wpAny _ _ (if (((its.size : Int) - 1) == 0 && (-1 : Int) == 1 && its.size == its.size) = true then _ else _) _ _ s
  rw [if_neg (fun z => by rw [Bool.and_eq_true, Bool.and_eq_true] at z; exact absurd z.1.2 (by decide)), back_items]
  first
    | exact wpAny_bind (m := Builtin.Tuple.tupleExact _) (wpAny_newObj_type (wpAny_pure ⟨_, rfl, wpAny_pure k⟩) fits)
    | exact wpAny_bind (wpAny_bind (m := Builtin.Tuple.tupleExact _) (wpAny_newObj_type (wpAny_pure ⟨_, rfl, wpAny_pure k⟩) fits))
    | exact wpAny_bind (m := Builtin.Tuple.tupleExact _) (wpAny_newObj_type (wpAny_bind (wpAny_pure (wpAny_pure ⟨_, rfl, wpAny_pure k⟩))) fits)
    | exact wpAny_bind (wpAny_bind (m := Builtin.Tuple.tupleExact _) (wpAny_newObj_type (wpAny_pure (wpAny_pure ⟨_, rfl, wpAny_pure k⟩)) fits))
end
section
variable {X : Cx}
def tRevT (K : PySem.W.Frag) (te : TE) : TE := fun σ H Q => te σ H fun x H1 => ∃ a xs, x = .ref a ∧ SqT K H1 a xs ∧ ∀ p, H1 p = none → Q (.ref p) (upd H1 p (.tup xs.reverse))
theorem pe_revT {e : Expr} {te : TE} {k : Nat} {p1 p2 p3 pos : Pos} (he : PE X e te) : PE X (.Subscript e (.Slice none none (some (.UnaryOp .USub (.Constant (.int 1) k p1) p2)) p3) pos) (tRevT X.K te) := by
  constructor
  intro pins s σ H Q I h
  have minus : PO X (some (.UnaryOp .USub (.Constant (.int 1) k p1) p2)) _ := po_some (pe_un un_neg pe_int)
  refine Subscript_ (thn (he.run pins s σ H _ I h) fun v t1 ⟨x, G1, J1, rx, a, xs, ex, seen, q⟩ => ?_)
  rw [ex] at rx
  cases rx
  refine wpAny_Slice (thn (po_none.run pins t1 σ G1 (fun o G => o = none ∧ G = G1) J1 ⟨rfl, rfl⟩) fun lo t2 ⟨_, _, J2, isLo, e1, e2⟩ => ?_)
  rw [e1] at isLo; rw [e2] at J2
  refine thn (po_none.run pins t2 σ G1 (fun o G => o = none ∧ G = G1) J2 ⟨rfl, rfl⟩) fun hi t3 ⟨_, _, J3, isHi, e3, e4⟩ => ?_
  rw [e3] at isHi; rw [e4] at J3
  refine thn (minus.run pins t3 σ G1 (fun o G => o = some (-1) ∧ G = G1) J3 ⟨1, rfl, -1, rfl, rfl, rfl⟩) fun by_ t4 ⟨_, _, J4, isBy, e5, e6⟩ => ?_
  rw [e5] at isBy; rw [e6] at J4
  cases isLo
  cases isHi
  have J5 : Inv X pins σ G1 { t4 with heap := t4.heap.push { cls := .type "slice", data := .fields #[.none, .none, by_] } } := J4.kept (t' := t4.toks) fun _ _ z => Heap.get?_push_of_some _ z
  obtain ⟨its, rel, tp, small⟩ := J5.tuple seen
  show wpAny _ X.A (subscriptTail e (.Slice none none (some (.UnaryOp .USub (.Constant (.int 1) k p1) p2)) p3) (.ref a) (.ref t4.heap.objs.size)) (EP X pins σ Q) X.xe _
  refine tail_any (ops := [.ref a, .ref t4.heap.objs.size]) tp.typeIs PyProof.Rows.slot_tuple_getitem.lookup (back_item tp (Heap.IsSliceOf.new _ .none .none by_) isBy (by rw [List.size_toArray, ← rel.length]; exact small) ?_) (by with_unfolding_all rfl)
  refine ⟨.ref _, _, J5.laid (t' := t4.toks) (o := .tup xs.reverse) (fun _ _ z => Heap.get?_push_of_some _ z) (Nat.le_refl _) ⟨by rw [List.length_reverse]; exact small, _, rel.reverse, ⟨_, Heap.get?_push_size _ rfl, rfl, _, rfl⟩⟩, rfl, q _ (J5.hok.fresh (Nat.le_refl _))⟩
end
end ST

/-! rule: repr of a thing; things that repr can show -/
namespace ST
open PySem PySem.Spec PyProof.Rows L2 C8
section
variable {X : Cx} {pins : List (Addr × Obj)} {σ : L2.St} {H : Hp} {s : Shared}
theorem ints_reads {P : Program} {w : World} {h : Heap} : ∀ (kvs : List (Int × Int)) (es : List DictEntry) (vs : List (Key × Value)),
    KV (kvs.map fun p => ((Sum.inl p.1 : Key), V.int p.2)) vs → Pairs (mixKind P w) es vs →
    ReadsAll h (es.map (·.key)) (kvs.map fun p => .int p.1) [] ∧ ReadsAll h (es.map (·.val)) (kvs.map fun p => .int p.2) []
  | [], _, _, .nil, .nil => ⟨.nil, .nil⟩
  | (k, v) :: r, _, _, .cons hx hr, .cons e1 e2 er => by
    obtain ⟨i1, i2⟩ := ints_reads r _ _ hr er
    obtain ⟨h1, t, h2⟩ := hx
    rw [h2] at e2
    rw [← h1, mixKind_is] at e1
    rcases keyIs_shape e1 with ⟨i, u, hi, hu⟩ | ⟨x, u, hi, hu⟩
    · have hk : k = i := Sum.inl.inj hi
      subst hk
      refine ⟨?_, ?_⟩
      · rw [List.map_cons, List.map_cons, hu]
        exact ReadsAll.cons (as := []) (.int _ u) i1
      · rw [List.map_cons, List.map_cons, e2]
        exact ReadsAll.cons (as := []) (.int _ t) i2
    · cases hi
mutual
theorem Dq.reads {h : Addr} (I : Inv X pins σ H s) : ∀ (d : PyData) (v : V) (u : Value), Dq h H v d → RelV v u → ∃ as, Reads s.heap u d as ∧ ((∃ kvs, d = .dict kvs) → sysModules ∉ as)
  | .none, _, _, h, r => by
    cases h
    cases r
    exact ⟨_, Reads.none, fun _ => by simp⟩
  | .bool b, _, _, h, r => by
    cases h
    cases r
    exact ⟨_, Reads.bool b, fun _ => by simp⟩
  | .int i, _, _, h, r => by
    cases h
    obtain ⟨t, rfl⟩ := r
    exact ⟨_, Reads.int i t, fun _ => by simp⟩
  | .str x, _, _, h, r => by
    cases h
    obtain ⟨t, rfl⟩ := r
    exact ⟨_, Reads.str x t, fun _ => by simp⟩
  | .list ds, _, _, h, r => by
    cases h with
    | lst n hs ha =>
      cases r
      obtain ⟨its, rv, ⟨o, n, ho, hc, _, hd⟩, _⟩ := I.list (SqL.of hs)
      obtain ⟨as, hr⟩ := Dq.readsAll I ds _ its ha rv
      exact ⟨_, Reads.list ho hc hd hr, fun z => let ⟨_, z⟩ := z; nomatch z⟩
  | .tuple ds, _, _, h, r => by
    cases h with
    | tup hs ha =>
      cases r
      obtain ⟨its, rv, ⟨o, ho, hc, n, hd⟩, _⟩ := I.tuple (SqT.of hs)
      obtain ⟨as, hr⟩ := Dq.readsAll I ds _ its ha rv
      exact ⟨_, Reads.tuple ho hc hd hr, fun z => let ⟨_, z⟩ := z; nomatch z⟩
  | .dict _, _, _, h, r => by
    cases h with
    | dic kvs e =>
      cases r
      obtain ⟨hz, hS, vs, hk, o, es, ep, ho, hx, hd, _, hp, _⟩ := I.hok _ _ e
      obtain ⟨r1, r2⟩ := ints_reads (h := s.heap) kvs es.toList vs hk hp
      refine ⟨_, Reads.dict (as := []) (bs := []) ho hx.1 hd (by rw [List.map_map]; exact r1) (by rw [List.map_map]; exact r2), fun _ => ?_⟩
      have := beq_eq_false_iff_ne.mp hS
      simpa using fun z => this z.symm
theorem Dq.readsAll {h : Addr} (I : Inv X pins σ H s) : ∀ (ds : List PyData) (vs : List V) (us : List Value), DqAll h H vs ds → Vals vs us → ∃ as, ReadsAll s.heap us ds as
  | [], _, _, h, r => by
    cases h
    cases r
    exact ⟨_, ReadsAll.nil⟩
  | d :: ds, _, _, h, r => by
    cases h with
    | cons h1 h2 =>
      cases r with
      | cons r1 r2 =>
        obtain ⟨as, q1, _⟩ := Dq.reads I d _ _ h1 r1
        obtain ⟨bs, q2⟩ := Dq.readsAll I ds _ _ h2 r2
        exact ⟨_, ReadsAll.cons q1 q2⟩
end
end
/-- a thing that repr can show -/
structure Fit (d : PyData) : Prop where
  show_ : d.showable = true
  dic : d.hasDict = true → ∃ kvs, d = .dict kvs
  dep : d.depth ≤ 8
  len : d.shown.length ≤ sizeLine
/-- repr(x) -/
def rRepr : List V → Hp → VK → Prop := fun xs H Q => ∃ h v d, xs = [v] ∧ Dq h H v d ∧ Fit d ∧ Q (.str d.shown) H
theorem cr_repr {X : Cx} (hg : X.A.guards = some []) (hu : X.A.units + 64 < cLine) : CallR X (.builtin "repr") rRepr := by
  intro pins s σ H xs us Q I r h
  obtain ⟨h, v, d, rfl, x, F, q⟩ := h
  cases r with
  | cons r rr =>
  cases rr
  rename_i u
  have fin : ∀ (h' : Heap) (u' : Tok) tk, (∀ b o, s.heap.get? b = some o → h'.get? b = some o) → EP X pins σ Q (.str d.shown u') { s with heap := h', toks := tk } := fun h' u' tk hk =>
    ⟨.str d.shown, H, I.kept (t' := tk) hk, ⟨u', rfl⟩, q⟩
  have len := F.len
  have scal : ∀ t tk, EP X pins σ Q (.str d.shown t) { s with toks := tk } := fun t tk => fin s.heap t tk fun _ _ e => e
  cases x with
  | non => cases r; exact PySem.P.repr_of_none (scal _ _)
  | bl b => cases r; exact PySem.P.repr_of_bool (by cases b <;> exact scal _ _)
  | int i =>
    obtain ⟨t, rfl⟩ := r
    exact PySem.P.repr_of_int (of_decide_eq_true (by simpa [PyData.showable] using F.show_)) (scal _ _)
  | str z =>
    obtain ⟨t, rfl⟩ := r
    exact PySem.P.repr_of_str (scal _ _) len
  | lst n e a =>
    obtain ⟨as, rd, hs⟩ := Dq.reads I _ _ _ (.lst n e a) r
    cases r
    exact repr_of_reads' rd F.show_ (fun z => hs (F.dic z)) hg (by have := F.dep; omega) (fun _ _ e => e) (fun h' u tk hk => fin h' u tk hk) len
  | tup e a =>
    obtain ⟨as, rd, hs⟩ := Dq.reads I _ _ _ (.tup e a) r
    cases r
    exact repr_of_reads' rd F.show_ (fun z => hs (F.dic z)) hg (by have := F.dep; omega) (fun _ _ e => e) (fun h' u tk hk => fin h' u tk hk) len
  | dic kvs e =>
    obtain ⟨as, rd, hs⟩ := Dq.reads (h := h) I _ _ _ (.dic kvs e) r
    cases r
    exact repr_of_reads' rd F.show_ (fun z => hs (F.dic z)) hg (by have := F.dep; omega) (fun _ _ e => e) (fun h' u tk hk => fin h' u tk hk) len
/-! ### what fits -/
/-- an item of a tuple: small -/
structure FitI (d : PyData) : Prop where
  show_ : d.showable = true
  dic : d.hasDict = false
  dep : d.depth ≤ 3
  short : d.leavesShort 200 = true
  bulk : d.bulk ≤ 8
theorem fitI_all : ∀ {ds : List PyData}, (∀ d ∈ ds, FitI d) → PyData.showableAll ds = true ∧ PyData.hasDictAll ds = false ∧ PyData.depthAll ds ≤ 3 ∧ PyData.leavesShortAll 200 ds = true ∧ PyData.bulkAll ds ≤ 9 * ds.length
  | [], _ => ⟨rfl, rfl, by decide, rfl, by decide⟩
  | d :: ds, h => by
    have x := h d List.mem_cons_self
    obtain ⟨h1, h2, h3, h4, h5⟩ := fitI_all (ds := ds) fun z hz => h z (List.mem_cons_of_mem _ hz)
    refine ⟨?_, ?_, ?_, ?_, ?_⟩
    · simp only [PyData.showableAll, x.show_, h1, Bool.and_self]
    · simp only [PyData.hasDictAll, x.dic, h2, Bool.or_self]
    · simp only [PyData.depthAll]
      have := x.dep
      omega
    · simp only [PyData.leavesShortAll, x.short, h4, Bool.and_self]
    · simp only [PyData.bulkAll, List.length_cons]
      have := x.bulk
      omega
theorem shown_small {d : PyData} (h : d.leavesShort 200 = true) (b : d.bulk ≤ 1000) : d.shown.length ≤ sizeLine := by
  have := PyData.shown_le_bulk 200 (by decide) d h
  rw [sizeLine_eq]
  omega
theorem fit_tup {ds : List PyData} (h : ∀ d ∈ ds, FitI d) (hl : ds.length ≤ 100) : Fit (.tuple ds) := by
  obtain ⟨h1, h2, h3, h4, h5⟩ := fitI_all h
  refine ⟨by simpa only [PyData.showable] using h1, fun z => ?_, by simp only [PyData.depth]; omega, shown_small (by simpa only [PyData.leavesShort] using h4) (by simp only [PyData.bulk]; omega)⟩
  have z' : PyData.hasDictAll ds = true := by simpa only [PyData.hasDict] using z
  rw [h2] at z'
  cases z'
theorem fit_lst {ds : List PyData} (h : ∀ d ∈ ds, FitI d) (hl : ds.length ≤ 100) : Fit (.list ds) := by
  obtain ⟨h1, h2, h3, h4, h5⟩ := fitI_all h
  refine ⟨by simpa only [PyData.showable] using h1, fun z => ?_, by simp only [PyData.depth]; omega, shown_small (by simpa only [PyData.leavesShort] using h4) (by simp only [PyData.bulk]; omega)⟩
  have z' : PyData.hasDictAll ds = true := by simpa only [PyData.hasDict] using z
  rw [h2] at z'
  cases z'
theorem fitI_int {i : Int} (h : i.natAbs < 1000) : FitI (.int i) := by
  have h1 : (PyData.shown (.int i)).length ≤ 13 := PyData.shown_int_le (by omega)
  have hl : i.natAbs.log2 < 1920 := by
    have := Nat.log2_le_self i.natAbs
    omega
  exact ⟨by simp only [PyData.showable, hl, decide_true], rfl, by simp only [PyData.depth]; omega, by simp only [PyData.leavesShort, decide_eq_true_eq]; omega, by simp only [PyData.bulk]; omega⟩
theorem FitI.fit {d : PyData} (x : FitI d) : Fit d := ⟨x.show_, (fun z => by rw [x.dic] at z; cases z), by have := x.dep; omega, shown_small x.short (by have := x.bulk; omega)⟩
theorem fitI_ints {ns : List Int} (h : ∀ n ∈ ns, n.natAbs < 1000) : ∀ d ∈ ns.map PyData.int, FitI d := fun d hd => by
  obtain ⟨n, hn, rfl⟩ := List.mem_map.mp hd
  exact fitI_int (h n hn)
end ST

/-! the law's odd things -/
namespace ST
open PySem PySem.Spec PyProof.Rows L2 C8
theorem fitI_of {d : PyData} (h : (d.showable && !d.hasDict && decide (d.depth ≤ 3) && d.leavesShort 200 && decide (d.bulk ≤ 8)) = true) : FitI d := by
  simp only [Bool.and_eq_true, decide_eq_true_eq, Bool.not_eq_true'] at h
  exact ⟨h.1.1.1.1, h.1.1.1.2, h.1.1.2, h.1.2, h.2⟩
/-- a value is a thing that repr can show -/
def Okv (h : Addr) (H : Hp) (v : V) : Prop := ∃ d, Dq h H v d ∧ Fit d
theorem Okv.same {h : Addr} {H H' : Hp} {v : V} (s : Same H H') (x : Okv h H v) : Okv h H' v := let ⟨d, a, b⟩ := x; ⟨d, Dq.keep (Kt.same s) d v a, b⟩
theorem Okv.sx {h c : Addr} {H H' : Hp} {v : V} (s : Sx h c H H') (x : Okv h H v) : Okv h H' v := let ⟨d, a, b⟩ := x; ⟨d, Dq.keep s.kt d v a, b⟩
theorem new_tup {h : Addr} {H : Hp} {p : Addr} {xs : List V} {ds : List PyData} (e : H p = none) (x : DqAll h H xs ds) : Same H (upd H p (.tup xs)) ∧ Dq h (upd H p (.tup xs)) (.ref p) (.tuple ds) := by
  have S : Same H (upd H p (.tup xs)) := same_upd e
  exact ⟨S, .tup upd_same (DqAll.keep (Kt.same S) ds xs x)⟩
theorem new_lst {h c : Addr} {H : Hp} {p : Addr} {xs : List V} {ds : List PyData} (hh : HandAt h c H) (e : H p = none) (x : DqAll h H xs ds) : Same H (upd H p (.lst xs)) ∧ Dq h (upd H p (.lst xs)) (.ref p) (.list ds) := by
  have S : Same H (upd H p (.lst xs)) := same_upd e
  exact ⟨S, .lst (hh.nel e).1 upd_same (DqAll.keep (Kt.same S) ds xs x)⟩
theorem dq1 {h : Addr} {H : Hp} {v : V} {d : PyData} (x : Dq h H v d) : DqAll h H [v] [d] := .cons x .nil
theorem dq2 {h : Addr} {H : Hp} {v u : V} {d e : PyData} (x : Dq h H v d) (y : Dq h H u e) : DqAll h H [v, u] [d, e] := .cons x (.cons y .nil)
theorem HandAt.same {h c : Addr} {H H' : Hp} (s : Same H H') (x : HandAt h c H) : HandAt h c H' := ((Sx.refl x).same s).a1
section
variable {P : Program} {w : World} {K : PySem.W.Frag} {mg : Str → Option Value} {base : Heap}
abbrev sOdd : Stmt := top 43
abbrev nOdd : List Str := ["_law_hand_here", "_law_odd_here"]
theorem scOdd : FnScope nOdd ["_law_hand_here"] (C8.fnScope sOdd) := fnScope_by (by decide +kernel)
def spOdd : Sp := fun vs H Q _ => ∃ h c, vs = [.ref h] ∧ HandAt h c H ∧ ∀ H' v, Sx h c H H' → Okv h H' v → Q v H'
theorem ok_odd (D : DB K mg "_law_odd" sOdd ["_law_hand_here"]) (c1 : Cal P w K mg base 2 "_law_draw" spDraw []) : Cal P w K mg base 3 "_law_odd" spOdd [] := by
  refine calB D scOdd (fun vs H Q E h => ?_) (fun f cdv A outer s H vs Q E hr h => ?_)
  · obtain ⟨h, c, rfl, _⟩ := h
    rfl
  · obtain ⟨h, c, rfl, hh, q⟩ := h
    have nd := scOdd.nd
    refine ⟨_, pss_cons (ps_set (i := 1) nd rfl (.inl rfl) (pe_lst (pa_cons pe_non (pa_cons pe_bl (pa_cons (pe_un un_neg pe_int) (pa_cons pe_int (pa_cons pe_str (pa_cons pe_str (pa_cons (pe_lst pa_nil) (pa_cons pe_dnewK
        (pa_cons (pe_tup (pa_cons pe_non pa_nil)) (pa_cons (pe_tup (pa_cons pe_str pa_nil)) (pa_cons (pe_tup (pa_cons pe_bl pa_nil)) (pa_cons (pe_tup (pa_cons pe_int (pa_cons pe_int pa_nil))) (pa_cons (pe_tup (pa_cons pe_int (pa_cons pe_int pa_nil)))
        (pa_cons (pe_tup (pa_cons (pe_un un_neg pe_int) pa_nil)) (pa_cons (pe_lst (pa_cons pe_int pa_nil)) (pa_cons (pe_tup (pa_cons (pe_op op_pow pe_int pe_int) pa_nil)) pa_nil))))))))))))))))))
      (pss_one (ps_ret (pe_ix ix_list (pe_op op_cat (pv 1) (pe_lst (pa_cons (pe_tup (pa_cons (pe_tup pa_nil) pa_nil)) (pa_cons (pe_tup (pa_cons (pe_lst (pa_cons pe_int pa_nil)) pa_nil))
        (pa_cons (pe_disp (pps_cons pe_int pe_int pps_nil) rfl rfl (by decide) (by decide)) (pa_cons (pe_tup (pa_cons pe_int (pa_cons (pe_tup (pa_cons pe_int pa_nil)) pa_nil))) pa_nil))))))
        (pe_c c1 hr (by decide) (by rfl) (pa_cons (pv 0) (pa_cons pe_int pa_nil))) (fun _ _ => rfl)))), ?_⟩
    refine ⟨1, rfl, Nat.zero_le _, fun p1 e1 => ?_⟩
    obtain ⟨S1, O1⟩ := new_lst hh e1 .nil
    revert S1 O1; generalize upd H p1 _ = H1; intro S1 O1
    refine fun p2 e2 => ?_
    have S2 : Same H1 (upd H1 p2 (.dK [])) := same_upd e2
    have O2 : Dq h (upd H1 p2 (.dK [])) (.ref p2) (.dict []) := .dic [] upd_same
    revert S2 O2; generalize upd H1 p2 _ = H2; intro S2 O2
    refine ⟨by show 1 ≤ sizeLine; decide, fun p3 e3 => ?_⟩
    obtain ⟨S3, O3⟩ := new_tup e3 (dq1 (h := h) .non)
    revert S3 O3; generalize upd H2 p3 _ = H3; intro S3 O3
    refine ⟨by show 1 ≤ sizeLine; decide, fun p4 e4 => ?_⟩
    obtain ⟨S4, O4⟩ := new_tup e4 (dq1 (h := h) (.str _))
    revert S4 O4; generalize upd H3 p4 _ = H4; intro S4 O4
    refine ⟨by show 1 ≤ sizeLine; decide, fun p5 e5 => ?_⟩
    obtain ⟨S5, O5⟩ := new_tup e5 (dq1 (h := h) (.bl true))
    revert S5 O5; generalize upd H4 p5 _ = H5; intro S5 O5
    refine ⟨by show 2 ≤ sizeLine; decide, fun p6 e6 => ?_⟩
    obtain ⟨S6, O6⟩ := new_tup e6 (dq2 (h := h) (.int 0) (.int 0))
    revert S6 O6; generalize upd H5 p6 _ = H6; intro S6 O6
    refine ⟨by show 2 ≤ sizeLine; decide, fun p7 e7 => ?_⟩
    obtain ⟨S7, O7⟩ := new_tup e7 (dq2 (h := h) (.int 1) (.int 0))
    revert S7 O7; generalize upd H6 p7 _ = H7; intro S7 O7
    refine ⟨1, rfl, by show 1 ≤ sizeLine; decide, fun p8 e8 => ?_⟩
    obtain ⟨S8, O8⟩ := new_tup e8 (dq1 (h := h) (.int (-1)))
    revert S8 O8; generalize upd H7 p8 _ = H8; intro S8 O8
    have S08 := ((((((S1.trans S2).trans S3).trans S4).trans S5).trans S6).trans S7).trans S8
    refine ⟨by show 1 ≤ sizeLine; decide, fun p9 e9 => ?_⟩
    obtain ⟨S9, O9⟩ := new_lst (hh.same S08) e9 (dq1 (.int 0))
    revert S9 O9; generalize upd H8 p9 _ = H9; intro S9 O9
    refine ⟨10, 30, rfl, rfl, ⟨by decide, by decide, by decide⟩, by show 1 ≤ sizeLine; decide, fun p10 e10 => ?_⟩
    obtain ⟨S10, O10⟩ := new_tup e10 (dq1 (h := h) (.int ((10 : Int) ^ (30 : Int).toNat)))
    revert S10 O10; generalize upd H9 p10 _ = H10; intro S10 O10
    have T9 := S10
    have T8 := S9.trans T9
    have T7 := S8.trans T8
    have T6 := S7.trans T7
    have T5 := S6.trans T6
    have T4 := S5.trans T5
    have T3 := S4.trans T4
    have T2 := S3.trans T3
    have T1 := S2.trans T2
    have tf : ∀ {ds : List PyData}, (∀ d ∈ ds, FitI d) → ds.length ≤ 100 → Fit (.tuple ds) := fit_tup
    have all1 : ∀ v ∈ [V.non, .bl true, .int (-1), .int 61, .str "0", .str "", .ref p1, .ref p2, .ref p3, .ref p4, .ref p5, .ref p6, .ref p7, .ref p8, .ref p9, .ref p10], Okv h H10 v := by
      intro v hv
      simp only [List.mem_cons, List.not_mem_nil, or_false] at hv
      rcases hv with rfl | rfl | rfl | rfl | rfl | rfl | rfl | rfl | rfl | rfl | rfl | rfl | rfl | rfl | rfl | rfl
      · exact ⟨_, .non, (fitI_of (by decide +kernel)).fit⟩
      · exact ⟨_, .bl true, (fitI_of (by decide +kernel)).fit⟩
      · exact ⟨_, .int _, (fitI_of (by decide +kernel)).fit⟩
      · exact ⟨_, .int _, (fitI_of (by decide +kernel)).fit⟩
      · exact ⟨_, .str _, (fitI_of (by decide +kernel)).fit⟩
      · exact ⟨_, .str _, (fitI_of (by decide +kernel)).fit⟩
      · exact Okv.same T1 ⟨_, O1, (fitI_of (by decide +kernel)).fit⟩
      · exact Okv.same T2 ⟨_, O2, ⟨by decide +kernel, fun _ => ⟨_, rfl⟩, by decide +kernel, shown_small (by decide +kernel) (by decide +kernel)⟩⟩
      · exact Okv.same T3 ⟨_, O3, (fitI_of (by decide +kernel)).fit⟩
      · exact Okv.same T4 ⟨_, O4, (fitI_of (by decide +kernel)).fit⟩
      · exact Okv.same T5 ⟨_, O5, (fitI_of (by decide +kernel)).fit⟩
      · exact Okv.same T6 ⟨_, O6, (fitI_of (by decide +kernel)).fit⟩
      · exact Okv.same T7 ⟨_, O7, (fitI_of (by decide +kernel)).fit⟩
      · exact Okv.same T8 ⟨_, O8, (fitI_of (by decide +kernel)).fit⟩
      · exact Okv.same T9 ⟨_, O9, (fitI_of (by decide +kernel)).fit⟩
      · exact ⟨_, O10, (fitI_of (by decide +kernel)).fit⟩
    have S010 := (S08.trans S9).trans S10
    refine ⟨by show 16 ≤ sizeLine; decide, fun l hl => ?_⟩
    have S11 : Same H10 (upd H10 l (.lst [V.non, .bl true, .int (-1), .int 61, .str "0", .str "", .ref p1, .ref p2, .ref p3, .ref p4, .ref p5, .ref p6, .ref p7, .ref p8, .ref p9, .ref p10])) := same_upd hl
    have el : (upd H10 l (.lst [V.non, .bl true, .int (-1), .int 61, .str "0", .str "", .ref p1, .ref p2, .ref p3, .ref p4, .ref p5, .ref p6, .ref p7, .ref p8, .ref p9, .ref p10])) l = some (.lst [V.non, .bl true, .int (-1), .int 61, .str "0", .str "", .ref p1, .ref p2, .ref p3, .ref p4, .ref p5, .ref p6, .ref p7, .ref p8, .ref p9, .ref p10]) := upd_same
    have all2 := fun v hv => Okv.same S11 (all1 v hv)
    generalize hvs : [V.non, .bl true, .int (-1), .int 61, .str "0", .str "", .ref p1, .ref p2, .ref p3, .ref p4, .ref p5, .ref p6, .ref p7, .ref p8, .ref p9, .ref p10] = vs1
    have hvl : vs1.length = 16 := by rw [← hvs]; rfl
    rw [hvs] at S11 el all2
    revert S11 el all2
    generalize upd H10 l _ = H11
    intro all2 el S11
    have S011 := S010.trans S11
    -- the second list
    refine ⟨_, rfl, Nat.zero_le _, fun t1 f1 => ?_⟩
    obtain ⟨U1, N1⟩ := new_tup (h := h) f1 .nil
    revert U1 N1; generalize upd H11 t1 _ = G1; intro U1 N1
    refine ⟨by show 1 ≤ sizeLine; decide, fun t2 f2 => ?_⟩
    obtain ⟨U2, N2⟩ := new_tup f2 (dq1 N1)
    revert U2 N2; generalize upd G1 t2 _ = G2; intro U2 N2
    refine ⟨by show 1 ≤ sizeLine; decide, fun t3 f3 => ?_⟩
    obtain ⟨U3, N3⟩ := new_lst (hh.same ((S011.trans U1).trans U2)) f3 (dq1 (.int 0))
    revert U3 N3; generalize upd G2 t3 _ = G3; intro U3 N3
    refine ⟨by show 1 ≤ sizeLine; decide, fun t4 f4 => ?_⟩
    obtain ⟨U4, N4⟩ := new_tup f4 (dq1 N3)
    revert U4 N4; generalize upd G3 t4 _ = G4; intro U4 N4
    refine fun t5 f5 => ⟨upd_same, [(.inl 0, .int 1)], rfl, by decide, ?_⟩
    have U5 : Same G4 (upd (upd G4 t5 (.dK [])) t5 (.dK (mergeK [] [(.inl 0, .int 1)]))) := fun b o eb => by
      rw [upd_ne (ne_of_none eb f5), upd_ne (ne_of_none eb f5)]
      exact eb
    have N5 : Dq h (upd (upd G4 t5 (.dK [])) t5 (.dK (mergeK [] [(.inl 0, .int 1)]))) (.ref t5) (.dict [(.int 0, .int 1)]) := .dic [(0, 1)] upd_same
    revert U5 N5; generalize upd (upd G4 t5 _) t5 _ = G5; intro U5 N5
    refine ⟨by show 1 ≤ sizeLine; decide, fun t6 f6 => ?_⟩
    obtain ⟨U6, N6⟩ := new_tup f6 (dq1 (h := h) (.int 1))
    revert U6 N6; generalize upd G5 t6 _ = G6; intro U6 N6
    refine ⟨by show 2 ≤ sizeLine; decide, fun t7 f7 => ?_⟩
    obtain ⟨U7, N7⟩ := new_tup f7 (dq2 (.int 0) N6)
    revert U7 N7; generalize upd G6 t7 _ = G7; intro U7 N7
    refine ⟨by show 4 ≤ sizeLine; decide, fun l2 hl2 => ?_⟩
    have W5 := (U6.trans U7)
    have W4 := U5.trans W5
    have W2 := (U3.trans U4).trans W4
    have W0 := (U1.trans U2).trans W2
    have all3 : ∀ v ∈ vs1 ++ [V.ref t2, .ref t4, .ref t5, .ref t7], Okv h G7 v := by
      intro v hv
      rcases List.mem_append.mp hv with hv | hv
      · exact Okv.same W0 (all2 v hv)
      · simp only [List.mem_cons, List.not_mem_nil, or_false] at hv
        rcases hv with rfl | rfl | rfl | rfl
        · exact Okv.same W2 ⟨_, N2, (fitI_of (by decide +kernel)).fit⟩
        · exact Okv.same W4 ⟨_, N4, (fitI_of (by decide +kernel)).fit⟩
        · exact Okv.same W5 ⟨_, N5, ⟨by decide +kernel, fun _ => ⟨_, rfl⟩, by decide +kernel, shown_small (by decide +kernel) (by decide +kernel)⟩⟩
        · exact ⟨_, N7, (fitI_of (by decide +kernel)).fit⟩
    have U8 : Same G7 (upd G7 l2 (.lst [V.ref t2, .ref t4, .ref t5, .ref t7])) := same_upd hl2
    have el8 := (W0.trans U8) _ _ el
    refine ⟨l, l2, vs1, [V.ref t2, .ref t4, .ref t5, .ref t7], rfl, rfl, el8, upd_same, by rw [hvl]; show 20 ≤ sizeLine; decide, fun l3 hl3 => ?_⟩
    have U9 : Same (upd G7 l2 (.lst [V.ref t2, .ref t4, .ref t5, .ref t7])) (upd (upd G7 l2 (.lst [V.ref t2, .ref t4, .ref t5, .ref t7])) l3 (.lst (vs1 ++ [V.ref t2, .ref t4, .ref t5, .ref t7]))) := same_upd hl3
    have el9 : (upd (upd G7 l2 (.lst [V.ref t2, .ref t4, .ref t5, .ref t7])) l3 (.lst (vs1 ++ [V.ref t2, .ref t4, .ref t5, .ref t7]))) l3 = some (.lst (vs1 ++ [V.ref t2, .ref t4, .ref t5, .ref t7])) := upd_same
    have hl : (vs1 ++ [V.ref t2, .ref t4, .ref t5, .ref t7]).length = 20 := by rw [List.length_append, hvl]; rfl
    have X1 : Sx h c H _ := (Sx.refl hh).same ((S011.trans W0).trans (U8.trans U9))
    refine ⟨_, rfl, h, c, 20, rfl, X1.a1, by decide, by decide, fun H12 u X2 u0 u1 => ?_⟩
    obtain ⟨k, rfl⟩ := int_nat u0
    have hk : k < (vs1 ++ [V.ref t2, .ref t4, .ref t5, .ref t7]).length := by omega
    refine ⟨l3, _, _, _, rfl, rfl, SqL.of (X2.kp _ _ el9 (hh.nel (((Sx.refl hh).same ((S011.trans W0).trans U8)).free hl3)).1), atI_nat (List.getElem?_eq_getElem hk), ?_⟩
    exact q H12 _ (X1.trans X2) (Okv.sx X2 (Okv.same (U8.trans U9) (all3 _ (List.getElem_mem hk))))
end
end ST

/-! the law's bent lots -/
namespace ST
open PySem PySem.Spec PyProof.Rows L2 C8
section
variable {K : PySem.W.Frag} {H : Hp} {Q : VK}
theorem cut_sub (ns : List Int) (lo hi : Option Int) : ∃ ks : List Int, cutV (ns.map V.int) lo hi = ks.map V.int ∧ ks.length ≤ ns.length ∧ ∀ k ∈ ks, k ∈ ns := by
  refine ⟨(ns.drop (HT.sIx (ns.map V.int).length 0 lo)).take (HT.sIx (ns.map V.int).length (ns.map V.int).length hi - HT.sIx (ns.map V.int).length 0 lo), ?_, ?_, fun k hk => List.mem_of_mem_drop (List.mem_of_mem_take hk)⟩
  · unfold cutV
    rw [List.map_take, List.map_drop]
  · rw [List.length_take, List.length_drop]
    omega
/-- a slice of a tuple of ints -/
theorem sl_ints {a : Addr} {ns : List Int} {lo hi : Option Int} (ha : H a = some (.tup (ns.map V.int))) (q : ∀ H' p (ms : List Int), Same H H' → H' p = some (.tup (ms.map V.int)) → ms.length ≤ ns.length → (∀ n ∈ ms, n ∈ ns) → Q (.ref p) H') :
    rSlA K (.ref a) lo hi H Q := by
  refine ⟨a, _, rfl, SqT.of ha, fun _ => q H a ns (Same.refl H) ha (Nat.le_refl _) fun _ h => h, fun _ p hp => ?_⟩
  obtain ⟨ks, e, hl, hm⟩ := cut_sub ns lo hi
  rw [e]
  exact q _ p ks (same_upd hp) upd_same hl hm
/-- t + u -/
theorem cat_tups {a b : Addr} {xs ys : List V} (ha : H a = some (.tup xs)) (hb : H b = some (.tup ys)) (hl : xs.length + ys.length ≤ 1000) (q : ∀ H' p, Same H H' → H' p = some (.tup (xs ++ ys)) → Q (.ref p) H') :
    rCatA K (.ref a) (.ref b) H Q := by
  refine ⟨a, b, xs, ys, rfl, rfl, SqT.of ha, SqT.of hb, by rw [sizeLine_eq]; omega, fun e => ?_, fun _ e => ?_, fun _ _ p hp => q _ p (same_upd hp) upd_same⟩
  · exact q H b (Same.refl H) (by rw [e]; exact hb)
  · exact q H a (Same.refl H) (by rw [e, List.append_nil]; exact ha)
/-- tuple(sorted(set(xs))) -/
theorem tss {w : World} {D : Addr} {xs : List Int} (e : H D = some (.lst (xs.map V.int))) (hl : xs.length ≤ 30) (q : ∀ H' p (ms : List Int), Same H H' → H' p = some (.tup (ms.map V.int)) → ms.length ≤ xs.length → (∀ n ∈ ms, n ∈ xs) → Q (.ref p) H') :
    rSetL K w [.ref D] H fun v H1 => rSortedSet w [v] H1 fun v2 H2 => ∃ p ys, [v2] = [V.ref p] ∧ ((SqL K H2 p ys ∧ ∀ l, H2 l = none → Q (V.ref l) (upd H2 l (HO.tup ys))) ∨ (SqT K H2 p ys ∧ Q (V.ref p) H2)) := by
  refine ⟨D, xs, rfl, SqL.of e, by omega, fun p1 n ks h1 hn nd hk hm => ⟨p1, _, n, rfl, upd_same, by omega, fun ms p2 pw hms hml h2 => ⟨p2, _, rfl, .inl ⟨SqL.of upd_same, fun p3 h3 => ?_⟩⟩⟩⟩
  exact q _ p3 ms (((same_upd h1).trans (same_upd h2)).trans (same_upd h3)) upd_same (by omega) fun k hk' => by simpa using (hms k).mp hk'
/-- a tuple of small ints -/
theorem okv_ints {h p : Addr} {ms : List Int} (e : H p = some (.tup (ms.map V.int))) (hb : ∀ n ∈ ms, 0 ≤ n ∧ n ≤ 60) (hl : ms.length ≤ 100) : Okv h H (.ref p) :=
  ⟨_, .tup e (DqAll.ints ms), fit_tup (fitI_ints fun n hn => by have := hb n hn; omega) (by rw [List.length_map]; exact hl)⟩
end
section
variable {P : Program} {w : World} {K : PySem.W.Frag} {mg : Str → Option Value} {base : Heap}
abbrev sBent : Stmt := top 44
abbrev nBent : List Str := ["_law_hand_here", "_law_lot", "_law_many", "_law_kind", "_law_at", "_law_more"]
theorem scBent : FnScope nBent ["_law_hand_here", "_law_lot", "_law_many"] (C8.fnScope sBent) := fnScope_by (by decide +kernel)
def spBent : Sp := fun vs H Q _ => ∃ h c a m ns, vs = [.ref h, .ref a, .int m] ∧ HandAt h c H ∧ H a = some (.tup ((ns : List Int).map V.int)) ∧ (∀ n ∈ ns, 0 ≤ n ∧ n ≤ 60) ∧ ns.length ≤ 10 ∧ 0 ≤ m ∧ m ≤ 60 ∧ ∀ H' v, Sx h c H H' → Okv h H' v → Q v H'
theorem ok_bent_lot (B : Nb mg) (D : DB K mg "_law_bent_lot" sBent ["_law_hand_here", "_law_lot", "_law_many"]) (c1 : Cal P w K mg base 2 "_law_draw" spDraw []) (c2 : Cal P w K mg base 3 "_law_odd" spOdd []) : Cal P w K mg base 4 "_law_bent_lot" spBent [] := by
  refine calB D scBent (fun vs H Q E h => ?_) (fun f cdv A outer s H vs Q E hr h => ?_)
  · obtain ⟨h, c, a, m, ns, rfl, _⟩ := h
    rfl
  · obtain ⟨h, c, a, m, ns, rfl, hh, ha, hns, hnl, m0, m1, q⟩ := h
    have nd := scBent.nd
    refine ⟨_, pss_cons (ps_par (i := 3) (j := 4) (by rfl) nd rfl rfl (by decide) rfl rfl (pa_cons (pe_c c1 hr (by decide) (by rfl) (pa_cons (pv 0) (pa_cons pe_int pa_nil)))
          (pa_cons (pe_c c1 hr (by decide) (by rfl) (pa_cons (pv 0) (pa_cons (pe_op op_add (pe_callB call_len_seq (by rfl) B.len PySem.boot_len (pa_cons (pv 1) pa_nil)) pe_int) pa_nil))) pa_nil)) (by rfl))
      (pss_cons (ps_set (i := 5) nd rfl (.inl rfl) (pe_c c1 hr (by decide) (by rfl) (pa_cons (pv 0) (pa_cons (pe_callB (call_max2 rfl) (by rfl) B.max (by decide +kernel) (pa_cons pe_int (pa_cons (pv 2) pa_nil))) pa_nil))))
      (pss_cons (ps_if (pt_cmpR op_eq (pv 3) pe_int (nomark _)) (pss_one (ps_ret (pe_c c2 hr (by decide) (by rfl) (pa_cons (pv 0) pa_nil)))) pss_nil)
      (pss_cons (ps_if (pt_cmpR op_eq (pv 3) pe_int (nomark _)) (pss_one (ps_ret (pe_op op_catA (pe_slice sl_tupA (pv 1) po_none (po_some (pv 4))) (pe_slice sl_tupA (pv 1) (po_some (pe_op op_add (pv 4) pe_int)) po_none)))) pss_nil)
      (pss_cons (ps_if (pt_cmpR op_lt (pv 3) pe_int (nomark _)) (pss_one (ps_ret (pe_callTy call_tuple_of (by rfl) B.tuple (by decide +kernel) (pa_cons (pe_callB (cr_sortedSet rfl) (by rfl) B.sorted (by decide +kernel) (pa_cons
          (pe_callTy (cr_setL rfl) (by rfl) B.set (by decide +kernel) (pa_cons (pe_op op_cat (pe_callTy call_list_of (by rfl) B.list (by decide +kernel)
            (pa_cons (pe_op op_catA (pe_slice sl_tupA (pv 1) po_none (po_some (pv 4))) (pe_slice sl_tupA (pv 1) (po_some (pe_op op_add (pv 4) pe_int)) po_none)) pa_nil)) (pe_lst (pa_cons (pv 5) pa_nil))) pa_nil)) pa_nil)) pa_nil)))) pss_nil)
      (pss_cons (ps_if (pt_cmpR op_eq (pv 3) pe_int (nomark _)) (pss_one (ps_ret (pe_callTy call_tuple_of (by rfl) B.tuple (by decide +kernel) (pa_cons (pe_callB (cr_sortedSet rfl) (by rfl) B.sorted (by decide +kernel) (pa_cons
          (pe_callTy (cr_setL rfl) (by rfl) B.set (by decide +kernel) (pa_cons (pe_op op_cat (pe_callTy call_list_of (by rfl) B.list (by decide +kernel)
            (pa_cons (pv 1) pa_nil)) (pe_lst (pa_cons (pv 5) pa_nil))) pa_nil)) pa_nil)) pa_nil)))) pss_nil)
      (pss_cons (ps_if (pt_cmpR op_eq (pv 3) pe_int (nomark _)) (pss_one (ps_ret (pe_ix ix_list (pe_lst (pa_cons (pe_callTy call_list_of (by rfl) B.list (by decide +kernel) (pa_cons (pv 1) pa_nil)) (pa_cons (pe_revT (pv 1))
          (pa_cons (pe_op op_catA (pv 1) (pe_slice sl_tupA (pv 1) (po_some (pe_un un_neg pe_int)) po_none)) (pa_cons (pe_op op_catA (pv 1) (pe_tup (pa_cons (pv 2) pa_nil))) pa_nil)))))
          (pe_c c1 hr (by decide) (by rfl) (pa_cons (pv 0) (pa_cons pe_int pa_nil))) (fun _ _ => rfl)))) pss_nil)
      (pss_one (ps_ret (pe_op op_catA (pe_op op_catA (pe_slice sl_tupA (pv 1) po_none (po_some (pv 4)))
          (pe_tup (pa_cons (pe_ix ix_list (pe_lst (pa_cons pe_bl (pa_cons pe_non (pa_cons (pe_un un_neg pe_int) (pa_cons (pv 2) (pa_cons pe_str (pa_cons (pe_tup (pa_cons pe_int pa_nil)) (pa_cons (pe_op op_pow pe_int pe_int) (pa_cons (pv 5) pa_nil)))))))))
            (pe_c c1 hr (by decide) (by rfl) (pa_cons (pv 0) (pa_cons pe_int pa_nil))) (fun _ _ => rfl)) pa_nil))) (pe_slice sl_tupA (pv 1) (po_some (pe_op op_add (pv 4) pe_int)) po_none)))))))))), ?_⟩
    have hnm : (ns.map V.int).length = ns.length := List.length_map _
    refine ⟨_, rfl, h, c, 8, rfl, hh, by decide, by decide, fun H1 kd X1 kd0 kd1 => ?_⟩
    have ha1 := X1.tup ha
    refine ⟨_, rfl, _, rfl, a, _, rfl, .inr (SqT.of ha1), _, 1, rfl, rfl, h, c, _, rfl, X1.a1, by rw [hnm]; omega, by rw [hnm]; omega, fun H2 at_ X2 at0 at1 => ?_⟩
    refine ⟨_, _, rfl, ?_⟩
    have X02 := X1.trans X2
    refine ⟨_, rfl, _, rfl, 1, m, rfl, h, c, _, rfl, X02.a1, ?_, ?_, fun H3 more X3 mr0 mr1 => ?_⟩
    · show (0 : Int) < if m > 1 then m else 1
      split <;> omega
    · show (if m > 1 then m else 1) < 1000000
      split <;> omega
    have mr2 : more ≤ 60 := by
      have z : more < if m > 1 then m else 1 := mr1
      split at z <;> omega
    have X03 := X02.trans X3
    have ha3 := X03.tup ha
    -- lot[:at] + lot[at + 1:]
    have cut2 : ∀ (σ : L2.St) (Q : VK), σ[1]? = some (some (.ref a)) → σ[4]? = some (some (.int at_)) → (∀ H' p (ms : List Int), Same H3 H' → H' p = some (.tup (ms.map V.int)) → ms.length ≤ 20 → (∀ n ∈ ms, n ∈ ns) → Q (.ref p) H') →
        tOp (rCatA K) (tSl (rSlA K) (tVar 1) tNoPart (tPart (tVar 4))) (tSl (rSlA K) (tVar 1) (tPart (tOp (rI0 fun i j => .int (i + j)) (tVar 4) (tC (.int 1)))) tNoPart) σ H3 Q := fun σ Q s1 s4 q' => by
      refine ⟨_, s1, _, s4, at_, rfl, sl_ints ha3 fun H4 p4 ms4 S4 e4 l4 b4 => ?_⟩
      refine ⟨_, s1, _, s4, at_, 1, rfl, rfl, _, rfl, ?_⟩
      unfold tNoPart
      refine sl_ints (S4 _ _ ha3) fun H5 p5 ms5 S5 e5 l5 b5 => ?_
      refine cat_tups (S5 _ _ e4) e5 (by rw [List.length_map, List.length_map]; omega) fun H6 p6 S6 e6 => ?_
      rw [← List.map_append] at e6
      refine q' H6 p6 _ ((S4.trans S5).trans S6) e6 (by rw [List.length_append]; omega) fun n hn => ?_
      rcases List.mem_append.mp hn with z | z
      · exact b4 n z
      · exact b5 n z
    refine ⟨_, rfl, rfl, _, rfl, ite2 (fun hk => ?_) (fun hk => ?_)⟩
    · exact ⟨_, rfl, h, c, rfl, X03.a1, fun H4 v X4 ok => q H4 v (X03.trans X4) ok⟩
    refine ⟨_, rfl, rfl, _, rfl, ite2 (fun hk => ?_) (fun hk => ?_)⟩
    · exact cut2 _ _ rfl rfl fun H4 p ms S e l b => q H4 _ (X03.same S) (okv_ints e (fun n hn => hns n (b n hn)) (by omega))
    have tail : ∀ (H4 : Hp) (t : Addr) (ms : List Int) (σ : L2.St), σ[5]? = some (some (.int more)) → Same H3 H4 → H4 t = some (.tup (ms.map V.int)) → ms.length ≤ 20 → (∀ n ∈ ms, n ∈ ns) → ∀ l, H4 l = none →
        tLst (tCons (tVar 5) tNil) σ (upd H4 l (.lst (ms.map V.int))) fun y H5 => rCat (.ref l) y H5 fun v H6 => rSetL K w [v] H6 fun v H7 => rSortedSet w [v] H7 fun v2 H8 =>
          ∃ p ys, [v2] = [V.ref p] ∧ ((SqL K H8 p ys ∧ ∀ l, H8 l = none → Q (V.ref l) (upd H8 l (HO.tup ys))) ∨ (SqT K H8 p ys ∧ Q (V.ref p) H8)) := fun H4 t ms σ s5 S4 e4 l4 b4 l hl => by
      refine ⟨_, s5, by show 1 ≤ sizeLine; decide, fun l2 hl2 => ?_⟩
      have S5 : Same H4 (upd H4 l (.lst (ms.map V.int))) := same_upd hl
      have S6 : Same (upd H4 l (.lst (ms.map V.int))) (upd (upd H4 l (.lst (ms.map V.int))) l2 (.lst [.int more])) := same_upd hl2
      refine ⟨l, l2, ms.map V.int, [.int more], rfl, rfl, S6 _ _ upd_same, upd_same, by rw [List.length_map, sizeLine_eq]; show ms.length + 1 ≤ _; omega, fun l3 hl3 => ?_⟩
      have e7 : (upd (upd (upd H4 l (.lst (ms.map V.int))) l2 (.lst [.int more])) l3 (.lst (ms.map V.int ++ [.int more]))) l3 = some (.lst ((ms ++ [more]).map V.int)) := by rw [upd_same, List.map_append]; rfl
      refine tss e7 (by rw [List.length_append]; show ms.length + 1 ≤ 30; omega) fun H8 p ks S8 e8 l8 b8 => ?_
      refine q H8 _ (X03.same ((((S4.trans S5).trans S6).trans (same_upd hl3)).trans S8)) (okv_ints e8 (fun n hn => ?_) (by rw [List.length_append] at l8; have : [more].length = 1 := rfl; omega))
      rcases List.mem_append.mp (b8 n hn) with z | z
      · exact hns n (b4 n z)
      · rw [List.mem_singleton.mp z]
        omega
    refine ⟨_, rfl, _, _, rfl, rfl, _, rfl, ite2 (fun hk => ?_) (fun hk => ?_)⟩
    · exact cut2 _ _ rfl rfl fun H4 p ms S e l b => ⟨p, _, rfl, .inr (SqT.of e), fun l hl => tail H4 p ms _ rfl S e (by omega) b l hl⟩
    refine ⟨_, rfl, rfl, _, rfl, ite2 (fun hk => ?_) (fun hk => ?_)⟩
    · exact ⟨_, rfl, a, _, rfl, .inr (SqT.of ha3), fun l hl => tail H3 a ns _ rfl (Same.refl H3) ha3 (by omega) (fun _ z => z) l hl⟩
    refine ⟨_, rfl, rfl, _, rfl, ite2 (fun hk => ?_) (fun hk => ?_)⟩
    · refine ⟨_, rfl, a, _, rfl, .inr (SqT.of ha3), fun l1 hl1 => ?_⟩
      obtain ⟨S4, N4⟩ := new_lst X03.a1 hl1 (DqAll.ints (h := h) (H := H3) ns)
      revert S4 N4; generalize upd H3 l1 _ = H4; intro S4 N4
      have ha4 := S4 _ _ ha3
      refine ⟨_, rfl, a, _, rfl, SqT.of ha4, fun p2 h2 => ?_⟩
      have S5 : Same H4 (upd H4 p2 (.tup (ns.map V.int).reverse)) := same_upd h2
      have N5 : (upd H4 p2 (.tup (ns.map V.int).reverse)) p2 = some (.tup (ns.reverse.map V.int)) := by rw [upd_same, List.map_reverse]
      revert S5 N5; generalize upd H4 p2 _ = H5; intro S5 N5
      have ha5 := S5 _ _ ha4
      refine ⟨_, rfl, _, rfl, 1, rfl, _, rfl, ?_⟩
      unfold tNoPart
      refine sl_ints ha5 fun H6 p6 ms6 S6 e6 l6 b6 => ?_
      refine cat_tups (S6 _ _ ha5) e6 (by rw [List.length_map, List.length_map]; omega) fun H7 p7 S7 e7 => ?_
      rw [← List.map_append] at e7
      have ha7 := S7 _ _ (S6 _ _ ha5)
      refine ⟨_, rfl, _, rfl, by show 1 ≤ sizeLine; decide, fun p8 h8 => ?_⟩
      have S8 : Same H7 (upd H7 p8 (.tup [.int m])) := same_upd h8
      refine cat_tups (S8 _ _ ha7) upd_same (by rw [List.length_map]; show ns.length + 1 ≤ 1000; omega) fun H9 p9 S9 e9 => ?_
      have e9' : H9 p9 = some (.tup ((ns ++ [m]).map V.int)) := by rw [e9, List.map_append]; rfl
      refine ⟨by show 4 ≤ sizeLine; decide, fun l hl => ?_⟩
      have S10 : Same H9 (upd H9 l (.lst [.ref l1, .ref p2, .ref p7, .ref p9])) := same_upd hl
      have el : (upd H9 l (.lst [.ref l1, .ref p2, .ref p7, .ref p9])) l = some (.lst [.ref l1, .ref p2, .ref p7, .ref p9]) := upd_same
      have T79 := (S7.trans S8).trans S9
      have X09 := X03.same (((S4.trans S5).trans S6).trans T79)
      have X10 := X09.same S10
      have nlh := (hh.nel (X09.free hl)).1
      have bi : ∀ n ∈ ns ++ [m], 0 ≤ n ∧ n ≤ 60 := fun n hn => by
        rcases List.mem_append.mp hn with z | z
        · exact hns n z
        · rw [List.mem_singleton.mp z]
          omega
      have all : ∀ v ∈ [V.ref l1, .ref p2, .ref p7, .ref p9], Okv h H9 v := by
        intro v hv
        simp only [List.mem_cons, List.not_mem_nil, or_false] at hv
        rcases hv with rfl | rfl | rfl | rfl
        · exact Okv.same ((S5.trans S6).trans T79) ⟨_, N4, fit_lst (fitI_ints fun n hn => by have := hns n hn; omega) (by rw [List.length_map]; omega)⟩
        · exact Okv.same (S6.trans T79) (okv_ints N5 (fun n hn => hns n (List.mem_reverse.mp hn)) (by rw [List.length_reverse]; omega))
        · refine Okv.same (S8.trans S9) (okv_ints e7 (fun n hn => ?_) (by rw [List.length_append]; omega))
          rcases List.mem_append.mp hn with z | z
          · exact hns n z
          · exact hns n (b6 n z)
        · exact okv_ints e9' bi (by rw [List.length_append]; show ns.length + 1 ≤ 100; omega)
      refine ⟨_, rfl, h, c, 4, rfl, X10.a1, by decide, by decide, fun H11 u X11 u0 u1 => ?_⟩
      obtain ⟨k, rfl⟩ := int_nat u0
      have hk : k < [V.ref l1, .ref p2, .ref p7, .ref p9].length := by show k < 4; omega
      refine ⟨l, _, _, _, rfl, rfl, SqL.of (X11.kp _ _ el nlh), atI_nat (List.getElem?_eq_getElem hk), ?_⟩
      exact q H11 _ (X10.trans X11) (Okv.sx X11 (Okv.same S10 (all _ (List.getElem_mem hk))))
    · refine ⟨_, rfl, _, rfl, at_, rfl, sl_ints ha3 fun H4 p4 ms4 S4 e4 l4 b4 => ?_⟩
      refine ⟨1, rfl, _, rfl, by show 1 ≤ sizeLine; decide, fun p5 h5 => ?_⟩
      obtain ⟨S5, N5⟩ := new_tup (h := h) h5 (dq1 (.int 1))
      revert S5 N5; generalize upd H4 p5 _ = H5; intro S5 N5
      refine ⟨10, 30, rfl, rfl, ⟨by decide, by decide, by decide⟩, _, rfl, by show 8 ≤ sizeLine; decide, fun l hl => ?_⟩
      have S6 : Same H5 (upd H5 l (.lst [.bl true, .non, .int (-1), .int m, .str "1", .ref p5, .int ((10 : Int) ^ (30 : Int).toNat), .int more])) := same_upd hl
      have el : (upd H5 l (.lst [.bl true, .non, .int (-1), .int m, .str "1", .ref p5, .int ((10 : Int) ^ (30 : Int).toNat), .int more])) l = some (.lst [.bl true, .non, .int (-1), .int m, .str "1", .ref p5, .int ((10 : Int) ^ (30 : Int).toNat), .int more]) := upd_same
      have X05 := X03.same (S4.trans S5)
      have X06 := X05.same S6
      have nlh := (hh.nel (X05.free hl)).1
      have all : ∀ v ∈ [V.bl true, .non, .int (-1), .int m, .str "1", .ref p5, .int ((10 : Int) ^ (30 : Int).toNat), .int more], ∃ d, Dq h H5 v d ∧ FitI d := by
        intro v hv
        simp only [List.mem_cons, List.not_mem_nil, or_false] at hv
        rcases hv with rfl | rfl | rfl | rfl | rfl | rfl | rfl | rfl
        · exact ⟨_, .bl true, fitI_of (by decide +kernel)⟩
        · exact ⟨_, .non, fitI_of (by decide +kernel)⟩
        · exact ⟨_, .int _, fitI_of (by decide +kernel)⟩
        · exact ⟨_, .int _, fitI_int (by omega)⟩
        · exact ⟨_, .str _, fitI_of (by decide +kernel)⟩
        · exact ⟨_, N5, fitI_of (by decide +kernel)⟩
        · exact ⟨_, .int _, fitI_of (by decide +kernel)⟩
        · exact ⟨_, .int _, fitI_int (by omega)⟩
      refine ⟨_, rfl, h, c, 8, rfl, X06.a1, by decide, by decide, fun H7 u X7 u0 u1 => ?_⟩
      obtain ⟨k, rfl⟩ := int_nat u0
      have hk : k < [V.bl true, .non, .int (-1), .int m, .str "1", .ref p5, .int ((10 : Int) ^ (30 : Int).toNat), .int more].length := by show k < 8; omega
      obtain ⟨d, hd, fd⟩ := all _ (List.getElem_mem hk)
      refine ⟨l, _, _, _, rfl, rfl, SqL.of (X7.kp _ _ el nlh), atI_nat (List.getElem?_eq_getElem hk), ?_⟩
      have hd7 := Dq.keep X7.kt _ _ (Dq.keep (Kt.same S6) _ _ hd)
      generalize [V.bl true, .non, .int (-1), .int m, .str "1", .ref p5, .int ((10 : Int) ^ (30 : Int).toNat), .int more][k] = v at hd7 ⊢
      refine ⟨by show 1 ≤ sizeLine; decide, fun p8 h8 => ?_⟩
      have S8 : Same H7 (upd H7 p8 (.tup [v])) := same_upd h8
      have e7 := X7.tup (S6 _ _ (S5 _ _ e4))
      refine cat_tups (S8 _ _ e7) upd_same (by rw [List.length_map]; show ms4.length + 1 ≤ 1000; omega) fun H9 p9 S9 e9 => ?_
      have ha9 := S9 _ _ (S8 _ _ (X7.tup (S6 _ _ (S5 _ _ (S4 _ _ ha3)))))
      refine ⟨_, rfl, _, rfl, at_, 1, rfl, rfl, _, rfl, ?_⟩
      unfold tNoPart
      refine sl_ints ha9 fun H10 p10 ms10 S10 e10 l10 b10 => ?_
      refine cat_tups (S10 _ _ e9) e10 (by rw [List.length_append, List.length_map, List.length_map]; show ms4.length + 1 + ms10.length ≤ 1000; omega) fun H11 p11 S11 e11 => ?_
      refine q H11 _ ((X06.trans X7).same (((S8.trans S9).trans S10).trans S11)) ⟨.tuple ((ms4.map PyData.int ++ [d]) ++ ms10.map PyData.int), .tup e11 (((DqAll.ints ms4).append (dq1 (Dq.keep (Kt.same (((S8.trans S9).trans S10).trans S11)) _ _ hd7))).append (DqAll.ints ms10)), fit_tup (fun z hz => ?_) ?_⟩
      · rcases List.mem_append.mp hz with hz | hz
        · rcases List.mem_append.mp hz with hz | hz
          · exact fitI_ints (ns := ms4) (fun n hn => by have := hns n (b4 n hn); omega) z hz
          · rw [List.mem_singleton.mp hz]
            exact fd
        · exact fitI_ints (ns := ms10) (fun n hn => by have := hns n (b10 n hn); omega) z hz
      · rw [List.length_append, List.length_append, List.length_map, List.length_map]
        show ms4.length + 1 + ms10.length ≤ 100
        omega
end
end ST

/-! the law's own look at trees: is_wood, chain -/
namespace ST
open PySem PySem.Spec PyProof.Rows L2 C8
/-- the dict of the places ahead -/
def aheadK (es : List Lk) (ns : List Int) : List (Key × V) := ns.map fun n => (Sum.inl (toL es n), V.int (frL es n))
theorem aheadK_val (es : List Lk) (x : Int) : ∀ ns : List Int, valV (aheadK es ns) (Sum.inl x) = (ns.find? fun n => decide (toL es n = x)).map fun n => V.int (frL es n)
  | [] => rfl
  | n :: r => by
    have ih := aheadK_val es x r
    unfold valV aheadK at ih ⊢
    rw [List.map_cons, List.find?_cons, List.find?_cons]
    by_cases z : toL es n = x
    · have h1 : decide ((Sum.inl (toL es n) : Key) = Sum.inl x) = true := decide_eq_true (by rw [z])
      rw [decide_eq_true z]
      simp only [h1]
      rfl
    · have h1 : decide ((Sum.inl (toL es n) : Key) = Sum.inl x) = false := decide_eq_false fun e => z (Sum.inl.inj e)
      rw [decide_eq_false z]
      simp only [h1]
      exact ih
theorem aheadK_some (es : List Lk) (x : Int) (ns : List Int) : (valV (aheadK es ns) (Sum.inl x)).isSome = decide (x ∈ ends es ns) := by
  rw [aheadK_val, Option.isSome_map, Bool.eq_iff_iff, decide_eq_true_iff, List.find?_isSome]
  unfold ends
  rw [List.mem_map]
  simp only [decide_eq_true_eq]
theorem aheadK_get (es : List Lk) (x : Int) (ns : List Int) : (valV (aheadK es ns) (Sum.inl x)).getD (.int x) = .int (ahead es ns x) := by
  rw [aheadK_val]
  unfold ahead
  cases ns.find? fun n => decide (toL es n = x) <;> rfl
theorem aheadK_put (es : List Lk) (n : Int) (ns : List Int) (h : toL es n ∉ ends es ns) : putK (aheadK es ns) (Sum.inl (toL es n)) (.int (frL es n)) = aheadK es (ns ++ [n]) := by
  have hno : ((aheadK es ns).any fun kv => decide (kv.1 = (Sum.inl (toL es n) : Key))) = false := by
    rw [List.any_eq_false]
    intro kv hkv
    obtain ⟨k, hk, rfl⟩ := List.mem_map.mp hkv
    simp only [decide_eq_true_eq]
    intro e
    exact h (List.mem_map.mpr ⟨k, hk, Sum.inl.inj e⟩)
  unfold putK
  rw [if_neg (by rw [hno]; decide)]
  unfold aheadK
  rw [List.map_append]
  rfl
theorem iter_snoc (es : List Lk) (ns : List Int) : ∀ (k : Nat) (x : Int), iterA es ns (k + 1) x = ahead es ns (iterA es ns k x)
  | 0, x => rfl
  | k + 1, x => by
    show iterA es ns (k + 1) (ahead es ns x) = _
    rw [iter_snoc es ns k]
    rfl
section
variable {P : Program} {w : World} {K : PySem.W.Frag} {mg : Str → Option Value} {base : Heap}
/-! ### the law's _law_is_wood -/
abbrev sLawWood : Stmt := top 41
abbrev nLawWood : List Str := ["_law_parts", "_law_sources", "_law_thing", "_law_many", "_law_links", "_law_ahead", "_law_link", "_law_place", "_law_here", "_law_turn"]
theorem scLawWood : FnScope nLawWood ["_law_parts", "_law_sources", "_law_thing"] (C8.fnScope sLawWood) := fnScope_by (by decide +kernel)
def spLawWood : Sp := fun vs H Q _ => ∃ p s v m r t ls es d h, vs = [.ref p, .ref s, v] ∧ PartsOk H p m r t ls es ∧ H s = some (.tup [.int r]) ∧ Dq h H v d ∧
  ∀ H' b, Same H H' → (b = true → IsTree es r m d) → ((∃ ns, TreeB es r m d ns) → b = true) → Q (.bl b) H'
theorem ok_law_wood (B : Nb mg) (D : DB K mg "_law_is_wood" sLawWood ["_law_parts", "_law_sources", "_law_thing"]) (c1 : Cal P w K mg base 2 "_law_is_lot" spIsLot []) : Cal P w K mg base 3 "_law_is_wood" spLawWood [] := by
  refine calB D scLawWood (fun vs H Q E h => ?_) (fun f cdv A outer s H vs Q E hr h => ?_)
  · obtain ⟨p, s, v, m, r, t, ls, es, d, h, rfl, _⟩ := h
    rfl
  · obtain ⟨p, so, v, m, r, t, ls, es, d, h, rfl, hp, hso, x, q⟩ := h
    have nd := scLawWood.nd
    refine ⟨_, pss_cons (ps_par (i := 3) (j := 4) (by rfl) nd rfl rfl (by decide) rfl rfl (pa_cons (pe_ix ix_tup (pv 0) pe_int (fun _ _ => rfl)) (pa_cons (pe_ix ix_tup (pv 0) pe_int (fun _ _ => rfl)) pa_nil)) (by rfl))
      (pss_cons (ps_if (PW.pt (pw_or (pt_not (pt_val (pe_c c1 hr (by decide) (by rfl) (pa_cons (pv 2) (pa_cons (pe_callB call_len_seq (by rfl) B.len PySem.boot_len (pa_cons (pv 4) pa_nil)) pa_nil)))))
          (pw_or1 (pt_cmpR op_ne (pe_callB call_len_seq (by rfl) B.len PySem.boot_len (pa_cons (pv 2) pa_nil)) (pe_op op_sub (pv 3) (pe_callB call_len_seq (by rfl) B.len PySem.boot_len (pa_cons (pv 1) pa_nil))) (nomark _)))))
          (pss_one (ps_ret pe_bl)) pss_nil)
      (pss_cons (ps_set (i := 5) nd rfl (.inl rfl) pe_dnewK)
      (pss_cons (ps_for PassesOwn.never rfl (pi_tup (pv 2)) (pg_name (i := 6) nd rfl (.inl rfl))
        (pss_cons (ps_if (PW.pt (pw_or (pt_cmp (pc_din (Nat.lt_of_le_of_lt (Nat.add_le_add_left (by decide : 1 ≤ 64) _) hr.units) (pe_ix ix_tup (pe_ix ix_tup (pv 4) (pv 6) (fun _ _ => rfl)) pe_int (fun _ _ => rfl)) (pv 5)) rfl)
            (pw_or1 (pt_cmpR (inK K) (pe_ix ix_tup (pe_ix ix_tup (pv 4) (pv 6) (fun _ _ => rfl)) pe_int (fun _ _ => rfl)) (pv 1) (by rfl))))) (pss_one (ps_ret pe_bl)) pss_nil)
          (pss_one (ps_dput (Nat.lt_of_le_of_lt (Nat.add_le_add_left (by decide : 1 ≤ 64) _) hr.units) (pv 5) (pe_ix ix_tup (pe_ix ix_tup (pv 4) (pv 6) (fun _ _ => rfl)) pe_int (fun _ _ => rfl)) (pe_ix ix_tup (pe_ix ix_tup (pv 4) (pv 6) (fun _ _ => rfl)) pe_int (fun _ _ => rfl)) rfl))))
      (pss_cons (ps_for PassesOwn.never rfl (pi_range1 (by rfl) B.range (pa_cons (pv 3) pa_nil)) (pg_name (i := 7) nd rfl (.inl rfl))
        (pss_cons (ps_set (i := 8) nd rfl (.inl rfl) (pv 7))
        (pss_cons (ps_for PassesOwn.never rfl (pi_range1 (by rfl) B.range (pa_cons (pv 3) pa_nil)) (pg_name (i := 9) nd rfl (.inl rfl))
          (pss_one (ps_set (i := 8) nd rfl (.inl rfl) (pe_dget2 (Nat.lt_of_le_of_lt (Nat.add_le_add_left (by decide : 1 ≤ 64) _) hr.units) (pv 5) (pv 8) (pv 8) ⟨rfl, rfl, rfl, rfl⟩))))
        (pss_one (ps_if (pt_cmpR (ninK K) (pv 8) (pv 1) (by rfl)) (pss_one (ps_ret pe_bl)) pss_nil)))))
      (pss_one (ps_ret pe_bl)))))), ?_⟩
    refine ⟨_, rfl, p, _, 0, .int m, rfl, rfl, SqT.of hp.at_, atI_nat (j := 0) rfl, _, rfl, p, _, 2, .ref t, rfl, rfl, SqT.of hp.at_, atI_nat (j := 2) rfl, _, _, rfl, ?_⟩
    have hes : ls.length = es.length := hp.la.1
    refine ⟨_, rfl, _, rfl, t, ls, rfl, .inr (SqT.of hp.lt), v, d, h, _, rfl, x, _, rfl, ?_⟩
    rw [hes]
    cases el : lotD es.length d with
    | false =>
      refine iteT (iteT ?_)
      exact q H false (Same.refl H) (fun z => nomatch z) (fun ⟨ns, TB⟩ => by rw [TB.lotd] at el; cases el)
    | true =>
      obtain ⟨ns, rfl, L⟩ := lotD_true el
      obtain ⟨a, rfl, ha⟩ := dq_ints x
      refine iteF ⟨_, rfl, a, _, rfl, .inr (SqT.of ha), _, rfl, _, rfl, so, _, rfl, .inr (SqT.of hso), m, _, rfl, rfl, rfl, _, rfl, ?_⟩
      refine ite2 (fun hn => ?_) (fun hn => ?_)
      · refine q H false (Same.refl H) (fun z => nomatch z) (fun ⟨ks, TB⟩ => ?_)
        exfalso
        have e := ints_inj (PyData.tuple.inj TB.dt)
        have hl := TB.len
        rw [← e] at hl
        rw [List.length_map, Bool.not_eq_true', decide_eq_false_iff_not] at hn
        exact hn (congrArg V.int hl)
      have hlen : (ns.length : Int) = m - 1 := by
        rw [List.length_map] at hn
        have hn2 : ¬ (!decide (V.int (ns.length : Int) = V.int (m - 1))) = true := hn
        rw [Bool.not_eq_true', decide_eq_false_iff_not, Classical.not_not] at hn2
        exact V.int.inj hn2
      have hv := good_to hp.good L
      have hns : ns.length ≤ 60 := Nat.le_trans L.len hp.few
      have hm2 := hp.m2
      have hm10 := hp.m10
      refine fun ad had => ?_
      have S0 : Same H (upd H ad (.dK [])) := same_upd had
      refine ⟨_, rfl, a, rfl, ⟨_, SqT.of (S0 _ _ ha)⟩, for_tup (K := K) (a := a) (xs := ns.map V.int) (fun i σ H2 => ∃ x6 : Option V, σ = [some (.ref p), some (.ref so), some (.ref a), some (.int m), some (.ref t), some (.ref ad), x6, none, none, none] ∧ Same H H2 ∧
          H2 ad = some (.dK (aheadK es (ns.take i))) ∧ (ends es (ns.take i)).Nodup ∧ r ∉ ends es (ns.take i)) ⟨none, rfl, S0, upd_same, List.nodup_nil, List.not_mem_nil⟩
          (fun i σ H2 _ hh => by obtain ⟨_, _, S2, _⟩ := hh; exact SqT.of (S2 _ _ ha)) (fun i z σ H2 hz hh => ?_) (fun σ H2 hh => ?_)⟩
      · obtain ⟨x6, rfl, S2, ed, hnd, hnr⟩ := hh
        rw [List.getElem?_map] at hz
        obtain ⟨n, hn', rfl⟩ : ∃ n, ns[i]? = some n ∧ z = .int n := by
          cases e : ns[i]? with
          | none => rw [e] at hz; cases hz
          | some n => rw [e] at hz; exact ⟨n, rfl, (Option.some.inj hz).symm⟩
        have hmem := List.mem_of_getElem? hn'
        have hi : i < ns.length := (List.getElem?_eq_some_iff.mp hn').1
        have b := L.2 n hmem
        have P2 := hp.keep (tS S2)
        have et : ns.take (i + 1) = ns.take i ++ [n] := by rw [List.take_add_one, hn']; rfl
        have ee : ends es (ns.take (i + 1)) = ends es (ns.take i) ++ [toL es n] := by rw [et]; unfold ends; rw [List.map_append]; rfl
        have hso2 := S2 _ _ hso
        refine rd_to (fun Q' q' => ⟨_, rfl, q'⟩) P2.lt P2.la rfl b.1 b.2 ⟨_, rfl, ad, _, rfl, DGet.k (k := Sum.inl (toL es n)) ed, _, rfl, ?_⟩
        rw [aheadK_some]
        have bad : toL es n ∈ ends es (ns.take i) ∨ toL es n = r → ∀ ks, TreeB es r m (PyData.tuple (ns.map PyData.int)) ks → False := fun hb ks TB => by
          have e := ints_inj (PyData.tuple.inj TB.dt)
          have on := TB.once
          rw [← e] at on
          rcases hb with hb | hb
          · have h1 : (ends es (ns.take (i + 1))).Nodup := by
              have : ends es (ns.take (i + 1)) = (ends es ns).take (i + 1) := by unfold ends; rw [List.map_take]
              rw [this]
              exact on.1.sublist (List.take_sublist _ _)
            rw [ee] at h1
            exact (List.nodup_append.mp h1).2.2 _ hb _ (List.mem_singleton.mpr rfl) rfl
          · exact on.2 (List.mem_map.mpr ⟨n, hmem, hb⟩)
        cases e1 : decide (toL es n ∈ ends es (ns.take i)) with
        | true => exact iteT (iteT (q H2 false S2 (fun z => nomatch z) (fun ⟨ks, TB⟩ => (bad (.inl (of_decide_eq_true e1)) ks TB).elim)))
        | false =>
          refine iteF (rd_to (fun Q' q' => ⟨_, rfl, q'⟩) P2.lt P2.la rfl b.1 b.2 ⟨_, rfl, ?_⟩)
          refine rd_in (ns := [r]) (.inr (SqT.of hso2)) ⟨_, rfl, ?_⟩
          cases e2 : decide (toL es n ∈ [r]) with
          | true => exact iteT (q H2 false S2 (fun z => nomatch z) (fun ⟨ks, TB⟩ => (bad (.inr (List.mem_singleton.mp (of_decide_eq_true e2))) ks TB).elim))
          | false =>
            have n1 := of_decide_eq_false e1
            have n2 : ¬ toL es n = r := fun z => of_decide_eq_false e2 (List.mem_singleton.mpr z)
            refine iteF ?_
            show tOp (rIxT K) (tOp (rIxT K) (tVar 4) (tVar 6)) (tC (.int 0)) _ _ _
            refine (rd_fr (fun Q' q' => ⟨_, rfl, q'⟩) P2.lt P2.la rfl b.1 b.2 ⟨_, rfl, rd_to (fun Q' q' => ⟨_, rfl, q'⟩) P2.lt P2.la rfl b.1 b.2 ⟨ad, _, rfl, DPut.k (k := Sum.inl (toL es n)) ed ?_, ?_⟩⟩)
            · unfold aheadK
              rw [List.length_map, List.length_take]
              exact small1000 (by omega)
            · refine ⟨_, rfl, fun b o eb => ?_, ?_, ?_, ?_⟩
              · rw [upd_ne (ne_of_none eb had)]
                exact S2 b o eb
              · rw [upd_same, aheadK_put _ _ _ n1, et]
              · rw [ee]
                refine List.nodup_append.mpr ⟨hnd, (by simp), fun u hu' v hv' e => ?_⟩
                rw [List.mem_singleton.mp hv'] at e
                rw [e] at hu'
                exact n1 hu'
              · rw [ee]
                intro z
                rcases List.mem_append.mp z with z | z
                · exact hnr z
                · exact n2 (List.mem_singleton.mp z).symm
      · obtain ⟨x6, rfl, S2, ed, hnd, hnr⟩ := hh
        rw [List.length_map, List.take_length] at ed hnd hnr
        have on : Once es ns r := ⟨hnd, hnr⟩
        refine ⟨_, rfl, m, rfl, by omega, by omega, ?_⟩
        refine for_range (lo := 0) (n := m.toNat) (fun i σ H3 => ∃ x7 x8 x9 : Option V, σ = [some (.ref p), some (.ref so), some (.ref a), some (.int m), some (.ref t), some (.ref ad), x6, x7, x8, x9] ∧ H3 = H2 ∧ ∀ p : Int, 0 ≤ p → p < i → iterA es ns m.toNat p = r)
          ⟨none, none, none, rfl, rfl, fun p p0 p1 => by omega⟩ (fun i σ H3 hi hI => ?_) (fun σ H3 hI => ?_)
        · obtain ⟨x7, x8, x9, rfl, rfl, hit⟩ := hI
          refine ⟨_, rfl, _, rfl, m, rfl, by omega, by omega, ?_⟩
          refine for_range (lo := 0) (n := m.toNat) (fun j σ H4 => ∃ x9 : Option V, σ = [some (.ref p), some (.ref so), some (.ref a), some (.int m), some (.ref t), some (.ref ad), x6, some (.int (0 + (i : Nat))), some (.int (iterA es ns j (0 + (i : Nat)))), x9] ∧ H4 = H3)
            ⟨x9, rfl, rfl⟩ (fun j σ H4 hj hJ => ?_) (fun σ H4 hJ => ?_)
          · obtain ⟨x9, rfl, rfl⟩ := hJ
            refine ⟨_, rfl, ad, rfl, .inl ⟨_, .inl ed⟩, _, rfl, _, rfl, _, DGet.k (k := Sum.inl (iterA es ns j (0 + (i : Nat)))) ed, ?_⟩
            rw [aheadK_get, ← iter_snoc]
            exact ⟨_, rfl, rfl⟩
          · obtain ⟨x9, rfl, rfl⟩ := hJ
            refine ⟨_, rfl, _, rfl, rd_notin (ns := [r]) (.inr (SqT.of (S2 _ _ hso))) ⟨_, rfl, ?_⟩⟩
            cases e2 : decide (iterA es ns m.toNat (0 + (i : Nat)) ∈ [r]) with
            | false =>
              refine iteT (q H4 false S2 (fun z => nomatch z) (fun ⟨ks, TB⟩ => ?_))
              exfalso
              have e := ints_inj (PyData.tuple.inj TB.dt)
              have al := TB.all
              rw [← e] at al
              exact of_decide_eq_false e2 (List.mem_singleton.mpr (law_of_tree on hv hlen hp.r0 hp.rm al (by omega) (by omega)))
            | true =>
              have e3 := List.mem_singleton.mp (of_decide_eq_true e2)
              refine iteF ⟨_, _, _, rfl, rfl, fun p p0 p1 => ?_⟩
              by_cases hpi : p < i
              · exact hit p p0 hpi
              · have : p = 0 + (i : Nat) := by omega
                rw [this]
                exact e3
        · obtain ⟨x7, x8, x9, rfl, rfl, hit⟩ := hI
          refine q H3 true S2 (fun _ => ⟨ns, rfl, L, el, ⟨on, tree_of_law on hv fun p p0 p1 => hit p p0 (by omega)⟩, hlen⟩) (fun _ => rfl)
end
end ST

/-! the law's own look at trees: chain -/
namespace ST
open PySem PySem.Spec PyProof.Rows L2 C8
section
variable {P : Program} {w : World} {K : PySem.W.Frag} {mg : Str → Option Value} {base : Heap}
/-! ### _law_chain -/
abbrev sChain : Stmt := top 45
abbrev nChain : List Str := ["_law_parts", "_law_tree", "_law_place", "_law_found", "_law_turn", "_law_some", "_law_link"]
theorem scChain : FnScope nChain ["_law_parts", "_law_tree", "_law_place"] (C8.fnScope sChain) := fnScope_by (by decide +kernel)
def spChain : Sp := fun vs H Q _ => ∃ p a x m r t ls es ns, vs = [.ref p, .ref a, .int x] ∧ PartsOk H p m r t ls es ∧ H a = some (.tup (ns.map V.int)) ∧ Lot ns es.length ∧
  ∀ H' q, Same H H' → H' q = some (.tup ((wayF es ns m.toNat x).map V.int)) → Q (.ref q) H'
theorem ok_chain (B : Nb mg) (D : DB K mg "_law_chain" sChain ["_law_parts", "_law_tree", "_law_place"]) : Cal P w K mg base 1 "_law_chain" spChain [] := by
  refine calB D scChain (fun vs H Q E h => ?_) (fun f cdv A outer s H vs Q E hr h => ?_)
  · obtain ⟨p, a, x, m, r, t, ls, es, ns, rfl, _⟩ := h
    rfl
  · obtain ⟨p, a, x, m, r, t, ls, es, ns, rfl, hp, ha, L, q⟩ := h
    have nd := scChain.nd
    refine ⟨_, pss_cons (ps_set (i := 3) nd rfl (.inl rfl) (pe_tup pa_nil))
      (pss_cut (ps_for PassesOwn.never rfl (pi_range1 (by rfl) B.range (pa_cons (pe_ix ix_tup (pv 0) pe_int (fun _ _ => rfl)) pa_nil)) (pg_name (i := 4) nd rfl (.inl rfl))
        (pss_cons (ps_setLc (i := 5) (own := [("_law_link", 6)]) (g := gName 6) rfl nd rfl rfl (sw_true rfl rfl rfl (by decide +kernel)) (pi_tup (pv 1)) (blkOk_by (N := nChain) (sc := C8.fnScope sChain) (by decide +kernel))
            (fun _ _ _ _ _ => pg_name (i := 6) nd rfl (Or.inl rfl))
            (fun _ _ _ _ _ => pts_one (pt_cmpR op_eq (pe_ix (ixT K) (pe_ix (ixT K) (pe_ix (ixT K) (pv 0) pe_int (fun _ _ => rfl)) (pv 6) (fun _ _ => rfl)) pe_int (fun _ _ => rfl)) (pv 2) (nomark _)))
            (fun _ _ _ _ _ => pv 6))
        (pss_cons (ps_if (pt_cmpR op_eq (pe_callB call_len_seq (by rfl) B.len PySem.boot_len (pa_cons (pv 5) pa_nil)) pe_int (nomark _)) (pss_one ps_break) pss_nil)
        (pss_cons (ps_set (i := 3) nd rfl (.inl rfl) (pe_op op_catA (pe_tup (pa_cons (pe_ix ix_list (pv 5) pe_int (fun _ _ => rfl)) pa_nil)) (pv 3)))
        (pss_one (ps_set (i := 2) nd rfl (.inr rfl) (pe_ix ix_tup (pe_ix ix_tup (pe_ix ix_tup (pv 0) pe_int (fun _ _ => rfl)) (pe_ix ix_list (pv 5) pe_int (fun _ _ => rfl)) (fun _ _ => rfl)) pe_int (fun _ _ => rfl))))))))
      (pss_one (ps_ret (pv 3)))), ?_⟩
    have hm2 := hp.m2
    have hm10 := hp.m10
    have hns : ns.length ≤ 60 := Nat.le_trans L.len hp.few
    refine ⟨Nat.zero_le _, fun u0 hu0 => ?_⟩
    have S0 : Same H (upd H u0 (.tup [])) := same_upd hu0
    refine ⟨fun σ H2 => ∃ (u : Addr) (x2 x4 x5 : Option V), σ = [some (.ref p), some (.ref a), x2, some (.ref u), x4, x5, none] ∧ Same H H2 ∧ H2 u = some (.tup ((wayF es ns m.toNat x).map V.int)), ?_, fun σ H2 hM => ?_⟩
    · refine ⟨_, rfl, p, _, 0, .int m, rfl, rfl, SqT.of (S0 _ _ hp.at_), atI_nat (j := 0) rfl, m, rfl, by omega, by omega, ?_⟩
      refine for_range (lo := 0) (n := m.toNat) (fun i σ H2 => ∃ (y : Int) (u : Addr) (acc : List Int) (x4 x5 : Option V), σ = [some (.ref p), some (.ref a), some (.int y), some (.ref u), x4, x5, none] ∧ Same H H2 ∧ H2 u = some (.tup (acc.map V.int)) ∧ wayF es ns m.toNat x = wayF es ns (m.toNat - i) y ++ acc)
        ⟨x, u0, [], none, none, rfl, S0, upd_same, (List.append_nil _).symm⟩ (fun i σ H2 hi hI => ?_) (fun σ H2 hI => ?_)
      · obtain ⟨y, u, acc, x4, x5, rfl, S, eu, hway⟩ := hI
        have P2 := hp.keep (tS S)
        have ha2 := S _ _ ha
        obtain ⟨j, hj⟩ : ∃ j, m.toNat - i = j + 1 := ⟨m.toNat - i - 1, by omega⟩
        refine ⟨_, rfl, a, rfl, ⟨_, SqT.of ha2⟩, fun D hD => lc_filt (walkT ns) (fun k => decide (toL es k = y)) V.int (fun _ => rfl) hD (by omega) (fun H3 S3 => SqT.of (S3 _ _ ha2)) (fun k H3 Qb hkm S3 qb => ?_) (fun k H3 Qv hkm _ S3 qv => ?_) (fun H3 S3 eD => ?_)⟩
        · have P3 := P2.keep (tS S3)
          have b := L.2 k hkm
          refine rd_to (fun Q' q' => ⟨_, rfl, p, _, 2, .ref t, rfl, rfl, SqT.of P3.at_, atI_nat (j := 2) rfl, q'⟩) P3.lt P3.la rfl b.1 b.2 ⟨_, rfl, rfl, _, rfl, ?_⟩
          rw [dec_int, Bool.beq_eq_decide_eq]
          exact qb
        · exact ⟨_, rfl, qv H3 (Same.refl H3)⟩
        · refine ⟨_, rfl, D, _, rfl, .inl (SqL.of eD), rfl, _, rfl, ?_⟩
          have eu3 := S3 _ _ eu
          have S03 := S.trans S3
          cases hf : ns.find? (fun k => decide (toL es k = y)) with
          | none =>
            have hz : ns.filter (fun k => decide (toL es k = y)) = [] := by
              rw [List.filter_eq_nil_iff]
              intro k hk
              exact List.find?_eq_none.mp hf k hk
            rw [hz]
            refine iteT ⟨u, _, _, _, rfl, S03, ?_⟩
            have hw0 : wayF es ns (j + 1) y = [] := by
              unfold wayF
              rw [hf]
            rw [hway, hj, hw0, List.nil_append]
            exact eu3
          | some n' =>
            have hn' := List.mem_of_find?_eq_some hf
            have hw2 : wayF es ns (j + 1) y = wayF es ns j (frL es n') ++ [n'] := by
              conv => lhs; unfold wayF
              rw [hf]
            have hne : ns.filter (fun k => decide (toL es k = y)) ≠ [] := fun z => by
              have := head_filter hf
              rw [z] at this
              cases this
            have hff : decide (V.int (((ns.filter (fun k => decide (toL es k = y))).map V.int).length : Nat) = V.int 0) = false := decide_eq_false fun z => by
              have z' := V.int.inj z
              rw [List.length_map] at z'
              exact hne (List.length_eq_zero_iff.mp (by omega))
            rw [hff]
            refine iteF ?_
            have h0 := head_filter hf
            refine ⟨_, rfl, D, _, 0, .int n', rfl, rfl, SqL.of eD, atI_nat (j := 0) h0, by show 1 ≤ sizeLine; decide, fun w1 hw1 => ?_⟩
            have S4 : Same H3 (upd H3 w1 (.tup [.int n'])) := same_upd hw1
            have hal : acc.length ≤ 10 := by
              have h1 := way_len (es := es) (ns := ns) m.toNat x
              rw [hway, List.length_append] at h1
              omega
            refine ⟨_, rfl, cat_tups (xs := [.int n']) upd_same (S4 _ _ eu3) (by rw [List.length_map]; show 1 + acc.length ≤ 1000; omega) fun H5 w2 S5 e5 => ?_⟩
            have S35 := S4.trans S5
            have P5 := hp.keep (tS (S03.trans S35))
            refine ⟨_, rfl, p, _, 2, .ref t, rfl, rfl, SqT.of P5.at_, atI_nat (j := 2) rfl, _, rfl, D, _, 0, .int n', rfl, rfl, SqL.of (S35 _ _ eD), atI_nat (j := 0) h0, ?_⟩
            have b := L.2 n' hn'
            obtain ⟨i', hi'⟩ := int_nat b.1
            have hi2 : i' < es.length := by omega
            obtain ⟨v, hv, l, rfl, hl⟩ := P5.la.2 i' _ (List.getElem?_eq_getElem hi2)
            refine ⟨t, ls, _, _, rfl, rfl, SqT.of P5.lt, by rw [hi']; exact atI_nat hv, l, _, _, .int (es[i']).1, rfl, rfl, SqT.of hl, atI_nat (j := 0) rfl, ?_⟩
            refine ⟨_, w2, n' :: acc, _, _, rfl, S03.trans S35, e5, ?_⟩
            have ef : frL es n' = (es[i']).1 := (toL_of (by rw [hi', Int.toNat_natCast]; exact List.getElem?_eq_getElem hi2)).2
            have ej : m.toNat - (i + 1) = j := by omega
            rw [hway, hj, hw2, ej, ← ef, List.append_assoc]
            rfl
      · obtain ⟨y, u, acc, x4, x5, rfl, S, eu, hway⟩ := hI
        refine ⟨u, _, _, _, rfl, S, ?_⟩
        have e0 : m.toNat - m.toNat = 0 := by omega
        rw [hway, e0]
        exact eu
    · obtain ⟨u, x2, x4, x5, rfl, S, eu⟩ := hM
      exact ⟨_, rfl, q H2 u S eu⟩
end
end ST

/-! rules: several except clauses that name their error; isinstance of such an error and a tuple of classes -/
namespace ST
open PySem PySem.Spec PyProof.Rows L2 C8
/-- behind a suite the name at slot i is gone -/
def goneEnds (i : Nat) (D : Ends) : Ends := { nx := fun σ H => D.nx (σ.set i none) H, rt := D.rt, bk := fun σ H => D.bk (σ.set i none) H, ct := fun σ H => D.ct (σ.set i none) H }
/-- a clause: its class, what its suite reads as -/
abbrev Clause := Value × (Addr → Value → Option Addr → TS)
/-- what the clauses 'except x as n' wish of an error of the body, one after the other -/
def wAsM (K : PySem.W.Frag) (i : Nat) (Wout : WX) (D : Ends) : List Clause → WX
  | [] => Wout
  | q :: r => fun cls d σ H => ∃ b, PySem.W.exmOne K cls q.1 = some b ∧ (b = true → ∀ a, H a = none → q.2 a cls d (goneEnds i D) (σ.set i (some (.ref a))) H) ∧ (b = false → wAsM K i Wout D r cls d σ H)
/-- a suite of the context, whatever error it holds -/
def SuiteOk (X : Cx) (body : List Stmt) (ts : Addr → Value → Option Addr → TS) : Prop := ∀ (a : Addr) (oe : Obj) (cls : Value) (d : Option Addr) (pn : List (Addr × Obj)), Zc cls d oe → (∃ vs, oe.data = .fields vs) → PSs (X.suite a ((a, oe) :: pn)) body (ts a cls d)
inductive HdsAs (X : Cx) (n : Str) : List ExceptHandler → List Clause → Prop
  | nil : HdsAs X n [] []
  | cons {x : Str} {q : Clause} {b₀ : Stmt} {rest : List Stmt} {p1 p2 : Pos} {hs : List ExceptHandler} {l : List Clause} : Names X x q.1 → SuiteOk X (b₀ :: rest) q.2 → HdsAs X n hs l → HdsAs X n (.ExceptHandler (some (.Name x p1)) (some n) (b₀ :: rest) p2 :: hs) (q :: l)
/-- the state T, in which an error of the class cls at a is in flight over the frames of X; without it all is as Inv says -/
structure Air (X : Cx) (pins : List (Addr × Obj)) (σ : L2.St) (H : Hp) (B : Heap) (a : Addr) (cls : Value) (d : Option Addr) (T : Shared) : Prop where
  fly : HandSPX.FlyingZ B (X.env :: X.outer) a (Zc cls d) T.heap
  from_ : ∃ sI, Inv X pins σ H sI ∧ (∀ b o, sI.heap.get? b = some o → b ∉ frs X.stack → B.get? b = some o) ∧ sI.heap.UpToSlots T.heap ∧ T.os = sI.os ∧ AllBare T.gens
  free : H a = none
section
variable {X : Cx} {pins : List (Addr × Obj)} {σ : L2.St} {H : Hp} {B : Heap} {a : Addr} {cls : Value} {d : Option Addr} {T : Shared}
theorem Air.inv (x : Air X pins σ H B a cls d T) : Inv X pins σ H T := by
  obtain ⟨sI, J, nb, up, os, ag⟩ := x.from_
  exact J.landed nb x.fly.1 up os ag
theorem Air.moved (x : Air X pins σ H B a cls d T) {h' : Heap} (f : HandSPX.FlyingZ B (X.env :: X.outer) a (Zc cls d) h') (u : T.heap.UpToSlots h') : Air X pins σ H B a cls d { T with heap := h' } := by
  obtain ⟨sI, J, nb, up, os, ag⟩ := x.from_
  exact ⟨f, ⟨sI, J, nb, up.trans u, os, ag⟩, x.free⟩
/-- the error's object is no frame -/
theorem Air.notFrame (x : Air X pins σ H B a cls d T) : a ∉ frs (X.env :: X.outer) := fun z => by
  obtain ⟨oe, vs, e1, _, e2⟩ := x.fly.there
  obtain ⟨_, o', e3, nf⟩ := x.fly.2.2.1.mem z
  cases e1.symm.trans e3
  exact nf _ e2
/-- .. so a suite may begin -/
theorem Air.enter (x : Air X pins σ H B a cls d T) (hf : X.env.frame = some X.env.locals) : ∃ oe, Zc cls d oe ∧ (∃ vs, oe.data = .fields vs) ∧ T.heap.get? a = some oe ∧ Inv (X.suite a ((a, oe) :: (X.pn ++ pins))) [] σ H T := by
  obtain ⟨oe, vs, e1, z, e2⟩ := x.fly.there
  have nf := x.notFrame
  refine ⟨oe, z, ⟨vs, e2⟩, e1, x.inv.suite e1 e2 x.free (fun y => nf ?_) fun y => nf ?_⟩
  · rw [y]
    exact List.mem_filterMap.mpr ⟨X.env, .head _, hf⟩
  · obtain ⟨v, hv, q⟩ := List.mem_filterMap.mp y
    exact List.mem_filterMap.mpr ⟨v, .tail _ hv, q⟩
/-- no clause is left: on it goes -/
theorem Air.on {W : WX} {Q : Flow → Shared → Prop} (x : Air X pins σ H B a cls d T) (hs : X.stack = X.env :: X.outer) (hf : X.env.frame = some X.env.locals) (tk : Takes X W) (w : W cls d σ H) :
    wpAny (model X.prog X.w) X.A (handleBy (.ref a) X.env []) Q X.xe T := by
  obtain ⟨sI, J, nb, up, os, ag⟩ := x.from_
  obtain ⟨_, _, _, oe, vs, Tb, _, _, e1, _, e2, e3, _⟩ := id x.fly
  have out : wpAny (model X.prog X.w) X.A (setFlight (.ref a) X.env.frame) (fun _ s => wpAny (model X.prog X.w) X.A (throw (.ref a) : Sem Flow) Q X.xe s) X.xe T := by
    rw [hf]
    exact HandSPX.setFlight_upZ x.fly fun h4 held u => wpAny_throw (tk _ _ ⟨a, B, sI, pins, σ, H, cls, d, rfl, J, nb, up.trans u, .inr (.inr (hs ▸ held)), x.free, os, ag, w⟩)
  refine wpAny_handleBy_nil ?_
  unfold PySem.passOn
  refine wpAny_bind (wpAny_field e1 e2 e3 ?_)
  rw [if_neg (by simp)]
  first | exact wpAny_bind (wpAny_pure (wpAny_bind out)) | exact wpAny_bind out
/-- the clauses one after the other -/
theorem Air.clauses {n : Str} {i : Nat} {W : WX} {D : Ends} (hs : X.stack = X.env :: X.outer) (hf : X.env.frame = some X.env.locals) (hN : X.N.Nodup) (hi : X.N[i]? = some n) (hn : X.env.kindOf n = some .local) (tk : Takes X W) (x : Air X pins σ H B a cls d T) :
    ∀ {hds : List ExceptHandler} {l : List Clause}, HdsAs X n hds l → wAsM X.K i W D l cls d σ H → wpAny (model X.prog X.w) X.A (handleBy (.ref a) X.env hds) (SP X pins D) X.xe T
  | _, _, .nil, w => x.on hs hf tk w
  | _, _, .cons (p2 := p2) nm su r, w => by
    obtain ⟨b, eb, yes, no⟩ := w
    obtain ⟨oe, zc, _, at_, S⟩ := x.enter hf
    refine wpAny_handleBy_cons (codeAny_handlers_test ?_) (fun z => nomatch z)
    have looks : PySem.W.Looks (model X.prog X.w) T.heap (typeOf (.ref a)) cls := fun _ _ _ _ k q => wpAny_typeOf_ref (k _ _ at_) (by rw [zc.1]; exact q)
    have said := PySem.W.exm_one (M := model X.prog X.w) x.inv.kIn looks eb
    have rest := fun z => Air.clauses hs hf hN hi hn tk x r (no z)
    have named : ∀ {x' : Str} {c' : Value} {pp : Pos} {Q E : Value → Shared → Prop}, Names X x' c' → Q c' T → wpAny (model X.prog X.w) (X.A.mark (some (.ref a))) (eval (.Name x' pp) X.env) Q E T := fun {x' c' pp Q E} nm k => by
      rcases nm with ⟨hg, nd, hm | ⟨hm, hv, nn⟩⟩
      · exact ld_glob (X := X.suite a ((a, oe) :: (X.pn ++ pins))) (E := E) S hg hm k nd
      · exact ld_blt (X := X.suite a ((a, oe) :: (X.pn ++ pins))) (E := E) S hg hm hv k nn nd
    refine named nm (said.here ?_)
    cases b with
    | false => exact rest rfl
    | true =>
      refine codeAny_handlers_suite_as (HandSPX.lands_againZ x.fly fun h4 f4 u4 => ?_)
      obtain ⟨oe4, zc4, fl4, _, S4⟩ := (x.moved f4 u4).enter hf
      refine store_ok (X := X.suite a ((a, oe4) :: (X.pn ++ pins))) (v := .ref a) S4 hN hi (.inl hn) rfl (fun s5 S5 => ?_) (.inr hn)
      have ok := x.inv.ok
      have leave : ∀ {σ6 : L2.St} {H6 : Hp} {Q : Shared → Prop} {s6 : Shared}, Inv (X.suite a ((a, oe4) :: (X.pn ++ pins))) [] σ6 H6 s6 → (∀ s7, Inv X pins (σ6.set i none) H6 s7 → Q s7) → wpAny (model X.prog X.w) X.A (do bindName X.env n .none; unbindBehindTheSuite X.env n p2) (fun _ s7 => Q s7) X.xe s6 :=
        fun S6 k => gone_ok (S6.unsuite ok) hN hi hn k
      refine wpAny_mono ((su a oe4 cls d _ zc4 fl4).run [] s5 _ H _ S5 (yes rfl a x.free)) (fun fl s6 sp => ?_) fun _ _ z => z.elim
      match fl, sp with
      | .next, ⟨_, _, S6, q6⟩ => exact leave S6 fun _ J => ⟨_, _, J, q6⟩
      | .brk, ⟨_, _, S6, q6⟩ => exact leave S6 fun _ J => ⟨_, _, J, q6⟩
      | .cont, ⟨_, _, S6, q6⟩ => exact leave S6 fun _ J => ⟨_, _, J, q6⟩
      | .ret _, ⟨_, _, _, S6, rv, q6⟩ => exact leave S6 fun _ J => ⟨_, _, _, J, rv, q6⟩
end
section
variable {X : Cx} {body : List Stmt} {h₀ : ExceptHandler} {hds : List ExceptHandler} {l : List Clause} {pos : Pos} {tb : WX → TS} {Wout : WX} {n : Str} {i : Nat}
/-- try: body / except x as n: .. / except y as n: .. -/
theorem ps_try_asM (hs : X.stack = X.env :: X.outer) (hf : X.env.frame = some X.env.locals) (hN : X.N.Nodup) (hi : X.N[i]? = some n) (hn : X.env.kindOf n = some .local) (tk : Takes X Wout)
    (hb : ∀ W pn xe, Takes (X.tr pn xe) W → PassesOwn (model X.prog X.w) X.A X.env xe → PSs (X.tr pn xe) body (tb W)) (hh : HdsAs X n (h₀ :: hds) l) : PS X (.Try body (h₀ :: hds) [] [] pos) (fun D σ H => tb (wAsM X.K i Wout D l) D σ H) := by
  constructor
  intro pins s σ H D I h
  have frames : X.A.frames = some (X.env :: X.outer) := hs ▸ I.ok.frames
  refine wpAny_Try_except (wpAny_mono ((hb (wAsM X.K i Wout D l) (X.pn ++ pins) (fun e t => wpAny (model X.prog X.w) X.A (noteFrame e X.env) (fun _ t2 => wpAny (model X.prog X.w) X.A (setFlight e none) (fun _ t3 => wpAny (model X.prog X.w) X.A (handleBy e X.env (h₀ :: hds)) (SP X pins D) X.xe t3) X.xe t2) X.xe t)
    (fun u s' air => ?_) PassesOwn.looking).run [] s σ H D (I.toTry _) h) (fun fl s1 sp => ?_) fun _ _ z => z)
  · obtain ⟨a, B, sI, _, σ', H', cls, d, rfl, J', nb, up, sky, na, os, ag, w⟩ := air
    rw [show (X.tr _ _).stack = X.env :: X.outer from hs] at sky
    exact Sky.land Zc.steady frames hf sky fun h3 f3 u3 => Air.clauses (T := { s' with heap := h3 }) hs hf hN hi hn tk ⟨f3, ⟨sI, J'.ofTry I.ok, nb, up.trans u3, os, ag⟩, na⟩ hh w
  · match fl, sp with
    | .next, ⟨_, _, J, q⟩ => exact wpAny_execs_nil ⟨_, _, J.ofTry I.ok, q⟩
    | .brk, ⟨_, _, J, q⟩ => exact ⟨_, _, J.ofTry I.ok, q⟩
    | .cont, ⟨_, _, J, q⟩ => exact ⟨_, _, J.ofTry I.ok, q⟩
    | .ret _, ⟨_, _, _, J, rv, q⟩ => exact ⟨_, _, _, J.ofTry I.ok, rv, q⟩
end
/-- isinstance(e, (c1, c2, ..)), e the error that the suite holds -/
def rIsET (K : PySem.W.Frag) (D a : Addr) : List V → Hp → VK → Prop := fun xs H Q => ∃ (tp : Addr) (cs : List V) (us : List Value) (b : Bool), xs = [.ref a, .ref tp] ∧ H tp = some (.tup cs) ∧ Paired ClsV cs us ∧ PySem.W.kitAny K (.ref D) us = some b ∧ Q (.bl b) H
theorem call_isET {X : Cx} {a D : Addr} {oe : Obj} {pn : List (Addr × Obj)} (C : ExcC X.K D) (hz : Zc (.ref D) none oe) (hf : ∃ vs, oe.data = .fields vs) : CallR (X.suite a ((a, oe) :: pn)) (.builtin "isinstance") (rIsET X.K D a) := by
  rintro pins s σ H _ us Q I r ⟨tp, cs, ws, b, rfl, hT, k, e, q⟩
  obtain ⟨_, _, rfl, rfl, rfl⟩ := vals2 r
  obtain ⟨vs, hv⟩ := hf
  have here : s.heap.get? a = some oe := (I.pin (a, oe) (List.mem_append_left _ (.head _))).1
  have inst : PySem.W.InstAt s.heap a oe D none := ⟨here, hz.1, by unfold PySem.W.notCls; rw [hv], by rw [hz.2]; trivial⟩
  have tupO := I.hok tp _ hT
  obtain ⟨_, its, rv, ⟨oc, od, dt, sl⟩, e1, e2, n, e3⟩ := tupO
  cases ClsV.all k rv
  cases (show oc = Value.type "tuple" from e2)
  cases (show dt = Data.seq ws.toArray n from e3)
  refine PySem.W.kia_tup (PySem.W.handS_kitx_exc C.hg C.hk C.hs C.hd C.ha C.hn C.ht C.hm) I.kIn inst e1 e (by intro z; cases z) fun tk => ?_
  exact ⟨.bl b, H, I.kept (t' := tk) (fun _ _ z => z), rfl, q⟩
theorem takes_len {X : Cx} {W : WX} (t : Takes X W) : Takes X (fun cls d σ H => σ.length = X.N.length → W cls d σ H) := fun u s' ⟨a, B, sI, pins, σ, H, cls, d, e, I, nb, up, sky, na, os, ag, w⟩ =>
  t u s' ⟨a, B, sI, pins, σ, H, cls, d, e, I, nb, up, sky, na, os, ag, w I.len⟩
end ST

/-! the law's told -/
namespace ST
open PySem PySem.Spec PyProof.Rows L2 C8
/-- the error classes: TreeError, NoTree, NoPlace, NoLot -/
structure Errs (K : PySem.W.Frag) (mg : Str → Option Value) (CE CT CP CL : Addr) : Prop where
  gE : mg "TreeError" = some (.ref CE)
  gL : mg "NoLot" = some (.ref CL)
  xT : Xc K mg "NoTree" CT
  xP : Xc K mg "NoPlace" CP
  iT : ExcC K CT
  iP : ExcC K CP
  e1 : PySem.W.exmOne K (.ref CT) (.ref CT) = some true
  e2 : PySem.W.exmOne K (.ref CP) (.ref CT) = some false
  e3 : PySem.W.exmOne K (.ref CP) (.ref CP) = some true
  k1 : PySem.W.kitOne K (.ref CT) (.ref CE) = some true
  k2 : PySem.W.kitAny K (.ref CT) [.ref CP, .ref CL] = some false
  k3 : PySem.W.kitOne K (.ref CP) (.ref CE) = some true
  k4 : PySem.W.kitAny K (.ref CP) [.ref CT, .ref CL] = some false
/-- a reading by a stronger wish -/
theorem pe_imp {X : Cx} {e : Expr} {t : TE} (h : PE X e t) : PE X e (fun σ H Q => ∃ Q1 : VK, t σ H Q1 ∧ ∀ v H', Q1 v H' → Q v H') := by
  refine ⟨fun pins s σ H Q I hq => ?_⟩
  obtain ⟨Q1, h1, h2⟩ := hq
  exact thn (h.run pins s σ H Q1 I h1) fun v s' ⟨x, H', I', r, q⟩ => ⟨x, H', I', r, h2 _ _ q⟩
abbrev sTold : Stmt := top 46
abbrev nTold : List Str := ["_law_call", "_law_found", "e"]
theorem scTold : FnScope nTold ["_law_call"] (C8.fnScope sTold) := fnScope_by (by decide +kernel)
/-- ('refused', word) is told -/
def Qref (Q : VK) (word : Str) (H : Hp) : Prop := ∀ t H', Same H H' → H' t = some (.tup [.str "refused", .str word]) → Q (.ref t) H'
def TTold (CT CP : Addr) : (XK → Hp → VK → Prop) → Hp → VK → Prop := fun tl H Q => ∀ H1, Same H H1 → ∃ (Ech : XK) (Qv : VK), tl Ech H1 Qv ∧
  (∀ v H2, Qv v H2 → ∀ t, H2 t = none → Q (.ref t) (upd H2 t (.tup [.str "told", v]))) ∧
  ∀ cls d H2, Ech cls d H2 → d = none ∧ ((cls = .ref CT ∧ Qref Q "tree" H2) ∨ (cls = .ref CP ∧ Qref Q "place" H2))
/-- a clause's suite: C0 the class that it is for -/
def tsR (C0 : Addr) (word : Str) : Addr → Value → Option Addr → TS := fun a cls d D σ H => cls = .ref C0 ∧ d = none ∧ ∃ x0 x1, σ = [x0, x1, some (.ref a)] ∧
  ∀ t H', Same H H' → H' t = some (.tup [.str "refused", .str word]) → D.nx [x0, some (.ref t), some (.ref a)] H'
theorem told_gives2 {X : Cx} {g CE CT CP CL : Addr} {cdg : Value} {q : Str} (B : Nb X.mg) (R : Errs X.K X.mg CE CT CP CL) :
    LamX.GivesTo X nTold "_law_told" (C8.fnScope sTold) g cdg (C8.fnBody sTold) "_law_call" q (TTold CT CP) := by
  intro f c' s H Q tl act hc h
  have nd := scTold.nd
  refine ⟨_, pss_cons (ps_set (i := 1) nd rfl (.inl rfl) (pe_tup (pa_cons pe_str (pa_cons pe_non pa_nil))))
    (pss_cons (ps_try_asM (i := 2) (n := "e") (Wout := fun _ _ _ _ => False)
        (tb := fun W D σ H1 => ∃ (Ech : XK) (Qv : VK), (∀ cls d σ' H', Ech cls d H' → σ'.length = 3 → W cls d σ' H') ∧ σ[0]? = some (some (.ref f)) ∧ H1 c' = some (LamX.CodeO c' q) ∧ tl Ech H1 Qv ∧
          ∀ v H2, Qv v H2 → ∀ t, H2 t = none → D.nx (σ.set 1 (some (.ref t))) (upd H2 t (.tup [.str "told", v])))
        rfl rfl nd rfl rfl LamX.takes0 (fun W pn xe tk _ => ⟨fun pins s' σ H' D I h' => ?_⟩)
        (HdsAs.cons (q := (.ref CT, tsR CT "tree")) ⟨by rfl, by decide, .inl R.xT.gl⟩ (fun a oe cls d pn hz hf => ⟨fun pins s2 σ H2 D I h => ?_⟩)
        (HdsAs.cons (q := (.ref CP, tsR CP "place")) ⟨by rfl, by decide, .inl R.xP.gl⟩ (fun a oe cls d pn hz hf => ⟨fun pins s2 σ H2 D I h => ?_⟩) HdsAs.nil)))
    (pss_one (ps_ret (pv 1)))), ?_⟩
  · obtain ⟨Ech, Qv, hW, h1, h2, h3, h4⟩ := h'
    exact (pss_one (ps_set (i := 1) nd rfl (.inl rfl) (pe_tup (pa_cons pe_str (pa_cons (pe_imp (act (fun cls d σ H => σ.length = 3 → W cls d σ H) pn xe Ech _ _ (takes_len tk) fun cls d σ' H' x y => hW cls d σ' H' x y)) pa_nil))))).run pins s' σ H' D I
      ⟨Qv, ⟨h1, h2, h3⟩, fun v H2 hq => ⟨by show 2 ≤ sizeLine; decide, fun t ht => h4 v H2 hq t ht⟩⟩
  · obtain ⟨rfl, rfl, x0, x1, rfl, hq⟩ := h
    refine (show PSs ((cxOf C8.CX0 X.prog X.w X.K X.mg X.base nTold "_law_told" (C8.fnScope sTold) g cdg X.A X.stack s H C8.E0).nox.suite a ((a, oe) :: pn)) _ _ from
      pss_one (ps_set (i := 1) nd rfl (.inl rfl) (pe_tup (pa_cons pe_str (pa_cons (pe_ix ix_list (pe_lst (pa_cons pe_str (pa_cons pe_str pa_nil)))
      (pe_callTy cr_intB (by rfl) B.int boot_int1 (pa_cons (pe_or (pe_not (pe_callB (call_isE R.iT hz hf) (by rfl) B.isi (by decide +kernel) (pa_cons (pv 2) (pa_cons (pe_glob (v := .ref CE) (by rfl) R.gE rfl) pa_nil))))
        (pe_one (pe_callB (call_isET R.iT hz hf) (by rfl) B.isi (by decide +kernel) (pa_cons (pv 2) (pa_cons (pe_tup (pa_cons (pe_glob (v := .ref CP) (by rfl) R.xP.gl rfl) (pa_cons (pe_glob (v := .ref CL) (by rfl) R.gL rfl) pa_nil))) pa_nil))))) pa_nil)) (fun _ _ => rfl)) pa_nil))))).run pins s2 _ H2 D I ?_
    refine ⟨by show 2 ≤ sizeLine; decide, fun l hl => ?_⟩
    refine ⟨_, rfl, .ref CE, .ref CE, true, rfl, fun u z => z, R.k1, _, rfl, _, rfl, iteF ⟨_, rfl, by show 2 ≤ sizeLine; decide, fun tp htp => ⟨tp, [.ref CP, .ref CL], [.ref CP, .ref CL], false, rfl, upd_same, .cons (.own CP) (.cons (.own CL) .nil), R.k2, ?_⟩⟩⟩
    refine ⟨false, rfl, l, _, 0, _, rfl, rfl, SqL.of (same_upd htp _ _ upd_same), atI_nat (j := 0) rfl, by show 2 ≤ sizeLine; decide, fun t ht => ?_⟩
    exact hq t _ (((same_upd hl).trans (same_upd htp)).trans (same_upd ht)) upd_same
  · obtain ⟨rfl, rfl, x0, x1, rfl, hq⟩ := h
    refine (show PSs ((cxOf C8.CX0 X.prog X.w X.K X.mg X.base nTold "_law_told" (C8.fnScope sTold) g cdg X.A X.stack s H C8.E0).nox.suite a ((a, oe) :: pn)) _ _ from
      pss_one (ps_set (i := 1) nd rfl (.inl rfl) (pe_tup (pa_cons pe_str (pa_cons (pe_ix ix_list (pe_lst (pa_cons pe_str (pa_cons pe_str pa_nil)))
      (pe_callTy cr_intB (by rfl) B.int boot_int1 (pa_cons (pe_or (pe_not (pe_callB (call_isE R.iP hz hf) (by rfl) B.isi (by decide +kernel) (pa_cons (pv 2) (pa_cons (pe_glob (v := .ref CE) (by rfl) R.gE rfl) pa_nil))))
        (pe_one (pe_callB (call_isET R.iP hz hf) (by rfl) B.isi (by decide +kernel) (pa_cons (pv 2) (pa_cons (pe_tup (pa_cons (pe_glob (v := .ref CT) (by rfl) R.xT.gl rfl) (pa_cons (pe_glob (v := .ref CL) (by rfl) R.gL rfl) pa_nil))) pa_nil))))) pa_nil)) (fun _ _ => rfl)) pa_nil))))).run pins s2 _ H2 D I ?_
    refine ⟨by show 2 ≤ sizeLine; decide, fun l hl => ?_⟩
    refine ⟨_, rfl, .ref CE, .ref CE, true, rfl, fun u z => z, R.k3, _, rfl, _, rfl, iteF ⟨_, rfl, by show 2 ≤ sizeLine; decide, fun tp htp => ⟨tp, [.ref CT, .ref CL], [.ref CT, .ref CL], false, rfl, upd_same, .cons (.own CT) (.cons (.own CL) .nil), R.k4, ?_⟩⟩⟩
    refine ⟨false, rfl, l, _, 0, _, rfl, rfl, SqL.of (same_upd htp _ _ upd_same), atI_nat (j := 0) rfl, by show 2 ≤ sizeLine; decide, fun t ht => ?_⟩
    exact hq t _ (((same_upd hl).trans (same_upd htp)).trans (same_upd ht)) upd_same
  · refine ⟨by show 2 ≤ sizeLine; decide, fun t0 ht0 => ?_⟩
    have S0 : Same H (upd H t0 (.tup [.str "other", .non])) := same_upd ht0
    obtain ⟨Ech, Qv, h1, h2, h3⟩ := h _ S0
    refine ⟨Ech, Qv, fun cls d σ' H' he hl => ?_, rfl, S0 _ _ hc, h1, fun v H2 hq t ht => ⟨_, rfl, h2 v H2 hq t ht⟩⟩
    obtain ⟨rfl, hh⟩ := h3 cls d H' he
    obtain ⟨x0, x1, x2, rfl⟩ : ∃ x0 x1 x2, σ' = [x0, x1, x2] := by
      match σ', hl with
      | [x0, x1, x2], _ => exact ⟨x0, x1, x2, rfl⟩
    rcases hh with ⟨rfl, hq⟩ | ⟨rfl, hq⟩
    · exact ⟨true, R.e1, fun _ a ha => ⟨rfl, rfl, x0, x1, rfl, fun t H'' S e => ⟨_, rfl, hq t H'' S e⟩⟩, fun z => nomatch z⟩
    · exact ⟨false, R.e2, fun z => (nomatch z), fun _ => ⟨true, R.e3, fun _ a ha => ⟨rfl, rfl, x0, x1, rfl, fun t H'' S e => ⟨_, rfl, hq t H'' S e⟩⟩, fun z => nomatch z⟩⟩
end ST

/-! a contract that knows of no repr under way; the law's is_tuple -/
namespace ST
open PySem PySem.Spec PyProof.Rows L2 C8
section
variable {P : Program} {w : World} {K : PySem.W.Frag} {mg : Str → Option Value} {base : Heap}
/-- a def under its name, its code object at cdv known -/
structure DBc (K : PySem.W.Frag) (mg : Str → Option Value) (x : Str) (st : Stmt) (ps : List Str) (cdv : Value) : Prop where
  ex : ∃ (f : Addr) (oc : Value) (od : Option Addr) (dV kV doc pm : Value) (an : Option Addr) (ct : Value) (osl : Array (Option Value)),
    K.lookup f = some ⟨oc, od, .func (PySem.W.fnOf x x (fnArgs st) (C8.fnBody st) (C8.fnScope st) dV kV doc pm an cdv ct), osl⟩ ∧ PySem.W.codeIn K cdv x = true ∧ mg x = some (.ref f) ∧ PySem.W.keepIn K (.ref f) = true ∧
    Binds K (PySem.W.fnOf x x (fnArgs st) (C8.fnBody st) (C8.fnScope st) dV kV doc pm an cdv ct) ps []
theorem DB.code {x : Str} {st : Stmt} {ps : List Str} (D : DB K mg x st ps) : ∃ cdv, DBc K mg x st ps cdv := by
  obtain ⟨f, fd, ⟨⟨oc, od, dV, kV, doc, pm, an, cdv, ct, osl, rfl, lk, hcd⟩, hm, kp⟩, b⟩ := D.ex
  exact ⟨cdv, f, oc, od, dV, kV, doc, pm, an, ct, osl, lk, hcd, hm, kp, b⟩
/-- a promise that holds where no repr is under way -/
def RunG (P : Program) (w : World) (K : PySem.W.Frag) (mg : Str → Option Value) (base : Heap) (k : Nat) (f : Addr) (fd : FuncData) (ps : List Str) (sp : Sp) : Prop :=
  ∀ (A : Around) (outer : List Env) (s : Shared) (H : Hp) (args : Args) (us : List Value) (vs : List V) (Q : VK), A.guards = some [] → Room k A → Env0 P w K mg base A outer s H → BindsTo s fd args (ps.zip us) → Vals vs us → sp vs H Q C8.E0 →
    codeAny (model P w) A (.call (.ref f) args) (CR C8.CX0 outer P w H s Q C8.E0) s
structure CalG (P : Program) (w : World) (K : PySem.W.Frag) (mg : Str → Option Value) (base : Heap) (k : Nat) (x : Str) (ps : List Str) (sp : Sp) : Prop where
  ex : ∃ (f : Addr) (fd : FuncData), RunG P w K mg base k f fd ps sp ∧ mg x = some (.ref f) ∧ PySem.W.keepIn K (.ref f) = true ∧ Binds K fd ps []
  len : ∀ vs H Q E, sp vs H Q E → vs.length = ps.length
theorem calG {x : Str} {st : Stmt} {N ps : List Str} {cdv : Value} {k : Nat} {sp : Sp} (D : DBc K mg x st ps cdv) (S : FnScope N ps (C8.fnScope st)) (len : ∀ vs H Q E, sp vs H Q E → vs.length = ps.length)
    (hbody : ∀ (f : Addr) (A : Around) (outer : List Env) (s : Shared) (H : Hp) (vs : List V) (Q : VK), A.guards = some [] → Room k (A.deeper (envOfC x (C8.fnScope st) s.heap.objs.size f cdv)) → sp vs H Q C8.E0 →
      ∃ t, PSs (cxOf C8.CX0 P w K mg base N x (C8.fnScope st) f cdv A outer s H C8.E0).nox (C8.fnBody st) t ∧ t { nx := fun _ H' => Q .non H', rt := Q } (start N vs) H) : CalG P w K mg base (k + 1) x ps sp := by
  obtain ⟨f, oc, od, dV, kV, doc, pm, an, ct, osl, lk, hcd, hm, kp, b⟩ := D.ex
  refine ⟨⟨f, _, fun A outer s H args us vs Q hg hr e0 hb r h => ?_, hm, kp, b⟩, len⟩
  exact LamX.run_ofS lk hcd S hr e0 hb r (len _ _ _ _ h) fun hr' => let ⟨t, ht, hq⟩ := hbody f A outer s H vs Q hg hr' h; ⟨t, ht.nox, hq⟩
theorem pe_g {X : Cx} {x : Str} {k j : Nat} {ps : List Str} {sp : Sp} {e : Expr} {es : List Expr} {t : TA} {p pos : Pos} (c : CalG X.prog X.w X.K X.mg X.base k x ps sp) (hG : X.A.guards = some []) (hr : Room j X.A) (hk : k ≤ j) (hg : Gl X x) (ha : PA X (e :: es) t)
    (hdb : (x == ("__debug__" : Str)) = false := by decide) (he : starEach (e :: es) X.env = (false, eval e X.env) :: starEach es X.env := by rfl) (hpl : (backTo pos (starEach es X.env)).any (·.1) = false := by rfl) :
    PE X (.Call (.Name x p) (e :: es) [] pos) (tCall sp [] C8.E0 t) := by
  obtain ⟨⟨f, fd, F, hm, kp, b⟩, len⟩ := c
  refine ⟨fun pins s σ H Q I h => wpAny_Call_Name_kw (ld_glob I hg hm ?_ hdb)⟩
  refine PySem.W.callWith_K (h₀ := X.base) I.ok.mod.kin kp (thn (ha.run pos pins s σ H _ I h) fun us s1 ⟨vs, H1, I1, r, q⟩ => ⟨I1.kIn, ?_⟩) he hpl
  have q : sp (vs ++ []) H1 Q C8.E0 := q
  rw [List.append_nil] at q
  have hl : (us ++ []).length = ps.length := by rw [List.append_nil, ← r.length]; exact len _ _ _ _ q
  have hb := b s1 us I1.kIn hl
  rw [List.append_nil] at hb
  refine wpAny_call (codeAny_mono (F X.A X.stack s1 H1 ⟨us, []⟩ us vs Q hG (hr.mono hk) I1.env0 hb r q) fun r s' hq => ?_)
  match r, hq with
  | .ok (.ret u), hq => exact I1.after hq
/-! ### _law_is_tuple -/
abbrev sIsTuple : Stmt := top 47
abbrev nIsTuple : List Str := ["_law_told_here", "_law_due"]
theorem scIsTuple : FnScope nIsTuple nIsTuple (C8.fnScope sIsTuple) := fnScope_by (by decide +kernel)
def spIsTuple : Sp := fun vs H Q _ => ∃ t q u ns, vs = [.ref t, .ref u] ∧ H t = some (.tup [.str "told", .ref q]) ∧ H q = some (.tup ((ns : List Int).map V.int)) ∧ H u = some (.tup (ns.map V.int)) ∧ ns.length ≤ 100 ∧ (∀ n ∈ ns, n.natAbs < 1000) ∧
  ∀ H', Same H H' → Q (.bl true) H'
theorem eqv_self {d : PyData} (h : d.canLay0 = true) : PyData.eqv d d = true := SeqAt.eqv_refl_plain d (PyData.plain_of_canLay0 d h)
theorem lay_ints : ∀ ns : List Int, PyData.canLayAll0 (ns.map PyData.int) = true
  | [] => rfl
  | n :: r => by rw [List.map_cons, PyData.canLayAll0, lay_ints r]; rfl
theorem depth_ints : ∀ ns : List Int, PyData.depthAll (ns.map PyData.int) = 0
  | [] => rfl
  | n :: r => by rw [List.map_cons, PyData.depthAll, depth_ints r]; rfl
theorem dp_ints {K : PySem.W.Frag} {H : Hp} : ∀ ns : List Int, DpAll K H (ns.map V.int) (ns.map PyData.int)
  | [] => .nil
  | n :: r => .cons (.int n) (dp_ints r)
def toldD (ns : List Int) : PyData := .tuple [.str "told", .tuple (ns.map PyData.int)]
theorem told_lay (ns : List Int) : (toldD ns).canLay0 = true := by
  unfold toldD
  simp only [PyData.canLay0, PyData.canLayAll0, lay_ints, Bool.and_true]
  decide +kernel
theorem told_shaped (ns : List Int) : SeqAt.shaped (toldD ns) = true := by
  unfold SeqAt.shaped
  rw [told_lay, Bool.true_and, decide_eq_true_iff]
  unfold toldD
  simp only [PyData.depth, PyData.depthAll, depth_ints]
  decide
theorem ok_is_tuple (B : Nb mg) (D : DB K mg "_law_is_tuple" sIsTuple nIsTuple) : CalG P w K mg base 1 "_law_is_tuple" nIsTuple spIsTuple := by
  obtain ⟨cdv, Dc⟩ := D.code
  refine calG Dc scIsTuple (fun vs H Q E h => ?_) (fun f A outer s H vs Q hG hr h => ?_)
  · obtain ⟨t, q, u, ns, rfl, _⟩ := h
    rfl
  · obtain ⟨t, q, u, ns, rfl, ht, hq, hu, hl, hb, qk⟩ := h
    have hG' : (A.deeper (envOfC "_law_is_tuple" (C8.fnScope sIsTuple) s.heap.objs.size f cdv)).guards = some [] := hG
    refine ⟨_, pss_one (ps_ret (pe_and (pe_cmpR (op_eqD hr.units) (pv 0) (pe_tup (pa_cons pe_str (pa_cons (pv 1) pa_nil))) (nomark _))
      (pe_and (pe_callB call_isi (by rfl) B.isi (by decide +kernel) (pa_cons (pe_ix ix_tup (pv 0) pe_int (fun _ _ => rfl)) (pa_cons (pe_bltn (by rfl) B.tuple (by decide +kernel) (v := .ty "tuple") rfl) pa_nil)))
      (pe_one (pe_cmpR op_eq (pe_callB (cr_repr hG' hr.units) (by rfl) B.repr (by decide +kernel) (pa_cons (pe_ix ix_tup (pv 0) pe_int (fun _ _ => rfl)) pa_nil)) (pe_callB (cr_repr hG' hr.units) (by rfl) B.repr (by decide +kernel) (pa_cons (pv 1) pa_nil)) (nomark _)))))), ?_⟩
    refine ⟨_, rfl, _, rfl, by show 2 ≤ sizeLine; decide, fun p hp => ?_⟩
    have S1 : Same H (upd H p (.tup [.str "told", .ref u])) := same_upd hp
    have dT : Dp K (upd H p (.tup [.str "told", .ref u])) (.ref t) (toldD ns) := .tup (SqT.of (S1 _ _ ht)) (.cons (.str _) (.cons (.tup (SqT.of (S1 _ _ hq)) (dp_ints ns)) .nil))
    have dP : Dp K (upd H p (.tup [.str "told", .ref u])) (.ref p) (toldD ns) := .tup (SqT.of upd_same) (.cons (.str _) (.cons (.tup (SqT.of (S1 _ _ hu)) (dp_ints ns)) .nil))
    refine ⟨toldD ns, toldD ns, dT, dP, told_shaped ns, told_shaped ns, _, rfl, ?_⟩
    rw [eqv_self (told_lay ns)]
    have dq : Dq 0 (upd H p (.tup [.str "told", .ref u])) (.ref q) (.tuple (ns.map PyData.int)) := .tup (S1 _ _ hq) (DqAll.ints ns)
    have du : Dq 0 (upd H p (.tup [.str "told", .ref u])) (.ref u) (.tuple (ns.map PyData.int)) := .tup (S1 _ _ hu) (DqAll.ints ns)
    have fit : Fit (.tuple (ns.map PyData.int)) := fit_tup (fitI_ints hb) (by rw [List.length_map]; exact hl)
    refine iteT ⟨_, rfl, t, _, 1, .ref q, rfl, rfl, SqT.of (S1 _ _ ht), atI_nat (j := 1) rfl, ?_⟩
    refine ⟨.ref q, .ty "tuple", _, _, true, rfl, .ty "tuple", dq.ty, kit_ty (isa_tuple _), _, rfl, iteT ?_⟩
    refine ⟨_, rfl, t, _, 1, .ref q, rfl, rfl, SqT.of (S1 _ _ ht), atI_nat (j := 1) rfl, 0, _, _, rfl, dq, fit, _, rfl, 0, _, _, rfl, du, fit, rfl, ?_⟩
    rw [decide_eq_true rfl]
    exact qk _ S1
end
end ST

/-! heaps where tables grow; what told tells of depths and way_in -/
namespace ST
open PySem PySem.Spec PyProof.Rows L2 C8
/-- all stays but what stands at h (the hand) and the tables -/
structure Sy (h c : Addr) (H0 H : Hp) : Prop where
  kp : ∀ b o, H0 b = some o → b ≠ h → (∀ ps, o ≠ .tbl ps) → H b = some o
  a0 : HandAt h c H0
  a1 : HandAt h c H
section
variable {h c : Addr} {H0 H H1 : Hp}
theorem Sy.refl (x : HandAt h c H) : Sy h c H H := ⟨fun _ _ e _ _ => e, x, x⟩
theorem Sy.sx (x : Sy h c H0 H) (y : Sx h c H H1) : Sy h c H0 H1 := ⟨fun b o e n t => y.kp b o (x.kp b o e n t) n, x.a0, y.a1⟩
theorem Sy.same (x : Sy h c H0 H) (s : Same H H1) : Sy h c H0 H1 := x.sx ((Sx.refl x.a1).same s)
theorem Sy.trans (x : Sy h c H0 H) (y : Sy h c H H1) : Sy h c H0 H1 := ⟨fun b o e n t => y.kp b o (x.kp b o e n t) n t, x.a0, y.a1⟩
theorem Sy.ext (x : Sy h c H0 H) (e : LamX.ExtN H H1) : Sy h c H0 H1 := by
  refine ⟨fun b o q n t => e b o (x.kp b o q n t) t, x.a0, ?_⟩
  obtain ⟨⟨i, j, k, e1⟩, ns, e2, e3⟩ := x.a1
  exact ⟨⟨i, j, k, e _ _ e1 (fun _ z => nomatch z)⟩, ns, e _ _ e2 (fun _ z => nomatch z), e3⟩
theorem HandAt.neT (x : HandAt h c H) {b : Addr} {xs : List V} (e : H b = some (.tup xs)) : b ≠ h := fun z => by
  obtain ⟨⟨i, j, k, e1⟩, _⟩ := x
  rw [z, e1] at e
  cases e
theorem HandAt.neI (x : HandAt h c H) {b C dx : Addr} {fs : List (Str × V)} (e : H b = some (.ins C dx fs)) : b ≠ h := fun z => by
  obtain ⟨⟨i, j, k, e1⟩, _⟩ := x
  rw [z, e1] at e
  cases e
theorem HandAt.neD (x : HandAt h c H) {b : Addr} {kvs : List (Key × V)} (e : H b = some (.dK kvs)) : b ≠ h := fun z => by
  obtain ⟨⟨i, j, k, e1⟩, _⟩ := x
  rw [z, e1] at e
  cases e
theorem Sy.tupS (x : Sy h c H0 H) : TupS H0 H := fun b xs e => x.kp b _ e (x.a0.neT e) (fun _ z => nomatch z)
theorem Sy.insS (x : Sy h c H0 H) : InsS H0 H := fun b _ _ _ e => x.kp b _ e (x.a0.neI e) (fun _ z => nomatch z)
theorem Sy.kt (x : Sy h c H0 H) : Kt h H0 H := ⟨fun b _ e n => x.kp b _ e n (fun _ z => nomatch z), fun b _ e => x.tupS _ _ e, fun b kvs e => x.kp b _ e (x.a0.neD e) (fun _ z => nomatch z)⟩
theorem Sy.lst (x : Sy h c H0 H) {b : Addr} {xs : List V} (e : H0 b = some (.lst xs)) (n : b ≠ h) : H b = some (.lst xs) := x.kp b _ e n (fun _ z => nomatch z)
/-- a list that H₀ did not know is written -/
theorem Sy.put {l : Addr} {o : HO} {Hc : Hp} (x : Sy h c H0 Hc) (n : Hc l = none) (y : Sy h c H0 H) : Sy h c H0 (upd H l o) := by
  refine ⟨fun b u e z t => ?_, y.a0, y.a1.upd (x.a1.nel n).1 (x.a1.nel n).2⟩
  rw [upd_ne (ne_of_none (x.kp b u e z t) n)]
  exact y.kp b u e z t
end
/-- tables through a step that keeps all but the hand -/
theorem tabs_sx {T : List (Addr × Str)} {h c : Addr} {H H' : Hp} (t : LamX.Tabs T H) (x : Sx h c H H') : LamX.Tabs T H' := fun p hp => by
  obtain ⟨ps, h1, h2, h3⟩ := t p hp
  obtain ⟨⟨i, j, k, eh⟩, _⟩ := x.a0
  refine ⟨ps, x.kp _ _ h1 (fun z => by rw [z, eh] at h1; cases h1), h2, fun pos cv hc => ?_⟩
  obtain ⟨c0, e1, e2⟩ := h3 pos cv hc
  exact ⟨c0, e1, x.kp _ _ e2 (fun z => by rw [z, eh] at e2; unfold LamX.CodeO at e2; cases e2)⟩
theorem tabs_same {T : List (Addr × Str)} {H H' : Hp} (t : LamX.Tabs T H) (s : Same H H') : LamX.Tabs T H' := t.ext s
/-- a list is written -/
theorem tabs_put {T : List (Addr × Str)} {H : Hp} {l : Addr} {xs : List V} {o : HO} (t : LamX.Tabs T H) (e : H l = some (.lst xs)) : LamX.Tabs T (upd H l o) := fun p hp => by
  obtain ⟨ps, h1, h2, h3⟩ := t p hp
  refine ⟨ps, by rw [upd_ne (fun z => by rw [z, e] at h1; cases h1)]; exact h1, h2, fun pos cv hc => ?_⟩
  obtain ⟨c0, e1, e2⟩ := h3 pos cv hc
  exact ⟨c0, e1, by rw [upd_ne (fun z => by rw [z, e] at e2; unfold LamX.CodeO at e2; cases e2)]; exact e2⟩
theorem Xs.put {l : Addr} {o : HO} {h c : Addr} {H : Hp} {xs : List V} (e : H l = some (.lst xs)) (n : l ≠ h) (n2 : l ≠ c) (a : HandAt h c H) : HandAt h c (upd H l o) := a.upd n n2
section
variable {K : PySem.W.Frag} {C CT CP n t h : Addr} {σ : L2.St} {H : Hp} {Q : VK} {m r : Int} {ls : List V} {es : List Lk} {v : V} {d : PyData}
theorem tt_depths (N : NetOk C H n m r t ls es) (x : Dq h H v d) (s2 : σ[2]? = some (some (.ref n))) (s3 : σ[3]? = some (some v))
    (qt : ∀ ns, TreeB es r m d ns → ∀ H' t q, Same H H' → H' t = some (.tup [.str "told", .ref q]) → H' q = some (.tup (depV es ns m)) → Q (.ref t) H')
    (qn : ¬ IsTree es r m d → ∀ H' t, Same H H' → H' t = some (.tup [.str "refused", .str "tree"]) → Q (.ref t) H') :
    TTold CT CP (fun E H' Q' => tCall (spDepths C CT) [] E (tCons (tVar 2) (tCons (tVar 3) tNil)) σ H' Q') H Q := by
  intro H1 S1
  refine ⟨fun cls d0 H' => cls = .ref CT ∧ d0 = none ∧ Same H1 H' ∧ ¬ IsTree es r m d, fun v' H' => ∃ ns q, v' = .ref q ∧ Same H1 H' ∧ TreeB es r m d ns ∧ H' q = some (.tup (depV es ns m)), ?_, ?_, ?_⟩
  · exact ⟨_, s2, _, s3, n, v, m, r, t, ls, es, d, h, rfl, N.keep (tS S1) (iS S1), Dq.keep (Kt.same S1) _ _ x, fun H' ns q S TB e => ⟨ns, q, rfl, S, TB, e⟩, fun H' S nt => ⟨rfl, rfl, S, nt⟩⟩
  · rintro v' H2 ⟨ns, q, rfl, S, TB, e⟩ u hu
    exact qt ns TB _ u q (S1.trans (S.trans (same_upd hu))) upd_same (same_upd hu _ _ e)
  · rintro cls d0 H2 ⟨rfl, rfl, S, nt⟩
    exact ⟨rfl, .inl ⟨rfl, fun u H' S' e => qn nt H' u (S1.trans (S.trans S')) e⟩⟩
theorem tt_way {j : Nat} {pv : V} {pd : PyData} (N : NetOk C H n m r t ls es) (x : Dq h H v d) (xp : Dq h H pv pd) (s2 : σ[2]? = some (some (.ref n))) (s3 : σ[3]? = some (some v)) (sj : σ[j]? = some (some pv))
    (qt : ∀ ns p, TreeB es r m d ns → pd = .int p → 0 ≤ p → p < m → ∀ H' t q, Same H H' → H' t = some (.tup [.str "told", .ref q]) → H' q = some (.tup ((wayF es ns m.toNat p).map V.int)) → Q (.ref t) H')
    (qn : ¬ IsTree es r m d → ∀ H' t, Same H H' → H' t = some (.tup [.str "refused", .str "tree"]) → Q (.ref t) H')
    (qp : IsTree es r m d → within 0 (m - 1) pd = false → ∀ H' t, Same H H' → H' t = some (.tup [.str "refused", .str "place"]) → Q (.ref t) H') :
    TTold CT CP (fun E H' Q' => tCall (spWayIn C CT CP) [] E (tCons (tVar 2) (tCons (tVar 3) (tCons (tVar j) tNil))) σ H' Q') H Q := by
  intro H1 S1
  refine ⟨fun cls d0 H' => d0 = none ∧ Same H1 H' ∧ ((cls = .ref CT ∧ ¬ IsTree es r m d) ∨ (cls = .ref CP ∧ IsTree es r m d ∧ within 0 (m - 1) pd = false)),
    fun v' H' => ∃ ns q p, v' = .ref q ∧ Same H1 H' ∧ TreeB es r m d ns ∧ pd = .int p ∧ 0 ≤ p ∧ p < m ∧ H' q = some (.tup ((wayF es ns m.toNat p).map V.int)), ?_, ?_, ?_⟩
  · exact ⟨_, s2, _, s3, _, sj, n, v, pv, m, r, t, ls, es, d, pd, h, rfl, N.keep (tS S1) (iS S1), Dq.keep (Kt.same S1) _ _ x, Dq.keep (Kt.same S1) _ _ xp, fun H' ns q p S TB ep p0 p1 e => ⟨ns, q, p, rfl, S, TB, ep, p0, p1, e⟩,
      fun H' S nt => ⟨rfl, S, .inl ⟨rfl, nt⟩⟩, fun H' S it w => ⟨rfl, S, .inr ⟨rfl, it, w⟩⟩⟩
  · rintro v' H2 ⟨ns, q, p, rfl, S, TB, ep, p0, p1, e⟩ u hu
    exact qt ns p TB ep p0 p1 _ u q (S1.trans (S.trans (same_upd hu))) upd_same (same_upd hu _ _ e)
  · rintro cls d0 H2 ⟨rfl, S, ⟨rfl, nt⟩ | ⟨rfl, it, w⟩⟩
    · exact ⟨rfl, .inl ⟨rfl, fun u H' S' e => qn nt H' u (S1.trans (S.trans S')) e⟩⟩
    · exact ⟨rfl, .inr ⟨rfl, fun u H' S' e => qp it w H' u (S1.trans (S.trans S')) e⟩⟩
end
end ST

/-! the law's is_right -/
namespace ST
open PySem PySem.Spec PyProof.Rows L2 C8
abbrev sIsRight : Stmt := top 48
abbrev pIsRight : List Str := ["_law_hand_here", "_law_parts", "_law_net", "_law_thing"]
abbrev nIsRight : List Str := ["_law_hand_here", "_law_parts", "_law_net", "_law_thing", "_law_is_one", "_law_ahead", "_law_told_here", "_law_last", "_law_due", "_law_odd_here", "_law_place", "_law_one"]
theorem scIsRight : FnScope nIsRight pIsRight (C8.fnScope sIsRight) := fnScope_by (by decide +kernel)
/-- the name of the lambdas in it -/
def lamQ : Str := (envOfC "_law_is_right" (C8.fnScope sIsRight) 0 0 .none).qual ++ "<lambda>"
def tabT (P0 : Addr) : List (Addr × Str) := [(P0, lamQ)]
def spIsRight (C P0 : Addr) : Sp := fun vs H Q _ => ∃ h c p n v m r t ls es d, vs = [.ref h, .ref p, .ref n, v] ∧ HandAt h c H ∧ PartsOk H p m r t ls es ∧ NetOk C H n m r t ls es ∧ Dq h H v d ∧ Fit d ∧ LamX.Tabs (tabT P0) H ∧
  ∀ H', Sy h c H H' → LamX.Tabs (tabT P0) H' → Q (.bl true) H'
def refD (x : Str) : PyData := .tuple [.str "refused", .str x]
theorem dp_ref {K : PySem.W.Frag} {H : Hp} {t : Addr} {x : Str} (e : H t = some (.tup [.str "refused", .str x])) : Dp K H (.ref t) (refD x) := .tup (SqT.of e) (.cons (.str _) (.cons (.str _) .nil))
theorem ref_lay {x : Str} (hx : x = "tree" ∨ x = "place") : (refD x).canLay0 = true := by
  rcases hx with rfl | rfl <;> decide +kernel
theorem ref_shaped {x : Str} (hx : x = "tree" ∨ x = "place") : SeqAt.shaped (refD x) = true := by
  rcases hx with rfl | rfl <;> decide +kernel
def depI (es : List Lk) (ns : List Int) (m : Int) : List Int := (List.range m.toNat).map fun i => ((wayF es ns m.toNat ((i : Nat) : Int)).length : Int)
theorem depV_eq (es : List Lk) (ns : List Int) (m : Int) : depV es ns m = (depI es ns m).map V.int := by
  unfold depV depI
  rw [List.map_map]
  rfl
theorem depI_bd (es : List Lk) (ns : List Int) {m : Int} (hm : m ≤ 10) : (depI es ns m).length ≤ 100 ∧ ∀ z ∈ depI es ns m, z.natAbs < 1000 := by
  refine ⟨by unfold depI; rw [List.length_map, List.length_range]; omega, fun z hz => ?_⟩
  obtain ⟨i, _, rfl⟩ := List.mem_map.mp hz
  have := way_len (es := es) (ns := ns) m.toNat ((i : Nat) : Int)
  omega
theorem way_mem {es : List Lk} {ns : List Int} : ∀ (k : Nat) (x : Int), ∀ z ∈ wayF es ns k x, z ∈ ns
  | 0, x, z, hz => nomatch hz
  | k + 1, x, z, hz => by
    unfold wayF at hz
    split at hz
    · rename_i n hn
      rcases List.mem_append.mp hz with q | q
      · exact way_mem k _ z q
      · rw [List.mem_singleton.mp q]
        exact List.mem_of_find?_eq_some hn
    · cases hz
section
variable {P : Program} {w : World} {K : PySem.W.Frag} {mg : Str → Option Value} {base : Heap}
theorem ok_is_right {C CE CT CP CL c0 P0 : Addr} (B : Nb mg) (R : Errs K mg CE CT CP CL) (TB0 : LamX.TabB base mg c0 P0) (D : DBc K mg "_law_is_right" sIsRight pIsRight (.ref c0)) (Dt : DB K mg "_law_told" sTold ["_law_call"])
    (cW : Cal P w K mg base 3 "_law_is_wood" spLawWood []) (cI : Cal P w K mg base 1 "_law_is" spIs []) (cT : Cal P w K mg base 6 "is_tree" (spIsTree C) []) (cD : Cal P w K mg base 2 "_law_draw" spDraw []) (cC : Cal P w K mg base 1 "_law_chain" spChain [])
    (cU : CalG P w K mg base 1 "_law_is_tuple" nIsTuple spIsTuple) (xD : CalX P w K mg base 8 "depths" (spDepths C CT)) (xW : CalX P w K mg base 8 "way_in" (spWayIn C CT CP)) :
    CalG P w K mg base 11 "_law_is_right" pIsRight (spIsRight C P0) := by
  obtain ⟨cdvT, g, ocT, odT, dVT, kVT, docT, pmT, anT, ctT, oslT, lkT, hcT, hmT, kpT, bT⟩ := Dt.code
  refine calG D scIsRight (fun vs H Q E h => ?_) (fun f A outer s H vs Q hG hr h => ?_)
  · obtain ⟨h, c, p, n, v, m, r, t, ls, es, d, rfl, _⟩ := h
    rfl
  · have nd := scIsRight.nd
    have hG' : (A.deeper (envOfC "_law_is_right" (C8.fnScope sIsRight) s.heap.objs.size f (.ref c0))).guards = some [] := hG
    have lam : ∀ {params : Arguments} {body : Expr} {scope : Scope} {t : XK → TE} {p lpos pos : Pos}
        (L : LamX.LamS (C8.fnScope sIsRight) scope) (hdef : defaultsOf params (envOfC "_law_is_right" (C8.fnScope sIsRight) s.heap.objs.size f (.ref c0)) = ([], []))
        (hbind : ∀ (q : Str) (cl : List (Str × Addr)) (pm cv ctv : Value), bindArgs (PySem.W.kla_fn "<lambda>" q params body scope cl pm cv ctv) ⟨[], []⟩ = pure [])
        (hbody : ∀ (A1 : Around) (outer1 : List Env) (s1 : Shared) (H1 : Hp) (E : XK) (f1 c' : Addr), Room 8 (A1.deeper (LamX.lamEnv (cxOf C8.CX0 P w K mg base nIsRight "_law_is_right" (C8.fnScope sIsRight) f (.ref c0) A outer s H C8.E0).nox scope s1.heap.objs.size f1 c')) →
          PE (LamX.lamCx (cxOf C8.CX0 P w K mg base nIsRight "_law_is_right" (C8.fnScope sIsRight) f (.ref c0) A outer s H C8.E0).nox A1 outer1 s1 H1 E scope f1 c') body (t E)),
        PE (cxOf C8.CX0 P w K mg base nIsRight "_law_is_right" (C8.fnScope sIsRight) f (.ref c0) A outer s H C8.E0).nox (.Call (.Name "_law_told" p) [.Lambda params body scope lpos] [] pos) (LamX.tLam (tabT P0) (TTold CT CP) t) :=
      fun L hdef hbind hbody => LamX.pe_lamcall (k := 8) (T := tabT P0) (by rfl) hmT kpT lkT hcT bT scTold rfl (.inl rfl) (told_gives2 B R) TB0 rfl (List.mem_singleton.mpr rfl) (fun p hp _ => by rw [List.mem_singleton.mp hp]; rfl) hr L hdef hbind hbody
    obtain ⟨h, c, p, n, v, m, r, t, ls, es, d, rfl, hh, hp, N, x, fit, hT, q⟩ := h
    refine ⟨_, pss_cons (ps_set (i := 4) nd rfl (.inl rfl) (pe_c cW hr (by decide) (by rfl) (pa_cons (pv 1) (pa_cons (pe_tup (pa_cons (pe_ix ix_tup (pv 1) pe_int (fun _ _ => rfl)) pa_nil)) (pa_cons (pv 3) pa_nil)))))
      (pss_cons (ps_set (i := 5) nd rfl (.inl rfl) (pe_callB (cr_repr hG' hr.units) (by rfl) B.repr (by decide +kernel) (pa_cons (pv 3) pa_nil)))
      (pss_cons (ps_if (pt_not (pt_val (pe_c cI hr (by decide) (by rfl) (pa_cons (pe_c cT hr (by decide) (by rfl) (pa_cons (pv 2) (pa_cons (pv 3) pa_nil))) (pa_cons (pv 4) pa_nil))))) (pss_one (ps_ret pe_bl)) pss_nil)
      (pss_cons (ps_set (i := 10) nd rfl (.inr rfl) (pe_ix ix_list (pe_lst (pa_cons (pe_c cD hr (by decide) (by rfl) (pa_cons (pv 0) (pa_cons (pe_ix ix_tup (pv 1) pe_int (fun _ _ => rfl)) pa_nil))) (pa_cons (pe_ix ix_tup (pv 1) pe_int (fun _ _ => rfl)) pa_nil)))
          (pe_c cD hr (by decide) (by rfl) (pa_cons (pv 0) (pa_cons pe_int pa_nil))) (fun _ _ => rfl)))
      (pss_cons (ps_set (i := 9) nd rfl (.inr rfl) (pe_ix ix_list (pe_lst (pa_cons pe_non (pa_cons pe_bl (pa_cons (pe_un un_neg pe_int) (pa_cons (pe_ix ix_tup (pv 1) pe_int (fun _ _ => rfl)) (pa_cons pe_str (pa_cons (pe_tup (pa_cons pe_int pa_nil))
          (pa_cons (pe_op op_pow pe_int pe_int) (pa_cons (pe_lst pa_nil) pa_nil)))))))))
          (pe_c cD hr (by decide) (by rfl) (pa_cons (pv 0) (pa_cons pe_int pa_nil))) (fun _ _ => rfl)))
      (pss_cons (ps_set (i := 6) nd rfl (.inl rfl) (pe_lst (pa_cons (lam (t := fun E => tCall (spDepths C CT) [] E (tCons (tVar 2) (tCons (tVar 3) tNil))) (LamX.lamS_by (by decide +kernel)) rfl (fun _ _ _ _ _ => rfl)
          (fun A1 outer1 s1 H1 E f1 c' hr1 => pe_cX xD hr1 (by decide) (by rfl) (takes_of rfl rfl rfl rfl) (pa_cons (pv 2) (pa_cons (pv 3) pa_nil)))) pa_nil)))
      (pss_cons (ps_expr (pe_bm PySem.F.plainAttrs_list PySem.F.slot_list_append PySem.F.type_list_append mt_append (pv 6) (pa_cons (lam (t := fun E => tCall (spWayIn C CT CP) [] E (tCons (tVar 2) (tCons (tVar 3) (tCons (tVar 10) tNil)))) (LamX.lamS_by (by decide +kernel)) rfl (fun _ _ _ _ _ => rfl)
          (fun A1 outer1 s1 H1 E f1 c' hr1 => pe_cX xW hr1 (by decide) (by rfl) (takes_of rfl rfl rfl rfl) (pa_cons (pv 2) (pa_cons (pv 3) (pa_cons (pv 10) pa_nil))))) pa_nil)))
      (pss_cons (ps_set (i := 7) nd rfl (.inl rfl) (lam (t := fun E => tCall (spWayIn C CT CP) [] E (tCons (tVar 2) (tCons (tVar 3) (tCons (tVar 9) tNil)))) (LamX.lamS_by (by decide +kernel)) rfl (fun _ _ _ _ _ => rfl)
          (fun A1 outer1 s1 H1 E f1 c' hr1 => pe_cX xW hr1 (by decide) (by rfl) (takes_of rfl rfl rfl rfl) (pa_cons (pv 2) (pa_cons (pv 3) (pa_cons (pv 9) pa_nil))))))
      (pss_cons (ps_if (pt_not (pt_val (pv 4))) (pss_one (ps_ret (pe_and (pe_cmpR (op_eqD hr.units) (pv 6) (pe_op op_rep (pe_lst (pa_cons (pe_tup (pa_cons pe_str (pa_cons pe_str pa_nil))) pa_nil)) pe_int) (nomark _))
          (pe_and (pe_cmpR (op_eqD hr.units) (pv 7) (pe_tup (pa_cons pe_str (pa_cons pe_str pa_nil))) (nomark _))
          (pe_one (pe_cmpR op_eq (pe_callB (cr_repr hG' hr.units) (by rfl) B.repr (by decide +kernel) (pa_cons (pv 3) pa_nil)) (pv 5) (nomark _))))))) pss_nil)
      (pss_cons (ps_set (i := 8) nd rfl (.inl rfl) (pe_callTy call_tuple_of (by rfl) B.tuple (by decide +kernel) (pa_cons
          (pe_lc (own := [("_law_one", 11)]) (g := gName 11) (tt := tYes) rfl nd (pi_range1 (by rfl) B.range (pa_cons (pe_ix ix_tup (pv 1) pe_int (fun _ _ => rfl)) pa_nil)) (blkOk_by (N := nIsRight) (sc := C8.fnScope sIsRight) (by decide +kernel))
            (fun _ _ _ _ _ => pg_name (i := 11) nd rfl (Or.inl rfl)) (fun _ _ _ _ _ => pts_nil)
            (fun _ _ _ _ _ => pe_callB (lenK K) (by rfl) B.len PySem.boot_len (pa_cons (pe_c cC hr (by decide) (by rfl) (pa_cons (pv 1) (pa_cons (pv 3) (pa_cons (pv 11) pa_nil)))) pa_nil))) pa_nil)))
      (pss_cons (ps_if (PW.pt (pw_or (pt_not (pt_val (pe_g cU hG' hr (by decide) (by rfl) (pa_cons (pe_ix ix_list (pv 6) pe_int (fun _ _ => rfl)) (pa_cons (pv 8) pa_nil)))))
          (pw_or1 (pt_not (pt_val (pe_g cU hG' hr (by decide) (by rfl) (pa_cons (pe_ix ix_list (pv 6) pe_int (fun _ _ => rfl)) (pa_cons (pe_c cC hr (by decide) (by rfl) (pa_cons (pv 1) (pa_cons (pv 3) (pa_cons (pv 10) pa_nil)))) pa_nil)))))))) (pss_one (ps_ret pe_bl)) pss_nil)
      (pss_one (ps_ret (pe_and (pe_cmpR (op_eqD hr.units) (pv 7) (pe_tup (pa_cons pe_str (pa_cons pe_str pa_nil))) (nomark _))
          (pe_one (pe_cmpR op_eq (pe_callB (cr_repr hG' hr.units) (by rfl) B.repr (by decide +kernel) (pa_cons (pv 3) pa_nil)) (pv 5) (nomark _)))))))))))))))), ?_⟩
    have hm2 := hp.m2
    have hm10 := hp.m10
    have neh : ∀ z, H z = none → z ≠ h := fun z hz => (hh.nel hz).1
    -- is_one
    refine ⟨_, rfl, _, rfl, p, _, 1, .int r, rfl, rfl, SqT.of hp.at_, atI_nat (j := 1) rfl, by show 1 ≤ sizeLine; decide, fun so hso => ?_⟩
    have S1 : Same H (upd H so (.tup [.int r])) := same_upd hso
    refine ⟨_, rfl, p, so, v, m, r, t, ls, es, d, h, rfl, hp.keep (tS S1), upd_same, Dq.keep (Kt.same S1) _ _ x, fun H2 b S2 hb1 hb2 => ?_⟩
    have S02 := S1.trans S2
    -- ahead
    refine ⟨_, rfl, h, v, d, rfl, Dq.keep (Kt.same S02) _ _ x, fit, ?_⟩
    -- is_tree
    refine ⟨_, rfl, _, rfl, n, v, m, r, t, ls, es, d, h, rfl, N.keep (tS S02) (iS S02), Dq.keep (Kt.same S02) _ _ x, fun H3 b' S3 hb' hB' => ⟨_, rfl, b', b, rfl, _, rfl, ?_⟩⟩
    have hbb : b' = b := by
      cases b with
      | true => exact hb'.mpr (hb1 rfl)
      | false =>
        cases b' with
        | false => rfl
        | true => exact absurd (hb2 (hB' rfl)) (by decide)
    rw [decide_eq_true hbb]
    refine iteF ?_
    subst hbb
    have X3 : Sx h c H H3 := (Sx.refl hh).same (S02.trans S3)
    have P3 := hp.keep X3.tupS
    -- place
    refine ⟨_, rfl, _, rfl, p, _, 0, .int m, rfl, rfl, SqT.of P3.at_, atI_nat (j := 0) rfl, h, c, m, rfl, X3.a1, by omega, by omega, fun H4 p1 X4 p10 p11 => ?_⟩
    have X04 := X3.trans X4
    have P4 := hp.keep X04.tupS
    refine ⟨_, rfl, p, _, 1, .int r, rfl, rfl, SqT.of P4.at_, atI_nat (j := 1) rfl, by show 2 ≤ sizeLine; decide, fun l1 hl1 => ?_⟩
    have X05 : Sx h c H (upd H4 l1 (.lst [.int p1, .int r])) := X04.new hl1
    refine ⟨_, rfl, h, c, 2, rfl, X05.a1, by decide, by decide, fun H6 u X6 u0 u1 => ?_⟩
    have el1 : H6 l1 = some (.lst [.int p1, .int r]) := X6.kp _ _ upd_same (neh l1 (X04.free hl1))
    obtain ⟨p0, hat, p00, p01⟩ : ∃ p0, atI [V.int p1, .int r] u = some (.int p0) ∧ 0 ≤ p0 ∧ p0 < m := by
      by_cases z : u = 0
      · rw [z]
        exact ⟨p1, atI_nat (j := 0) rfl, p10, p11⟩
      · have : u = 1 := by omega
        rw [this]
        exact ⟨r, atI_nat (j := 1) rfl, hp.r0, hp.rm⟩
    refine ⟨l1, _, _, .int p0, rfl, rfl, SqL.of el1, hat, ?_⟩
    have X06 := X05.trans X6
    have P6 := hp.keep X06.tupS
    -- the odd place
    refine ⟨1, rfl, _, rfl, p, _, 0, .int m, rfl, rfl, SqT.of P6.at_, atI_nat (j := 0) rfl, by show 1 ≤ sizeLine; decide, fun t5 h5 => ?_⟩
    obtain ⟨S7, O7⟩ := new_tup (h := h) h5 (dq1 (.int 0))
    revert S7 O7; generalize upd H6 t5 _ = H7; intro S7 O7
    refine ⟨10, 30, rfl, rfl, ⟨by decide, by decide, by decide⟩, Nat.zero_le _, fun l5 hl5 => ?_⟩
    have X07 := X06.same S7
    obtain ⟨S8, O8⟩ := new_lst X07.a1 hl5 .nil
    revert S8 O8; generalize upd H7 l5 _ = H8; intro S8 O8
    refine ⟨by show 8 ≤ sizeLine; decide, fun l6 hl6 => ?_⟩
    have X08 := X07.same S8
    have el6 : (upd H8 l6 (.lst [V.non, .bl true, .int (-1), .int m, .str "0", .ref t5, .int ((10 : Int) ^ (30 : Int).toNat), .ref l5])) l6 = some (.lst [V.non, .bl true, .int (-1), .int m, .str "0", .ref t5, .int ((10 : Int) ^ (30 : Int).toNat), .ref l5]) := upd_same
    have S9 : Same H8 (upd H8 l6 (.lst [V.non, .bl true, .int (-1), .int m, .str "0", .ref t5, .int ((10 : Int) ^ (30 : Int).toNat), .ref l5])) := same_upd hl6
    have X09 := X08.same S9
    have all : ∀ z ∈ [V.non, .bl true, .int (-1), .int m, .str "0", .ref t5, .int ((10 : Int) ^ (30 : Int).toNat), .ref l5], ∃ zd, Dq h H8 z zd ∧ within 0 (m - 1) zd = false := by
      intro z hz
      simp only [List.mem_cons, List.not_mem_nil, or_false] at hz
      rcases hz with rfl | rfl | rfl | rfl | rfl | rfl | rfl | rfl
      · exact ⟨_, .non, rfl⟩
      · exact ⟨_, .bl true, rfl⟩
      · exact ⟨_, .int _, rfl⟩
      · refine ⟨_, .int _, ?_⟩
        show (decide (0 ≤ m) && decide (m ≤ m - 1)) = false
        rw [decide_eq_false (by omega : ¬ m ≤ m - 1), Bool.and_false]
      · exact ⟨_, .str _, rfl⟩
      · exact ⟨_, Dq.keep (Kt.same S8) _ _ O7, rfl⟩
      · refine ⟨_, .int _, ?_⟩
        show (decide (0 ≤ ((10 : Int) ^ (30 : Int).toNat)) && decide (((10 : Int) ^ (30 : Int).toNat) ≤ m - 1)) = false
        have big : (10 : Int) < (10 : Int) ^ (30 : Int).toNat := by decide +kernel
        rw [decide_eq_false (by omega : ¬ ((10 : Int) ^ (30 : Int).toNat) ≤ m - 1), Bool.and_false]
      · exact ⟨_, O8, rfl⟩
    refine ⟨_, rfl, h, c, 8, rfl, X09.a1, by decide, by decide, fun H10 w0 X10 w00 w01 => ?_⟩
    obtain ⟨k, rfl⟩ := int_nat w00
    have hk : k < [V.non, .bl true, .int (-1), .int m, .str "0", .ref t5, .int ((10 : Int) ^ (30 : Int).toNat), .ref l5].length := by show k < 8; omega
    obtain ⟨od, hod, hwo⟩ := all _ (List.getElem_mem hk)
    refine ⟨l6, _, _, _, rfl, rfl, SqL.of (X10.kp _ _ el6 (neh l6 (X08.free hl6))), atI_nat (List.getElem?_eq_getElem hk), ?_⟩
    have ho10 := Dq.keep X10.kt _ _ (Dq.keep (Kt.same S9) _ _ hod)
    generalize [V.non, .bl true, .int (-1), .int m, .str "0", .ref t5, .int ((10 : Int) ^ (30 : Int).toNat), .ref l5][k] = ov at ho10 ⊢
    have X010 := X09.trans X10
    have Y10 : Sy h c H H10 := (Sy.refl hh).sx X010
    have T10 := tabs_sx hT X010
    clear all hod el6 el1
    have N10 := N.keep Y10.tupS Y10.insS
    have x10 := Dq.keep Y10.kt _ _ x
    cases b' with
    | true =>
      obtain ⟨ns, TB⟩ := hB' rfl
      have edt := TB.dt
      subst edt
      obtain ⟨a, rfl, ha⟩ := dq_ints x
      have same_ns : ∀ ks, TreeB es r m (PyData.tuple (ns.map PyData.int)) ks → ks = ns := fun ks T2 => (ints_inj (PyData.tuple.inj T2.dt)).symm
      have hti : ¬ ¬ IsTree es r m (PyData.tuple (ns.map PyData.int)) := fun z => z TB.is
      have hbI := depI_bd es ns hm10
      -- told 1
      refine ⟨T10, fun H11 eN1 T11 => ?_⟩
      have Y11 := Y10.ext eN1
      refine tt_depths (h := h) (N.keep Y11.tupS Y11.insS) (Dq.keep Y11.kt _ _ x) rfl rfl (fun ks T2 H12 t1 q1 S12 e1 eq1 => ?_) (fun nt => absurd nt hti)
      have := same_ns ks T2
      subst this
      rw [depV_eq] at eq1
      have Y12 := Y11.same S12
      have Z12 := ((Sy.refl X010.a1).ext eN1).same S12
      have T12 := tabs_same T11 S12
      refine ⟨by show 1 ≤ sizeLine; decide, fun lt hlt => ?_⟩
      have S13 : Same H12 (upd H12 lt (.lst [.ref t1])) := same_upd hlt
      have elt : (upd H12 lt (.lst [.ref t1])) lt = some (.lst [.ref t1]) := upd_same
      have e1 := S13 _ _ e1
      have eq1 := S13 _ _ eq1
      have nlt := (Y12.a1.nel hlt)
      have Y13 := Y12.same S13
      have T13 := tabs_same T12 S13
      revert elt e1 eq1 Y13 T13 S13
      generalize hH13 : upd H12 lt _ = H13
      intro S13 elt e1 eq1 Y13 T13
      -- told 2
      refine ⟨_, rfl, .inl ⟨rfl, _, SqL.of elt⟩, T13, fun H14 eN2 T14 => ?_⟩
      have Y14 := Y13.ext eN2
      refine tt_way (h := h) (N.keep Y14.tupS Y14.insS) (Dq.keep Y14.kt _ _ x) (.int p0) rfl rfl rfl (fun ks p' T2 ep _ _ H15 t2 q2 S15 e2 eq2 => ?_) (fun nt => absurd nt hti) (fun _ wf => ?_)
      rotate_left
      · exfalso
        have : (decide (0 ≤ p0) && decide (p0 ≤ m - 1)) = false := wf
        rw [decide_eq_true p00, decide_eq_true (by omega : p0 ≤ m - 1)] at this
        cases this
      have := same_ns ks T2
      subst this
      have := PyData.int.inj ep
      subst this
      have U15 : TupS H13 H15 := fun z xs ez => S15 _ _ (eN2 _ _ ez (fun _ y => nomatch y))
      have elt15 := S15 _ _ (eN2 _ _ elt (fun _ y => nomatch y))
      have Y15 := Y14.same S15
      have Z15 := ((Z12.same S13).ext eN2).same S15
      have T15 := tabs_same T14 S15
      refine ⟨lt, _, _, rfl, rfl, elt15, by show 1 < sizeLine; decide, ?_⟩
      have Y16 : Sy h c H (upd H15 lt (.lst ([.ref t1] ++ [.ref t2]))) := Sy.put Y12 hlt Y15
      have Z16 : Sy h c H10 (upd H15 lt (.lst ([.ref t1] ++ [.ref t2]))) := Sy.put Z12 hlt Z15
      have T16 : LamX.Tabs (tabT P0) (upd H15 lt (.lst ([.ref t1] ++ [.ref t2]))) := tabs_put T15 elt15
      have U16 : TupS H15 (upd H15 lt (.lst ([.ref t1] ++ [.ref t2]))) := fun z xs ez => by
        rw [upd_ne (ne_of ez elt15 (by intro y; cases y))]
        exact ez
      have elt16 : (upd H15 lt (.lst ([.ref t1] ++ [.ref t2]))) lt = some (.lst [.ref t1, .ref t2]) := upd_same
      revert Y16 Z16 T16 U16 elt16
      generalize upd H15 lt _ = H16
      intro Y16 Z16 T16 U16 elt16
      -- told 3
      refine ⟨T16, fun H17 eN3 T17 => ?_⟩
      have Y17 := Y16.ext eN3
      have ho17 : Dq h H17 ov od := Dq.keep (Z16.ext eN3).kt _ _ ho10
      refine tt_way (h := h) (N.keep Y17.tupS Y17.insS) (Dq.keep Y17.kt _ _ x) ho17 rfl rfl rfl (fun ks p' T2 ep q0 q1' => ?_) (fun nt => absurd nt hti) (fun _ _ H18 t3 S18 e3 => ?_)
      · exfalso
        rw [ep] at hwo
        have : (decide (0 ≤ p') && decide (p' ≤ m - 1)) = false := hwo
        rw [decide_eq_true q0, decide_eq_true (by omega : p' ≤ m - 1)] at this
        cases this
      have Y18 := Y17.same S18
      have T18 := tabs_same T17 S18
      have U18 : TupS H16 H18 := fun z xs ez => S18 _ _ (eN3 _ _ ez (fun _ y => nomatch y))
      have elt18 := S18 _ _ (eN3 _ _ elt16 (fun _ y => nomatch y))
      have V13 : TupS H13 H18 := fun z xs ez => U18 _ _ (U16 _ _ (U15 _ _ ez))
      have V15 : TupS H15 H18 := fun z xs ez => U18 _ _ (U16 _ _ ez)
      have e1 := V13 _ _ e1
      have eq1 := V13 _ _ eq1
      have e2 := V15 _ _ e2
      have eq2 := V15 _ _ eq2
      have P18 := hp.keep Y18.tupS
      have ha18 := Y18.tupS _ _ ha
      refine ⟨_, rfl, true, rfl, iteF ?_⟩
      -- due
      refine ⟨_, rfl, p, _, 0, .int m, rfl, rfl, SqT.of P18.at_, atI_nat (j := 0) rfl, m, rfl, by omega, by omega, fun D hD => lc_rng (fun i => .int ((wayF es ks m.toNat ((i : Nat) : Int)).length : Nat)) (fun _ => rfl) hD (by omega) (fun i H19 Qv hi S19 qv => ?_) (fun H19 S19 eD => ?_)⟩
      · refine ⟨_, rfl, _, rfl, _, rfl, p, a, ((i : Nat) : Int), m, r, t, ls, es, ks, rfl, P18.keep (tS S19), S19 _ _ ha18, TB.lot, fun H20 q20 S20 eq20 => ⟨q20, _, rfl, .inr (SqT.of eq20), ?_⟩⟩
        rw [List.length_map]
        exact qv H20 S20
      refine ⟨D, _, rfl, .inl ⟨SqL.of eD, fun du hdu => ?_⟩⟩
      have S20 : Same H19 (upd H19 du (.tup ((List.range m.toNat).map fun i => V.int ((wayF es ks m.toNat ((i : Nat) : Int)).length : Nat)))) := same_upd hdu
      have edu : (upd H19 du (.tup ((List.range m.toNat).map fun i => V.int ((wayF es ks m.toNat ((i : Nat) : Int)).length : Nat)))) du = some (.tup ((depI es ks m).map V.int)) := by
        rw [upd_same, ← depV_eq]
        rfl
      revert S20 edu
      generalize upd H19 du _ = H20
      intro S20 edu
      have S1820 := S19.trans S20
      -- the two looks
      refine ⟨_, rfl, lt, _, 0, .ref t1, rfl, rfl, SqL.of (S1820 _ _ elt18), atI_nat (j := 0) rfl, _, rfl, t1, q1, du, depI es ks m, rfl, S1820 _ _ e1, S1820 _ _ eq1, edu, hbI.1, hbI.2, fun H21 S21 => ⟨_, rfl, iteF ?_⟩⟩
      have S1821 := S1820.trans S21
      refine ⟨_, rfl, lt, _, 1, .ref t2, rfl, rfl, SqL.of (S1821 _ _ elt18), atI_nat (j := 1) rfl, _, rfl, _, rfl, _, rfl, p, a, p0, m, r, t, ls, es, ks, rfl, P18.keep (tS S1821), S1821 _ _ ha18, TB.lot, fun H22 q22 S22 eq22 => ?_⟩
      have S1822 := S1821.trans S22
      refine ⟨t2, q2, q22, wayF es ks m.toNat p0, rfl, S1822 _ _ e2, S1822 _ _ eq2, eq22, ?_, fun z hz => ?_, fun H23 S23 => ⟨_, rfl, iteF ?_⟩⟩
      · have := way_len (es := es) (ns := ks) m.toNat p0
        omega
      · have := TB.lot.2 z (way_mem _ _ z hz)
        have := hp.few
        omega
      have S1823 := S1822.trans S23
      -- the last two
      refine ⟨_, rfl, by show 2 ≤ sizeLine; decide, fun tp htp => ?_⟩
      have S24 : Same H23 (upd H23 tp (.tup [.str "refused", .str "place"])) := same_upd htp
      have S1824 := S1823.trans S24
      have Y24 := Y18.same S1824
      refine ⟨refD "place", refD "place", dp_ref (S1824 _ _ e3), dp_ref upd_same, ref_shaped (.inr rfl), ref_shaped (.inr rfl), _, rfl, ?_⟩
      rw [eqv_self (ref_lay (.inr rfl))]
      refine iteT ⟨_, rfl, h, _, _, rfl, Dq.keep Y24.kt _ _ x, fit, _, rfl, rfl, ?_⟩
      rw [decide_eq_true rfl]
      exact q _ Y24 (tabs_same T18 S1824)
    | false =>
      have nti : ¬ IsTree es r m d := fun z => absurd (hb'.mpr z) (by decide)
      have noT : ∀ ks, ¬ TreeB es r m d ks := fun ks z => nti z.is
      -- told 1
      refine ⟨T10, fun H11 eN1 T11 => ?_⟩
      have Y11 := Y10.ext eN1
      refine tt_depths (h := h) (N.keep Y11.tupS Y11.insS) (Dq.keep Y11.kt _ _ x) rfl rfl (fun ks T2 => absurd T2 (noT ks)) (fun _ H12 t1 S12 e1 => ?_)
      have Y12 := Y11.same S12
      have Z12 := ((Sy.refl X010.a1).ext eN1).same S12
      have T12 := tabs_same T11 S12
      refine ⟨by show 1 ≤ sizeLine; decide, fun lt hlt => ?_⟩
      have S13 : Same H12 (upd H12 lt (.lst [.ref t1])) := same_upd hlt
      have elt : (upd H12 lt (.lst [.ref t1])) lt = some (.lst [.ref t1]) := upd_same
      have e1 := S13 _ _ e1
      have Y13 := Y12.same S13
      have T13 := tabs_same T12 S13
      revert S13 elt e1 Y13 T13
      generalize hH13 : upd H12 lt _ = H13
      intro S13 elt e1 Y13 T13
      -- told 2
      refine ⟨_, rfl, .inl ⟨rfl, _, SqL.of elt⟩, T13, fun H14 eN2 T14 => ?_⟩
      have Y14 := Y13.ext eN2
      refine tt_way (h := h) (N.keep Y14.tupS Y14.insS) (Dq.keep Y14.kt _ _ x) (.int p0) rfl rfl rfl (fun ks p' T2 => absurd T2 (noT ks)) (fun _ H15 t2 S15 e2 => ?_) (fun it => absurd it nti)
      have U15 : TupS H13 H15 := fun z xs ez => S15 _ _ (eN2 _ _ ez (fun _ y => nomatch y))
      have elt15 := S15 _ _ (eN2 _ _ elt (fun _ y => nomatch y))
      have Y15 := Y14.same S15
      have Z15 := ((Z12.same S13).ext eN2).same S15
      have T15 := tabs_same T14 S15
      refine ⟨lt, _, _, rfl, rfl, elt15, by show 1 < sizeLine; decide, ?_⟩
      have Y16 : Sy h c H (upd H15 lt (.lst ([.ref t1] ++ [.ref t2]))) := Sy.put Y12 hlt Y15
      have Z16 : Sy h c H10 (upd H15 lt (.lst ([.ref t1] ++ [.ref t2]))) := Sy.put Z12 hlt Z15
      have T16 : LamX.Tabs (tabT P0) (upd H15 lt (.lst ([.ref t1] ++ [.ref t2]))) := tabs_put T15 elt15
      have U16 : TupS H15 (upd H15 lt (.lst ([.ref t1] ++ [.ref t2]))) := fun z xs ez => by
        rw [upd_ne (ne_of ez elt15 (by intro y; cases y))]
        exact ez
      have elt16 : (upd H15 lt (.lst ([.ref t1] ++ [.ref t2]))) lt = some (.lst [.ref t1, .ref t2]) := upd_same
      revert Y16 Z16 T16 U16 elt16
      generalize upd H15 lt _ = H16
      intro Y16 Z16 T16 U16 elt16
      -- told 3
      refine ⟨T16, fun H17 eN3 T17 => ?_⟩
      have Y17 := Y16.ext eN3
      refine tt_way (h := h) (N.keep Y17.tupS Y17.insS) (Dq.keep Y17.kt _ _ x) (Dq.keep (Z16.ext eN3).kt _ _ ho10) rfl rfl rfl (fun ks p' T2 => absurd T2 (noT ks)) (fun _ H18 t3 S18 e3 => ?_) (fun it => absurd it nti)
      have Y18 := Y17.same S18
      have T18 := tabs_same T17 S18
      have U18 : TupS H16 H18 := fun z xs ez => S18 _ _ (eN3 _ _ ez (fun _ y => nomatch y))
      have elt18 := S18 _ _ (eN3 _ _ elt16 (fun _ y => nomatch y))
      have e1 := U18 _ _ (U16 _ _ (U15 _ _ e1))
      have e2 := U18 _ _ (U16 _ _ e2)
      refine ⟨_, rfl, false, rfl, iteT ?_⟩
      refine ⟨_, rfl, by show 2 ≤ sizeLine; decide, fun tp htp => ⟨by show 1 ≤ sizeLine; decide, fun lp hlp => ?_⟩⟩
      have S19 : Same H18 (upd H18 tp (.tup [.str "refused", .str "tree"])) := same_upd htp
      have etp : (upd H18 tp (.tup [.str "refused", .str "tree"])) tp = some (.tup [.str "refused", .str "tree"]) := upd_same
      revert S19 etp hlp
      generalize upd H18 tp _ = H19
      intro hlp S19 etp
      have S20 : Same H19 (upd H19 lp (.lst [.ref tp])) := same_upd hlp
      refine ⟨lp, 2, [.ref tp], rfl, rfl, upd_same, by decide, by decide, by show 1 * 2 ≤ sizeLine; decide, fun l2 hl2 => ?_⟩
      have S21 : Same (upd H19 lp (.lst [.ref tp])) (upd (upd H19 lp (.lst [.ref tp])) l2 (.lst (List.replicate (2 : Int).toNat [V.ref tp]).flatten)) := same_upd hl2
      have el2 : (upd (upd H19 lp (.lst [.ref tp])) l2 (.lst (List.replicate (2 : Int).toNat [V.ref tp]).flatten)) l2 = some (.lst [.ref tp, .ref tp]) := upd_same
      have S1821 := (S19.trans S20).trans S21
      have etp := S21 _ _ (S20 _ _ etp)
      revert S1821 etp el2
      generalize upd (upd H19 lp _) l2 _ = H21
      intro el2 S1821 etp
      have dT : Dp K H21 (.ref lt) (.list [refD "tree", refD "tree"]) := .lst (SqL.of (S1821 _ _ elt18)) (.cons (dp_ref (S1821 _ _ e1)) (.cons (dp_ref (S1821 _ _ e2)) .nil))
      have dL : Dp K H21 (.ref l2) (.list [refD "tree", refD "tree"]) := .lst (SqL.of el2) (.cons (dp_ref etp) (.cons (dp_ref etp) .nil))
      refine ⟨_, _, dT, dL, by decide +kernel, by decide +kernel, _, rfl, ?_⟩
      rw [eqv_self (by decide +kernel)]
      refine iteT ⟨_, rfl, by show 2 ≤ sizeLine; decide, fun tr htr => ?_⟩
      have S22 : Same H21 (upd H21 tr (.tup [.str "refused", .str "tree"])) := same_upd htr
      have S1822 := S1821.trans S22
      have Y22 := Y18.same S1822
      refine ⟨refD "tree", refD "tree", dp_ref (S1822 _ _ e3), dp_ref upd_same, ref_shaped (.inl rfl), ref_shaped (.inl rfl), _, rfl, ?_⟩
      rw [eqv_self (ref_lay (.inl rfl))]
      refine iteT ⟨_, rfl, h, _, _, rfl, Dq.keep Y22.kt _ _ x, fit, _, rfl, rfl, ?_⟩
      rw [decide_eq_true rfl]
      exact q _ Y22 (tabs_same T18 S1822)
end
end ST

/-! the law itself -/
namespace ST
open PySem PySem.Spec PyProof.Rows L2 C8
abbrev sLaw : Stmt := top 49
abbrev nLaw : List Str := ["_law_script", "_law_hand_here", "_law_parts", "_law_net", "_law_every", "_law_turn", "_law_tree", "_law_k"]
theorem scLaw : FnScope nLaw ["_law_script"] (C8.fnScope sLaw) := fnScope_by (by decide +kernel)
def spLaw (K : PySem.W.Frag) (P0 : Addr) : Sp := fun vs H Q _ => ∃ (a : Addr) (ns : List Int), vs = [.ref a] ∧ SqL K H a (ns.map V.int) ∧ ns.length ≤ 63 ∧ H P0 = some (.tbl #[]) ∧ ∀ H', Q (.bl true) H'
def everyI (k : Nat) : List Int := (List.range k).map fun i => ((0 : Int) + (i : Nat))
theorem every_rg (k : Nat) : rgV 0 (k : Int) = (everyI k).map V.int := by
  unfold rgV everyI
  rw [List.map_map]
  have e : ((k : Int) - 0).toNat = k := by omega
  rw [e]
  rfl
theorem every_bd (k : Nat) : (∀ z ∈ everyI k, 0 ≤ z ∧ z < (k : Int)) ∧ (everyI k).length = k := by
  refine ⟨fun z hz => ?_, by unfold everyI; rw [List.length_map, List.length_range]⟩
  obtain ⟨i, hi, rfl⟩ := List.mem_map.mp hz
  have := List.mem_range.mp hi
  omega
section
variable {P : Program} {w : World} {K : PySem.W.Frag} {mg : Str → Option Value} {base : Heap}
theorem ok_law {C P0 : Addr} (B : Nb mg) (D : DB K mg "law" sLaw ["_law_script"]) (cH : Cal P w K mg base 1 "_law_hand" (spHand K) []) (cP : Cal P w K mg base 5 "_law_parts_of" spPartsOf []) (cN : Mak P w K mg base 4 "Net" C (spNetInit C) [])
    (cG : Cal P w K mg base 3 "_law_grow" spGrow []) (cB : Cal P w K mg base 4 "_law_bent_lot" spBent []) (cR : CalG P w K mg base 11 "_law_is_right" pIsRight (spIsRight C P0)) : CalG P w K mg base 12 "law" ["_law_script"] (spLaw K P0) := by
  obtain ⟨cdv, Dc⟩ := D.code
  refine calG Dc scLaw (fun vs H Q E h => ?_) (fun f A outer s H vs Q hG hr h => ?_)
  · obtain ⟨a, ns, rfl, _⟩ := h
    rfl
  · obtain ⟨a, ns, rfl, hS, hl, hT, q⟩ := h
    have nd := scLaw.nd
    have hG' : (A.deeper (envOfC "law" (C8.fnScope sLaw) s.heap.objs.size f cdv)).guards = some [] := hG
    refine ⟨_, pss_cons (ps_set (i := 1) nd rfl (.inl rfl) (pe_c cH hr (by decide) (by rfl) (pa_cons (pv 0) pa_nil)))
      (pss_cons (ps_set (i := 2) nd rfl (.inl rfl) (pe_c cP hr (by decide) (by rfl) (pa_cons (pv 1) pa_nil)))
      (pss_cons (ps_set (i := 3) nd rfl (.inl rfl) (pe_mk cN hr (by decide) (by rfl) (pa_cons (pe_ix ix_tup (pv 2) pe_int (fun _ _ => rfl)) (pa_cons (pe_ix ix_tup (pv 2) pe_int (fun _ _ => rfl)) (pa_cons (pe_ix ix_tup (pv 2) pe_int (fun _ _ => rfl)) pa_nil)))))
      (pss_cons (ps_set (i := 4) nd rfl (.inl rfl) (pe_listRg rfl (by rfl) B.list (prg_1 (by rfl) B.range (pe_callB call_len_seq (by rfl) B.len PySem.boot_len (pa_cons (pe_ix ix_tup (pv 2) pe_int (fun _ _ => rfl)) pa_nil)))))
      (pss_cons (ps_for PassesOwn.never rfl (pi_range1 (by rfl) B.range (pa_cons pe_int pa_nil)) (pg_name (i := 5) nd rfl (.inl rfl))
        (pss_cons (ps_set (i := 6) nd rfl (.inl rfl) (pe_c cG hr (by decide) (by rfl) (pa_cons (pv 1) (pa_cons (pv 2) (pa_cons (pe_lst (pa_cons (pe_ix ix_tup (pv 2) pe_int (fun _ _ => rfl)) pa_nil)) (pa_cons (pv 4) (pa_cons (pe_ix ix_tup (pv 2) pe_int (fun _ _ => rfl)) pa_nil)))))))
        (pss_cons (ps_if (pt_not (pt_val (pe_g cR hG' hr (by decide) (by rfl) (pa_cons (pv 1) (pa_cons (pv 2) (pa_cons (pv 3) (pa_cons (pv 6) pa_nil))))))) (pss_one (ps_ret pe_bl)) pss_nil)
        (pss_one (ps_for PassesOwn.never rfl (pi_range1 (by rfl) B.range (pa_cons pe_int pa_nil)) (pg_name (i := 7) nd rfl (.inl rfl))
          (pss_one (ps_if (pt_not (pt_val (pe_g cR hG' hr (by decide) (by rfl) (pa_cons (pv 1) (pa_cons (pv 2) (pa_cons (pv 3) (pa_cons (pe_c cB hr (by decide) (by rfl) (pa_cons (pv 1) (pa_cons (pv 6) (pa_cons (pe_callB call_len_seq (by rfl) B.len PySem.boot_len (pa_cons (pv 4) pa_nil)) pa_nil)))) pa_nil))))))) (pss_one (ps_ret pe_bl)) pss_nil)))))))
      (pss_one (ps_ret (pe_g cR hG' hr (by decide) (by rfl) (pa_cons (pv 1) (pa_cons (pv 2) (pa_cons (pv 3) (pa_cons (pe_tup pa_nil) pa_nil))))))))))), ?_⟩
    have T0 : LamX.Tabs (tabT P0) H := fun p hp => by
      rw [List.mem_singleton.mp hp]
      exact LamX.TabS.nil hT
    -- the hand, the parts
    refine ⟨_, rfl, a, ns, rfl, hS, hl, fun H1 h c S1 nh hh => ?_⟩
    have T1 := tabs_same T0 S1
    refine ⟨_, rfl, h, c, rfl, hh, fun H2 p m r t ls es X2 hp => ?_⟩
    have T2 := tabs_sx T1 X2
    have hm2 := hp.m2
    have hm10 := hp.m10
    -- the net
    refine ⟨_, rfl, p, _, 0, .int m, rfl, rfl, SqT.of hp.at_, atI_nat (j := 0) rfl, _, rfl, p, _, 1, .int r, rfl, rfl, SqT.of hp.at_, atI_nat (j := 1) rfl, _, rfl, p, _, 2, .ref t, rfl, rfl, SqT.of hp.at_, atI_nat (j := 2) rfl, fun n dx hn hdx ndx => ?_⟩
    have kpN : ∀ b o, H2 b = some o → (upd (upd H2 dx (.own n)) n (.ins C dx [])) b = some o := fun b o e => by
      rw [upd_ne (ne_of_none e hn), upd_ne (ne_of_none e hdx)]
      exact e
    refine ⟨n, dx, m, r, t, ls, es, rfl, upd_same, kpN _ _ hp.lt, hp.la.keep (fun b xs e => kpN _ _ e), hp.few, hp.good, hp.m2, hp.m10, hp.r0, hp.rm, fun H3 kp3 N3 => ⟨rfl, ?_⟩⟩
    have S3 : Same H2 H3 := fun b o e => kp3 b o (kpN b o e) (ne_of_none e hn)
    have X3 := X2.same S3
    have T3 := tabs_same T2 S3
    have P3 := hp.keep (tS S3)
    -- every
    refine ⟨_, rfl, p, _, 2, .ref t, rfl, rfl, SqT.of P3.at_, atI_nat (j := 2) rfl, t, ls, rfl, .inr (SqT.of P3.lt), _, rfl, ?_⟩
    have hls : ls.length = es.length := hp.la.1
    have hfew := hp.few
    refine ⟨RgOk.of_le (by omega) (by omega) (by omega) (by omega), fun ev hev => ?_⟩
    have S4 : Same H3 (upd H3 ev (.lst (rgV 0 ((ls.length : Nat) : Int)))) := same_upd hev
    have eev : (upd H3 ev (.lst (rgV 0 ((ls.length : Nat) : Int)))) ev = some (.lst ((everyI es.length).map V.int)) := by rw [upd_same, every_rg, hls]
    have nev : ev ≠ h := (X3.a1.nel hev).1
    revert S4 eev
    generalize upd H3 ev _ = H4
    intro S4 eev
    have X4 := X3.same S4
    have T4 := tabs_same T3 S4
    have P4 := P3.keep (tS S4)
    have N4 := N3.keep (tS S4) (iS S4)
    obtain ⟨bE, lE⟩ := every_bd es.length
    refine ⟨3, rfl, by decide, by decide, ?_⟩
    refine for_range (lo := 0) (n := (3 : Int).toNat) (fun i σ H5 => ∃ x5 x6 x7 : Option V, σ = [some (.ref a), some (.ref h), some (.ref p), some (.ref n), some (.ref ev), x5, x6, x7] ∧ Sy h c H4 H5 ∧ LamX.Tabs (tabT P0) H5)
      ⟨none, none, none, rfl, Sy.refl X4.a1, T4⟩ (fun i σ H5 hi hI => ?_) (fun σ H5 hI => ?_)
    · obtain ⟨x5, x6, x7, rfl, Y5, T5⟩ := hI
      have P5 := P4.keep Y5.tupS
      have eev5 := Y5.lst eev nev
      refine ⟨_, rfl, _, rfl, _, rfl, p, _, 1, .int r, rfl, rfl, SqT.of P5.at_, atI_nat (j := 1) rfl, by show 1 ≤ sizeLine; decide, fun so hso => ?_⟩
      have S6 : Same H5 (upd H5 so (.lst [.int r])) := same_upd hso
      have P6 := P5.keep (tS S6)
      refine ⟨_, rfl, _, rfl, p, _, 0, .int m, rfl, rfl, SqT.of P6.at_, atI_nat (j := 0) rfl, h, c, p, so, ev, m, r, t, ls, es, everyI es.length, rfl, Y5.a1.same S6, P6, upd_same, (Y5.a1.nel hso).1, S6 _ _ eev5, nev, bE, by omega, fun H7 q7 ns7 X7 e7 b7 l7 => ?_⟩
      have Y7 := (Y5.same S6).sx X7
      have T7 := tabs_sx (tabs_same T5 S6) X7
      have sm : ∀ z ∈ ns7, 0 ≤ z ∧ z ≤ 60 := fun z hz => by
        have := b7 z hz
        omega
      have fit7 : Fit (.tuple (ns7.map PyData.int)) := fit_tup (fitI_ints fun z hz => by have := sm z hz; omega) (by rw [List.length_map]; omega)
      refine ⟨_, rfl, _, rfl, _, rfl, _, rfl, h, c, p, n, .ref q7, m, r, t, ls, es, .tuple (ns7.map PyData.int), rfl, Y7.a1, P4.keep Y7.tupS, N4.keep Y7.tupS Y7.insS, .tup e7 (DqAll.ints ns7), fit7, T7, fun H8 Y8 T8 => ⟨_, rfl, iteF ?_⟩⟩
      refine ⟨5, rfl, by decide, by decide, ?_⟩
      refine for_range (lo := 0) (n := (5 : Int).toNat) (fun j σ H9 => ∃ x7 : Option V, σ = [some (.ref a), some (.ref h), some (.ref p), some (.ref n), some (.ref ev), some (.int (0 + (i : Nat))), some (.ref q7), x7] ∧ Sy h c H4 H9 ∧ LamX.Tabs (tabT P0) H9 ∧ H9 q7 = some (.tup (ns7.map V.int)))
        ⟨x7, rfl, Y7.trans Y8, T8, Y8.tupS _ _ e7⟩ (fun j σ H9 hj hJ => ?_) (fun σ H9 hJ => ?_)
      · obtain ⟨x7, rfl, Y9, T9, e9⟩ := hJ
        refine ⟨_, rfl, _, rfl, _, rfl, _, rfl, _, rfl, _, rfl, ev, _, rfl, .inl (SqL.of (Y9.lst eev nev)), h, c, q7, _, ns7, rfl, Y9.a1, e9, sm, l7, by omega, by rw [List.length_map, lE]; omega, fun H10 v X10 ok => ?_⟩
        obtain ⟨d, hd, fd⟩ := ok
        have Y10 := Y9.sx X10
        refine ⟨h, c, p, n, v, m, r, t, ls, es, d, rfl, Y10.a1, P4.keep Y10.tupS, N4.keep Y10.tupS Y10.insS, hd, fd, tabs_sx T9 X10, fun H11 Y11 T11 => ⟨_, rfl, iteF ?_⟩⟩
        exact ⟨_, rfl, Y10.trans Y11, T11, Y11.tupS _ _ (X10.tup e9)⟩
      · obtain ⟨x7, rfl, Y9, T9, e9⟩ := hJ
        exact ⟨_, _, _, rfl, Y9, T9⟩
    · obtain ⟨x5, x6, x7, rfl, Y5, T5⟩ := hI
      refine ⟨_, rfl, _, rfl, _, rfl, Nat.zero_le _, fun t0 ht0 => ?_⟩
      have S6 : Same H5 (upd H5 t0 (.tup [])) := same_upd ht0
      have Y6 := Y5.same S6
      exact ⟨h, c, p, n, .ref t0, m, r, t, ls, es, .tuple [], rfl, Y6.a1, P4.keep Y6.tupS, N4.keep Y6.tupS Y6.insS, .tup upd_same .nil, fit_tup (fun _ z => nomatch z) (by decide), tabs_same T5 S6, fun H' _ _ => q H'⟩
end
end ST

/-! the end: the law called by the claim's caller, where no repr is under way -/
namespace ST
open PySem PySem.Spec PyProof.Rows L2 C8
/-- what is known as the law begins: the table at P0; the script at a, if the written part has it not -/
def firstH (a P0 : Addr) (o : Obj) (ns : List Int) (out : Bool) : Hp := fun b => if b = P0 then some (.tbl #[]) else if b = a ∧ out = true then some (.frz o (.lst (ns.map V.int))) else none
theorem firstH_tab {a P0 : Addr} {o : Obj} {ns : List Int} {out : Bool} : firstH a P0 o ns out P0 = some (.tbl #[]) := if_pos rfl
theorem firstH_script {a P0 : Addr} {o : Obj} {ns : List Int} (n : a ≠ P0) : firstH a P0 o ns true a = some (.frz o (.lst (ns.map V.int))) := by
  unfold firstH
  rw [if_neg n, if_pos ⟨rfl, rfl⟩]
theorem firstH_none {a P0 b : Addr} {o : Obj} {ns : List Int} {out : Bool} (n1 : b ≠ P0) (n2 : b = a → out = false) : firstH a P0 o ns out b = none := by
  unfold firstH
  rw [if_neg n1, if_neg (fun z => by have := n2 z.1; rw [z.2] at this; cases this)]
section
variable {P : Program} {w : World} {K : PySem.W.Frag} {mg mb : Str → Option Value} {s₁ : Shared}
theorem law_runs {k : Nat} {fa a c0 P0 : Addr} {vs : List Value} {ns : List Int} (inK : K.In s₁.heap) (nsG : s₁.heap.Ns mainGlobals mg) (nsB : s₁.heap.Ns builtinsNs mb) (boots : ∀ x : Str, x ≠ "__name__" → mb x = bootBuiltins x)
    (lim : s₁.heap.NoLimit) (gens : s₁.gens = #[]) (tab : s₁.heap.get? P0 = some { cls := .none, data := .fields #[] }) (outK : K.lookup P0 = none) (hd0 : PySem.W.CodeHd s₁.heap c0 P0)
    (blt : ∃ (bm : Addr) (ob : Obj), mg "__builtins__" = some (.ref bm) ∧ bm ≠ builtinsNs ∧ s₁.heap.get? bm = some ob ∧ ob.cls = .type "module" ∧ ob.dict = some builtinsNs ∧ ob.data = .plain)
    (scr : s₁.heap.get? a = some { cls := .type "list", data := .seq vs.toArray }) (hi : IntsAre vs ns) (few : ns.length ≤ 63) (room : Room k callerA)
    (hfa : mg "law" = some (.ref fa)) (F : ∀ base : Heap, K.In base → base.Ns mainGlobals mg → LamX.TabB base mg c0 P0 → CalG P w K mg base k "law" ["_law_script"] (spLaw K P0)) :
    codeAny (model P w) callerA (.call (.ref fa) ⟨[.ref a], []⟩) (fun r s' => r = .ok (.ret (.bool true)) ∧ OldK s₁.heap s'.heap ∧ s'.os = s₁.os ∧ AllBare s'.gens) s₁ := by
  have vals := vals_ints hi
  have vl : vs.length = ns.length := hi.length
  have naP : a ≠ P0 := fun z => by
    rw [← z, scr] at tab
    have := congrArg Obj.data (Option.some.inj tab)
    cases this
  obtain ⟨out, ho⟩ : ∃ out, out = (K.lookup a).isNone := ⟨_, rfl⟩
  generalize hH : firstH a P0 { cls := .type "list", data := .seq vs.toArray } ns out = H
  have tP : H P0 = some (.tbl #[]) := by rw [← hH]; exact firstH_tab
  have small : (ns.map V.int).length ≤ sizeLine := by rw [List.length_map, sizeLine_eq]; omega
  have isIn : ∀ b u, H b = some u → (b = P0 ∧ u = .tbl #[]) ∨ (b = a ∧ out = true ∧ u = .frz { cls := .type "list", data := .seq vs.toArray } (.lst (ns.map V.int))) := fun b u e => by
    rw [← hH] at e
    by_cases z : b = P0
    · rw [z, firstH_tab] at e
      exact .inl ⟨z, (Option.some.inj e).symm⟩
    · by_cases y : b = a ∧ out = true
      · rw [y.1, y.2, firstH_script naP] at e
        exact .inr ⟨y.1, y.2, (Option.some.inj e).symm⟩
      · rw [firstH_none z (fun q => by cases h : out with | false => rfl | true => exact absurd ⟨q, h⟩ y)] at e
        cases e
  have seen : SqL K H a (ns.map V.int) := by
    cases hk : K.lookup a with
    | none =>
      rw [hk] at ho
      refine .inl (.inr ⟨{ cls := .type "list", data := .seq vs.toArray }, ?_⟩)
      rw [← hH, ho]
      exact firstH_script naP
    | some o =>
      have e := inK a o hk
      rw [scr] at e
      cases e
      exact .inr ⟨_, vs.toArray, _, hk, rfl, rfl, rfl, by rw [List.size_toArray, vl]; rw [List.length_map] at small; exact small, by simpa using vals⟩
  have ok : HOk P w H s₁.heap := fun b u e => by
    rcases isIn b u e with ⟨rfl, rfl⟩ | ⟨rfl, _, rfl⟩
    · exact tab
    · exact ⟨scr, small, vs, _, vals, scr⟩
  -- what is not known stays in the ground
  have under : ∀ {b : Addr} {o : Obj}, s₁.heap.get? b = some o → (∀ us n, o.data ≠ .seq us n) → o.data ≠ .fields #[] → H b = none := fun {b o} e h1 h2 => by
    cases q : H b with
    | none => rfl
    | some u =>
      rcases isIn b u q with ⟨z, _⟩ | ⟨z, _, _⟩
      · rw [z, tab] at e
        rw [← Option.some.inj e] at h2
        exact absurd rfl h2
      · rw [z, scr] at e
        rw [← Option.some.inj e] at h1
        exact absurd rfl (h1 _ _)
  have spaces : ∀ {b : Addr} {m : Str → Option Value}, s₁.heap.Ns b m → (hidT s₁.heap H).Ns b m := fun {b m} x => by
    obtain ⟨o, es, ep, e, d, r⟩ := x
    exact ⟨o, es, ep, hidT_get e (under e (fun us n z => by rw [d] at z; cases z) fun z => by rw [d] at z; cases z), d, r⟩
  have inB : K.In (hidT s₁.heap H) := fun b o e => hidT_get (inK b o e) (by
    cases q : H b with
    | none => rfl
    | some u =>
      rcases isIn b u q with ⟨z, _⟩ | ⟨z, y, _⟩
      · rw [z, outK] at e
        cases e
      · rw [z] at e
        rw [y, e] at ho
        cases ho)
  have mod : L2.Mod K mg (hidT s₁.heap H) := by
    obtain ⟨mc, l1, l2⟩ := lim
    exact ⟨inB, spaces nsG, ⟨mb, spaces nsB, boots⟩, mc, spaces l1, l2⟩
  have tabs : LamX.TabB (hidT s₁.heap H) mg c0 P0 := by
    constructor
    · obtain ⟨o, us, file, tf, flags, tg, inF, text, tt, e1, r1, r2, r3, r⟩ := hd0
      exact ⟨o, us, file, tf, flags, tg, inF, text, tt, hidT_get e1 (under e1 (fun us n z => by rw [r2] at z; cases z) fun z => by rw [r2] at z; cases z; simp at r3), r1, r2, r3, r⟩
    · obtain ⟨bm, ob, b1, b2, b3, b4, b5, b6⟩ := blt
      refine ⟨bm, ob, b1, b2, fun z => ?_, fun z => ?_, hidT_get b3 (under b3 (fun us n z => by rw [b6] at z; cases z) fun z => by rw [b6] at z; cases z), b4, b5, b6⟩
      · obtain ⟨o, es, ep, e, d, _⟩ := nsG
        rw [z, e] at b3
        rw [← Option.some.inj b3, d] at b6
        cases b6
      · rw [z, tab] at b3
        rw [← Option.some.inj b3] at b6
        cases b6
    · obtain ⟨o, es, ep, e, d, _⟩ := nsG
      intro z
      rw [z, tab] at e
      rw [← Option.some.inj e] at d
      cases d
  have env : Env0 P w K mg (hidT s₁.heap H) callerA [] s₁ H := ⟨rfl, mod, fun b o e => of_hidT e, Nat.le_of_eq (hidT_size _ _), trivial, (fun b z => nomatch (show b ∈ ([] : List Addr) from z)), ok, .of_eq gens⟩
  obtain ⟨⟨f, fd, R, hm, _, hb⟩, _⟩ := F _ inB (spaces nsG) tabs
  rw [hfa] at hm
  cases hm
  have run := R callerA [] s₁ H ⟨[.ref a], []⟩ [.ref a] [.ref a] (fun v _ => v = .bl true) rfl room env (hb s₁ [.ref a] inK rfl) (.cons rfl .nil) ⟨a, ns, rfl, seen, few, tP, fun _ => rfl⟩
  refine codeAny_mono run fun r s' h => ?_
  match r, h with
  | .ok (.ret u), h =>
    obtain ⟨v, H', os, bare, un, ok', rel, q⟩ := h
    cases (show v = V.bl true from q)
    cases (show u = Value.bool true from rel)
    obtain ⟨more, tP'⟩ := un.tbls P0 #[] tP
    have grown : s'.heap.get? P0 = some { cls := .none, data := .fields (#[] ++ more) } := ok' P0 _ tP'
    rw [Array.empty_append] at grown
    have kept : ∀ b o, b ≠ P0 → s₁.heap.get? b = some o → s'.heap.get? b = some o := fun b o nb e => by
      cases q : H b with
      | none => exact un.keep b o e q (fun z => nomatch (show b ∈ ([] : List Addr) from z)) (fun z => nomatch z)
      | some u =>
        rcases isIn b u q with ⟨z, _⟩ | ⟨z, _, eu⟩
        · exact absurd z nb
        · rw [eu] at q
          obtain ⟨e2, _⟩ := ok' b _ (un.frzs b _ _ q)
          rw [z, scr] at e
          rw [e2, e]
    refine ⟨rfl, ⟨fun b o e => ?_, fun b o e => ?_⟩, os, bare⟩
    · by_cases z : b = P0
      · rw [z, tab] at e
        rw [z, ← Option.some.inj e]
        exact .inr (.inl ⟨(hd0.tab tab).isCodeTable, rfl, #[], more, rfl, by rw [Array.empty_append]; exact grown⟩)
      · exact .inl (kept b o z e)
    · by_cases z : b = P0
      · exact ⟨_, z ▸ grown⟩
      · exact ⟨o, kept b o z e⟩
end
end ST

/-! what the top leaves, collected -/
namespace ST
open PySem PySem.Spec PyProof.Rows L2 C8
theorem dbMk {K : PySem.W.Frag} {h : Heap} {mg : Str → Option Value} {x : Str} {st : Stmt} {ps : List Str} {f : Addr} {od an : Option Addr} {sl : Array (Option Value)} {oc kV dc pm cd ct : Value} (X : K.In h) (G : h.Ns mainGlobals mg)
    (hb : ∀ (kV doc pm : Value) (an : Option Addr) (cdv ct : Value) (us : List Value), us.length = ps.length → bindArgs (PySem.W.fnOf x x (fnArgs st) (C8.fnBody st) (C8.fnScope st) .none kV doc pm an cdv ct) ⟨us, []⟩ = pure (ps.zip us))
    (a : PySem.W.nsIn K mainGlobals x = some (some (.ref f))) (l : K.lookup f = some ⟨oc, od, .func (PySem.W.fnOf x x (fnArgs st) (C8.fnBody st) (C8.fnScope st) .none kV dc pm an cd ct), sl⟩) (c : PySem.W.codeIn K cd x = true) (k : PySem.W.keepIn K (.ref f) = true) : DB K mg x st ps :=
  have F : C8.Fun K x x st f (PySem.W.fnOf x x (fnArgs st) (C8.fnBody st) (C8.fnScope st) .none kV dc pm an cd ct) := ⟨oc, od, .none, kV, dc, pm, an, cd, ct, sl, rfl, l, c⟩
  ⟨f, _, ⟨F, PySem.W.mg_of X G a, k⟩, F.binds rfl hb⟩
theorem mk1 {K : PySem.W.Frag} {h : Heap} {mg : Str → Option Value} {f : Addr} {od an : Option Addr} {sl : Array (Option Value)} {oc kV dc pm cd ct : Value} (X : K.In h) (G : h.Ns mainGlobals mg) (a : PySem.W.nsIn K mainGlobals "is_integer" = some (some (.ref f))) (l : K.lookup f = some ⟨oc, od, .func (PySem.W.fnOf "is_integer" "is_integer" (fnArgs (top 1)) (C8.fnBody (top 1)) (C8.fnScope (top 1)) .none kV dc pm an cd ct), sl⟩) (c : PySem.W.codeIn K cd "is_integer" = true) (k : PySem.W.keepIn K (.ref f) = true) :
    DB K mg "is_integer" (top 1) ["thing"] := dbMk X G (fun _ _ _ _ _ _ us hl => match us, hl with | [_], _ => rfl) a l c k
theorem mk2 {K : PySem.W.Frag} {h : Heap} {mg : Str → Option Value} {f : Addr} {od an : Option Addr} {sl : Array (Option Value)} {oc kV dc pm cd ct : Value} (X : K.In h) (G : h.Ns mainGlobals mg) (a : PySem.W.nsIn K mainGlobals "is_within" = some (some (.ref f))) (l : K.lookup f = some ⟨oc, od, .func (PySem.W.fnOf "is_within" "is_within" (fnArgs (top 2)) (C8.fnBody (top 2)) (C8.fnScope (top 2)) .none kV dc pm an cd ct), sl⟩) (c : PySem.W.codeIn K cd "is_within" = true) (k : PySem.W.keepIn K (.ref f) = true) :
    DB K mg "is_within" (top 2) ["thing", "least", "most"] := dbMk X G (fun _ _ _ _ _ _ us hl => match us, hl with | [_, _, _], _ => rfl) a l c k
theorem mk3 {K : PySem.W.Frag} {h : Heap} {mg : Str → Option Value} {f : Addr} {od an : Option Addr} {sl : Array (Option Value)} {oc kV dc pm cd ct : Value} (X : K.In h) (G : h.Ns mainGlobals mg) (a : PySem.W.nsIn K mainGlobals "is_pair" = some (some (.ref f))) (l : K.lookup f = some ⟨oc, od, .func (PySem.W.fnOf "is_pair" "is_pair" (fnArgs (top 3)) (C8.fnBody (top 3)) (C8.fnScope (top 3)) .none kV dc pm an cd ct), sl⟩) (c : PySem.W.codeIn K cd "is_pair" = true) (k : PySem.W.keepIn K (.ref f) = true) :
    DB K mg "is_pair" (top 3) ["thing"] := dbMk X G (fun _ _ _ _ _ _ us hl => match us, hl with | [_], _ => rfl) a l c k
theorem mk4 {K : PySem.W.Frag} {h : Heap} {mg : Str → Option Value} {f : Addr} {od an : Option Addr} {sl : Array (Option Value)} {oc kV dc pm cd ct : Value} (X : K.In h) (G : h.Ns mainGlobals mg) (a : PySem.W.nsIn K mainGlobals "is_lot" = some (some (.ref f))) (l : K.lookup f = some ⟨oc, od, .func (PySem.W.fnOf "is_lot" "is_lot" (fnArgs (top 4)) (C8.fnBody (top 4)) (C8.fnScope (top 4)) .none kV dc pm an cd ct), sl⟩) (c : PySem.W.codeIn K cd "is_lot" = true) (k : PySem.W.keepIn K (.ref f) = true) :
    DB K mg "is_lot" (top 4) ["thing", "many"] := dbMk X G (fun _ _ _ _ _ _ us hl => match us, hl with | [_, _], _ => rfl) a l c k
theorem mk17 {K : PySem.W.Frag} {h : Heap} {mg : Str → Option Value} {f : Addr} {od an : Option Addr} {sl : Array (Option Value)} {oc kV dc pm cd ct : Value} (X : K.In h) (G : h.Ns mainGlobals mg) (a : PySem.W.nsIn K mainGlobals "is_link" = some (some (.ref f))) (l : K.lookup f = some ⟨oc, od, .func (PySem.W.fnOf "is_link" "is_link" (fnArgs (top 17)) (C8.fnBody (top 17)) (C8.fnScope (top 17)) .none kV dc pm an cd ct), sl⟩) (c : PySem.W.codeIn K cd "is_link" = true) (k : PySem.W.keepIn K (.ref f) = true) :
    DB K mg "is_link" (top 17) ["many", "thing"] := dbMk X G (fun _ _ _ _ _ _ us hl => match us, hl with | [_, _], _ => rfl) a l c k
theorem mk18 {K : PySem.W.Frag} {h : Heap} {mg : Str → Option Value} {f : Addr} {od an : Option Addr} {sl : Array (Option Value)} {oc kV dc pm cd ct : Value} (X : K.In h) (G : h.Ns mainGlobals mg) (a : PySem.W.nsIn K mainGlobals "check_net" = some (some (.ref f))) (l : K.lookup f = some ⟨oc, od, .func (PySem.W.fnOf "check_net" "check_net" (fnArgs (top 18)) (C8.fnBody (top 18)) (C8.fnScope (top 18)) .none kV dc pm an cd ct), sl⟩) (c : PySem.W.codeIn K cd "check_net" = true) (k : PySem.W.keepIn K (.ref f) = true) :
    DB K mg "check_net" (top 18) ["net"] := dbMk X G (fun _ _ _ _ _ _ us hl => match us, hl with | [_], _ => rfl) a l c k
theorem mk19 {K : PySem.W.Frag} {h : Heap} {mg : Str → Option Value} {f : Addr} {od an : Option Addr} {sl : Array (Option Value)} {oc kV dc pm cd ct : Value} (X : K.In h) (G : h.Ns mainGlobals mg) (a : PySem.W.nsIn K mainGlobals "is_lot_of" = some (some (.ref f))) (l : K.lookup f = some ⟨oc, od, .func (PySem.W.fnOf "is_lot_of" "is_lot_of" (fnArgs (top 19)) (C8.fnBody (top 19)) (C8.fnScope (top 19)) .none kV dc pm an cd ct), sl⟩) (c : PySem.W.codeIn K cd "is_lot_of" = true) (k : PySem.W.keepIn K (.ref f) = true) :
    DB K mg "is_lot_of" (top 19) ["net", "thing"] := dbMk X G (fun _ _ _ _ _ _ us hl => match us, hl with | [_, _], _ => rfl) a l c k
theorem mk21 {K : PySem.W.Frag} {h : Heap} {mg : Str → Option Value} {f : Addr} {od an : Option Addr} {sl : Array (Option Value)} {oc kV dc pm cd ct : Value} (X : K.In h) (G : h.Ns mainGlobals mg) (a : PySem.W.nsIn K mainGlobals "reached" = some (some (.ref f))) (l : K.lookup f = some ⟨oc, od, .func (PySem.W.fnOf "reached" "reached" (fnArgs (top 21)) (C8.fnBody (top 21)) (C8.fnScope (top 21)) .none kV dc pm an cd ct), sl⟩) (c : PySem.W.codeIn K cd "reached" = true) (k : PySem.W.keepIn K (.ref f) = true) :
    DB K mg "reached" (top 21) ["net", "lot", "places"] := dbMk X G (fun _ _ _ _ _ _ us hl => match us, hl with | [_, _, _], _ => rfl) a l c k
theorem mk22 {K : PySem.W.Frag} {h : Heap} {mg : Str → Option Value} {f : Addr} {od an : Option Addr} {sl : Array (Option Value)} {oc kV dc pm cd ct : Value} (X : K.In h) (G : h.Ns mainGlobals mg) (a : PySem.W.nsIn K mainGlobals "is_wood" = some (some (.ref f))) (l : K.lookup f = some ⟨oc, od, .func (PySem.W.fnOf "is_wood" "is_wood" (fnArgs (top 22)) (C8.fnBody (top 22)) (C8.fnScope (top 22)) .none kV dc pm an cd ct), sl⟩) (c : PySem.W.codeIn K cd "is_wood" = true) (k : PySem.W.keepIn K (.ref f) = true) :
    DB K mg "is_wood" (top 22) ["net", "lot", "places"] := dbMk X G (fun _ _ _ _ _ _ us hl => match us, hl with | [_, _, _], _ => rfl) a l c k
theorem mk23 {K : PySem.W.Frag} {h : Heap} {mg : Str → Option Value} {f : Addr} {od an : Option Addr} {sl : Array (Option Value)} {oc kV dc pm cd ct : Value} (X : K.In h) (G : h.Ns mainGlobals mg) (a : PySem.W.nsIn K mainGlobals "is_grown" = some (some (.ref f))) (l : K.lookup f = some ⟨oc, od, .func (PySem.W.fnOf "is_grown" "is_grown" (fnArgs (top 23)) (C8.fnBody (top 23)) (C8.fnScope (top 23)) .none kV dc pm an cd ct), sl⟩) (c : PySem.W.codeIn K cd "is_grown" = true) (k : PySem.W.keepIn K (.ref f) = true) :
    DB K mg "is_grown" (top 23) ["net", "thing"] := dbMk X G (fun _ _ _ _ _ _ us hl => match us, hl with | [_, _], _ => rfl) a l c k
theorem mk24 {K : PySem.W.Frag} {h : Heap} {mg : Str → Option Value} {f : Addr} {od an : Option Addr} {sl : Array (Option Value)} {oc kV dc pm cd ct : Value} (X : K.In h) (G : h.Ns mainGlobals mg) (a : PySem.W.nsIn K mainGlobals "is_tree" = some (some (.ref f))) (l : K.lookup f = some ⟨oc, od, .func (PySem.W.fnOf "is_tree" "is_tree" (fnArgs (top 24)) (C8.fnBody (top 24)) (C8.fnScope (top 24)) .none kV dc pm an cd ct), sl⟩) (c : PySem.W.codeIn K cd "is_tree" = true) (k : PySem.W.keepIn K (.ref f) = true) :
    DB K mg "is_tree" (top 24) ["net", "thing"] := dbMk X G (fun _ _ _ _ _ _ us hl => match us, hl with | [_, _], _ => rfl) a l c k
theorem mk26 {K : PySem.W.Frag} {h : Heap} {mg : Str → Option Value} {f : Addr} {od an : Option Addr} {sl : Array (Option Value)} {oc kV dc pm cd ct : Value} (X : K.In h) (G : h.Ns mainGlobals mg) (a : PySem.W.nsIn K mainGlobals "check_tree" = some (some (.ref f))) (l : K.lookup f = some ⟨oc, od, .func (PySem.W.fnOf "check_tree" "check_tree" (fnArgs (top 26)) (C8.fnBody (top 26)) (C8.fnScope (top 26)) .none kV dc pm an cd ct), sl⟩) (c : PySem.W.codeIn K cd "check_tree" = true) (k : PySem.W.keepIn K (.ref f) = true) :
    DB K mg "check_tree" (top 26) ["net", "tree"] := dbMk X G (fun _ _ _ _ _ _ us hl => match us, hl with | [_, _], _ => rfl) a l c k
theorem mk27 {K : PySem.W.Frag} {h : Heap} {mg : Str → Option Value} {f : Addr} {od an : Option Addr} {sl : Array (Option Value)} {oc kV dc pm cd ct : Value} (X : K.In h) (G : h.Ns mainGlobals mg) (a : PySem.W.nsIn K mainGlobals "links_to" = some (some (.ref f))) (l : K.lookup f = some ⟨oc, od, .func (PySem.W.fnOf "links_to" "links_to" (fnArgs (top 27)) (C8.fnBody (top 27)) (C8.fnScope (top 27)) .none kV dc pm an cd ct), sl⟩) (c : PySem.W.codeIn K cd "links_to" = true) (k : PySem.W.keepIn K (.ref f) = true) :
    DB K mg "links_to" (top 27) ["net", "tree", "place"] := dbMk X G (fun _ _ _ _ _ _ us hl => match us, hl with | [_, _, _], _ => rfl) a l c k
theorem mk28 {K : PySem.W.Frag} {h : Heap} {mg : Str → Option Value} {f : Addr} {od an : Option Addr} {sl : Array (Option Value)} {oc kV dc pm cd ct : Value} (X : K.In h) (G : h.Ns mainGlobals mg) (a : PySem.W.nsIn K mainGlobals "depths" = some (some (.ref f))) (l : K.lookup f = some ⟨oc, od, .func (PySem.W.fnOf "depths" "depths" (fnArgs (top 28)) (C8.fnBody (top 28)) (C8.fnScope (top 28)) .none kV dc pm an cd ct), sl⟩) (c : PySem.W.codeIn K cd "depths" = true) (k : PySem.W.keepIn K (.ref f) = true) :
    DB K mg "depths" (top 28) ["net", "tree"] := dbMk X G (fun _ _ _ _ _ _ us hl => match us, hl with | [_, _], _ => rfl) a l c k
theorem mk29 {K : PySem.W.Frag} {h : Heap} {mg : Str → Option Value} {f : Addr} {od an : Option Addr} {sl : Array (Option Value)} {oc kV dc pm cd ct : Value} (X : K.In h) (G : h.Ns mainGlobals mg) (a : PySem.W.nsIn K mainGlobals "way_in" = some (some (.ref f))) (l : K.lookup f = some ⟨oc, od, .func (PySem.W.fnOf "way_in" "way_in" (fnArgs (top 29)) (C8.fnBody (top 29)) (C8.fnScope (top 29)) .none kV dc pm an cd ct), sl⟩) (c : PySem.W.codeIn K cd "way_in" = true) (k : PySem.W.keepIn K (.ref f) = true) :
    DB K mg "way_in" (top 29) ["net", "tree", "place"] := dbMk X G (fun _ _ _ _ _ _ us hl => match us, hl with | [_, _, _], _ => rfl) a l c k
theorem mk31 {K : PySem.W.Frag} {h : Heap} {mg : Str → Option Value} {f : Addr} {od an : Option Addr} {sl : Array (Option Value)} {oc kV dc pm cd ct : Value} (X : K.In h) (G : h.Ns mainGlobals mg) (a : PySem.W.nsIn K mainGlobals "_law_mixed" = some (some (.ref f))) (l : K.lookup f = some ⟨oc, od, .func (PySem.W.fnOf "_law_mixed" "_law_mixed" (fnArgs (top 31)) (C8.fnBody (top 31)) (C8.fnScope (top 31)) .none kV dc pm an cd ct), sl⟩) (c : PySem.W.codeIn K cd "_law_mixed" = true) (k : PySem.W.keepIn K (.ref f) = true) :
    DB K mg "_law_mixed" (top 31) ["_law_cell", "_law_turn"] := dbMk X G (fun _ _ _ _ _ _ us hl => match us, hl with | [_, _], _ => rfl) a l c k
theorem mk32 {K : PySem.W.Frag} {h : Heap} {mg : Str → Option Value} {f : Addr} {od an : Option Addr} {sl : Array (Option Value)} {oc kV dc pm cd ct : Value} (X : K.In h) (G : h.Ns mainGlobals mg) (a : PySem.W.nsIn K mainGlobals "_law_hand" = some (some (.ref f))) (l : K.lookup f = some ⟨oc, od, .func (PySem.W.fnOf "_law_hand" "_law_hand" (fnArgs (top 32)) (C8.fnBody (top 32)) (C8.fnScope (top 32)) .none kV dc pm an cd ct), sl⟩) (c : PySem.W.codeIn K cd "_law_hand" = true) (k : PySem.W.keepIn K (.ref f) = true) :
    DB K mg "_law_hand" (top 32) ["_law_script"] := dbMk X G (fun _ _ _ _ _ _ us hl => match us, hl with | [_], _ => rfl) a l c k
theorem mk33 {K : PySem.W.Frag} {h : Heap} {mg : Str → Option Value} {f : Addr} {od an : Option Addr} {sl : Array (Option Value)} {oc kV dc pm cd ct : Value} (X : K.In h) (G : h.Ns mainGlobals mg) (a : PySem.W.nsIn K mainGlobals "_law_draw" = some (some (.ref f))) (l : K.lookup f = some ⟨oc, od, .func (PySem.W.fnOf "_law_draw" "_law_draw" (fnArgs (top 33)) (C8.fnBody (top 33)) (C8.fnScope (top 33)) .none kV dc pm an cd ct), sl⟩) (c : PySem.W.codeIn K cd "_law_draw" = true) (k : PySem.W.keepIn K (.ref f) = true) :
    DB K mg "_law_draw" (top 33) ["_law_hand_here", "_law_many"] := dbMk X G (fun _ _ _ _ _ _ us hl => match us, hl with | [_, _], _ => rfl) a l c k
theorem mk34 {K : PySem.W.Frag} {h : Heap} {mg : Str → Option Value} {f : Addr} {od an : Option Addr} {sl : Array (Option Value)} {oc kV dc pm cd ct : Value} (X : K.In h) (G : h.Ns mainGlobals mg) (a : PySem.W.nsIn K mainGlobals "_law_is" = some (some (.ref f))) (l : K.lookup f = some ⟨oc, od, .func (PySem.W.fnOf "_law_is" "_law_is" (fnArgs (top 34)) (C8.fnBody (top 34)) (C8.fnScope (top 34)) .none kV dc pm an cd ct), sl⟩) (c : PySem.W.codeIn K cd "_law_is" = true) (k : PySem.W.keepIn K (.ref f) = true) :
    DB K mg "_law_is" (top 34) ["_law_told_here", "_law_due"] := dbMk X G (fun _ _ _ _ _ _ us hl => match us, hl with | [_, _], _ => rfl) a l c k
theorem mk35 {K : PySem.W.Frag} {h : Heap} {mg : Str → Option Value} {f : Addr} {od an : Option Addr} {sl : Array (Option Value)} {oc kV dc pm cd ct : Value} (X : K.In h) (G : h.Ns mainGlobals mg) (a : PySem.W.nsIn K mainGlobals "_law_is_int" = some (some (.ref f))) (l : K.lookup f = some ⟨oc, od, .func (PySem.W.fnOf "_law_is_int" "_law_is_int" (fnArgs (top 35)) (C8.fnBody (top 35)) (C8.fnScope (top 35)) .none kV dc pm an cd ct), sl⟩) (c : PySem.W.codeIn K cd "_law_is_int" = true) (k : PySem.W.keepIn K (.ref f) = true) :
    DB K mg "_law_is_int" (top 35) ["_law_thing", "_law_least", "_law_most"] := dbMk X G (fun _ _ _ _ _ _ us hl => match us, hl with | [_, _, _], _ => rfl) a l c k
theorem mk36 {K : PySem.W.Frag} {h : Heap} {mg : Str → Option Value} {f : Addr} {od an : Option Addr} {sl : Array (Option Value)} {oc kV dc pm cd ct : Value} (X : K.In h) (G : h.Ns mainGlobals mg) (a : PySem.W.nsIn K mainGlobals "_law_is_lot" = some (some (.ref f))) (l : K.lookup f = some ⟨oc, od, .func (PySem.W.fnOf "_law_is_lot" "_law_is_lot" (fnArgs (top 36)) (C8.fnBody (top 36)) (C8.fnScope (top 36)) .none kV dc pm an cd ct), sl⟩) (c : PySem.W.codeIn K cd "_law_is_lot" = true) (k : PySem.W.keepIn K (.ref f) = true) :
    DB K mg "_law_is_lot" (top 36) ["_law_thing", "_law_many"] := dbMk X G (fun _ _ _ _ _ _ us hl => match us, hl with | [_, _], _ => rfl) a l c k
theorem mk37 {K : PySem.W.Frag} {h : Heap} {mg : Str → Option Value} {f : Addr} {od an : Option Addr} {sl : Array (Option Value)} {oc kV dc pm cd ct : Value} (X : K.In h) (G : h.Ns mainGlobals mg) (a : PySem.W.nsIn K mainGlobals "_law_shuffled" = some (some (.ref f))) (l : K.lookup f = some ⟨oc, od, .func (PySem.W.fnOf "_law_shuffled" "_law_shuffled" (fnArgs (top 37)) (C8.fnBody (top 37)) (C8.fnScope (top 37)) .none kV dc pm an cd ct), sl⟩) (c : PySem.W.codeIn K cd "_law_shuffled" = true) (k : PySem.W.keepIn K (.ref f) = true) :
    DB K mg "_law_shuffled" (top 37) ["_law_hand_here", "_law_things"] := dbMk X G (fun _ _ _ _ _ _ us hl => match us, hl with | [_, _], _ => rfl) a l c k
theorem mk38 {K : PySem.W.Frag} {h : Heap} {mg : Str → Option Value} {f : Addr} {od an : Option Addr} {sl : Array (Option Value)} {oc kV dc pm cd ct : Value} (X : K.In h) (G : h.Ns mainGlobals mg) (a : PySem.W.nsIn K mainGlobals "_law_some_tree" = some (some (.ref f))) (l : K.lookup f = some ⟨oc, od, .func (PySem.W.fnOf "_law_some_tree" "_law_some_tree" (fnArgs (top 38)) (C8.fnBody (top 38)) (C8.fnScope (top 38)) .none kV dc pm an cd ct), sl⟩) (c : PySem.W.codeIn K cd "_law_some_tree" = true) (k : PySem.W.keepIn K (.ref f) = true) :
    DB K mg "_law_some_tree" (top 38) ["_law_hand_here", "_law_many", "_law_root"] := dbMk X G (fun _ _ _ _ _ _ us hl => match us, hl with | [_, _, _], _ => rfl) a l c k
theorem mk39 {K : PySem.W.Frag} {h : Heap} {mg : Str → Option Value} {f : Addr} {od an : Option Addr} {sl : Array (Option Value)} {oc kV dc pm cd ct : Value} (X : K.In h) (G : h.Ns mainGlobals mg) (a : PySem.W.nsIn K mainGlobals "_law_some_links" = some (some (.ref f))) (l : K.lookup f = some ⟨oc, od, .func (PySem.W.fnOf "_law_some_links" "_law_some_links" (fnArgs (top 39)) (C8.fnBody (top 39)) (C8.fnScope (top 39)) .none kV dc pm an cd ct), sl⟩) (c : PySem.W.codeIn K cd "_law_some_links" = true) (k : PySem.W.keepIn K (.ref f) = true) :
    DB K mg "_law_some_links" (top 39) ["_law_hand_here", "_law_many", "_law_most"] := dbMk X G (fun _ _ _ _ _ _ us hl => match us, hl with | [_, _, _], _ => rfl) a l c k
theorem mk40 {K : PySem.W.Frag} {h : Heap} {mg : Str → Option Value} {f : Addr} {od an : Option Addr} {sl : Array (Option Value)} {oc kV dc pm cd ct : Value} (X : K.In h) (G : h.Ns mainGlobals mg) (a : PySem.W.nsIn K mainGlobals "_law_parts_of" = some (some (.ref f))) (l : K.lookup f = some ⟨oc, od, .func (PySem.W.fnOf "_law_parts_of" "_law_parts_of" (fnArgs (top 40)) (C8.fnBody (top 40)) (C8.fnScope (top 40)) .none kV dc pm an cd ct), sl⟩) (c : PySem.W.codeIn K cd "_law_parts_of" = true) (k : PySem.W.keepIn K (.ref f) = true) :
    DB K mg "_law_parts_of" (top 40) ["_law_hand_here"] := dbMk X G (fun _ _ _ _ _ _ us hl => match us, hl with | [_], _ => rfl) a l c k
theorem mk41 {K : PySem.W.Frag} {h : Heap} {mg : Str → Option Value} {f : Addr} {od an : Option Addr} {sl : Array (Option Value)} {oc kV dc pm cd ct : Value} (X : K.In h) (G : h.Ns mainGlobals mg) (a : PySem.W.nsIn K mainGlobals "_law_is_wood" = some (some (.ref f))) (l : K.lookup f = some ⟨oc, od, .func (PySem.W.fnOf "_law_is_wood" "_law_is_wood" (fnArgs (top 41)) (C8.fnBody (top 41)) (C8.fnScope (top 41)) .none kV dc pm an cd ct), sl⟩) (c : PySem.W.codeIn K cd "_law_is_wood" = true) (k : PySem.W.keepIn K (.ref f) = true) :
    DB K mg "_law_is_wood" (top 41) ["_law_parts", "_law_sources", "_law_thing"] := dbMk X G (fun _ _ _ _ _ _ us hl => match us, hl with | [_, _, _], _ => rfl) a l c k
theorem mk42 {K : PySem.W.Frag} {h : Heap} {mg : Str → Option Value} {f : Addr} {od an : Option Addr} {sl : Array (Option Value)} {oc kV dc pm cd ct : Value} (X : K.In h) (G : h.Ns mainGlobals mg) (a : PySem.W.nsIn K mainGlobals "_law_grow" = some (some (.ref f))) (l : K.lookup f = some ⟨oc, od, .func (PySem.W.fnOf "_law_grow" "_law_grow" (fnArgs (top 42)) (C8.fnBody (top 42)) (C8.fnScope (top 42)) .none kV dc pm an cd ct), sl⟩) (c : PySem.W.codeIn K cd "_law_grow" = true) (k : PySem.W.keepIn K (.ref f) = true) :
    DB K mg "_law_grow" (top 42) ["_law_hand_here", "_law_parts", "_law_sources", "_law_free", "_law_most"] := dbMk X G (fun _ _ _ _ _ _ us hl => match us, hl with | [_, _, _, _, _], _ => rfl) a l c k
theorem mk43 {K : PySem.W.Frag} {h : Heap} {mg : Str → Option Value} {f : Addr} {od an : Option Addr} {sl : Array (Option Value)} {oc kV dc pm cd ct : Value} (X : K.In h) (G : h.Ns mainGlobals mg) (a : PySem.W.nsIn K mainGlobals "_law_odd" = some (some (.ref f))) (l : K.lookup f = some ⟨oc, od, .func (PySem.W.fnOf "_law_odd" "_law_odd" (fnArgs (top 43)) (C8.fnBody (top 43)) (C8.fnScope (top 43)) .none kV dc pm an cd ct), sl⟩) (c : PySem.W.codeIn K cd "_law_odd" = true) (k : PySem.W.keepIn K (.ref f) = true) :
    DB K mg "_law_odd" (top 43) ["_law_hand_here"] := dbMk X G (fun _ _ _ _ _ _ us hl => match us, hl with | [_], _ => rfl) a l c k
theorem mk44 {K : PySem.W.Frag} {h : Heap} {mg : Str → Option Value} {f : Addr} {od an : Option Addr} {sl : Array (Option Value)} {oc kV dc pm cd ct : Value} (X : K.In h) (G : h.Ns mainGlobals mg) (a : PySem.W.nsIn K mainGlobals "_law_bent_lot" = some (some (.ref f))) (l : K.lookup f = some ⟨oc, od, .func (PySem.W.fnOf "_law_bent_lot" "_law_bent_lot" (fnArgs (top 44)) (C8.fnBody (top 44)) (C8.fnScope (top 44)) .none kV dc pm an cd ct), sl⟩) (c : PySem.W.codeIn K cd "_law_bent_lot" = true) (k : PySem.W.keepIn K (.ref f) = true) :
    DB K mg "_law_bent_lot" (top 44) ["_law_hand_here", "_law_lot", "_law_many"] := dbMk X G (fun _ _ _ _ _ _ us hl => match us, hl with | [_, _, _], _ => rfl) a l c k
theorem mk45 {K : PySem.W.Frag} {h : Heap} {mg : Str → Option Value} {f : Addr} {od an : Option Addr} {sl : Array (Option Value)} {oc kV dc pm cd ct : Value} (X : K.In h) (G : h.Ns mainGlobals mg) (a : PySem.W.nsIn K mainGlobals "_law_chain" = some (some (.ref f))) (l : K.lookup f = some ⟨oc, od, .func (PySem.W.fnOf "_law_chain" "_law_chain" (fnArgs (top 45)) (C8.fnBody (top 45)) (C8.fnScope (top 45)) .none kV dc pm an cd ct), sl⟩) (c : PySem.W.codeIn K cd "_law_chain" = true) (k : PySem.W.keepIn K (.ref f) = true) :
    DB K mg "_law_chain" (top 45) ["_law_parts", "_law_tree", "_law_place"] := dbMk X G (fun _ _ _ _ _ _ us hl => match us, hl with | [_, _, _], _ => rfl) a l c k
theorem mk46 {K : PySem.W.Frag} {h : Heap} {mg : Str → Option Value} {f : Addr} {od an : Option Addr} {sl : Array (Option Value)} {oc kV dc pm cd ct : Value} (X : K.In h) (G : h.Ns mainGlobals mg) (a : PySem.W.nsIn K mainGlobals "_law_told" = some (some (.ref f))) (l : K.lookup f = some ⟨oc, od, .func (PySem.W.fnOf "_law_told" "_law_told" (fnArgs (top 46)) (C8.fnBody (top 46)) (C8.fnScope (top 46)) .none kV dc pm an cd ct), sl⟩) (c : PySem.W.codeIn K cd "_law_told" = true) (k : PySem.W.keepIn K (.ref f) = true) :
    DB K mg "_law_told" (top 46) ["_law_call"] := dbMk X G (fun _ _ _ _ _ _ us hl => match us, hl with | [_], _ => rfl) a l c k
theorem mk47 {K : PySem.W.Frag} {h : Heap} {mg : Str → Option Value} {f : Addr} {od an : Option Addr} {sl : Array (Option Value)} {oc kV dc pm cd ct : Value} (X : K.In h) (G : h.Ns mainGlobals mg) (a : PySem.W.nsIn K mainGlobals "_law_is_tuple" = some (some (.ref f))) (l : K.lookup f = some ⟨oc, od, .func (PySem.W.fnOf "_law_is_tuple" "_law_is_tuple" (fnArgs (top 47)) (C8.fnBody (top 47)) (C8.fnScope (top 47)) .none kV dc pm an cd ct), sl⟩) (c : PySem.W.codeIn K cd "_law_is_tuple" = true) (k : PySem.W.keepIn K (.ref f) = true) :
    DB K mg "_law_is_tuple" (top 47) ["_law_told_here", "_law_due"] := dbMk X G (fun _ _ _ _ _ _ us hl => match us, hl with | [_, _], _ => rfl) a l c k
theorem mk49 {K : PySem.W.Frag} {h : Heap} {mg : Str → Option Value} {f : Addr} {od an : Option Addr} {sl : Array (Option Value)} {oc kV dc pm cd ct : Value} (X : K.In h) (G : h.Ns mainGlobals mg) (a : PySem.W.nsIn K mainGlobals "law" = some (some (.ref f))) (l : K.lookup f = some ⟨oc, od, .func (PySem.W.fnOf "law" "law" (fnArgs (top 49)) (C8.fnBody (top 49)) (C8.fnScope (top 49)) .none kV dc pm an cd ct), sl⟩) (c : PySem.W.codeIn K cd "law" = true) (k : PySem.W.keepIn K (.ref f) = true) :
    DB K mg "law" (top 49) ["_law_script"] := dbMk X G (fun _ _ _ _ _ _ us hl => match us, hl with | [_], _ => rfl) a l c k
theorem mk48 {K : PySem.W.Frag} {h : Heap} {mg : Str → Option Value} {f c0 : Addr} {od an : Option Addr} {sl : Array (Option Value)} {oc kV dc pm ct : Value} (X : K.In h) (G : h.Ns mainGlobals mg) (a : PySem.W.nsIn K mainGlobals "_law_is_right" = some (some (.ref f))) (l : K.lookup f = some ⟨oc, od, .func (PySem.W.fnOf "_law_is_right" "_law_is_right" (fnArgs (top 48)) (C8.fnBody (top 48)) (C8.fnScope (top 48)) .none kV dc pm an (.ref c0) ct), sl⟩) (c : PySem.W.codeIn K (.ref c0) "_law_is_right" = true) (k : PySem.W.keepIn K (.ref f) = true) :
    DBc K mg "_law_is_right" (top 48) ["_law_hand_here", "_law_parts", "_law_net", "_law_thing"] (.ref c0) := by
  have F : C8.Fun K "_law_is_right" "_law_is_right" (top 48) f (PySem.W.fnOf "_law_is_right" "_law_is_right" (fnArgs (top 48)) (C8.fnBody (top 48)) (C8.fnScope (top 48)) .none kV dc pm an (.ref c0) ct) := ⟨oc, od, .none, kV, dc, pm, an, .ref c0, ct, sl, rfl, l, c⟩
  exact ⟨f, oc, od, .none, kV, dc, pm, an, ct, sl, l, c, PySem.W.mg_of X G a, k, F.binds rfl fun _ _ _ _ _ _ us hl => match us, hl with | [_, _, _, _], _ => rfl⟩
/-- Net.__init__ -/
theorem mkInit {K : PySem.W.Frag} {f : Addr} {od an : Option Addr} {sl : Array (Option Value)} {oc kV dc pm cd ct : Value} (l : K.lookup f = some ⟨oc, od, .func (PySem.W.fnOf "__init__" "Net.__init__" (fnArgs sNetInit) (C8.fnBody sNetInit) (C8.fnScope sNetInit) .none kV dc pm an cd ct), sl⟩) (c : PySem.W.codeIn K cd "Net.__init__" = true) :
    ∃ fd, C8.Fun K "__init__" "Net.__init__" sNetInit f fd ∧ Binds K fd ["self", "many", "root", "links"] [] := by
  have F : C8.Fun K "__init__" "Net.__init__" sNetInit f (PySem.W.fnOf "__init__" "Net.__init__" (fnArgs sNetInit) (C8.fnBody sNetInit) (C8.fnScope sNetInit) .none kV dc pm an cd ct) := ⟨oc, od, .none, kV, dc, pm, an, cd, ct, sl, rfl, l, c⟩
  exact ⟨_, F, F.binds rfl fun _ _ _ _ _ _ us hl => match us, hl with | [_, _, _, _], _ => rfl⟩
/-- the defs of the program and of the law -/
structure Defs (K : PySem.W.Frag) (mg : Str → Option Value) (c0 : Addr) : Prop where
  d1 : DB K mg "is_integer" (top 1) ["thing"]
  d2 : DB K mg "is_within" (top 2) ["thing", "least", "most"]
  d3 : DB K mg "is_pair" (top 3) ["thing"]
  d4 : DB K mg "is_lot" (top 4) ["thing", "many"]
  d17 : DB K mg "is_link" (top 17) ["many", "thing"]
  d18 : DB K mg "check_net" (top 18) ["net"]
  d19 : DB K mg "is_lot_of" (top 19) ["net", "thing"]
  d21 : DB K mg "reached" (top 21) ["net", "lot", "places"]
  d22 : DB K mg "is_wood" (top 22) ["net", "lot", "places"]
  d23 : DB K mg "is_grown" (top 23) ["net", "thing"]
  d24 : DB K mg "is_tree" (top 24) ["net", "thing"]
  d26 : DB K mg "check_tree" (top 26) ["net", "tree"]
  d27 : DB K mg "links_to" (top 27) ["net", "tree", "place"]
  d28 : DB K mg "depths" (top 28) ["net", "tree"]
  d29 : DB K mg "way_in" (top 29) ["net", "tree", "place"]
  d31 : DB K mg "_law_mixed" (top 31) ["_law_cell", "_law_turn"]
  d32 : DB K mg "_law_hand" (top 32) ["_law_script"]
  d33 : DB K mg "_law_draw" (top 33) ["_law_hand_here", "_law_many"]
  d34 : DB K mg "_law_is" (top 34) ["_law_told_here", "_law_due"]
  d35 : DB K mg "_law_is_int" (top 35) ["_law_thing", "_law_least", "_law_most"]
  d36 : DB K mg "_law_is_lot" (top 36) ["_law_thing", "_law_many"]
  d37 : DB K mg "_law_shuffled" (top 37) ["_law_hand_here", "_law_things"]
  d38 : DB K mg "_law_some_tree" (top 38) ["_law_hand_here", "_law_many", "_law_root"]
  d39 : DB K mg "_law_some_links" (top 39) ["_law_hand_here", "_law_many", "_law_most"]
  d40 : DB K mg "_law_parts_of" (top 40) ["_law_hand_here"]
  d41 : DB K mg "_law_is_wood" (top 41) ["_law_parts", "_law_sources", "_law_thing"]
  d42 : DB K mg "_law_grow" (top 42) ["_law_hand_here", "_law_parts", "_law_sources", "_law_free", "_law_most"]
  d43 : DB K mg "_law_odd" (top 43) ["_law_hand_here"]
  d44 : DB K mg "_law_bent_lot" (top 44) ["_law_hand_here", "_law_lot", "_law_many"]
  d45 : DB K mg "_law_chain" (top 45) ["_law_parts", "_law_tree", "_law_place"]
  d46 : DB K mg "_law_told" (top 46) ["_law_call"]
  d47 : DB K mg "_law_is_tuple" (top 47) ["_law_told_here", "_law_due"]
  d48 : DBc K mg "_law_is_right" (top 48) ["_law_hand_here", "_law_parts", "_law_net", "_law_thing"] (.ref c0)
  d49 : DB K mg "law" (top 49) ["_law_script"]
theorem all_law {P : Program} {w : World} {K : PySem.W.Frag} {mg : Str → Option Value} {base : Heap} {c0 P0 C CE CT CP CL f0 : Addr} (B : Nb mg) (T : NetC K mg C) (G : NetG mg) (R : Errs K mg CE CT CP CL) (M : Mk K C f0)
    (I : ∃ fd, C8.Fun K "__init__" "Net.__init__" sNetInit f0 fd ∧ Binds K fd ["self", "many", "root", "links"] []) (D : Defs K mg c0) (TB0 : LamX.TabB base mg c0 P0) : CalG P w K mg base 12 "law" ["_law_script"] (spLaw K P0) := by
  obtain ⟨fd, F0, b0⟩ := I
  have e1 := ok_is_integer (P := P) (w := w) (base := base) B D.d1
  have e2 := ok_is_within D.d2 e1
  have e3 := ok_is_pair (P := P) (w := w) (base := base) B D.d3
  have e4 := ok_is_lot B D.d4 e2
  have e17 := ok_is_link B D.d17 e3 e2
  have eN := ok_net_init B T G M F0 b0 e2 e17
  have e18 := ok_check_net (P := P) (w := w) (base := base) B T D.d18
  have e19 := ok_is_lot_of B T D.d19 e4
  have e21 := ok_reached (P := P) (w := w) (base := base) B T D.d21
  have e22 := ok_is_wood B T D.d22 e21
  have e23 := ok_is_grown T D.d23 e18 e19 e22
  have e24 := ok_is_tree B T D.d24 e23
  have e26 := ok_check_tree R.xT D.d26 e18 e24
  have e27 := ok_links_to (P := P) (w := w) (base := base) B T D.d27
  have e28 := ok_depths B T D.d28 e26 e27
  have e29 := ok_way_in T R.xP D.d29 e26 e27 e2
  have e31 := ok_mixed (P := P) (w := w) (base := base) B D.d31
  have e32 := ok_hand (P := P) (w := w) (base := base) B D.d32
  have e33 := ok_draw B D.d33 e31
  have e34 := ok_is (P := P) (w := w) (base := base) B D.d34
  have e35 := ok_is_int (P := P) (w := w) (base := base) B D.d35
  have e36 := ok_law_lot B D.d36 e35
  have e37 := ok_shuffled B D.d37 e33
  have e38 := ok_some_tree B D.d38 e33 e37
  have e39 := ok_some_links B D.d39 e33
  have e40 := ok_parts_of B D.d40 e33 e37 e38 e39
  have e41 := ok_law_wood B D.d41 e36
  have e42 := ok_grow B D.d42 e33
  have e43 := ok_odd D.d43 e33
  have e44 := ok_bent_lot B D.d44 e33 e43
  have e45 := ok_chain (P := P) (w := w) (base := base) B D.d45
  have e47 := ok_is_tuple (P := P) (w := w) (base := base) B D.d47
  have e48 := ok_is_right B R TB0 D.d48 D.d46 e41 e34 e24 e33 e45 e47 e28 e29
  exact ok_law B D.d49 e32 e40 eN e42 e44 e48
/-- what the head must say -/
def LawG (K : PySem.W.Frag) (mg : Str → Option Value) (h : Heap) : Prop := ∃ (c0 P0 C CE CT CP CL f0 : Addr), K.In h ∧ h.get? P0 = some { cls := .none, data := .fields #[] } ∧ K.lookup P0 = none ∧ PySem.W.CodeHd h c0 P0 ∧
  Nb mg ∧ NetC K mg C ∧ NetG mg ∧ Errs K mg CE CT CP CL ∧ Mk K C f0 ∧ (∃ fd, C8.Fun K "__init__" "Net.__init__" sNetInit f0 fd ∧ Binds K fd ["self", "many", "root", "links"] []) ∧ Defs K mg c0
theorem walkG {l : PySem.W.OpenLaw} {q : Program} {loose : List Str} {XP : (Str → Option Value) → Heap → Prop} {YP : World → Heap → Prop} {d : DefRec} {K : Params → PySem.W.Frag} (hn : l.most = some 63) (hdf : d.params.defaults = []) (hd : d.name = "law") (hY : ∀ (w : World) (h : Heap), YP w h → (K w.params).In h)
    (F : ∀ (w : World) (mg : Str → Option Value) (h : Heap), YP w h → h.Ns mainGlobals mg → LawG (K w.params) mg h) : PySem.W.WalkO q loose XP YP l.row.toRowW d [] (fun f vs => PySem.call f vs) := by
  refine Att.attach_callB hn hdf fun w s₀ s₁ mg mb fa o pm cd doc a vs ns G Y ho hd' hcd hmg hobj hints hlen hbits hg => ?_
  obtain ⟨c0, P0, C, CE, CT, CP, CL, f0, KX, tab, out, hc, B, T, GN, R, M, I, D⟩ := F w mg _ Y G.T.g
  rw [hd] at hmg
  exact law_runs (k := 12) KX G.T.g G.T.b G.T.builtins G.T.nolimit hg tab out hc G.T.bmain hobj hints hlen ⟨rfl, by decide, by decide⟩ hmg fun base _ _ TB0 => all_law B T GN R M I D TB0
theorem lawG_mk {K : PySem.W.Frag} {h : Heap} {mg : Str → Option Value} {c0 P0 C CE CT CP CL f0 : Addr} {t1 t2 t3 : Tok} (X : K.In h) (G : h.Ns mainGlobals mg) (tab : h.get? P0 = some { cls := .none, data := .fields #[] }) (nT : K.lookup P0 = none)
    (aN : PySem.W.nsIn K mainGlobals "Net" = some (some (.ref C))) (aE : PySem.W.nsIn K mainGlobals "TreeError" = some (some (.ref CE))) (aT : PySem.W.nsIn K mainGlobals "NoTree" = some (some (.ref CT))) (aP : PySem.W.nsIn K mainGlobals "NoPlace" = some (some (.ref CP))) (aL : PySem.W.nsIn K mainGlobals "NoLot" = some (some (.ref CL)))
    (z1 : PySem.W.nsIn K mainGlobals "isinstance" = some none) (z2 : PySem.W.nsIn K mainGlobals "int" = some none) (z3 : PySem.W.nsIn K mainGlobals "bool" = some none) (z4 : PySem.W.nsIn K mainGlobals "tuple" = some none) (z5 : PySem.W.nsIn K mainGlobals "len" = some none) (z6 : PySem.W.nsIn K mainGlobals "list" = some none)
    (z7 : PySem.W.nsIn K mainGlobals "all" = some none) (z8 : PySem.W.nsIn K mainGlobals "any" = some none) (z9 : PySem.W.nsIn K mainGlobals "sorted" = some none) (z10 : PySem.W.nsIn K mainGlobals "set" = some none) (z11 : PySem.W.nsIn K mainGlobals "range" = some none) (z12 : PySem.W.nsIn K mainGlobals "enumerate" = some none)
    (z13 : PySem.W.nsIn K mainGlobals "repr" = some none) (z14 : PySem.W.nsIn K mainGlobals "abs" = some none) (z15 : PySem.W.nsIn K mainGlobals "max" = some none)
    (pg : PySem.W.plainGet K C Str.empty = true) (hd : PySem.W.hasDictIn K C = true) (po : PySem.W.plainOver K C = true) (sa : PySem.W.findIn K (.ref C) "__setattr__" = some (some (.builtin "object.__setattr__")))
    (nM : PySem.W.findIn K (.ref C) "many" = some none) (nR : PySem.W.findIn K (.ref C) "root" = some none) (nL : PySem.W.findIn K (.ref C) "links" = some none) (ca : PySem.W.findIn K (.ref C) "__class__" = some (some (.builtin "object.__class__")))
    (cn : PySem.W.specialIn K (.builtin "object.__class__") "__get__" = some (some (.builtin "getset_descriptor.__get__"))) (ct : PySem.W.takesIn K (.builtin "object.__class__") = some true) (cm : PySem.W.mroIn K C (.type "object") = some true) (ck : PySem.W.kitOne K (.ref C) (.ref C) = some true)
    (mk : PySem.W.makesIn K C = true) (a0 : PySem.W.findIn K (.ref C) "__init__" = some (some (.ref f0))) (i0 : PySem.W.isFn K (.ref f0) = true) (kc : PySem.W.keepIn K (.ref C) = true)
    (I : ∃ fd, C8.Fun K "__init__" "Net.__init__" sNetInit f0 fd ∧ Binds K fd ["self", "many", "root", "links"] [])
    (g1 : PySem.W.nsIn K mainGlobals "LEAST_PLACES" = some (some (.int 2 t1))) (g2 : PySem.W.nsIn K mainGlobals "MOST_PLACES" = some (some (.int 10 t2))) (g3 : PySem.W.nsIn K mainGlobals "MOST_LINKS" = some (some (.int 60 t3)))
    (xT : PySem.W.excIn K CT [.type "ValueError", .type "Exception", .type "BaseException", .type "object"] "ValueError.__new__" = true) (kT : PySem.W.keepIn K (.ref CT) = true) (sT : PySem.W.subIn K (.ref CT) (.type "BaseException") = some true) (tT : PySem.W.typeIn K (.ref CT) = some (.type "type"))
    (xP : PySem.W.excIn K CP [.type "ValueError", .type "Exception", .type "BaseException", .type "object"] "ValueError.__new__" = true) (kP : PySem.W.keepIn K (.ref CP) = true) (sP : PySem.W.subIn K (.ref CP) (.type "BaseException") = some true) (tP : PySem.W.typeIn K (.ref CP) = some (.type "type"))
    (gT : PySem.W.findIn K (.ref CT) "__getattribute__" = some (some (.builtin "BaseException.__getattribute__"))) (eT : PySem.W.findIn K (.ref CT) "__getattr__" = some none) (dT : PySem.W.hasDictIn K CT = true) (cT : PySem.W.findIn K (.ref CT) "__class__" = some (some (.builtin "object.__class__"))) (mT : PySem.W.mroIn K CT (.type "object") = some true)
    (gP : PySem.W.findIn K (.ref CP) "__getattribute__" = some (some (.builtin "BaseException.__getattribute__"))) (eP : PySem.W.findIn K (.ref CP) "__getattr__" = some none) (dP : PySem.W.hasDictIn K CP = true) (cP : PySem.W.findIn K (.ref CP) "__class__" = some (some (.builtin "object.__class__"))) (mP : PySem.W.mroIn K CP (.type "object") = some true)
    (sTT : PySem.W.subIn K (.ref CT) (.ref CT) = some true) (sPT : PySem.W.subIn K (.ref CP) (.ref CT) = some false) (sPP : PySem.W.subIn K (.ref CP) (.ref CP) = some true)
    (k1 : PySem.W.kitOne K (.ref CT) (.ref CE) = some true) (k2 : PySem.W.kitAny K (.ref CT) [.ref CP, .ref CL] = some false) (k3 : PySem.W.kitOne K (.ref CP) (.ref CE) = some true) (k4 : PySem.W.kitAny K (.ref CP) [.ref CT, .ref CL] = some false)
    (d48 : DBc K mg "_law_is_right" (top 48) ["_law_hand_here", "_law_parts", "_law_net", "_law_thing"] (.ref c0)) (hcd : PySem.W.codeHdIn K c0 P0 = true)
    (d1 : DB K mg "is_integer" (top 1) ["thing"])
    (d2 : DB K mg "is_within" (top 2) ["thing", "least", "most"])
    (d3 : DB K mg "is_pair" (top 3) ["thing"])
    (d4 : DB K mg "is_lot" (top 4) ["thing", "many"])
    (d17 : DB K mg "is_link" (top 17) ["many", "thing"])
    (d18 : DB K mg "check_net" (top 18) ["net"])
    (d19 : DB K mg "is_lot_of" (top 19) ["net", "thing"])
    (d21 : DB K mg "reached" (top 21) ["net", "lot", "places"])
    (d22 : DB K mg "is_wood" (top 22) ["net", "lot", "places"])
    (d23 : DB K mg "is_grown" (top 23) ["net", "thing"])
    (d24 : DB K mg "is_tree" (top 24) ["net", "thing"])
    (d26 : DB K mg "check_tree" (top 26) ["net", "tree"])
    (d27 : DB K mg "links_to" (top 27) ["net", "tree", "place"])
    (d28 : DB K mg "depths" (top 28) ["net", "tree"])
    (d29 : DB K mg "way_in" (top 29) ["net", "tree", "place"])
    (d31 : DB K mg "_law_mixed" (top 31) ["_law_cell", "_law_turn"])
    (d32 : DB K mg "_law_hand" (top 32) ["_law_script"])
    (d33 : DB K mg "_law_draw" (top 33) ["_law_hand_here", "_law_many"])
    (d34 : DB K mg "_law_is" (top 34) ["_law_told_here", "_law_due"])
    (d35 : DB K mg "_law_is_int" (top 35) ["_law_thing", "_law_least", "_law_most"])
    (d36 : DB K mg "_law_is_lot" (top 36) ["_law_thing", "_law_many"])
    (d37 : DB K mg "_law_shuffled" (top 37) ["_law_hand_here", "_law_things"])
    (d38 : DB K mg "_law_some_tree" (top 38) ["_law_hand_here", "_law_many", "_law_root"])
    (d39 : DB K mg "_law_some_links" (top 39) ["_law_hand_here", "_law_many", "_law_most"])
    (d40 : DB K mg "_law_parts_of" (top 40) ["_law_hand_here"])
    (d41 : DB K mg "_law_is_wood" (top 41) ["_law_parts", "_law_sources", "_law_thing"])
    (d42 : DB K mg "_law_grow" (top 42) ["_law_hand_here", "_law_parts", "_law_sources", "_law_free", "_law_most"])
    (d43 : DB K mg "_law_odd" (top 43) ["_law_hand_here"])
    (d44 : DB K mg "_law_bent_lot" (top 44) ["_law_hand_here", "_law_lot", "_law_many"])
    (d45 : DB K mg "_law_chain" (top 45) ["_law_parts", "_law_tree", "_law_place"])
    (d46 : DB K mg "_law_told" (top 46) ["_law_call"])
    (d47 : DB K mg "_law_is_tuple" (top 47) ["_law_told_here", "_law_due"])
    (d49 : DB K mg "law" (top 49) ["_law_script"]) : LawG K mg h := by
  have n := fun {x : Str} (e : PySem.W.nsIn K mainGlobals x = some none) => PySem.W.mg_none_of X G e
  refine ⟨c0, P0, C, CE, CT, CP, CL, f0, X, tab, nT, PySem.W.codeHd_of_K X hcd, ⟨n z1, n z2, n z3, n z4, n z5, n z6, n z7, n z8, n z9, n z10, n z11, n z12, n z13, n z14, n z15⟩,
    ⟨⟨pg, hd, po, sa⟩, nM, nR, nL, PySem.W.mg_of X G aN, ca, cn, ct, cm, ck⟩, ⟨⟨_, PySem.W.mg_of X G g1⟩, ⟨_, PySem.W.mg_of X G g2⟩, ⟨_, PySem.W.mg_of X G g3⟩⟩, ?_, ⟨mk, a0, i0, kc⟩, I, ?_⟩
  · exact ⟨PySem.W.mg_of X G aE, PySem.W.mg_of X G aL, ⟨xT, PySem.W.mg_of X G aT, kT, sT, tT⟩, ⟨xP, PySem.W.mg_of X G aP, kP, sP, tP⟩, ⟨gT, eT, sT, dT, cT, cn, ct, mT⟩, ⟨gP, eP, sP, dP, cP, cn, ct, mP⟩,
      PySem.W.exm_ref sT dT tT sTT, PySem.W.exm_ref sT dT tT sPT, PySem.W.exm_ref sP dP tP sPP, k1, k2, k3, k4⟩
  · exact ⟨d1, d2, d3, d4, d17, d18, d19, d21, d22, d23, d24, d26, d27, d28, d29, d31, d32, d33, d34, d35, d36, d37, d38, d39, d40, d41, d42, d43, d44, d45, d46, d47, d48, d49⟩
end ST

open PySem PySem.W PyProof.Rows
set_option maxHeartbeats 0 in
theorem PySem.Challenge.cw_sparetrees_k10_whole_trees_judged_holds : PySem.Challenge.rw_sparetrees_k10_whole_trees_judged.Holds := by
  w_on; o_law; k_head; (case hw => w_witness2)
  k_fill
  refine ST.walkG (l := PySem.Challenge.rw_sparetrees_k10_whole_trees_judged) rfl rfl rfl (fun w h Y => PySem.W.km_in_of Y) ?F
  case F =>
    intro w mg h Y G
    have KX := PySem.W.km_in_of Y
    refine' ST.lawG_mk (P0 := 330) KX G ?tab ?nT ?aN ?aE ?aT ?aP ?aL ?z1 ?z2 ?z3 ?z4 ?z5 ?z6 ?z7 ?z8 ?z9 ?z10 ?z11 ?z12 ?z13 ?z14 ?z15 ?pg ?hd ?po ?sa ?nM ?nR ?nL ?ca ?cn ?ct ?cm ?ck ?mk ?a0 ?i0 ?kc ?I ?g1 ?g2 ?g3 ?xT ?kT ?sT ?tT ?xP ?kP ?sP ?tP ?gT ?eT ?dT ?cT ?mT ?gP ?eP ?dP ?cP ?mP ?sTT ?sPT ?sPP ?k1 ?k2 ?k3 ?k4 ?d48 ?hcd ?d1 ?d2 ?d3 ?d4 ?d17 ?d18 ?d19 ?d21 ?d22 ?d23 ?d24 ?d26 ?d27 ?d28 ?d29 ?d31 ?d32 ?d33 ?d34 ?d35 ?d36 ?d37 ?d38 ?d39 ?d40 ?d41 ?d42 ?d43 ?d44 ?d45 ?d46 ?d47 ?d49
    case tab => exact PySem.W.km_tabs_of Y _ (by decide)
    case nT => first | rfl | k_is | decide +kernel
    case aN => k_is
    case aE => k_is
    case aT => k_is
    case aP => k_is
    case aL => k_is
    case z1 => k_is
    case z2 => k_is
    case z3 => k_is
    case z4 => k_is
    case z5 => k_is
    case z6 => k_is
    case z7 => k_is
    case z8 => k_is
    case z9 => k_is
    case z10 => k_is
    case z11 => k_is
    case z12 => k_is
    case z13 => k_is
    case z14 => k_is
    case z15 => k_is
    case pg => k_is
    case hd => k_is
    case po => k_is
    case sa => k_is
    case nM => k_is
    case nR => k_is
    case nL => k_is
    case ca => k_is
    case cn => k_is
    case ct => k_is
    case cm => k_is
    case ck => first | k_is | kit_is | rfl
    case mk => k_is
    case a0 => k_is
    case i0 => k_is
    case kc => k_is
    case I =>
      refine' ST.mkInit ?l ?c
      (case l => k_is); (case c => k_is)
    case g1 => k_is
    case g2 => k_is
    case g3 => k_is
    case xT => k_exc
    case kT => k_is
    case sT => k_is
    case tT => k_is
    case xP => k_exc
    case kP => k_is
    case sP => k_is
    case tP => k_is
    case gT => k_is
    case eT => k_is
    case dT => k_is
    case cT => k_is
    case mT => k_is
    case gP => k_is
    case eP => k_is
    case dP => k_is
    case cP => k_is
    case mP => k_is
    case sTT => first | k_is | kit_is | rfl
    case sPT => k_is
    case sPP => first | k_is | kit_is | rfl
    case k1 => kit_is
    case k2 => kit_is
    case k3 => kit_is
    case k4 => kit_is
    case d48 =>
      refine' ST.mk48 KX G ?a ?l ?c ?k
      (case a => k_is); (case l => k_is); (case c => k_is); (case k => k_is)
    case hcd => first | k_is | rfl | decide +kernel
    case d1 =>
      refine' ST.mk1 KX G ?a ?l ?c ?k
      (case a => k_is); (case l => k_is); (case c => k_is); (case k => k_is)
    case d2 =>
      refine' ST.mk2 KX G ?a ?l ?c ?k
      (case a => k_is); (case l => k_is); (case c => k_is); (case k => k_is)
    case d3 =>
      refine' ST.mk3 KX G ?a ?l ?c ?k
      (case a => k_is); (case l => k_is); (case c => k_is); (case k => k_is)
    case d4 =>
      refine' ST.mk4 KX G ?a ?l ?c ?k
      (case a => k_is); (case l => k_is); (case c => k_is); (case k => k_is)
    case d17 =>
      refine' ST.mk17 KX G ?a ?l ?c ?k
      (case a => k_is); (case l => k_is); (case c => k_is); (case k => k_is)
    case d18 =>
      refine' ST.mk18 KX G ?a ?l ?c ?k
      (case a => k_is); (case l => k_is); (case c => k_is); (case k => k_is)
    case d19 =>
      refine' ST.mk19 KX G ?a ?l ?c ?k
      (case a => k_is); (case l => k_is); (case c => k_is); (case k => k_is)
    case d21 =>
      refine' ST.mk21 KX G ?a ?l ?c ?k
      (case a => k_is); (case l => k_is); (case c => k_is); (case k => k_is)
    case d22 =>
      refine' ST.mk22 KX G ?a ?l ?c ?k
      (case a => k_is); (case l => k_is); (case c => k_is); (case k => k_is)
    case d23 =>
      refine' ST.mk23 KX G ?a ?l ?c ?k
      (case a => k_is); (case l => k_is); (case c => k_is); (case k => k_is)
    case d24 =>
      refine' ST.mk24 KX G ?a ?l ?c ?k
      (case a => k_is); (case l => k_is); (case c => k_is); (case k => k_is)
    case d26 =>
      refine' ST.mk26 KX G ?a ?l ?c ?k
      (case a => k_is); (case l => k_is); (case c => k_is); (case k => k_is)
    case d27 =>
      refine' ST.mk27 KX G ?a ?l ?c ?k
      (case a => k_is); (case l => k_is); (case c => k_is); (case k => k_is)
    case d28 =>
      refine' ST.mk28 KX G ?a ?l ?c ?k
      (case a => k_is); (case l => k_is); (case c => k_is); (case k => k_is)
    case d29 =>
      refine' ST.mk29 KX G ?a ?l ?c ?k
      (case a => k_is); (case l => k_is); (case c => k_is); (case k => k_is)
    case d31 =>
      refine' ST.mk31 KX G ?a ?l ?c ?k
      (case a => k_is); (case l => k_is); (case c => k_is); (case k => k_is)
    case d32 =>
      refine' ST.mk32 KX G ?a ?l ?c ?k
      (case a => k_is); (case l => k_is); (case c => k_is); (case k => k_is)
    case d33 =>
      refine' ST.mk33 KX G ?a ?l ?c ?k
      (case a => k_is); (case l => k_is); (case c => k_is); (case k => k_is)
    case d34 =>
      refine' ST.mk34 KX G ?a ?l ?c ?k
      (case a => k_is); (case l => k_is); (case c => k_is); (case k => k_is)
    case d35 =>
      refine' ST.mk35 KX G ?a ?l ?c ?k
      (case a => k_is); (case l => k_is); (case c => k_is); (case k => k_is)
    case d36 =>
      refine' ST.mk36 KX G ?a ?l ?c ?k
      (case a => k_is); (case l => k_is); (case c => k_is); (case k => k_is)
    case d37 =>
      refine' ST.mk37 KX G ?a ?l ?c ?k
      (case a => k_is); (case l => k_is); (case c => k_is); (case k => k_is)
    case d38 =>
      refine' ST.mk38 KX G ?a ?l ?c ?k
      (case a => k_is); (case l => k_is); (case c => k_is); (case k => k_is)
    case d39 =>
      refine' ST.mk39 KX G ?a ?l ?c ?k
      (case a => k_is); (case l => k_is); (case c => k_is); (case k => k_is)
    case d40 =>
      refine' ST.mk40 KX G ?a ?l ?c ?k
      (case a => k_is); (case l => k_is); (case c => k_is); (case k => k_is)
    case d41 =>
      refine' ST.mk41 KX G ?a ?l ?c ?k
      (case a => k_is); (case l => k_is); (case c => k_is); (case k => k_is)
    case d42 =>
      refine' ST.mk42 KX G ?a ?l ?c ?k
      (case a => k_is); (case l => k_is); (case c => k_is); (case k => k_is)
    case d43 =>
      refine' ST.mk43 KX G ?a ?l ?c ?k
      (case a => k_is); (case l => k_is); (case c => k_is); (case k => k_is)
    case d44 =>
      refine' ST.mk44 KX G ?a ?l ?c ?k
      (case a => k_is); (case l => k_is); (case c => k_is); (case k => k_is)
    case d45 =>
      refine' ST.mk45 KX G ?a ?l ?c ?k
      (case a => k_is); (case l => k_is); (case c => k_is); (case k => k_is)
    case d46 =>
      refine' ST.mk46 KX G ?a ?l ?c ?k
      (case a => k_is); (case l => k_is); (case c => k_is); (case k => k_is)
    case d47 =>
      refine' ST.mk47 KX G ?a ?l ?c ?k
      (case a => k_is); (case l => k_is); (case c => k_is); (case k => k_is)
    case d49 =>
      refine' ST.mk49 KX G ?a ?l ?c ?k
      (case a => k_is); (case l => k_is); (case c => k_is); (case k => k_is)

