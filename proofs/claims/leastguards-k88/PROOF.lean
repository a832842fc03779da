import PyProof.Rows.All
import Wide.All
import OpenK.AllK
import Wide.FinOn
import KE.KStateDown
import Lean
import HandS.ForMost
import HandS.ForExc
import HandS.Walk
import HandS.Flow
import HandS.Style
import HandS.Steps
import HandS.IsInst
import HandS.Defaults
import HandS.MakeKw
import HandS.SetKeys
import HandS.DictComp
import HandS.Property
import HandS.More
import HandS.Conv
import HandS.Wide
import HandS.Head0
import HandS.Head1
import HandS.Head2
import HandS.HeadEnd
import HandS.HeadHook1
import HandS.HeadHook2
import KE.KDictKeyed
import KE.SortData
import KE.GoesEnum
import HandS.TupSets
import HandS.SetFor
import HandS.SetBool
import HandS.DictEq
import HandS.DictTup
import KE.KDictList
import HandS.OwnEq
import PyProof.InstEq
import HandS.MakeKwOnly
import HandS.Deep
import PySem.Challenge.RW_leastguards_k88_arguments_by_name
import HandS.Base
import HandS.Call
import HandS.Ends
import HandS.Words
import HandS.WordsExc
set_option Elab.async false
set_option linter.all false
set_option maxRecDepth 100000
section
set_option maxHeartbeats 4000000
namespace LG
open PySem PySem.Spec PyProof.Rows L2
/-! ### readings by name -/
abbrev gAdd : R2 := rI0 fun i j => .int (i + j)
abbrev gSub : R2 := rI0 fun i j => .int (i - j)
abbrev gLt : R2 := rI0 fun i j => .bl (decide (i < j))
abbrev gLe : R2 := rI0 fun i j => .bl (decide (i ≤ j))
abbrev gGt : R2 := rI0 fun i j => .bl (decide (j < i))
abbrev gGe : R2 := rI0 fun i j => .bl (decide (j ≤ i))
abbrev gLeS : R2 := fun x y H Q => ∃ i j, x = .str i ∧ y = .str j ∧ Q (.bl (!decide (j.cps.toList < i.cps.toList))) H
abbrev gNeg : V → Hp → VK → Prop := rU fun i => .int (-i)
/-- len of anything that has one -/
abbrev gLen (K : PySem.W.Frag) : List V → Hp → VK → Prop := fun xs H Q => ∃ x n, xs = [x] ∧ LenV K x H n ∧ Q (.int n) H
abbrev gListOf (K : PySem.W.Frag) : List V → Hp → VK → Prop := fun xs H Q => ∃ p ys, xs = [.ref p] ∧ (SqL K H p ys ∨ SqT K H p ys) ∧ ∀ l, H l = none → Q (.ref l) (upd H l (.lst ys))
abbrev gTupleOf (K : PySem.W.Frag) : List V → Hp → VK → Prop := fun xs H Q => ∃ p ys, xs = [.ref p] ∧ ((SqL K H p ys ∧ ∀ l, H l = none → Q (.ref l) (upd H l (.tup ys))) ∨ (SqT K H p ys ∧ Q (.ref p) H))

/-! ### what the head tells, by lists -/
structure TxtG (fr : List Str) (nums : List (Str × Int)) (gl : List Str) (cl : List Str) (na : List (Str × Str)) (K : PySem.W.Frag) (mg : Str → Option Value) : Prop where
  fr : ∀ x, x ∈ fr → mg x = none
  int : ∀ x i, (x, i) ∈ nums → ∃ t, mg x = some (.int i t)
  gl : ∀ x, x ∈ gl → mg x = some (.ref (He.ga K x))
  cl : ∀ c, c ∈ cl → Cls K (He.ga K c)
  na : ∀ c f, (c, f) ∈ na → NoAttr K (He.ga K c) f
/-- the built-in names that the program asks -/
def frees : List Str := ["isinstance", "int", "bool", "str", "list", "tuple", "dict", "set", "len", "enumerate", "range", "sorted", "all", "any", "zip", "max", "min", "sum"]

/-! ### a def that keeps its promise, called -/
section
variable (P : Program) (w : World) (K : PySem.W.Frag) (mg : Str → Option Value) (base : Heap)
/-- a def of the module: dvs the defaults that fill up -/
def Has (k : Nat) (p : Str × Option Str) (ps : List Str) (sp : Sp) (dvs : List V) : Prop :=
  mg p.1 = some (.ref (He.fAd K p)) ∧ ∃ fd ds, PySem.W.keepIn K (.ref (He.fAd K p)) = true ∧ FnOk P w K mg base (L2.CX P w) k (He.fAd K p) fd ps sp ∧ Vals dvs ds ∧ Binds K fd ps ds
/-- a class's maker -/
def HasMk (k : Nat) (c : Str) (ps : List Str) (sp : Sp) (dvs : List V) : Prop :=
  mg c = some (.ref (He.ga K c)) ∧ Mk K (He.ga K c) (He.ma K (He.ga K c) "__init__") ∧ ∃ fd ds, FnOk P w K mg base (L2.CX P w) k (He.ma K (He.ga K c) "__init__") fd ps sp ∧ Vals dvs ds ∧ Binds K fd ps ds
/-- a class's method -/
def HasMe (k : Nat) (c m : Str) (ps : List Str) (sp : Sp) (dvs : List V) : Prop :=
  Meth K (He.ga K c) m (He.ma K (He.ga K c) m) ∧ ∃ fd ds, FnOk P w K mg base (L2.CX P w) k (He.ma K (He.ga K c) m) fd ps sp ∧ Vals dvs ds ∧ Binds K fd ps ds
end

/-! ### a field of an object whose class is told -/
section
variable {X : Cx} {e o value : Expr} {f : Str} {pos pos' : Pos} {ta tv : TE} {C : Addr}
def tFldC (C : Addr) (ta : TE) (f : Str) : TE := fun σ H Q => ta σ H fun x H1 => ∃ a dx fs v, x = .ref a ∧ H1 a = some (.ins C dx fs) ∧ fs.lookup f = some v ∧ Q v H1
theorem pe_fldC (c : Cls X.K C) (n : NoAttr X.K C f) (he : PE X e ta) (hb : attributeBase e f X.env (eval e X.env) = eval e X.env) : PE X (.Attribute e f pos) (tFldC C ta f) :=
  ⟨fun pins s σ H Q I h => attr_of hb (thn (he.run pins s σ H _ I h) fun u s1 ⟨x, H1, I1, rx, a, dx, fs, v, ex, ea, l, q⟩ => by
    subst ex
    cases (show u = Value.ref a from rx)
    exact getattr_ok I1 ea c n l fun u' s2 I2 ru => ⟨v, H1, I2, ru, q⟩)⟩
def sFldC (C : Addr) (ta tv : TE) (f : Str) : TS := fun D σ H => tv σ H fun y H1 => ta σ H1 fun x H2 => ∃ a dx fs, x = .ref a ∧ H2 a = some (.ins C dx fs) ∧ fs.length < 1000 ∧ D.nx σ (upd H2 a (.ins C dx (putF f y fs)))
theorem ps_fldC (c : Cls X.K C) (n : NoAttr X.K C f) (ha : PE X o ta) (hv : PE X value tv) (hs : swapsWith value (some (.Attribute o f pos')) pos.line X.env = pure false) :
    PS X (.Assign [.Attribute o f pos'] value pos) (sFldC C ta tv f) :=
  ⟨fun pins s σ H D I h => plainObj_wpAny_Assign_Attribute (thn (hv.run pins s σ H _ I h) fun u s1 ⟨y, H1, I1, ry, q⟩ => thn (ha.run pins s1 σ H1 _ I1 q) fun ov s2 ⟨x, H2, I2, rx, a, dx, fs, ex, ea, l, q2⟩ => by
    subst ex
    cases (show ov = Value.ref a from rx)
    exact setattr_ok I2 ea c n l ry fun s3 I3 => ⟨σ, _, I3, q2⟩) hs⟩
end

/-! ### what is known of a value's kind -/
/-- the value is of the built-in type named -/
abbrev Ty (K : PySem.W.Frag) (H : Hp) (v : V) (n : String) : Prop := TyX K H v (.type n)
def tys : List String := ["NoneType", "bool", "int", "str", "list", "tuple", "dict"]
def kinB (a b : String) : Bool := decide (a = b) || (decide (a = "bool") && decide (b = "int"))
theorem kit_some {K : PySem.W.Frag} {a b : String} (ha : a ∈ tys) (hb : b ∈ tys) : PySem.W.kitOne K (.type a) (.type b) = some (kinB a b) := by
  have key : (tys.all fun a => tys.all fun b => decide (kitB a b = some (kinB a b))) = true := by decide +kernel
  have h1 := List.all_eq_true.mp key a ha
  have h2 := List.all_eq_true.mp h1 b hb
  exact kit_ty (of_decide_eq_true h2)
/-- a value of a known type: a built-in one, or an own class that is kin to none of them -/
inductive Kn (K : PySem.W.Frag) (H : Hp) (v : V) : Prop where
  | ty (n : String) (h : Ty K H v n) (m : n ∈ tys)
  | own (C : Addr) (h : TyX K H v (.ref C)) (m : ∀ b, b ∈ tys → PySem.W.kitOne K (.ref C) (.type b) = some false)
def vInt : V → Bool
  | .int _ => true
  | _ => false
def vBl : V → Bool
  | .bl _ => true
  | _ => false
def vStr : V → Bool
  | .str _ => true
  | _ => false
theorem ty_int {K : PySem.W.Frag} {H : Hp} {v : V} {n : String} (h : Ty K H v n) : vInt v = decide (n = "int") ∧ vBl v = decide (n = "bool") ∧ vStr v = decide (n = "str") := by
  cases h with
  | base b => cases b <;> exact ⟨by simp [vInt], by simp [vBl], by simp [vStr]⟩
  | _ => exact ⟨by simp [vInt], by simp [vBl], by simp [vStr]⟩
theorem ty_own {K : PySem.W.Frag} {H : Hp} {v : V} {C : Addr} (h : TyX K H v (.ref C)) : vInt v = false ∧ vBl v = false ∧ vStr v = false := by
  cases h with
  | base b => cases b <;> exact ⟨rfl, rfl, rfl⟩
/-- isinstance with a built-in class, the answer as a function of the value -/
theorem isi_ty {K : PySem.W.Frag} {H : Hp} {v : V} {Q : VK} (h : Kn K H v) {b : String} (hb : b ∈ tys) {r : Bool} (e1 : ∀ n, Ty K H v n → kinB n b = r) (e2 : ∀ C, TyX K H v (.ref C) → false = r) (q : Q (.bl r) H) : rIsi K [v, .ty b] H Q := by
  cases h with
  | ty n h m => exact ⟨v, .ty b, _, _, r, rfl, .ty b, h, by rw [kit_some m hb, e1 n h], q⟩
  | own C h m => exact ⟨v, .ty b, _, _, r, rfl, .ty b, h, by rw [m b hb, e2 C h], q⟩
theorem isi_int {K : PySem.W.Frag} {H : Hp} {v : V} {Q : VK} (h : Kn K H v) (q : Q (.bl (vInt v || vBl v)) H) : rIsi K [v, .ty "int"] H Q :=
  isi_ty h (by decide) (fun n t => by rw [(ty_int t).1, (ty_int t).2.1]; simp [kinB]) (fun C t => by rw [(ty_own t).1, (ty_own t).2.1]; rfl) q
theorem isi_bool {K : PySem.W.Frag} {H : Hp} {v : V} {Q : VK} (h : Kn K H v) (q : Q (.bl (vBl v)) H) : rIsi K [v, .ty "bool"] H Q :=
  isi_ty h (by decide) (fun n t => by rw [(ty_int t).2.1]; simp [kinB]) (fun C t => by rw [(ty_own t).2.1]) q
theorem isi_str {K : PySem.W.Frag} {H : Hp} {v : V} {Q : VK} (h : Kn K H v) (q : Q (.bl (vStr v)) H) : rIsi K [v, .ty "str"] H Q :=
  isi_ty h (by decide) (fun n t => by rw [(ty_int t).2.2]; simp [kinB]) (fun C t => by rw [(ty_own t).2.2]) q
theorem TyX.same {K : PySem.W.Frag} {H H' : Hp} {v : V} {t : Value} (s : Same H H') (h : TyX K H v t) : TyX K H' v t := by
  cases h with
  | base b => cases b with
    | non => exact .base .non
    | bl x => exact .base (.bl x)
    | int i => exact .base (.int i)
    | str x => exact .base (.str x)
    | flt x => exact .base (.flt x)
    | lst e => exact .base (.lst (s _ _ e))
    | frz e => exact .base (.frz (s _ _ e))
    | tup e => exact .base (.tup (s _ _ e))
    | dK e => exact .base (.dK (s _ _ e))
    | dT e => exact .base (.dT (s _ _ e))
    | ins e a b c d f => exact .base (.ins (s _ _ e) a b c d f)
  | byt b => exact .byt b
  | set e => exact .set (s _ _ e)
  | kList e c => exact .kList e c
  | kTuple e c => exact .kTuple e c
  | kDict e c => exact .kDict e c
  | fTuple e => exact .fTuple (s _ _ e)
  | fDict e => exact .fDict (s _ _ e)
theorem Kn.same {K : PySem.W.Frag} {H H' : Hp} {v : V} (s : Same H H') (h : Kn K H v) : Kn K H' v := by
  cases h with
  | ty n h m => exact .ty n (TyX.same s h) m
  | own C h m => exact .own C (TyX.same s h) m
theorem Kn.int {K : PySem.W.Frag} {H : Hp} (i : Int) : Kn K H (.int i) := .ty "int" (.base (.int i)) (by decide)
theorem Kn.str {K : PySem.W.Frag} {H : Hp} (x : Str) : Kn K H (.str x) := .ty "str" (.base (.str x)) (by decide)
theorem Kn.bl {K : PySem.W.Frag} {H : Hp} (b : Bool) : Kn K H (.bl b) := .ty "bool" (.base (.bl b)) (by decide)
theorem Kn.non {K : PySem.W.Frag} {H : Hp} : Kn K H .non := .ty "NoneType" (.base .non) (by decide)
/-- the new object is beside what stood -/
theorem same_new {H : Hp} {p : Addr} {o : HO} (hp : H p = none) : Same H (upd H p o) := fun c u e => by rw [upd_ne (ne_of_none e hp)]; exact e
theorem Same.upd {H H' : Hp} {p : Addr} {o : HO} (s : Same H H') (hp : H p = none) : Same H (upd H' p o) := fun c u e => by rw [upd_ne (ne_of_none e hp)]; exact s _ _ e
/-- is it a list or a tuple: the answer -/
inductive vRow (K : PySem.W.Frag) (H : Hp) (v : V) : Bool → Prop where
  | ty (n : String) (h : Ty K H v n) (m : n ∈ tys) : vRow K H v (decide (n = "list") || decide (n = "tuple"))
  | own (C : Addr) (h : TyX K H v (.ref C)) (m : ∀ b, b ∈ tys → PySem.W.kitOne K (.ref C) (.type b) = some false) : vRow K H v false
theorem Kn.row {K : PySem.W.Frag} {H : Hp} {v : V} (h : Kn K H v) : ∃ b, vRow K H v b := by
  cases h with
  | ty n h m => exact ⟨_, .ty n h m⟩
  | own C h m => exact ⟨_, .own C h m⟩
theorem vRow.list {K : PySem.W.Frag} {H : Hp} {a : Addr} {xs : List V} (h : H a = some (.lst xs)) : vRow K H (.ref a) true := .ty "list" (.base (.lst h)) (by decide)
theorem vRow.tup {K : PySem.W.Frag} {H : Hp} {a : Addr} {xs : List V} (h : H a = some (.tup xs)) : vRow K H (.ref a) true := .ty "tuple" (.base (.tup h)) (by decide)
theorem isi_row {K : PySem.W.Frag} {H : Hp} {v : V} {b : Bool} {Q : VK} {p : Addr} (h : vRow K H v b) (hp : H p = none) (q : Q (.bl b) (upd H p (.tup [.ty "list", .ty "tuple"]))) : rIsiT K [v, .ref p] (upd H p (.tup [.ty "list", .ty "tuple"])) Q := by
  cases h with
  | ty n h m =>
    refine ⟨v, p, [.ty "list", .ty "tuple"], .type n, [.type "list", .type "tuple"], _, rfl, upd_same, .cons (.ty _) (.cons (.ty _) .nil), TyX.same (same_new hp) h, ?_, q⟩
    have e1 : kinB n "list" = decide (n = "list") := by simp [kinB]
    have e2 : kinB n "tuple" = decide (n = "tuple") := by simp [kinB]
    refine kitAny_cons (kit_some m (by decide)) (fun f1 => kitAny_cons (kit_some m (by decide)) (fun f2 => ?_) fun t2 => ?_) fun t1 => ?_
    · rw [e1] at f1; rw [e2] at f2; rw [f1, f2]; rfl
    · rw [e2] at t2; rw [t2]; simp
    · rw [e1] at t1; rw [t1]; rfl
  | own C h m =>
    refine ⟨v, p, [.ty "list", .ty "tuple"], .ref C, [.type "list", .type "tuple"], _, rfl, upd_same, .cons (.ty _) (.cons (.ty _) .nil), TyX.same (same_new hp) h, ?_, q⟩
    exact kitAny_cons (m _ (by decide)) (fun f1 => kitAny_cons (m _ (by decide)) (fun f2 => rfl) fun t2 => by cases t2) fun t1 => by cases t1
theorem ite_b {b : Bool} {A B : Prop} (h1 : b = true → A) (h2 : b = false → B) : if b = true then A else B := by
  cases b with
  | true => exact iteT (h1 rfl)
  | false => exact iteF (h2 rfl)
end LG
end

section
set_option maxHeartbeats 4000000
namespace LG
open PySem PySem.Spec PyProof.Rows L2
/-! ### either of two ways to walk -/
theorem PI_or {X : Cx} {tg e : Expr} {i1 i2 : TI} (h1 : PI X tg e i1) (h2 : PI X tg e i2) : PI X tg e (fun σ H R => i1 σ H R ∨ i2 σ H R) :=
  ⟨fun pins s σ H R I h => h.elim (h1.run pins s σ H R I) (h2.run pins s σ H R I)⟩
/-- a list or a tuple -/
def iRow (K : PySem.W.Frag) (te : TE) : TI := fun σ H R => iList K te σ H R ∨ iTup K te σ H R
theorem pi_row {X : Cx} {tg e : Expr} {te : TE} (he : PE X e te) : PI X tg e (iRow X.K te) := PI_or (pi_list he) (pi_tup he)
/-! ### enumerate(tuple) -/
theorem new_enum_any {v : Value} {o : Obj} {H : Heap → Prop} (B : Begins v o H) :
    Meets (Builtin.«enumerate.__new__» ⟨[.type "enumerate", v], []⟩) (fun _ R s => H s.heap ∧
      R (.ok (.ret (.ref (s.heap.push o).objs.size))) { s with heap := (s.heap.push o).push { cls := .type "enumerate", data := .fields #[.none, .bool false, .ref s.heap.objs.size, rawInt 0, .none, .none] } }) :=
  .of_wp fun prog w A R s h => by
    obtain ⟨hp, g, d, tk, os⟩ := s
    obtain ⟨h1, h⟩ := h
    have hsub := sub_enumerate
    have q1 : ∀ {A' : Around} {E : Value → Shared → Prop} {Q : Value → Shared → Prop}, Q (.ref hp.objs.size) ⟨hp.push o, g, d, tk, os⟩ → wpAny (model prog w) A' (pyIter v) Q E ⟨hp, g, d, tk, os⟩ :=
      fun q => B.iter prog w _ _ ⟨hp, g, d, tk, os⟩ _ h1 q
    wp_walk using q1
    refine wpAny_stack_any fun st => wpAny_pure ?_
    split
    · rename_i c _ _ _ _ _
      cases (c == Value.type "enumerate") <;> (wp_walk using q1; exact ⟨_, rfl, h⟩)
    · wp_walk using q1
      exact ⟨_, rfl, h⟩
section
variable {prog : Program} {w : World} {A : Around} {E : Value → Shared → Prop} {s : Shared}
theorem call_enum_tup {l : Addr} {items : Array Value} {Q : Value → Shared → Prop} (hL : s.heap.IsTuple l items)
    (h : ∀ h', IsEnum h' (s.heap.objs.size + 1) s.heap.objs.size 0 .none → h'.IsTupleIter s.heap.objs.size l 0 → (∀ b o, s.heap.get? b = some o → h'.get? b = some o) → Q (.ref (s.heap.objs.size + 1)) { s with heap := h' }) :
    wpAny (model prog w) A (call (.type "enumerate") [.ref l]) Q E s := by
  have B := begins_tuple l items
  refine callType_new F.called_enumerate (by decide) (F.typeCall_enumerate_1 _) (F.newCall_enumerate_1 _) (fun obj => F.args_object_init_2 obj _) F.entry_enumerate_new (new_enum_any B) ⟨hL, ?_⟩
  generalize ho : ({ cls := .type "tuple_iterator", data := .fields #[.ref l, .int 0 0] } : Obj) = o at B ⊢
  have hz : (s.heap.push o).objs.size = s.heap.objs.size + 1 := Heap.size_push ..
  show _ ∧ _
  rw [hz]
  have he : IsEnum ((s.heap.push o).push { cls := .type "enumerate", data := .fields #[.none, .bool false, .ref s.heap.objs.size, rawInt 0, .none, .none] }) (s.heap.objs.size + 1) s.heap.objs.size 0 .none := by
    have z := Heap.get?_push_size (s.heap.push o) (o := { cls := .type "enumerate", data := .fields #[.none, .bool false, .ref s.heap.objs.size, rawInt 0, .none, .none] }) rfl
    rw [hz] at z
    exact z
  refine ⟨⟨_, he, rfl⟩, h _ he ⟨o, Heap.get?_push_of_some _ (Heap.get?_push_size _ B.free), by rw [← ho], by rw [← ho]; rfl⟩ fun b o x => Heap.get?_push_of_some _ (Heap.get?_push_of_some _ x)⟩
end
def IteT (K : PySem.W.Frag) (a : Addr) : It :=
  ⟨fun i H => ∃ (xs : List V) (x : V), SqT K H a xs ∧ xs[i]? = some x, fun i H v H' => ∃ T x, v = .ref T ∧ H T = none ∧ H' = upd H T (.tup [.int (i : Nat), x]) ∧ ∀ xs, SqT K H a xs → xs[i]? = some x, fun i H => ∃ xs : List V, SqT K H a xs ∧ xs.length = i⟩
theorem turn_enumT {P : Program} {w : World} {K : PySem.W.Frag} {elts : List Expr} {kk : Nat} {tpos : Pos} (a e it : Addr) (hat : a ≠ it) (hae : a ≠ e) :
    Turn P w K (.Tuple elts kk tpos) (IteT K a) [e, it] e (fun i h => (∃ old, IsEnum h e it ((i : Nat) : Int) old) ∧ h.IsTupleIter it a i ∧ e ≠ it) where
  mem := by simp
  obj := fun i h st b hb => by
    obtain ⟨⟨old, he⟩, ⟨o, ho, hc, hd⟩, _⟩ := st
    rcases (by simpa using hb : b = e ∨ b = it) with z | z
    · exact ⟨_, z ▸ he, fun v q => by cases q⟩
    · exact ⟨o, z ▸ ho, fun v q => by rw [hd] at q; cases q⟩
  keep := fun i h h' st k => let ⟨⟨old, he⟩, hi, hne⟩ := st; ⟨⟨old, k e (by simp) _ he⟩, hi.at fun o q => k it (by simp) o q, hne⟩
  item := by
    intro X hP hw hK hc i pins s σ H E I hf st hg
    subst hP hw hK
    obtain ⟨⟨old, he⟩, hit, hne⟩ := st
    obtain ⟨xs, x, hq, hx⟩ := hg
    obtain ⟨its, rv, p, hz⟩ := I.tuple hq
    obtain ⟨u, hu, ru⟩ := rv.get hx
    have hel : e < s.heap.objs.size := Heap.lt_size he
    have hil : it < s.heap.objs.size := by obtain ⟨_, q, _⟩ := hit; exact Heap.lt_size q
    have hii : i < its.toArray.size := by
      have := (List.getElem?_eq_some_iff.mp hu).1
      simpa using this
    refine wpAny_pyNext_enum_itemD (Draws.tuple (prog := X.prog) (w := X.w) (A := X.A.in1) (show X.A.in1.handled = none from I.ok.hd hc) it a hat its.toArray) he ⟨hit, p⟩ hii hne (by simp [hne, Ne.symm hae]) fun y h' tk hP ho hst hT hsz hk => ?_
    obtain rfl : y = u := by
      have hP' : its.toArray[i]? = some y := hP
      rw [show its.toArray[i]? = its[i]? by simp, hu] at hP'
      exact (Option.some.inj hP').symm
    refine ⟨_, rfl, wpAny_letOwnedTupleGo_enum (s := { s with heap := h', toks := tk + 1 }) ho fun h'' he' sb => ?_⟩
    have hT2 : h''.get? s.heap.objs.size = some { cls := .type "tuple", data := .seq #[.int i tk, y] } := (sb.2 _ (Nat.ne_of_gt hel)).trans hT
    have new : ObjOk X.prog X.w (upd H s.heap.objs.size (.tup [.int (i : Nat), x])) h'' s.heap.objs.size (.tup [.int (i : Nat), x]) :=
      ⟨by show 2 ≤ sizeLine; decide, [.int i tk, y], .cons ⟨_, rfl⟩ (.cons ru .nil), ⟨_, hT2, rfl, _, rfl⟩⟩
    have I1 : Inv X pins σ (upd H s.heap.objs.size (.tup [.int (i : Nat), x])) { s with heap := h'', toks := tk + 1 } :=
      I.turnedNew (ch := [e, it]) (fun b ob hb q => (sb.2 b (fun z => hb (by simp [z]))).trans (hk b ob (fun z => hb (by simp [z])) (fun z => hb (by simp [z])) q)) hf (Nat.le_refl _) new
    refine ⟨.ref s.heap.objs.size, _, I1, rfl, ⟨_, x, rfl, I.hok.fresh (Nat.le_refl _), rfl, fun ys hy => by rw [I.tuple_inj hy hq]; exact hx⟩, ⟨⟨y, ?_⟩, hst.1.at fun o q => (sb.2 it (Ne.symm hne)).trans q, hne⟩, fun b hb => ?_⟩
    · have e1 : ((i + 1 : Nat) : Int) = (i : Int) + 1 := by omega
      rw [e1]; exact he'
    · have hb' : b < s.heap.objs.size := by
        rcases (by simpa using hb : b = e ∨ b = it) with z | z
        · exact z ▸ hel
        · exact z ▸ hil
      rw [upd_ne (Nat.ne_of_lt hb')]
      exact (hf b hb).1
  done := by
    intro X hP hw hK hc i pins s σ H E I hf st hg
    subst hP hw hK
    obtain ⟨⟨old, he⟩, hit, hne⟩ := st
    obtain ⟨xs, hq, hx⟩ := hg
    obtain ⟨its, rv, p, hz⟩ := I.tuple hq
    obtain ⟨f0, f1, f2, f3, f4, f5⟩ := hf it (by simp)
    have hl := rv.length
    have en : its.toArray.size = i := by simp [← hl, hx]
    refine wpAny_pyNext_enum_endD (Draws.tuple (prog := X.prog) (w := X.w) (A := X.A.in1) (show X.A.in1.handled = none from I.ok.hd hc) it a hat its.toArray) he ⟨en ▸ hit, p⟩ fun h' eb => ⟨rfl, I.turned (t' := s.toks) (fun b o hb q => eb b o hb q) f0 f1 f3 f4 f5⟩
  self := fun A i s Q E st h => let ⟨⟨_, he⟩, _⟩ := st; wpAny_pyIter_enum he h
def iEnumT (K : PySem.W.Frag) (ta : TA) : TI := fun σ H R => ta σ H fun vs H1 => ∃ a xs, vs = [.ref a] ∧ SqT K H1 a xs ∧ R (IteT K a) H1
theorem pi_enumT {X : Cx} {e : Expr} {ta : TA} {p pos tpos : Pos} {elts : List Expr} {kk : Nat} (hg : Gl X "enumerate") (hm : X.mg "enumerate" = none) (ha : PA X [e] ta) (hs : starEach [e] X.env = [(false, eval e X.env)] := by rfl) :
    PI X (.Tuple elts kk tpos) (.Call (.Name "enumerate" p) [e] [] pos) (iEnumT X.K ta) := by
  refine ⟨fun pins s σ H R I h => Call_ (ld_blt I hg hm boot_enumerate (PyProof.Rows.callWith_type1 (thn (ha.run pos pins s σ H _ I h) fun us s1 ⟨vs, H1, I1, r1, q1⟩ => ?_) hs rfl))⟩
  obtain ⟨a, xs, ex, hq, q⟩ := q1
  subst ex
  cases r1 with
  | cons r rr =>
    cases rr
    cases r
    obtain ⟨its, rv, p', hz⟩ := I1.tuple hq
    have hlt : a < s1.heap.objs.size := by obtain ⟨o, ho, _⟩ := p'; exact Heap.lt_size ho
    refine call_enum_tup p' fun h' he hit hk => wpAny_pyIter_enum he ?_
    have I2 : Inv X pins σ H1 { s1 with heap := h' } := I1.kept (t' := s1.toks) hk
    refine ⟨s1.heap.objs.size + 1, [s1.heap.objs.size + 1, s1.heap.objs.size], _, _, H1, rfl, I2, turn_enumT a (s1.heap.objs.size + 1) s1.heap.objs.size (Nat.ne_of_lt hlt) (Nat.ne_of_lt (Nat.lt_succ_of_lt hlt)), ⟨⟨.none, he⟩, hit, Nat.succ_ne_self _⟩, fun b hb => ?_, q⟩
    have hle : s1.heap.objs.size ≤ b := by
      rcases (by simpa using hb : b = s1.heap.objs.size + 1 ∨ b = s1.heap.objs.size) with z | z
      · exact z ▸ Nat.le_add_right _ _
      · exact z ▸ Nat.le_refl _
    exact I1.fpOk hle (I1.hok.fresh hle)
/-- enumerate of a list or a tuple -/
def iEnumS (K : PySem.W.Frag) (ta : TA) : TI := fun σ H R => iEnum K ta σ H R ∨ iEnumT K ta σ H R
theorem pi_enumS {X : Cx} {e : Expr} {ta : TA} {p pos tpos : Pos} {elts : List Expr} {kk : Nat} (hg : Gl X "enumerate") (hm : X.mg "enumerate" = none) (ha : PA X [e] ta) (hs : starEach [e] X.env = [(false, eval e X.env)] := by rfl) :
    PI X (.Tuple elts kk tpos) (.Call (.Name "enumerate" p) [e] [] pos) (iEnumS X.K ta) := PI_or (pi_enum hg hm ha hs) (pi_enumT hg hm ha hs)
theorem walk_enumT {K : PySem.W.Frag} {a : Addr} {xs : List V} : Walk (IteT K a) xs.length (fun H => SqT K H a xs) (YPair (fun i => some (.int (i : Nat))) (fun i => xs[i]?)) := by
  refine ⟨fun i _ hi q => ⟨xs, xs[i], q, by simp [hi]⟩, fun _ q => ⟨xs, q, rfl⟩, fun i H v H' _ q y => ?_⟩
  obtain ⟨T, x, h1, h2, h3, h4⟩ := y
  exact ⟨T, .int (i : Nat), x, h1, h2, h3, rfl, h4 xs q⟩
end LG
end

section
set_option maxHeartbeats 4000000
namespace LG
open PySem PySem.Spec PyProof.Rows L2
/-! ### sets whose elements stand in the heap -/
/-- what a set asks of its elements: each of kind κ, at an address -/
structure ElK (P : Program) (w : World) (κ : Type) [DecidableEq κ] where
  is : Heap → κ → Addr → Prop
  hash : κ → Int
  eqB : ∀ {A : Around} {E : Value → Shared → Prop} {s : Shared} {x y : κ} {a b : Addr} {Q : Bool → Shared → Prop}, A.units < cLine → is s.heap x a → is s.heap y b → Q (decide (x = y)) s → wpAny (model P w) A (eqBool (.ref a) (.ref b)) Q E s
  seen : ∀ {A : Around} {E : Value → Shared → Prop} {s : Shared} {x : κ} {a : Addr} {ys : List Value} {Q : Bool → Shared → Prop}, is s.heap x a → (∀ y ∈ ys, ∃ k c, y = Value.ref c ∧ is s.heap k c) → Q false s →
    wpAny (model P w) A (searchCouldBeSeen (.ref a) ys) Q E s
  byV : ∀ {A : Around} {E : Value → Shared → Prop} {s : Shared} {x : κ} {a : Addr} {Q : Bool → Shared → Prop}, is s.heap x a → (∀ b, Q b s) → wpAny (model P w) A (hashByValue 8 (.ref a)) Q E s
  pyH : ∀ {A : Around} {E : Value → Shared → Prop} {s : Shared} {x : κ} {a : Addr} {Q : Int → Shared → Prop}, A.units < cLine → is s.heap x a → (∀ tk, Q (hash x) { s with toks := tk }) → wpAny (model P w) A (PySem.pyHash (.ref a)) Q E s
  keep : ∀ {h h' : Heap} {x : κ} {a : Addr}, is h x a → (∀ o its n, h.get? a = some o → o.data = .seq its n → h'.get? a = some o) → is h' x a
  obj : ∀ {h : Heap} {x : κ} {a : Addr}, is h x a → ∃ o its n, h.get? a = some o ∧ o.data = .seq its n
section
variable {P : Program} {w : World} {κ : Type} [DecidableEq κ] (S : ElK P w κ)
/-- the entries of a set that holds the elements L -/
def entsOf (L : List (Addr × κ)) : List (Int × Value) := L.map fun p => (S.hash p.2, Value.ref p.1)
abbrev hsOf (L : List (Addr × κ)) : List Int := L.map fun p => S.hash p.2
/-- a set object at a: its elements L, its entries es, its table t -/
structure SetE (h : Heap) (a : Addr) (L : List (Addr × κ)) (es : Array (Int × Value)) (ep : Nat) (t : SetTable) : Prop where
  ob : ∃ o, h.get? a = some o ∧ o.ExactSet ∧ o.data = .set es ep t
  rows : es.toList = entsOf S L
  tab : TabOk t (hsOf S L)
  nd : (L.map (·.2)).Nodup
  els : ∀ p ∈ L, S.is h p.2 p.1
  led : w.params.followText "set-order" = true ∨ t.led = true
  room : L.length * 5 < t.mask * 3
  few : L.length < 64
variable {S}
theorem ElK.but {h h' : Heap} {x : κ} {b a : Addr} {o : Obj} {es : Array (Int × Value)} {ep : Nat} {t : SetTable} (hb : S.is h x b) (ho : h.get? a = some o) (hd : o.data = .set es ep t) (hs : Heap.SameBut a h h') : S.is h' x b := by
  refine S.keep hb fun o2 its n e q => (hs.2 b ?_).trans e
  rintro rfl
  rw [ho] at e
  cases e
  rw [hd] at q
  cases q
section
variable {A : Around} {E : Value → Shared → Prop} {s : Shared} {a : Addr} {L : List (Addr × κ)} {es : Array (Int × Value)} {ep : Nat} {t : SetTable}
theorem ents_len (L : List (Addr × κ)) : (entsOf S L).length = L.length := List.length_map _
theorem SetE.size {h : Heap} (R : SetE S h a L es ep t) : es.size = L.length := by
  rw [← ents_len (S := S), ← R.rows, Array.length_toList]
theorem SetE.fits {h : Heap} (R : SetE S h a L es ep t) : t.fits es.size = true := by
  have h1 : t.place.size = L.length := by have z := R.tab.sz; simpa [hsOf] using z
  have h2 := R.size
  have h3 := R.room
  simp only [SetTable.fits, SetTable.fill, R.tab.dm, Bool.and_eq_true, beq_iff_eq, decide_eq_true_eq]
  exact ⟨by omega, by first | omega | (simp; omega)⟩
theorem SetE.entry {h : Heap} (R : SetE S h a L es ep t) {i : Nat} {p : Addr × κ} (e : L[i]? = some p) : es[i]? = some (S.hash p.2, Value.ref p.1) := by
  rw [← Array.getElem?_toList, R.rows, entsOf, List.getElem?_map, e]
  rfl
theorem SetE.even {h : Heap} (R : SetE S h a L es ep t) : ¬ t.gaveWay = true := by
  simp only [SetTable.gaveWay, mask_odd R.tab.mok]
  decide
theorem nth_nodummy (m : Nat) : ∀ (n : Nat) (p : SetTable.Probe), p.dummy = none → (nth m p n).dummy = none
  | 0, _, h => h
  | n + 1, p, h => nth_nodummy m n (adv m p) (by unfold adv; split <;> exact h)
/-- the c-th stand of the way of the hash v -/
abbrev stand (m : Nat) (v : Int) (c : Nat) : SetTable.Probe := nth m (runAt m (SetTable.bits v % (m + 1)) (SetTable.bits v)) c
theorem stand_add (m : Nat) (v : Int) (c q : Nat) : nth m (stand m v c) q = stand m v (c + q) := (nth_add m c _ q).symm

/-- the search, begun at the c-th stand, K the first empty place on the way -/
theorem look_from (R : SetE S s.heap a L es ep t) {x : Addr} {k : κ} (hx : S.is s.heap k x) (hu : A.units < cLine) {K : Nat} (hKf : K < 10 * SetTable.turns t.mask)
    (hK : way t.mask (S.hash k) K ∉ t.place.toList) (hKb : ∀ c, c < K → way t.mask (S.hash k) c ∈ t.place.toList) {Q : SetFound → Shared → Prop}
    {ad : Bool} (yes : k ∈ L.map (·.2) → ∀ r : Option Nat, (ad = false → r.isSome = true) → Q (.there r) s) (no : k ∉ L.map (·.2) → Q (.free (way t.mask (S.hash k) K) false) s) :
    ∀ (f c : Nat) (st : Option SetTable.Probe), st.getD (t.probeStart (S.hash k)) = stand t.mask (S.hash k) c → c ≤ K → K - c < f →
      (∀ (i : Nat) p, L[i]? = some p → p.2 = k → ∃ c', c ≤ c' ∧ c' < K ∧ t.place.toList[i]? = some (way t.mask (S.hash k) c')) →
      wpAny (model P w) A (setSearchFrom a (.ref x) (S.hash k) ad f st) Q E s := by
  intro f
  induction f with
  | zero => intro c st _ _ hf; exact absurd hf (Nat.not_lt_zero _)
  | succ f ih =>
    intro c st hst hc hf hre
    obtain ⟨o, ho, hex, hd⟩ := R.ob
    rw [setSearchFrom_succ]
    refine wpAny_bind (wpAny_setState_of ho hd R.fits ?_)
    dsimp only
    refine wp_if_neg R.even ?_
    try refine wpAny_bind (wpAny_pure ?_)
    have hw : ∀ q, (nth t.mask (stand t.mask (S.hash k) c) q).j = way t.mask (S.hash k) (c + q) := fun q => congrArg SetTable.Probe.j (stand_add t.mask (S.hash k) c q)
    have hat : ∀ (i : Nat) p, L[i]? = some p → (es[i]?.map (·.1)).getD 0 = S.hash p.2 := fun i p hp => by rw [R.entry hp]; rfl
    have sp := go_spec t R.tab.ris R.tab.dm (fun i => (es[i]?.map (·.1)).getD 0) (S.hash k) (10 * SetTable.turns t.mask) (K - c) (stand t.mask (S.hash k) c) (nth_nodummy _ c _ rfl) (by omega)
      (fun q hq => by rw [hw]; exact hKb (c + q) (by omega)) (by rw [hw, Nat.add_sub_cancel' hc]; exact hK)
    rcases sp with ⟨q, i, hq, hi, hh, hno, hpr⟩ | ⟨hno, hpr⟩
    · have hpr2 : t.probe (fun i => (es[i]?.map (·.1)).getD 0) (S.hash k) (st.getD (t.probeStart (S.hash k))) = some (.candidate (way t.mask (S.hash k) (c + q)) i (stand t.mask (S.hash k) (c + (q + 1)))) := by
        rw [hst, ← hw, ← stand_add]
        exact hpr
      rw [hpr2]
      dsimp only
      rw [hw] at hi
      have hil : i < L.length := by
        have h1 := (List.getElem?_eq_some_iff.mp hi).1
        have h2 : t.place.size = L.length := by have z := R.tab.sz; simpa [hsOf] using z
        rw [Array.length_toList] at h1
        omega
      obtain ⟨p, hp⟩ : ∃ p, L[i]? = some p := ⟨L[i], List.getElem?_eq_getElem hil⟩
      have hpm : p ∈ L := List.mem_of_getElem? hp
      have onward : wpAny (model P w) A (searchRest a (.ref x) (S.hash k) ad f es t (way t.mask (S.hash k) (c + q)) i (stand t.mask (S.hash k) (c + (q + 1)))) Q E s := by
        unfold searchRest
        rw [R.entry hp]
        dsimp only
        refine wpAny_bind (wpAny_holding (S.eqB hu (R.els p hpm) hx ?_))
        refine wpAny_bind (wpAny_setState_of ho hd R.fits ?_)
        dsimp only
        by_cases hkk : p.2 = k
        · have hin : k ∈ L.map (·.2) := List.mem_map.mpr ⟨p, hpm, hkk⟩
          cases ad with
          | true => exact wp_if_pos (by simp [hkk]) (wpAny_pure (yes hin none (fun z => by cases z)))
          | false =>
            refine wp_if_neg (by simp) ?_
            try refine wpAny_bind (wpAny_pure ?_)
            rw [sameMem]
            dsimp only
            have hsl : t.slot (way t.mask (S.hash k) (c + q)) = .live i := slot_live R.tab.ris hi
            simp only [if_true, hsl, R.entry hp]
            refine wpAny_bind (wpAny_isSame_ref_self (wpAny_bind (wpAny_pure ?_)))
            simp only [if_true]
            exact wp_if_pos (by simp [hkk]) (wpAny_pure (yes hin (some i) (fun _ => rfl)))
        · refine wp_if_neg (by simp [hkk]) ?_
          try refine wpAny_bind (wpAny_pure ?_)
          rw [sameMem]
          dsimp only
          have hsl : t.slot (way t.mask (S.hash k) (c + q)) = .live i := slot_live R.tab.ris hi
          simp only [if_true, hsl, R.entry hp]
          refine wpAny_bind (wpAny_isSame_ref_self (wpAny_bind (wpAny_pure ?_)))
          simp only [if_true]
          refine wp_if_neg (by simp [hkk]) (ih (c + (q + 1)) _ rfl (by omega) (by omega) fun i0 p0 h0 hk0 => ?_)
          obtain ⟨c', a1, a2, a3⟩ := hre i0 p0 h0 hk0
          refine ⟨c', ?_, a2, a3⟩
          have ne : c' ≠ c + q := fun z => by
            subst z
            have s0 := slot_live R.tab.ris a3
            rw [hsl] at s0
            injection s0 with s0
            rw [← s0, hp] at h0
            cases h0
            exact hkk hk0
          have nlt : ¬ c' < c + q := fun z =>
            hno (c' - c) i0 (by omega) (by rw [hw, Nat.add_sub_cancel' a1]; exact a3) ((hat i0 p0 h0).trans (congrArg S.hash hk0))
          omega
      by_cases hl : t.led = true
      · refine wp_if_neg (by simp [hl]) ?_
        try refine wpAny_bind (wpAny_pure ?_)
        exact onward
      · refine wp_if_pos (by simp [hl]) (wpAny_bind (S.seen hx (fun y hy => ?_) ?_))
        · obtain ⟨e, he, rfl⟩ := List.mem_map.mp hy
          have he2 : e ∈ es.toList := by
            have z : e ∈ es ∧ e.1 = S.hash k := by simpa using he
            simpa using z.1
          rw [R.rows] at he2
          obtain ⟨p2, hp2, rfl⟩ := List.mem_map.mp he2
          exact ⟨p2.2, p2.1, rfl, R.els p2 hp2⟩
        · refine wp_if_neg (by decide) ?_
          try refine wpAny_bind (wpAny_pure ?_)
          exact onward
    · have hpr2 : t.probe (fun i => (es[i]?.map (·.1)).getD 0) (S.hash k) (st.getD (t.probeStart (S.hash k))) = some (.empty (way t.mask (S.hash k) K) none) := by
        have e2 : way t.mask (S.hash k) K = (nth t.mask (stand t.mask (S.hash k) c) (K - c)).j := by rw [hw, Nat.add_sub_cancel' hc]
        rw [hst, e2]
        exact hpr
      rw [hpr2]
      dsimp only
      refine wpAny_pure (no fun hm => ?_)
      obtain ⟨p0, h0, hk0⟩ := List.mem_map.mp hm
      obtain ⟨i0, hi0, e0⟩ := List.getElem_of_mem h0
      have h00 : L[i0]? = some p0 := by rw [List.getElem?_eq_getElem hi0, e0]
      obtain ⟨c', a1, a2, a3⟩ := hre i0 p0 h00 hk0
      exact hno (c' - c) i0 (by omega) (by rw [hw, Nat.add_sub_cancel' a1]; exact a3) ((hat i0 p0 h00).trans (congrArg S.hash hk0))
/-- the search for an element, as add and in ask it -/
theorem look_for (R : SetE S s.heap a L es ep t) {x : Addr} {k : κ} (hx : S.is s.heap k x) (hu : A.units < cLine) {Q : SetFound → Shared → Prop} {ad : Bool} (yes : k ∈ L.map (·.2) → ∀ r : Option Nat, (ad = false → r.isSome = true) → Q (.there r) s)
    (no : ∀ K, k ∉ L.map (·.2) → way t.mask (S.hash k) K ∉ t.place.toList → (∀ c, c < K → way t.mask (S.hash k) c ∈ t.place.toList) → Q (.free (way t.mask (S.hash k) K) false) s) :
    wpAny (model P w) A (setSearch a (.ref x) (S.hash k) ad) Q E s := by
  have hroom := R.room
  obtain ⟨K, hKf, hK, hKb⟩ := R.tab.first (by simp only [List.length_map]; omega) (S.hash k)
  have hbig : K < 100000 := by
    have : 10 * SetTable.turns t.mask ≤ 1420 := by
      unfold SetTable.turns
      rcases R.tab.mok with e | e | e <;> omega
    omega
  unfold setSearch
  refine look_from R hx hu hKf hK hKb yes (fun hn => no K hn hK hKb) 100000 0 none rfl (Nat.zero_le _) (by omega) fun i p hp hk => ?_
  have hi : (hsOf S L)[i]? = some (S.hash k) := by rw [List.getElem?_map, hp, ← hk]; rfl
  have hil : i < t.place.toList.length := by
    have h1 := (List.getElem?_eq_some_iff.mp hp).1
    have h2 : t.place.size = L.length := by have z := R.tab.sz; simpa [hsOf] using z
    rw [Array.length_toList]
    omega
  obtain ⟨c, hc, e⟩ := R.tab.before hK hi (List.getElem?_eq_getElem hil)
  exact ⟨c, Nat.zero_le _, hc, by rw [List.getElem?_eq_getElem hil, e]⟩

/-- a set's memory, laid in a new order: the elements are the same -/
theorem ents_order (L : List (Addr × κ)) (es : Array (Int × Value)) (order : Array Nat) (hr : es.toList = entsOf S L) (hp : order.toList.Perm (List.range L.length)) :
    ∃ L2, (order.filterMap (es[·]?)).toList = entsOf S L2 ∧ L2.Perm L ∧ hsOf S L2 = order.toList.map fun i => (es.map (·.1)).getD i 0 := by
  have at_ : ∀ i (h : i < L.length), es[i]? = some (S.hash (L[i]).2, Value.ref (L[i]).1) := fun i h => by
    rw [← Array.getElem?_toList, hr, entsOf, List.getElem?_map, List.getElem?_eq_getElem h]; rfl
  have sz : es.size = L.length := by rw [← ents_len (S := S), ← hr, Array.length_toList]
  have pick : ∀ l : List Nat, (∀ i ∈ l, i < L.length) → l.filterMap (fun i => es[i]?) = entsOf S (l.filterMap fun i => L[i]?) ∧ hsOf S (l.filterMap fun i => L[i]?) = l.map fun i => (es.map (·.1)).getD i 0 := by
    intro l
    induction l with
    | nil => exact fun _ => ⟨rfl, rfl⟩
    | cons i l ih =>
      intro hl
      have hi : i < L.length := hl i List.mem_cons_self
      obtain ⟨e1, e2⟩ := ih fun j hj => hl j (List.mem_cons_of_mem _ hj)
      have e3 : (es.map (·.1)).getD i 0 = S.hash (L[i]).2 := by
        have z : (es.map (·.1))[i]? = some (S.hash (L[i]).2) := by rw [Array.getElem?_map, at_ i hi]; rfl
        simp [Array.getD_eq_getD_getElem?, z]
      rw [List.filterMap_cons_some (at_ i hi), List.filterMap_cons_some (List.getElem?_eq_getElem hi), e1, List.map_cons, e3]
      exact ⟨rfl, by rw [hsOf, List.map_cons]; exact congrArg _ e2⟩
  have all : (List.range L.length).filterMap (fun i => L[i]?) = L := by
    have part : ∀ n, n ≤ L.length → (List.range n).filterMap (fun i => L[i]?) = L.take n := by
      intro n
      induction n with
      | zero => exact fun _ => by simp
      | succ n ih =>
        intro hn
        rw [List.range_succ, List.filterMap_append, ih (by omega), take_next (List.getElem?_eq_getElem (show n < L.length from hn)), List.filterMap_cons_some (List.getElem?_eq_getElem (show n < L.length from hn))]
        rfl
    rw [part _ (Nat.le_refl _), List.take_length]
  obtain ⟨e1, e2⟩ := pick order.toList fun i hi => List.mem_range.mp (hp.mem_iff.mp hi)
  refine ⟨order.toList.filterMap fun i => L[i]?, by rw [Array.toList_filterMap]; exact e1, ?_, e2⟩
  have z := hp.filterMap (fun i => L[i]?)
  rwa [all] at z
/-- the table laid anew -/
theorem SetE.laid {o : Obj} (ho : s.heap.get? a = some o) (hex : o.ExactSet) (hd : o.data = .set es ep t) (hr : es.toList = entsOf S L) (hT : TabOk t (hsOf S L)) (hroom : L.length ≤ t.mask)
    (nd : (L.map (·.2)).Nodup) (els : ∀ p ∈ L, S.is s.heap p.2 p.1) (ld : w.params.followText "set-order" = true ∨ t.led = true) (few : L.length < 64) {want M : Nat}
    (hw : SetTable.sizeAbove want - 1 = M) (hM : MaskOk M) (hw2 : SetTable.sizeAbove want ≤ 128) (hn : L.length * 5 < M * 3) {Q : Unit → Shared → Prop}
    (q : ∀ h' L' es' ep' t', Heap.SameBut a s.heap h' → SetE S h' a L' es' ep' t' → L'.Perm L → Q () { s with heap := h' }) : wpAny (model P w) A (setRelay a want) Q E s := by
  have sz : es.size = L.length := by rw [← ents_len (S := S), ← hr, Array.length_toList]
  have psz : t.place.size = L.length := by have z := hT.sz; simpa [hsOf] using z
  have fits : t.fits es.size = true := by
    simp only [SetTable.fits, SetTable.fill, hT.dm, Bool.and_eq_true, beq_iff_eq, decide_eq_true_eq]
    exact ⟨by omega, by first | omega | (simp; omega)⟩
  obtain ⟨t', order, e, hp, T, em, el, ep', ed⟩ := relaid_ok t (hs := es.map (·.1)) (wanted := want) hw hM (by rw [Array.size_map, sz]; omega)
  rw [Array.size_map, sz] at hp
  obtain ⟨L2, r1, r2, r3⟩ := ents_order L es order hr hp
  rw [← r3] at T
  have sz2 : (order.filterMap (es[·]?)).size = es.size := by rw [← Array.length_toList, r1, ents_len, r2.length_eq, sz]
  rw [setRelay_eq]
  refine wpAny_bind (wpAny_setState_of ho hd fits ?_)
  dsimp only
  refine wp_if_neg (by rw [sizeLine_eq]; omega) ?_
  try refine wpAny_bind (wpAny_pure ?_)
  rw [e]
  dsimp only
  refine wpAny_bind (wp_if_neg (by rw [sz2]; simp) ?_)
  try refine wpAny_bind (wpAny_pure ?_)
  refine wpAny_pure ?_
  dsimp only
  refine wpAny_storeSet_of ho hd ?_ (by rw [sz2, sz, sizeLine_eq]; omega)
  have sb : Heap.SameBut a s.heap (s.heap.update a (Obj.putSet (order.filterMap (es[·]?)) t')) := Heap.SameBut.update ..
  exact q _ L2 (order.filterMap (es[·]?)) (ep + 1) t' sb ⟨⟨_, store_at ho hd, ⟨hex.1, hex.2.1, hex.2.2⟩, rfl⟩, r1, T, (r2.map (·.2)).nodup_iff.mpr nd, fun p hm => ElK.but (els p (r2.mem_iff.mp hm)) ho hd sb, by rw [el]; exact ld, by rw [r2.length_eq, em]; exact hn, by rw [r2.length_eq]; exact few⟩ r2
/-- add -/
theorem SetE.add (R : SetE S s.heap a L es ep t) {x : Addr} {k : κ} (hx : S.is s.heap k x) (hu : A.units < cLine) (few : L.length + 1 < 64) {Q : Bool → Shared → Prop}
    (old : k ∈ L.map (·.2) → Q false s) (new : k ∉ L.map (·.2) → ∀ h' L' es' ep' t', Heap.SameBut a s.heap h' → SetE S h' a L' es' ep' t' → L'.Perm ((x, k) :: L) → Q true { s with heap := h' }) :
    wpAny (model P w) A (setAddHashed a (.ref x) (S.hash k)) Q E s := by
  obtain ⟨o, ho, hex, hd⟩ := R.ob
  have sz := R.size
  have hroom := R.room
  unfold setAddHashed
  refine wpAny_holding ?_
  rw [show (100000 : Nat) = 99999 + 1 from rfl, setAddHashedIn_succ]
  refine wpAny_bind (wpAny_setState_of ho hd R.fits ?_)
  dsimp only
  refine wp_if_neg (by simp [byScan, Value.scannable]) ?_
  try refine wpAny_bind (wpAny_pure ?_)
  refine wpAny_bind (look_for R hx hu (fun hm r _ => ?_) fun c hm hc hb => ?_)
  · exact wpAny_pure (old hm)
  dsimp only
  refine wpAny_bind (wpAny_setState_of ho hd R.fits ?_)
  dsimp only
  obtain ⟨q1, q2, q3, q4, q5, q6, q7, q8, q9⟩ := R.tab.put hc hb
  generalize e0 : t.put (way t.mask (S.hash k) c) = pt at q1 q3 q4 q5 q6 q7 q8 q9 ⊢
  obtain ⟨t1, p⟩ := pt
  dsimp only at q1 q3 q4 q5 q6 q7 q8 q9 ⊢
  subst q1
  have go0 : ∀ t2 : SetTable, t2 = t1 ∨ t2 = { t1 with plain := false } → wpAny (model P w) A (do
      storeSet a (SetTable.insertAt es (SetTable.below t.place (way t.mask (S.hash k) c)) (S.hash k, Value.ref x)) t2
      if (!false && t2.tooFull) = true then setRelay a (SetTable.grown (es.size + 1))
      return true) Q E s := ?go0
  · have fin : ∀ b : Bool, wpAny (model P w) A (do
      storeSet a (SetTable.insertAt es (SetTable.below t.place (way t.mask (S.hash k) c)) (S.hash k, Value.ref x)) (if b = true then t1 else { t1 with plain := false })
      if (!false && (if b = true then t1 else { t1 with plain := false }).tooFull) = true then setRelay a (SetTable.grown (es.size + 1))
      return true) Q E s := fun b => go0 _ (by cases b; exact .inr rfl; exact .inl rfl)
    by_cases pl : t1.plain = true
    · first
        | (refine wpAny_bind ?_; refine wp_if_pos pl ?_; exact S.byV hx fin)
        | exact wp_if_pos pl (wpAny_bind (S.byV hx fin))
    · first
        | (refine wpAny_bind ?_; refine wp_if_neg pl ?_; exact wpAny_pure (fin true))
        | exact wp_if_neg pl (fin true)
  intro t2 ht2
  have q3' : TabOk t2 ((hsOf S L).take (SetTable.below t.place (way t.mask (S.hash k) c)) ++ S.hash k :: (hsOf S L).drop (SetTable.below t.place (way t.mask (S.hash k) c))) := by
    rcases ht2 with rfl | rfl
    · exact q3
    · exact ⟨q3.ris, q3.dm, q3.sz, q3.mok, q3.bd, q3.reach⟩
  have q4' : t2.mask = t.mask := by rcases ht2 with rfl | rfl <;> exact q4
  have q5' : t2.led = t.led := by rcases ht2 with rfl | rfl <;> exact q5
  have q9' : t2.fill = (hsOf S L).length + 1 := by rcases ht2 with rfl | rfl <;> exact q9
  clear q3 q4 q5 q6 q7 q8 q9 e0 ht2
  have rows : (SetTable.insertAt es (SetTable.below t.place (way t.mask (S.hash k) c)) (S.hash k, Value.ref x)).toList = entsOf S (L.take (SetTable.below t.place (way t.mask (S.hash k) c)) ++ (x, k) :: L.drop (SetTable.below t.place (way t.mask (S.hash k) c))) := by
    rw [SetTable.toList_insertAt, R.rows]
    simp only [entsOf, List.map_append, List.map_cons, List.map_take, List.map_drop]
  generalize SetTable.below t.place (way t.mask (S.hash k) c) = p at q2 q3' rows ⊢
  have pm := put_perm L p (x, k)
  have len1 : (L.take p ++ (x, k) :: L.drop p).length = L.length + 1 := pm.length_eq
  have hs1 : hsOf S (L.take p ++ (x, k) :: L.drop p) = (hsOf S L).take p ++ S.hash k :: (hsOf S L).drop p := by simp only [hsOf, List.map_append, List.map_cons, List.map_take, List.map_drop]
  rw [← hs1] at q3'
  have nd1 : ((L.take p ++ (x, k) :: L.drop p).map (·.2)).Nodup := (pm.map (·.2)).nodup_iff.mpr (List.nodup_cons.mpr ⟨hm, R.nd⟩)
  have esz : (SetTable.insertAt es p (S.hash k, Value.ref x)).size = L.length + 1 := by rw [← Array.length_toList, rows, ents_len, len1]
  generalize SetTable.insertAt es p (S.hash k, Value.ref x) = es1 at rows esz ⊢
  generalize L.take p ++ (x, k) :: L.drop p = L1 at pm len1 q3' nd1 rows
  refine wpAny_bind (wpAny_storeSet_of ho hd ?_ (by rw [esz, sizeLine_eq]; omega))
  have sb : Heap.SameBut a s.heap (s.heap.update a (Obj.putSet es1 t2)) := Heap.SameBut.update ..
  have ho1 := store_at (es' := es1) (t' := t2) ho hd
  generalize s.heap.update a (Obj.putSet es1 t2) = h1 at sb ho1 ⊢
  have els1 : ∀ p ∈ L1, S.is h1 p.2 p.1 := fun p hp => by
    rcases List.mem_cons.mp (pm.mem_iff.mp hp) with e | hp
    · rw [e]; exact ElK.but hx ho hd sb
    · exact ElK.but (R.els p hp) ho hd sb
  have ld1 : w.params.followText "set-order" = true ∨ t2.led = true := by rw [q5']; exact R.led
  have full : t2.tooFull = decide ((L.length + 1) * 5 ≥ t2.mask * 3) := by
    have z : (hsOf S L).length = L.length := List.length_map _
    unfold SetTable.tooFull
    rw [q9', z]
  by_cases hf : t2.tooFull = true
  · first
      | (refine wpAny_bind ?_; refine wp_if_pos (by simp [hf]) ?_)
      | (refine wp_if_pos (by simp [hf]) ?_; refine wpAny_bind ?_)
    rw [full, decide_eq_true_eq] at hf
    rw [sz]
    have two : (t.mask = 7 ∧ L.length = 4) ∨ (t.mask = 31 ∧ L.length = 18) := by
      rcases R.tab.mok with e | e | e <;> rw [q4', e] at hf <;> rw [e] at hroom <;> omega
    have go : ∀ M, SetTable.sizeAbove (SetTable.grown (L.length + 1)) - 1 = M → MaskOk M → SetTable.sizeAbove (SetTable.grown (L.length + 1)) ≤ 128 → (L.length + 1) * 5 < M * 3 →
        wpAny (model P w) A (setRelay a (SetTable.grown (L.length + 1))) (fun _ s' => wpAny (model P w) A (pure true) Q E s') E { s with heap := h1 } := fun M c1 c2 c3 c4 =>
      SetE.laid (s := { s with heap := h1 }) ho1 ⟨hex.1, hex.2.1, hex.2.2⟩ rfl rows q3' (by rw [len1, q4']; rcases two with ⟨e, e2⟩ | ⟨e, e2⟩ <;> omega) nd1 els1 ld1 (by rw [len1]; exact few) c1 c2 c3 (by rw [len1]; exact c4) fun h2 L2 es2 ep2 t2 sb2 R2 pm2 =>
        wpAny_pure (new hm h2 L2 es2 ep2 t2 (sb.trans sb2) R2 (pm2.trans pm))
    rcases two with ⟨_, e2⟩ | ⟨_, e2⟩
    · exact go 31 (by rw [e2, size_20]) (.inr (.inl rfl)) (by rw [e2, size_20]; decide) (by omega)
    · exact go 127 (by rw [e2, size_76]) (.inr (.inr rfl)) (by rw [e2, size_76]; decide) (by omega)
  · first
      | refine wp_if_neg (by simp [hf]) ?_
      | (refine wpAny_bind ?_; refine wp_if_neg (by simp [hf]) ?_; refine wpAny_pure ?_)
    rw [full, decide_eq_true_eq] at hf
    exact wpAny_pure (new hm h1 L1 es1 (ep + 1) t2 sb ⟨⟨_, ho1, ⟨hex.1, hex.2.1, hex.2.2⟩, rfl⟩, rows, q3', nd1, els1, ld1, by rw [len1]; omega, by rw [len1]; exact few⟩ pm)
end
end
end LG
end

section
set_option maxHeartbeats 4000000
namespace LG
open PySem PySem.Spec PyProof.Rows L2
/-! ### tuples of ints and texts as elements -/
section
variable {P : Program} {w : World} {A : Around} {E : Value → Shared → Prop} {s : Shared}
abbrev IsF (P : Program) (w : World) (h : Heap) (k : List Key) (a : Addr) : Prop := IsTupleKey (mixKind P w) h k a
theorem flat_items {k : List Key} {vs : List Value} (h : ItemsAre (mixKind P w) k vs) : ∀ v ∈ vs, (∃ i t, v = Value.int i t) ∨ ∃ x t, v = Value.str x t := by
  induction h with
  | nil => exact fun v hv => by cases hv
  | cons h1 _ ih =>
    intro v hv
    rcases List.mem_cons.mp hv with rfl | hv
    · rcases keyIs_shape h1 with ⟨i, t, _, rfl⟩ | ⟨x, t, _, rfl⟩
      · exact .inl ⟨i, t, rfl⟩
      · exact .inr ⟨x, t, rfl⟩
    · exact ih v hv
theorem stat_flat (n : Nat) {v : Value} (h : (∃ i t, v = Value.int i t) ∨ ∃ x t, v = Value.str x t) : ofAClassStatement n v = pure false := by
  rcases h with ⟨i, t, rfl⟩ | ⟨x, t, rfl⟩ <;> cases n <;> rfl
theorem byv_flat (n : Nat) {v : Value} (h : (∃ i t, v = Value.int i t) ∨ ∃ x t, v = Value.str x t) : ∃ b, hashByValue n v = pure b := by
  rcases h with ⟨i, t, rfl⟩ | ⟨x, t, rfl⟩
  · exact ⟨_, hashByValue_scannable n rfl⟩
  · exact ⟨_, hashByValue_scannable n rfl⟩
theorem stat_tup {k : List Key} {b : Addr} {Q : Bool → Shared → Prop} (hk : IsF P w s.heap k b) (h : Q false s) : wpAny (model P w) A (ofAClassStatement 8 (.ref b)) Q E s := by
  have hT := hk.typeIs
  obtain ⟨o, items, n, ho, _, hd, hi⟩ := hk
  unfold ofAClassStatement
  refine wpAny_bind (wpAny_typeOf hT ?_)
  dsimp only
  have e : (("tuple" : String) == "tuple") = true := by decide
  simp only [e, if_true, Bool.not_true, Bool.false_eq_true, if_false]
  try refine wpAny_bind (wpAny_pure ?_)
  try simp only [Bool.not_true, Bool.false_eq_true, if_false]
  show wpAny _ _ (seqItems? (.ref b) >>= _) _ _ s
  refine wpAny_bind (wpAny_seqItems ho hd ?_)
  dsimp only
  refine wpAny_bind ?_
  show wpAny _ _ (forIn items _ _) _ _ s
  rw [← Array.forIn_toList]
  refine wpAny_forIn_list _ (fun rest r s' => r.1 = none ∧ s' = s ∧ ∀ v ∈ rest, v ∈ items.toList) _ ?_ ?_ _ _ ⟨rfl, rfl, fun v hv => hv⟩
  · rintro v rest r s' ⟨hr, rfl, hall⟩
    rw [stat_flat _ (flat_items hi v (hall v List.mem_cons_self))]
    refine wpAny_bind (wpAny_pure ?_)
    simp only [Bool.false_eq_true, if_false]
    exact wpAny_pure ⟨rfl, rfl, fun u hu' => hall u (List.mem_cons_of_mem _ hu')⟩
  · rintro ⟨r1, r2⟩ s' ⟨hr, rfl, _⟩
    simp only at hr
    subst hr
    exact wpAny_pure h
theorem byv_tup {k : List Key} {b : Addr} {Q : Bool → Shared → Prop} (hk : IsF P w s.heap k b) (h : ∀ b, Q b s) : wpAny (model P w) A (hashByValue 8 (.ref b)) Q E s := by
  have hT := hk.typeIs
  obtain ⟨o, items, n, ho, _, hd, hi⟩ := hk
  unfold hashByValue
  refine wpAny_bind (wpAny_specialOf hT F.slot_tuple_hash.lookup ?_)
  show wpAny _ _ (seqItems? (.ref b) >>= _) _ _ s
  refine wpAny_bind (wpAny_seqItems ho hd ?_)
  refine wpAny_bind ?_
  show wpAny _ _ (forIn items _ _) _ _ s
  rw [← Array.forIn_toList]
  refine wpAny_forIn_list _ (fun rest r s' => r.1 = none ∧ s' = s ∧ ∀ v ∈ rest, v ∈ items.toList) _ ?_ ?_ _ _ ⟨rfl, rfl, fun v hv => hv⟩
  · rintro v rest r s' ⟨hr, rfl, hall⟩
    obtain ⟨b, e⟩ := byv_flat 7 (flat_items hi v (hall v List.mem_cons_self))
    rw [e]
    refine wpAny_bind (wpAny_pure ?_)
    cases b with
    | true =>
      simp only [Bool.not_true, Bool.false_eq_true, if_false]
      exact wpAny_pure ⟨rfl, rfl, fun u hu' => hall u (List.mem_cons_of_mem _ hu')⟩
    | false =>
      simp only [Bool.not_false, if_true]
      exact wpAny_pure (wpAny_pure (h false))
  · rintro ⟨r1, r2⟩ s' ⟨hr, rfl, _⟩
    simp only at hr
    subst hr
    exact wpAny_pure (h true)
theorem seen_flat {k : List Key} {b : Addr} {Q : Bool → Shared → Prop} (hk : IsF P w s.heap k b) {ys : List Value} (hy : ∀ y ∈ ys, ∃ k' c, y = Value.ref c ∧ IsF P w s.heap k' c) (h : Q false s) :
    wpAny (model P w) A (searchCouldBeSeen (.ref b) ys) Q E s := by
  unfold searchCouldBeSeen
  refine wpAny_bind ?_
  refine wpAny_forIn_list _ (fun rest r s' => r.1 = none ∧ s' = s ∧ ∀ y ∈ rest, y ∈ ys) _ ?_ ?_ _ _ ⟨rfl, rfl, fun v hv => hv⟩
  · rintro v rest r s' ⟨hr, rfl, hall⟩
    obtain ⟨k', c, rfl, hc⟩ := hy v (hall v List.mem_cons_self)
    have rest' : ∀ y ∈ rest, y ∈ ys := fun u hu' => hall u (List.mem_cons_of_mem _ hu')
    dsimp only
    by_cases hv : (b == c || (carriedByValue (.ref b) && carriedByValue (.ref c))) = true
    · exact wp_if_pos hv (wpAny_pure ⟨rfl, rfl, rest'⟩)
    · refine wp_if_neg hv ?_
      refine wpAny_bind (wpAny_eqIsQuiet_tuple hk ?_)
      simp only [Bool.not_true, Bool.false_eq_true, if_false]
      refine wpAny_bind (wpAny_eqIsQuiet_tuple hc ?_)
      simp only [Bool.not_true, Bool.false_eq_true, if_false]
      refine wpAny_bind (stat_tup hk ?_)
      simp only [Bool.false_eq_true, if_false]
      refine wpAny_bind (stat_tup hc ?_)
      simp only [Bool.false_eq_true, if_false]
      exact wpAny_pure ⟨rfl, rfl, rest'⟩
  · rintro ⟨r1, r2⟩ s' ⟨hr, rfl, _⟩
    simp only at hr
    subst hr
    exact wpAny_pure h
end
def flatK (P : Program) (w : World) : ElK P w (List Key) where
  is := fun h k a => IsF P w h k a
  hash := tupleKeyHash (mixKind P w)
  eqB := fun hu hx hy q => wpAny_eqBool_tuple hu hx hy q
  seen := fun hx hy q => seen_flat hx hy q
  byV := fun hx q => byv_tup hx q
  pyH := fun hu hx q => wpAny_pyHash_tuple hu hx (q _)
  keep := fun x hk => let ⟨o, items, n, ho, hc, hd, hi⟩ := x; ⟨o, items, n, hk _ _ _ ho hd, hc, hd, hi⟩
  obj := fun x => let ⟨o, items, n, ho, _, hd, _⟩ := x; ⟨o, _, _, ho, hd⟩
/-! ### the set of tuples as an object that a proof follows -/
/-- all but the elements -/
structure SetF0 (P : Program) (w : World) (h : Heap) (a : Addr) (L : List (Addr × List Key)) : Prop where
  all : ∃ es ep t, (∃ o, h.get? a = some o ∧ o.ExactSet ∧ o.data = .set es ep t) ∧ es.toList = entsOf (flatK P w) L ∧ TabOk t (hsOf (flatK P w) L) ∧ (L.map (·.2)).Nodup ∧
    (w.params.followText "set-order" = true ∨ t.led = true) ∧ L.length * 5 < t.mask * 3 ∧ L.length < 64
def SetFO (P : Program) (w : World) (a : Addr) (L : List (Addr × List Key)) : HO := .ext fun h => SetF0 P w h a L
/-- the set at a has the tuples L, each at an address -/
def IsSetF (P : Program) (w : World) (H : Hp) (a : Addr) (L : List (Addr × List Key)) : Prop := H a = some (SetFO P w a L) ∧ ∀ p ∈ L, H p.1 = some (.tup (p.2.map kV))
theorem IsSetF.same {P : Program} {w : World} {H H' : Hp} {a : Addr} {L : List (Addr × List Key)} (s : Same H H') (h : IsSetF P w H a L) : IsSetF P w H' a L := ⟨s _ _ h.1, fun p hp => s _ _ (h.2 p hp)⟩
theorem SetE.f0 {P : Program} {w : World} {h : Heap} {a : Addr} {L : List (Addr × List Key)} {es : Array (Int × Value)} {ep : Nat} {t : SetTable} (R : SetE (flatK P w) h a L es ep t) : SetF0 P w h a L :=
  ⟨es, ep, t, R.ob, R.rows, R.tab, R.nd, R.led, R.room, R.few⟩
theorem setF_new {P : Program} {w : World} {H : Hp} {h : Heap} {a : Addr} {L : List (Addr × List Key)} (R : SetF0 P w h a L) : ObjOk P w H h a (SetFO P w a L) := by
  obtain ⟨es, ep, t, ⟨o, ho, r⟩, _⟩ := R.all
  exact ⟨R, ⟨o, ho⟩, fun h1 h2 p k => by
    obtain ⟨es, ep, t, ⟨o, ho, r⟩, r2⟩ := p.all
    exact ⟨es, ep, t, ⟨o, k o ho, r⟩, r2⟩⟩
theorem items_mix {P : Program} {w : World} : ∀ {k : List Key} {us : List Value}, Vals (k.map kV) us → ItemsAre (mixKind P w) k us
  | [], _, h => by cases h; exact .nil
  | k :: ks, _, h => by
    cases h with
    | cons h1 h2 => exact .cons (kV_is h1) (items_mix h2)
section
variable {X : Cx} {pins : List (Addr × Obj)} {σ : L2.St} {H : Hp} {s : Shared}
theorem isF_of {b : Addr} {k : List Key} (I : Inv X pins σ H s) (h : H b = some (.tup (k.map kV))) : IsF X.prog X.w s.heap k b := by
  obtain ⟨_, vs, rel, o, ho, hc, n, hd⟩ := I.hok _ _ h
  exact ⟨o, vs.toArray, n, ho, hc, hd, by simpa using items_mix rel⟩
theorem IsSetF.full {a : Addr} {L : List (Addr × List Key)} (I : Inv X pins σ H s) (h : IsSetF X.prog X.w H a L) : ∃ es ep t, SetE (flatK X.prog X.w) s.heap a L es ep t := by
  obtain ⟨es, ep, t, b1, b2, b3, b4, b6, b7, b8⟩ := (show SetF0 X.prog X.w s.heap a L from (I.hok a _ h.1).1).all
  exact ⟨es, ep, t, b1, b2, b3, b4, fun p hp => isF_of I (h.2 p hp), b6, b7, b8⟩
/-! ### set(), add, in -/
theorem setE_new {P : Program} {w : World} {κ : Type} [DecidableEq κ] {S : ElK P w κ} {h : Heap} {a : Addr} (ho : h.get? a = some { cls := .type "set", dict := none, data := .set #[] 0 (.fresh 0 0 (!w.params.followText "set-order")) }) : SetE S h a [] #[] 0 (.fresh 0 0 (!w.params.followText "set-order")) where
  ob := ⟨_, ho, ⟨rfl, rfl, rfl⟩, rfl⟩
  rows := rfl
  tab := ⟨List.Pairwise.nil, rfl, rfl, .inl rfl, fun x hx => (by cases hx), fun i h j hi => (by simp [hsOf] at hi)⟩
  nd := List.nodup_nil
  els := fun p hp => (by cases hp)
  led := by
    show _ ∨ (!w.params.followText "set-order") = true
    cases w.params.followText "set-order"
    · exact .inr rfl
    · exact .inl rfl
  room := by
    show 0 * 5 < 7 * 3
    decide
  few := by
    show 0 < 64
    decide
def rSet0H (P : Program) (w : World) : List V → Hp → VK → Prop := fun xs H Q => xs = [] ∧ ∀ p, H p = none → Q (.ref p) (upd H p (SetFO P w p []))
theorem cr_set0H : CallR X (.type "set") (rSet0H X.prog X.w) := by
  intro pins s σ H xs us Q I r h
  obtain ⟨rfl, q⟩ := h
  cases r
  refine setR_new fun _ => ?_
  have new : SetF0 X.prog X.w (s.heap.push { cls := .type "set", dict := none, data := .set #[] 0 (.fresh 0 0 (!X.w.params.followText "set-order")) }) s.heap.objs.size [] :=
    (setE_new (Heap.get?_push_size _ rfl)).f0
  exact ⟨.ref _, upd H s.heap.objs.size (SetFO X.prog X.w s.heap.objs.size []), I.laid (t' := s.toks) (fun b u e => Heap.get?_push_of_some _ e) (Nat.le_refl _) (setF_new new), rfl, q _ (I.hok.fresh (Nat.le_refl _))⟩
theorem SetE.typeIs {P : Program} {w : World} {κ : Type} [DecidableEq κ] {S : ElK P w κ} {s : Shared} {a : Addr} {L : List (Addr × κ)} {es : Array (Int × Value)} {ep : Nat} {t : SetTable} (R : SetE S s.heap a L es ep t) : s.TypeIs (.ref a) "set" :=
  let ⟨o, ho, hex, _⟩ := R.ob; ⟨o, ho, hex.1⟩
theorem in1_lt {A : Around} (h : A.units + 8 < cLine) : A.in1.units < cLine := by
  show A.units + 1 < cLine
  omega
theorem add_call {P : Program} {w : World} {κ : Type} [DecidableEq κ] {S : ElK P w κ} {A : Around} {E : Value → Shared → Prop} {s : Shared} {a x : Addr} {k : κ} {L : List (Addr × κ)} {es : Array (Int × Value)} {ep : Nat} {t : SetTable} {Q : Value → Shared → Prop} (R : SetE S s.heap a L es ep t) (hx : S.is s.heap k x) (hu : A.units + 8 < cLine) (few : L.length + 1 < 64)
    (old : k ∈ L.map (·.2) → ∀ tk, Q .none { s with toks := tk }) (new : k ∉ L.map (·.2) → ∀ tk h' L' es' ep' t', Heap.SameBut a s.heap h' → SetE S h' a L' es' ep' t' → L'.Perm ((x, k) :: L) → Q .none { s with heap := h', toks := tk }) :
    wpAny (model P w) A (call (.builtin "set.add") [.ref a, .ref x]) Q E s := by
  refine wpAny_call_entry F.slot_set_add R.typeIs F.entry_set_add ?_ (F.args_set_add_2 _ _)
  unfold Builtin.«set.add» Builtin.Frozenset.oneOther
  simp only [List.isEmpty_nil, bind_assoc]
  unfold Builtin.Frozenset.addrOf setAdd
  refine wpAny_bind (wpAny_pure ?_)
  try dsimp only
  refine wpAny_bind (wpAny_pure ?_)
  try dsimp only
  refine wpAny_bind ?_
  refine wpAny_holding ?_
  refine wpAny_bind (S.pyH (in1_lt hu) hx fun tk => ?_)
  refine SetE.add (s := { s with toks := tk }) R hx (in1_lt hu) few (fun hm => ?_) fun hm h' L' es' ep' t' sb R' pm => ?_
  · exact wpAny_pure ⟨_, rfl, old hm tk⟩
  · exact wpAny_pure ⟨_, rfl, new hm tk h' L' es' ep' t' sb R' pm⟩
theorem find_at {P : Program} {w : World} {κ : Type} [DecidableEq κ] {S : ElK P w κ} {A : Around} {E : Value → Shared → Prop} {s : Shared} {a x : Addr} {k : κ} {L : List (Addr × κ)} {es : Array (Int × Value)} {ep : Nat} {t : SetTable} {Q : Option Nat → Shared → Prop} (R : SetE S s.heap a L es ep t) (hx : S.is s.heap k x) (hu : A.units < cLine)
    (q : ∀ r : Option Nat, r.isSome = decide (k ∈ L.map (·.2)) → Q r s) : wpAny (model P w) A (setFind a (.ref x) (S.hash k)) Q E s := by
  obtain ⟨o, ho, hex, hd⟩ := R.ob
  unfold setFind
  rw [show (100000 : Nat) = 99999 + 1 from rfl]
  unfold setFindIn
  refine wpAny_bind (wpAny_setState_of ho hd R.fits ?_)
  dsimp only
  refine wp_if_neg (by simp [byScan, Value.scannable]) ?_
  try refine wpAny_bind (wpAny_pure ?_)
  refine wpAny_bind (look_for R hx hu (fun hm r hr => ?_) fun c hm hc hb => ?_)
  · exact wpAny_pure (q r (by rw [hr rfl, decide_eq_true hm]))
  · exact wpAny_pure (q none (by rw [decide_eq_false hm]; rfl))
theorem in_at {P : Program} {w : World} {κ : Type} [DecidableEq κ] {S : ElK P w κ} {A : Around} {E : Value → Shared → Prop} {s : Shared} {a x : Addr} {k : κ} {L : List (Addr × κ)} {es : Array (Int × Value)} {ep : Nat} {t : SetTable} {Q : Bool → Shared → Prop} (R : SetE S s.heap a L es ep t) (hx : S.is s.heap k x) (hu : A.units + 8 < cLine)
    (q : ∀ tk, Q (decide (k ∈ L.map (·.2))) { s with toks := tk }) : wpAny (model P w) A (contains (.ref a) (.ref x)) Q E s := by
  unfold contains
  try with_reducible refine wpAny_holding ?_
  refine wpAny_bind (wpAny_specialOf R.typeIs F.slot_set_contains.lookup ?_)
  show wpAny _ _ (if (some (Value.builtin "set.__contains__") == some Value.none) = true then _ else _) _ E s
  rw [if_neg (by rw [beq_builtin_none]; exact Bool.false_ne_true)]
  refine wpAny_bind (wpAny_callSpecialUnlessNone?_slot (name := Str.ofString "__contains__") R.typeIs F.slot_set_contains
    (wpAny_call_entry F.slot_set_contains R.typeIs entry_set_contains ?_ (F.args_set_contains_2 _ _)))
  unfold Builtin.«frozenset.__contains__» Builtin.Frozenset.oneOther
  simp only [List.isEmpty_nil, bind_assoc]
  unfold Builtin.Frozenset.addrOf Builtin.Frozenset.withSetAsKey setContains
  refine wpAny_bind (wpAny_pure ?_)
  try dsimp only
  refine wpAny_bind (wpAny_pure ?_)
  try dsimp only
  refine wpAny_bind (wpAny_tryCatch ?_)
  refine wpAny_holding ?_
  refine wpAny_bind (S.pyH (in1_lt hu) hx fun tk => ?_)
  refine wpAny_bind (find_at (s := { s with toks := tk }) R hx (in1_lt hu) fun r hr => ?_)
  refine wpAny_pure ?_
  show wpAny _ _ (ret (Value.bool r.isSome)) _ _ _
  rw [hr]
  exact wpAny_pure ⟨_, rfl, wpAny_truthy_bool (q tk)⟩
/-- k in found, k not in found -/
def hasK {κ : Type} [DecidableEq κ] (L : List (Addr × κ)) (k : κ) : Bool := decide (k ∈ L.map fun p => p.2)
def rInH (P : Program) (w : World) (neg : Bool) : V → V → Hp → VK → Prop := fun x y H Q => ∃ (k : List Key) (b a : Addr) (L : List (Addr × List Key)), x = .ref b ∧ y = .ref a ∧ H b = some (.tup (k.map kV)) ∧ IsSetF P w H a L ∧
  Q (.bl (if neg then !hasK L k else hasK L k)) H
theorem op_in_setH (hu : X.A.units + 8 < cLine) : OpR X (compareOp .In) (rInH X.prog X.w false) := by
  intro pins s σ H x y v u Q I rx ry h
  obtain ⟨k, b, a, L, rfl, rfl, hb, ha, q⟩ := h
  cases ry
  cases rx
  obtain ⟨es, ep, t, R⟩ := IsSetF.full I ha
  show wpAny _ _ (do return Value.bool (← contains (.ref a) (.ref b))) _ _ s
  exact wpAny_bind (in_at R (isF_of I hb) hu fun tk => wpAny_pure ⟨.bl (hasK L k), H, I.tok _, rfl, q⟩)
theorem op_notIn_setH (hu : X.A.units + 8 < cLine) : OpR X (compareOp .NotIn) (rInH X.prog X.w true) := by
  intro pins s σ H x y v u Q I rx ry h
  obtain ⟨k, b, a, L, rfl, rfl, hb, ha, q⟩ := h
  cases ry
  cases rx
  obtain ⟨es, ep, t, R⟩ := IsSetF.full I ha
  show wpAny _ _ (do return Value.bool (!(← contains (.ref a) (.ref b)))) _ _ s
  exact wpAny_bind (in_at R (isF_of I hb) hu fun tk => wpAny_pure ⟨.bl (!hasK L k), H, I.tok _, rfl, q⟩)
/-- found.add(k) -/
def rSAddH (P : Program) (w : World) : V → List V → Hp → VK → Prop := fun x xs H Q => ∃ (a b : Addr) (k : List Key) (L : List (Addr × List Key)), x = V.ref a ∧ xs = [V.ref b] ∧ H b = some (.tup (k.map kV)) ∧ IsSetF P w H a L ∧ L.length + 1 < 64 ∧
  (k ∈ L.map (·.2) → Q .non H) ∧ (k ∉ L.map (·.2) → ∀ L', L'.Perm ((b, k) :: L) → Q .non (upd H a (SetFO P w a L')))
theorem mt_saddH (hu : X.A.units + 8 < cLine) : MtR X "set.add" (rSAddH X.prog X.w) := by
  intro pins s σ H x xs v us Q I rx rxs h
  obtain ⟨a, b, k, L, rfl, rfl, hb, ha, room, q1, q2⟩ := h
  cases rx
  cases rxs with
  | cons ry rt =>
    cases rt
    cases ry
    obtain ⟨es, ep, t, R⟩ := IsSetF.full I ha
    refine add_call R (isF_of I hb) hu room (fun hm tk => ⟨.non, H, I.tok _, rfl, q1 hm⟩) fun hm tk h' L' es' ep' t' sb R' pm => ?_
    have he : ∃ u, h'.get? a = some u := by
      obtain ⟨o, ho, _⟩ := R'.ob
      exact ⟨o, ho⟩
    exact ⟨.non, upd H a (SetFO X.prog X.w a L'), I.write (e := a) (t' := tk) (by rw [ha.1]; trivial) (.inl rfl) (fun b u hb hu => (sb.2 b hb).trans hu) he (setF_new R'.f0), rfl, q2 hm L' pm⟩
def tSAddH (P : Program) (w : World) (to : TE) (t : TA) : TE := fun σ H Q => to σ H fun x H1 => (∃ a L, x = V.ref a ∧ H1 a = some (SetFO P w a L)) ∧ t σ H1 fun xs H2 => rSAddH P w x xs H2 Q
variable {o e : Expr} {es : List Expr} {to : TE} {t : TA} {apos cpos : Pos}
theorem pe_saddH (hu : X.A.units + 8 < cLine) (ho : PE X o to) (ha : PA X (e :: es) t)
    (hbase : attributeBase o "add" X.env (eval o X.env) = eval o X.env := by rfl)
    (hfew : ((backTo cpos (starEach (e :: es) X.env)).all (fun x => !x.1) && (backToKw cpos (keywordEach [] X.env)).all (fun x => x.1.isSome)
      && decide ((e :: es).length + ([] : List Keyword).length + (if ([] : List Keyword).isEmpty then 0 else 1) < 30)) = true := by rfl)
    (hline : (apos.endLine == cpos.line) = true := by rfl) (hs : starEach (e :: es) X.env = (false, eval e X.env) :: starEach es X.env := by rfl) (hplain : (backTo cpos (starEach es X.env)).any (·.1) = false := by rfl) :
    PE X (.Call (.Attribute o "add" apos) (e :: es) [] cpos) (tSAddH X.prog X.w to t) := by
  refine ⟨fun pins s σ H Q I h => ?_⟩
  refine wpAny_Call_method_late hbase hfew hline rfl (thn (ho.run pins s σ H _ I h) fun v s1 ⟨x, H1, I1, r1, ty1, q1⟩ => ?_)
  obtain ⟨a, L, rfl, hka⟩ := ty1
  obtain ⟨es0, ep0, t0, ⟨ob, hob, hex, hdt⟩, _⟩ := (show SetF0 X.prog X.w s1.heap a L from (I1.hok a _ hka).1).all
  cases r1
  refine ⟨"set", "set.add", F.plainAttrs_set, F.slot_set_add, F.type_set_add, ⟨ob, hob, hex.1⟩, fun o e => by cases e; exact ⟨ob, hob, hex.2.1⟩, ?_⟩
  have hA := ha.run cpos pins s1 σ H1 _ I1 q1
  rw [hs] at hA ⊢
  refine Calls.callWith_builtin (by show (false || (backTo cpos (starEach es X.env)).any (·.1)) = false; rw [hplain] <;> rfl) (Calls.evalArgs_plain ?_)
  exact thn hA fun us s2 ⟨vs, H2, I2, r2, q2⟩ => mt_saddH hu pins s2 σ H2 (.ref a) vs (.ref a) us Q I2 rfl r2 q2
end
end LG
end

section
set_option maxHeartbeats 4000000
namespace LG
open PySem PySem.Spec PyProof.Rows L2
/-! ### sets of ints and texts that are walked and sorted, too -/
def decK : Value → Key
  | .int i _ => .inl i
  | .str x _ => .inr x
  | _ => .inl 0
abbrev entK (e : Int × Value) : Key := decK e.2
def RightE (P : Program) (w : World) (e : Int × Value) : Prop := ∃ k, (mixKind P w).is k e.2 = true ∧ e.1 = (mixKind P w).hash k
theorem dec_of {k : Key} {v : Value} (h : keyIs k v = true) : decK v = k ∧ v.scannable = true := by
  rcases keyIs_shape h with ⟨i, t, rfl, rfl⟩ | ⟨x, t, rfl, rfl⟩ <;> exact ⟨rfl, rfl⟩
/-- the set of keys at a: S its members, n their number; its table rises -/
def SetM (P : Program) (w : World) (h : Heap) (a : Addr) (S : Key → Bool) (n : Nat) : Prop :=
  ∃ o es ep t, h.get? a = some o ∧ o.ExactSet ∧ o.data = .set es ep t ∧ (∀ e ∈ es.toList, RightE P w e) ∧ (es.toList.map entK).Nodup ∧ (∀ k, S k = true ↔ k ∈ es.toList.map entK) ∧
    es.size < scanBound ∧ t.fits es.size = true ∧ es.size = n ∧ Ris t.place.toList ∧ (w.params.followText "set-order" = true ∨ t.led = true)
section
variable {P : Program} {w : World} {h h' : Heap} {a : Addr} {S : Key → Bool} {n : Nat}
theorem SetM.at (R : SetM P w h a S n) (k : ∀ o, h.get? a = some o → h'.get? a = some o) : SetM P w h' a S n := by
  obtain ⟨o, es, ep, t, ho, r⟩ := R
  exact ⟨o, es, ep, t, k o ho, r⟩
theorem right_elems {l : List (Int × Value)} (g : ∀ e ∈ l, RightE P w e) : ElemsOf (mixKind P w) l := fun e he => by
  obtain ⟨k, h1, h2⟩ := g e he
  exact ⟨⟨k, h1, h2⟩, (dec_of h1).2⟩
theorem right_mem {l : List (Int × Value)} (g : ∀ e ∈ l, RightE P w e) (k : Key) : k ∈ l.map entK ↔ ∃ e ∈ l, (mixKind P w).is k e.2 = true := by
  rw [List.mem_map]
  constructor
  · rintro ⟨e, he, q⟩
    obtain ⟨k1, h1, _⟩ := g e he
    have z := (dec_of h1).1
    exact ⟨e, he, by rw [← q]; show (mixKind P w).is (decK e.2) e.2 = true; rw [z]; exact h1⟩
  · rintro ⟨e, he, q⟩
    exact ⟨e, he, (dec_of q).1⟩
theorem SetM.setOf (R : SetM P w h a S n) : h.SetOf (mixKind P w) a S n := by
  obtain ⟨o, es, ep, t, ho, hx, hd, g, nd, hm, hb, hf, hn, _⟩ := R
  exact ⟨o, es, ep, t, ho, hx, hd, right_elems g, fun k => (hm k).trans (right_mem g k), hb, hf, hn⟩
theorem SetM.new {h : Heap} {a : Addr} (ho : h.get? a = some { cls := .type "set", dict := none, data := .set #[] 0 (.fresh 0 0 (!w.params.followText "set-order")) }) : SetM P w h a (fun _ => false) 0 :=
  ⟨_, #[], 0, _, ho, ⟨rfl, rfl, rfl⟩, rfl, (fun e he => by simp at he), List.nodup_nil, (fun k => by simp), (by decide), (by rfl), rfl, List.Pairwise.nil, by
    show _ ∨ (!w.params.followText "set-order") = true
    cases w.params.followText "set-order"
    · exact .inr rfl
    · exact .inl rfl⟩
end
section
variable {P : Program} {w : World} {A : Around} {E : Value → Shared → Prop} {s : Shared} {a : Addr} {S : Key → Bool} {n : Nat}
theorem setM_store {g : Bool → Sem Unit} (hg : ∀ (b : Bool) (s₁ : Shared) (Q' : Unit → Shared → Prop), Q' () s₁ → wpAny (model P w) A (g b) Q' E s₁)
    {o : Obj} {es : Array (Int × Value)} {ep : Nat} {t : SetTable} (ho : s.heap.get? a = some o) (hex : o.ExactSet) (hd : o.data = .set es ep t)
    {es1 : Array (Int × Value)} {t2 : SetTable} {S' : Key → Bool} (g1 : ∀ e ∈ es1.toList, RightE P w e) (nd1 : (es1.toList.map entK).Nodup) (m1 : ∀ k, S' k = true ↔ k ∈ es1.toList.map entK)
    (hb1 : es1.size < scanBound) (hf2 : t2.fits es1.size = true) (hr : Ris t2.place.toList) (hl : w.params.followText "set-order" = true ∨ t2.led = true) {wasDummy : Bool} {R : Option Bool → Shared → Prop}
    (hR : ∀ h', Heap.SameBut a s.heap h' → SetM P w h' a S' es1.size → R (some true) { s with heap := h' }) :
    wpAny (model P w) A (do
        storeSet a es1 t2
        if (!wasDummy && t2.tooFull) = true then do
            g (relayAll t2 es1 (SetTable.grown es1.size)).2.2
            storeSet a (relayAll t2 es1 (SetTable.grown es1.size)).1 (relayAll t2 es1 (SetTable.grown es1.size)).2.1
            pure (some true)
          else pure (some true)) R E s := by
  refine wpAny_bind (wpAny_storeSet_of ho hd ?_ (fits_of_scanBound hb1))
  have ho1 := store_at (es' := es1) (t' := t2) ho hd
  have sb1 := Heap.SameBut.update s.heap a (Obj.putSet es1 t2)
  split
  · have pm := relayAll_perm t2 es1 (SetTable.grown es1.size)
    have hf3 := relayAll_fits t2 es1 (SetTable.grown es1.size)
    have hr3 := relayAll_ris t2 es1 (SetTable.grown es1.size)
    have hl3 := relayAll_led t2 es1 (SetTable.grown es1.size)
    generalize relayAll t2 es1 (SetTable.grown es1.size) = Z at pm hf3 hr3 hl3 ⊢
    obtain ⟨es2, t3, gave⟩ := Z
    dsimp only at pm hf3 hr3 hl3 ⊢
    have hsz : es2.size = es1.size := by rw [← Array.length_toList, pm.length_eq, Array.length_toList]
    have hb2 : es2.size < scanBound := by rw [hsz]; exact hb1
    refine wpAny_bind (hg _ _ _ ?_)
    refine wpAny_bind (wpAny_storeSet_of ho1 rfl ?_ (fits_of_scanBound hb2))
    have ho2 := store_at (es' := es2) (t' := t3) ho1 rfl
    exact wpAny_pure (hR _ (sb1.trans (Heap.SameBut.update _ a _)) ⟨_, es2, _, t3, ho2, hex, rfl, fun e he => g1 e (pm.mem_iff.mp he), (pm.map entK).nodup_iff.mpr nd1, fun k => (m1 k).trans (pm.map entK).mem_iff.symm, hb2, hf3, hsz, hr3,
      hl.imp id fun z => by rw [hl3]; exact z⟩)
  · exact wpAny_pure (hR _ sb1 ⟨_, es1, _, t2, ho1, hex, rfl, g1, nd1, m1, hb1, hf2, rfl, hr, hl⟩)
theorem setM_hashed {k : Key} {v : Value} {Q : Bool → Shared → Prop} (hkey : (mixKind P w).is k v = true) (R : SetM P w s.heap a S n) (room : n + 1 < scanBound)
    (hQ : ∀ h', Heap.SameBut a s.heap h' → SetM P w h' a (fun j => S j || decide (j = k)) (if S k = true then n else n + 1) → Q (!S k) { s with heap := h' }) :
    wpAny (model P w) A (setAddHashed a v ((mixKind P w).hash k)) Q E s := by
  obtain ⟨o, es, ep, t, ho, hex, hd, g, nd, hm, hb, hf, hn, hr, hl⟩ := R
  have hsc : v.scannable = true := (dec_of hkey).2
  have hel : ElemsOf (mixKind P w) es.toList := right_elems g
  unfold setAddHashed setAddHashedIn
  refine wpAny_holding (wpAny_bind (wpAny_setState_of ho hd hf ?_))
  dsimp only
  rw [byScan_of hsc hb hel]
  simp only [↓reduceIte]
  unfold setAddByScan
  refine wpAny_bind (wpAny_bind (wpAny_rule (wpAny_bind (wpAny_setScan_of hkey ho hd hf hel ?_))))
  cases hfi : List.findIdx? (fun e => (mixKind P w).is k e.2) es.toList with
  | some j =>
    dsimp only
    obtain ⟨hj, pj, _⟩ := List.findIdx?_eq_some_iff_getElem.mp hfi
    have hSk : S k = true := (hm k).2 ((right_mem g k).2 ⟨es.toList[j], List.getElem_mem hj, pj⟩)
    refine wpAny_pure (wpAny_pure ?_)
    have q := hQ s.heap (Heap.SameBut.refl a s.heap) ⟨o, es, ep, t, ho, hex, hd, g, nd, fun i => by
      rw [Bool.or_eq_true, decide_eq_true_eq, ← hm i]
      exact ⟨fun z => z.elim id (fun e => e ▸ hSk), .inl⟩, hb, hf, by rw [if_pos hSk]; exact hn, hr, hl⟩
    rw [hSk] at q
    exact q
  | none =>
    dsimp only
    have hnk : k ∉ es.toList.map entK := fun z => by
      obtain ⟨e, he, q⟩ := (right_mem g k).1 z
      have c := List.findIdx?_eq_none_iff.mp hfi e he
      rw [q] at c
      cases c
    have hSk : S k = false := by
      cases q : S k with
      | false => rfl
      | true => exact absurd ((hm k).1 q) hnk
    have hgw : ∀ (b : Bool) {s₁ : Shared} {Q' : Unit → Shared → Prop}, Q' () s₁ → wpAny (model P w) A (match b with | true => rule "set.scan.the-table-gave-way" | false => pure ()) Q' E s₁ :=
      fun b s₁ Q' q => by cases b <;> first | exact wpAny_pure q | exact wpAny_rule q
    have pm := layNew_perm t es ((mixKind P w).hash k) v
    have hf1 := layNew_fits t es ((mixKind P w).hash k) v
    have hr1 := layNew_ris t es ((mixKind P w).hash k) v hr
    have hl1 := layNew_led t es ((mixKind P w).hash k) v
    generalize layNew t es ((mixKind P w).hash k) v = Z at pm hf1 hr1 hl1 ⊢
    obtain ⟨es1, t1, wasDummy, gave⟩ := Z
    dsimp only at pm hf1 hr1 hl1 ⊢
    rw [Array.toList_push] at pm
    have pc : es1.toList.Perm (((mixKind P w).hash k, v) :: es.toList) := pm.trans (List.perm_append_singleton _ _)
    have pk : (es1.toList.map entK).Perm (k :: es.toList.map entK) := by
      have z := pc.map entK
      rw [List.map_cons, show entK ((mixKind P w).hash k, v) = k from (dec_of hkey).1] at z
      exact z
    have g1 : ∀ e ∈ es1.toList, RightE P w e := fun e he => by
      rcases List.mem_cons.mp (pc.mem_iff.mp he) with z | z
      · rw [z]; exact ⟨k, hkey, rfl⟩
      · exact g e z
    have nd1 : (es1.toList.map entK).Nodup := pk.nodup_iff.mpr (List.nodup_cons.mpr ⟨hnk, nd⟩)
    have m1 : ∀ i, (S i || decide (i = k)) = true ↔ i ∈ es1.toList.map entK := fun i => by
      rw [Bool.or_eq_true, decide_eq_true_eq, hm i, pk.mem_iff, List.mem_cons]
      exact Or.comm
    have hsz : es1.size = n + 1 := by rw [← Array.length_toList, pc.length_eq, List.length_cons, Array.length_toList, hn]
    have hb1 : es1.size < scanBound := by rw [hsz]; exact room
    have hled : w.params.followText "set-order" = true ∨ t1.led = true := hl.imp id fun z => by rw [hl1]; exact z
    have fin : ∀ h', Heap.SameBut a s.heap h' → SetM P w h' a (fun j => S j || decide (j = k)) es1.size → Q true { s with heap := h' } := fun h' sb r => by
      have q := hQ h' sb
      rw [hSk] at q
      rw [hsz] at r
      exact q r
    refine wpAny_bind (hgw _ ?_)
    split
    · refine wpAny_bind ?_
      rw [hashByValue_scannable 8 hsc]
      refine wpAny_pure ?_
      refine setM_store ?_ ho hex hd g1 nd1 m1 hb1 ?_ ?_ ?_ ?_
      · intro b s₁ Q' q; cases b <;> first | exact wpAny_pure q | exact wpAny_rule q
      · first | (split <;> first | exact hf1 | exact SetTable.fits_plain_off hf1) | exact hf1
      · first | (split <;> exact hr1) | exact hr1
      · first | (split <;> exact hled) | exact hled
      · intro h' sb r; dsimp only; exact wpAny_pure (fin h' sb r)
    · refine wpAny_bind (wpAny_pure ?_)
      simp only [↓reduceIte]
      refine setM_store ?_ ho hex hd g1 nd1 m1 hb1 hf1 hr1 hled ?_
      · intro b s₁ Q' q; cases b <;> first | exact wpAny_pure q | exact wpAny_rule q
      · intro h' sb r; dsimp only; exact wpAny_pure (fin h' sb r)
/-- found.add(k) -/
theorem setM_add {k : Key} {v : Value} {Q : Value → Shared → Prop} (hkey : (mixKind P w).is k v = true) (R : SetM P w s.heap a S n) (room : n + 1 < scanBound)
    (hQ : ∀ h', Heap.SameBut a s.heap h' → SetM P w h' a (fun j => S j || decide (j = k)) (if S k = true then n else n + 1) → Q .none { s with heap := h', toks := s.toks + 1 }) :
    wpAny (model P w) A (call (.builtin "set.add") [.ref a, v]) Q E s := by
  have hS := R.setOf
  refine wpAny_call_entry F.slot_set_add hS.typeIs F.entry_set_add ?_ (F.args_set_add_2 _ _)
  unfold Builtin.«set.add» Builtin.Frozenset.oneOther
  simp only [List.isEmpty_nil, bind_assoc]
  unfold Builtin.Frozenset.addrOf setAdd
  refine wpAny_bind (wpAny_pure ?_)
  try dsimp only
  refine wpAny_bind (wpAny_pure ?_)
  try dsimp only
  refine wpAny_bind ?_
  refine wpAny_holding ?_
  refine wpAny_bind ((mixKind P w).pyHash hkey ?_)
  refine setM_hashed (s := { s with toks := s.toks + 1 }) hkey R room fun h' sb r => ?_
  exact wpAny_pure ⟨_, rfl, hQ h' sb r⟩
end
end LG
end

section
set_option maxHeartbeats 4000000
namespace LG
open PySem PySem.Spec PyProof.Rows L2
/-- the values are the keys -/
def KeysAre (us : List Value) (ks : List Key) : Prop := us.length = ks.length ∧ ∀ (i : Nat) v, us[i]? = some v → ∃ k, ks[i]? = some k ∧ keyIs k v = true
theorem kV_keyIs {k : Key} {u : Value} (r : RelV (kV k) u) : keyIs k u = true := by
  cases k with
  | inl i =>
    obtain ⟨t, rfl⟩ := r
    simp [keyIs, Value.isInt]
  | inr x =>
    obtain ⟨t, rfl⟩ := r
    simp [keyIs, Value.isStrOf]
theorem keysAre_of : ∀ {ks : List Key} {us : List Value}, Vals (ks.map kV) us → KeysAre us ks
  | [], _, .nil => ⟨rfl, fun i v h => by simp at h⟩
  | k :: ks, _, .cons r t => by
    obtain ⟨h1, h2⟩ := keysAre_of t
    refine ⟨by simp [h1], fun i v h => ?_⟩
    cases i with
    | zero => cases h; exact ⟨k, rfl, kV_keyIs r⟩
    | succ i => exact h2 i v h
theorem SetM.congr {P : Program} {w : World} {h : Heap} {a : Addr} {S S' : Key → Bool} {n : Nat} (R : SetM P w h a S n) (e : ∀ k, S' k = S k) : SetM P w h a S' n := by
  rw [show S' = S from funext e]; exact R
def inL {κ : Type} [DecidableEq κ] (l : List κ) (k : κ) : Bool := decide (k ∈ l)
theorem inL_snoc {κ : Type} [DecidableEq κ] (l : List κ) (z j : κ) : inL (l ++ [z]) j = (inL l j || decide (j = z)) := by
  rw [Bool.eq_iff_iff, Bool.or_eq_true, inL, inL, decide_eq_true_iff, decide_eq_true_iff, decide_eq_true_iff, List.mem_append, List.mem_singleton]
theorem inL_iff {κ : Type} [DecidableEq κ] {l : List κ} {k : κ} : inL l k = true ↔ k ∈ l := decide_eq_true_iff
section
variable {P : Program} {w : World} {A : Around} {E : Value → Shared → Prop} {s : Shared}
theorem setM_update {I : Addr} {fp wr : List Addr} {G : Array GenState → Array GenState → Prop} {n : Nat} {Pv : Nat → Value → Prop} {St : Nat → Shared → Prop} {R : Result → Shared → Prop}
    (W : WalksS P w A.in1 I fp wr G n Pv St) (S : Addr) (hSf : S ∉ fp) (ks : List Key) (hn : n = ks.length) (hb : ks.length + 1 < scanBound) (hval : ∀ i v, Pv i v → ∃ k, ks[i]? = some k ∧ keyIs k v = true) :
    ∀ (k i : Nat) (s : Shared), n - i = k → i ≤ n → St i s → (∃ c, c ≤ i ∧ SetM P w s.heap S (fun j => inL (ks.take i) j) c) →
      (∀ s' c, Moved (S :: wr) G s s' → c ≤ n → SetM P w s'.heap S (fun j => inL ks j) c → R (.ok (.ret .none)) s') →
      codeAny (model P w) A (.builtin "set.update.loop" ⟨[.ref S, .ref I], []⟩) R s := by
  have hSw : S ∉ wr := fun h => hSf (W.sub _ h)
  have hsub : ∀ b ∈ wr, b ∈ S :: wr := fun b hb => List.mem_cons_of_mem _ hb
  intro k
  induction k with
  | zero =>
    intro i s hk' hi hst ⟨c, hc, hS⟩ hR
    have hin : i = n := by omega
    subst hin
    refine codeAny_builtin F.entry_set_update_loop ?_
    rw [Around.under_plainId F.plain_set_update_loop _]
    show wpAny _ A.in1 (pyNext (.ref I) >>= _) _ _ s
    refine wpAny_bind (W.done s _ _ hst fun s' hm => ?_)
    show wpAny _ A.in1 (ret Value.none) _ _ s'
    have e : ks.take i = ks := List.take_of_length_le (by omega)
    rw [e] at hS
    exact wpAny_pure (hR s' c (hm.mono hsub) hc (hS.at fun o e => hm.heap S o hSw e))
  | succ k ih =>
    intro i s hk' hi hst ⟨c, hc, hS⟩ hR
    have hlt : i < n := by omega
    refine codeAny_builtin F.entry_set_update_loop ?_
    rw [Around.under_plainId F.plain_set_update_loop _]
    show wpAny _ A.in1 (pyNext (.ref I) >>= _) _ _ s
    refine wpAny_bind (W.item i s _ _ hlt hst fun v s' hP hst' hm => ?_)
    obtain ⟨z, hz, hv⟩ := hval i v hP
    have hS' : SetM P w s'.heap S (fun j => inL (ks.take i) j) c := hS.at fun o e => hm.heap S o hSw e
    show wpAny _ A.in1 (holding [v] (setAdd S v) >>= _) _ _ s'
    refine wpAny_bind (wpAny_holding ?_)
    unfold setAdd
    refine wpAny_holding ?_
    refine wpAny_bind ((mixKind P w).pyHash hv ?_)
    refine setM_hashed (s := { s' with toks := s'.toks + 1 }) hv hS' (by omega) fun h' hsb hS2 => ?_
    have hS3 : SetM P w h' S (fun j => inL (ks.take (i + 1)) j) (if inL (ks.take i) z = true then c else c + 1) := hS2.congr fun j => by
      rw [List.take_add_one, hz]
      exact inL_snoc _ _ _
    have hc3 : (if inL (ks.take i) z = true then c else c + 1) ≤ i + 1 := by
      split <;> omega
    refine wpAny_pure ⟨plainId_quiet F.plain_set_update_loop _, ih (i + 1) _ (by omega) hlt (W.frame _ s' _ _ hst' (Nat.le_succ _) fun b hb o e => ?_) ⟨_, hc3, hS3⟩ fun s'' c2 hm'' hc'' hS'' => ?_⟩
    · rw [hsb.2 b (fun h : b = S => hSf (by rw [← h]; exact hb))]; exact e
    · refine hR s'' c2 (Moved.trans W.gtrans ((hm.mono hsub).then_heap (Nat.le_succ _) fun b o hb e => ?_) hm'') hc'' hS''
      rw [hsb.2 b (fun h : b = S => hb (by rw [h]; exact List.mem_cons_self))]; exact e
theorem call_setM_list {l : Addr} {items : Array Value} (ks : List Key) {Q : Value → Shared → Prop} (hh : A.handled = none) (hl : s.heap.IsList l items) (hit : KeysAre items.toList ks) (hb : ks.length + 1 < scanBound)
    (h : ∀ (h' : Heap) (tk c : Nat), SetM P w h' s.heap.objs.size (fun j => inL ks j) c → c ≤ ks.length → (∀ b o, s.heap.get? b = some o → h'.get? b = some o) → Q (.ref s.heap.objs.size) { s with heap := h', toks := tk }) :
    wpAny (model P w) A (call (.type "set") [.ref l]) Q E s := by
  have hisz : items.size = ks.length := by
    have q := hit.1
    rw [Array.length_toList] at q
    exact q
  obtain ⟨c, tl, hmro⟩ := F.called_set.mro
  have hmade := F.called_set.made
  have hsub := F.called_set.sub
  refine wpAny_call (codeAny_of_tree ?_)
  show wpAny _ _ (callAny (.type "set") _) _ _ _
  refine wpAny_pure ⟨Code.quiet_builtin _ (by decide +kernel), codeAny_builtin F.entry_type_call ?_⟩
  rw [Around.under_plain (weight_type_call_type "set" [.ref l] []) rfl]
  have h1 := F.called_set.notType
  have h2 := F.called_set.canCreate
  have hct := F.typeCall_set_1 (.ref l)
  repeat (any_goals (first | assumption | wp_step))

  refine codeAny_mono (code_set_led1 (.ref l) (E := E) (Q₁ := fun obj s₁ => obj = .ref s.heap.objs.size ∧ s₁ = { s with heap := s.heap.push { cls := .type "set", dict := none, data := .set #[] 0 (.fresh 0 0 (!w.params.followText "set-order")) } }) ⟨rfl, rfl⟩) fun r s₁ hr => ?_
  cases r with
  | error e => exact hr
  | ok fl =>
    cases fl with
    | ret obj =>
      obtain ⟨rfl, rfl⟩ := hr
      have hS : (s.heap.push { cls := .type "set", dict := none, data := .set #[] 0 (.fresh 0 0 (!w.params.followText "set-order")) }).get? s.heap.objs.size = some { cls := .type "set", dict := none, data := .set #[] 0 (.fresh 0 0 (!w.params.followText "set-order")) } := Heap.get?_push_size _ rfl
      have hT : Shared.TypeIs { s with heap := s.heap.push { cls := .type "set", dict := none, data := .set #[] 0 (.fresh 0 0 (!w.params.followText "set-order")) } } (.ref s.heap.objs.size) "set" := ⟨_, hS, rfl⟩
      have hli := F.called_set.init.lookup
      have hbi := F.called_set.init.bind (.ref s.heap.objs.size)
      repeat (any_goals (first | assumption | wp_step))

      refine codeAny_mono (codeAny_call_builtin (R := wants (fun r s₂ => r = .none ∧ ∃ h' tk c, s₂ = { s with heap := h', toks := tk } ∧ SetM P w h' s.heap.objs.size (fun j => inL ks j) c ∧ c ≤ ks.length ∧
          (∀ b o, s.heap.get? b = some o → h'.get? b = some o)) E) F.called_set.init.plain F.entry_set_init (check_set_init_1 hT ?_)) fun r₂ s₂ hr₂ => ?_
      · obtain ⟨ol, hol, hcl, nl, hdl⟩ := hl
        obtain ⟨ocls, odict, odata, oslots⟩ := ol
        simp only at hcl hdl
        subst hcl; subst hdl
        have hol' : (s.heap.push { cls := .type "set", dict := none, data := .set #[] 0 (.fresh 0 0 (!w.params.followText "set-order")) }).get? l = some { cls := .type "list", dict := odict, data := .seq items nl, slots := oslots } := Heap.get?_push_of_some _ hol
        have hsls := F.sub_list_set
        have hslf := F.sub_list_frozenset
        have hne : (Value.type "list" == Value.type "dict") = false := by decide
        have hl1 : (s.heap.push { cls := .type "set", dict := none, data := .set #[] 0 (.fresh 0 0 (!w.params.followText "set-order")) }).IsList l items := ⟨_, hol', rfl, nl, rfl⟩
        unfold Builtin.«set.__init__» noKeywords Builtin.Frozenset.updateFrom
        generalize hPI : pyIter = PI
        wp_walk
        subst hPI

        refine wpAny_pyIter_list hl1 ?_
        refine wpAny_bind (wpAny_runValue ?_)
        have hlS : l < s.heap.objs.size := Heap.lt_size hol
        have hh3 : A.in1.in1.in1.handled = none := by simp [hh]
        have hz1 : (s.heap.push { cls := .type "set", dict := none, data := .set #[] 0 (.fresh 0 0 (!w.params.followText "set-order")) }).objs.size = s.heap.objs.size + 1 := Heap.size_push ..
        have hneI : l ≠ (s.heap.push { cls := .type "set", dict := none, data := .set #[] 0 (.fresh 0 0 (!w.params.followText "set-order")) }).objs.size := by
          rw [Heap.size_push]; exact Nat.ne_of_lt (Nat.lt_succ_of_lt hlS)
        have hSf : s.heap.objs.size ∉ [(s.heap.push { cls := .type "set", dict := none, data := .set #[] 0 (.fresh 0 0 (!w.params.followText "set-order")) }).objs.size, l] := by
          rw [Heap.size_push]; simp only [List.mem_cons, List.mem_singleton, List.not_mem_nil, or_false, not_or]
          exact ⟨Nat.ne_of_lt (Nat.lt_succ_self _), Nat.ne_of_gt hlS⟩
        have hval : ∀ (i : Nat) (v : Value), items[i]? = some v → ∃ k, ks[i]? = some k ∧ keyIs k v = true := fun i v hv => hit.2 i v (by rw [Array.getElem?_toList]; exact hv)
        refine setM_update ((Walks.list hh3 _ l hneI items).toS) s.heap.objs.size
          hSf ks hisz hb hval (items.size - 0) 0 _ (by omega) (Nat.zero_le _)
          ⟨⟨_, Heap.get?_push_size _ rfl, rfl, rfl⟩, (hl1.push _)⟩ ?hS0 ?hR
        case hS0 =>
          have hget : ((s.heap.push { cls := .type "set", dict := none, data := .set #[] 0 (.fresh 0 0 (!w.params.followText "set-order")) }).push { cls := .type "list_iterator", data := .fields #[.ref l, .int 0 0] }).get? s.heap.objs.size = some { cls := .type "set", dict := none, data := .set #[] 0 (.fresh 0 0 (!w.params.followText "set-order")) } := Heap.get?_push_of_some _ hS
          exact ⟨0, Nat.le_refl 0, (SetM.new hget).congr fun k => by simp [inL]⟩
        case hR =>
          intro s' c' hm hc' hS'
          obtain ⟨h', g2, d', tk', os'⟩ := s'
          have eg : g2 = s.gens := hm.gens
          have ed : d' = s.drawn := hm.drawn
          have eo : os' = s.os := hm.os
          subst eg; subst ed; subst eo
          show wpAny _ _ _ _ _ _
          refine wpAny_pure ?_
          show wpAny _ _ (ret Value.none) _ _ _
          rw [hisz] at hc'
          refine wpAny_pure ⟨rfl, h', tk', c', rfl, hS', hc', fun b o e => ?_⟩
          have hb0 : b < s.heap.objs.size := Heap.lt_size e
          have hb1 : b ≠ s.heap.objs.size := Nat.ne_of_lt hb0
          have hb2 : b ≠ (s.heap.push { cls := .type "set", dict := none, data := .set #[] 0 (.fresh 0 0 (!w.params.followText "set-order")) }).objs.size := by
            rw [Heap.size_push]; exact Nat.ne_of_lt (Nat.lt_succ_of_lt hb0)
          exact hm.heap b o (by simp only [List.mem_cons, List.mem_singleton, List.not_mem_nil, or_false, not_or]; exact ⟨hb1, hb2⟩) (Heap.get?_push_of_some _ (Heap.get?_push_of_some _ e))

      · cases r₂ with
        | error e => exact hr₂
        | ok fl₂ =>
          cases fl₂ with
          | ret r =>
            obtain ⟨rfl, h', tk, c', rfl, hS', hc', hk'⟩ := hr₂
            repeat (any_goals (first | assumption | wp_step))
            exact h _ _ _ hS' hc' hk'
          | _ => exact hr₂.elim
    | _ => exact hr.elim
theorem call_setM_tuple {l : Addr} {items : Array Value} (ks : List Key) {Q : Value → Shared → Prop} (hh : A.handled = none) (hl : s.heap.IsTuple l items) (hit : KeysAre items.toList ks) (hb : ks.length + 1 < scanBound)
    (h : ∀ (h' : Heap) (tk c : Nat), SetM P w h' s.heap.objs.size (fun j => inL ks j) c → c ≤ ks.length → (∀ b o, s.heap.get? b = some o → h'.get? b = some o) → Q (.ref s.heap.objs.size) { s with heap := h', toks := tk }) :
    wpAny (model P w) A (call (.type "set") [.ref l]) Q E s := by
  have hisz : items.size = ks.length := by
    have q := hit.1
    rw [Array.length_toList] at q
    exact q
  obtain ⟨c, tl, hmro⟩ := F.called_set.mro
  have hmade := F.called_set.made
  have hsub := F.called_set.sub
  refine wpAny_call (codeAny_of_tree ?_)
  show wpAny _ _ (callAny (.type "set") _) _ _ _
  refine wpAny_pure ⟨Code.quiet_builtin _ (by decide +kernel), codeAny_builtin F.entry_type_call ?_⟩
  rw [Around.under_plain (weight_type_call_type "set" [.ref l] []) rfl]
  have h1 := F.called_set.notType
  have h2 := F.called_set.canCreate
  have hct := F.typeCall_set_1 (.ref l)
  repeat (any_goals (first | assumption | wp_step))

  refine codeAny_mono (code_set_led1 (.ref l) (E := E) (Q₁ := fun obj s₁ => obj = .ref s.heap.objs.size ∧ s₁ = { s with heap := s.heap.push { cls := .type "set", dict := none, data := .set #[] 0 (.fresh 0 0 (!w.params.followText "set-order")) } }) ⟨rfl, rfl⟩) fun r s₁ hr => ?_
  cases r with
  | error e => exact hr
  | ok fl =>
    cases fl with
    | ret obj =>
      obtain ⟨rfl, rfl⟩ := hr
      have hS : (s.heap.push { cls := .type "set", dict := none, data := .set #[] 0 (.fresh 0 0 (!w.params.followText "set-order")) }).get? s.heap.objs.size = some { cls := .type "set", dict := none, data := .set #[] 0 (.fresh 0 0 (!w.params.followText "set-order")) } := Heap.get?_push_size _ rfl
      have hT : Shared.TypeIs { s with heap := s.heap.push { cls := .type "set", dict := none, data := .set #[] 0 (.fresh 0 0 (!w.params.followText "set-order")) } } (.ref s.heap.objs.size) "set" := ⟨_, hS, rfl⟩
      have hli := F.called_set.init.lookup
      have hbi := F.called_set.init.bind (.ref s.heap.objs.size)
      repeat (any_goals (first | assumption | wp_step))

      refine codeAny_mono (codeAny_call_builtin (R := wants (fun r s₂ => r = .none ∧ ∃ h' tk c, s₂ = { s with heap := h', toks := tk } ∧ SetM P w h' s.heap.objs.size (fun j => inL ks j) c ∧ c ≤ ks.length ∧
          (∀ b o, s.heap.get? b = some o → h'.get? b = some o)) E) F.called_set.init.plain F.entry_set_init (check_set_init_1 hT ?_)) fun r₂ s₂ hr₂ => ?_
      · obtain ⟨ol, hol, hcl, nl, hdl⟩ := hl
        obtain ⟨ocls, odict, odata, oslots⟩ := ol
        simp only at hcl hdl
        subst hcl; subst hdl
        have hol' : (s.heap.push { cls := .type "set", dict := none, data := .set #[] 0 (.fresh 0 0 (!w.params.followText "set-order")) }).get? l = some { cls := .type "tuple", dict := odict, data := .seq items nl, slots := oslots } := Heap.get?_push_of_some _ hol
        have hsls := F.sub_tuple_set
        have hslf := F.sub_tuple_frozenset
        have hne : (Value.type "tuple" == Value.type "dict") = false := by decide
        have hl1 : (s.heap.push { cls := .type "set", dict := none, data := .set #[] 0 (.fresh 0 0 (!w.params.followText "set-order")) }).IsTuple l items := ⟨_, hol', rfl, nl, rfl⟩
        unfold Builtin.«set.__init__» noKeywords Builtin.Frozenset.updateFrom
        generalize hPI : pyIter = PI
        wp_walk
        subst hPI

        refine wpAny_pyIter_tuple hl1 ?_
        refine wpAny_bind (wpAny_runValue ?_)
        have hlS : l < s.heap.objs.size := Heap.lt_size hol
        have hh3 : A.in1.in1.in1.handled = none := by simp [hh]
        have hz1 : (s.heap.push { cls := .type "set", dict := none, data := .set #[] 0 (.fresh 0 0 (!w.params.followText "set-order")) }).objs.size = s.heap.objs.size + 1 := Heap.size_push ..
        have hneI : l ≠ (s.heap.push { cls := .type "set", dict := none, data := .set #[] 0 (.fresh 0 0 (!w.params.followText "set-order")) }).objs.size := by
          rw [Heap.size_push]; exact Nat.ne_of_lt (Nat.lt_succ_of_lt hlS)
        have hSf : s.heap.objs.size ∉ [(s.heap.push { cls := .type "set", dict := none, data := .set #[] 0 (.fresh 0 0 (!w.params.followText "set-order")) }).objs.size, l] := by
          rw [Heap.size_push]; simp only [List.mem_cons, List.mem_singleton, List.not_mem_nil, or_false, not_or]
          exact ⟨Nat.ne_of_lt (Nat.lt_succ_self _), Nat.ne_of_gt hlS⟩
        have hval : ∀ (i : Nat) (v : Value), items[i]? = some v → ∃ k, ks[i]? = some k ∧ keyIs k v = true := fun i v hv => hit.2 i v (by rw [Array.getElem?_toList]; exact hv)
        refine setM_update ((Walks.tuple hh3 _ l hneI items).toS) s.heap.objs.size
          hSf ks hisz hb hval (items.size - 0) 0 _ (by omega) (Nat.zero_le _)
          ⟨⟨_, Heap.get?_push_size _ rfl, rfl, rfl⟩, (hl1.push _)⟩ ?hS0 ?hR
        case hS0 =>
          have hget : ((s.heap.push { cls := .type "set", dict := none, data := .set #[] 0 (.fresh 0 0 (!w.params.followText "set-order")) }).push { cls := .type "tuple_iterator", data := .fields #[.ref l, .int 0 0] }).get? s.heap.objs.size = some { cls := .type "set", dict := none, data := .set #[] 0 (.fresh 0 0 (!w.params.followText "set-order")) } := Heap.get?_push_of_some _ hS
          exact ⟨0, Nat.le_refl 0, (SetM.new hget).congr fun k => by simp [inL]⟩
        case hR =>
          intro s' c' hm hc' hS'
          obtain ⟨h', g2, d', tk', os'⟩ := s'
          have eg : g2 = s.gens := hm.gens
          have ed : d' = s.drawn := hm.drawn
          have eo : os' = s.os := hm.os
          subst eg; subst ed; subst eo
          show wpAny _ _ _ _ _ _
          refine wpAny_pure ?_
          show wpAny _ _ (ret Value.none) _ _ _
          rw [hisz] at hc'
          refine wpAny_pure ⟨rfl, h', tk', c', rfl, hS', hc', fun b o e => ?_⟩
          have hb0 : b < s.heap.objs.size := Heap.lt_size e
          have hb1 : b ≠ s.heap.objs.size := Nat.ne_of_lt hb0
          have hb2 : b ≠ (s.heap.push { cls := .type "set", dict := none, data := .set #[] 0 (.fresh 0 0 (!w.params.followText "set-order")) }).objs.size := by
            rw [Heap.size_push]; exact Nat.ne_of_lt (Nat.lt_succ_of_lt hb0)
          exact hm.heap b o (by simp only [List.mem_cons, List.mem_singleton, List.not_mem_nil, or_false, not_or]; exact ⟨hb1, hb2⟩) (Heap.get?_push_of_some _ (Heap.get?_push_of_some _ e))

      · cases r₂ with
        | error e => exact hr₂
        | ok fl₂ =>
          cases fl₂ with
          | ret r =>
            obtain ⟨rfl, h', tk, c', rfl, hS', hc', hk'⟩ := hr₂
            repeat (any_goals (first | assumption | wp_step))
            exact h _ _ _ hS' hc' hk'
          | _ => exact hr₂.elim
    | _ => exact hr.elim
end
end LG
end

section
set_option maxHeartbeats 4000000
namespace LG
open PySem PySem.Spec PyProof.Rows L2
section
variable {P : Program} {w : World} {A : Around} {E : Value → Shared → Prop} {s : Shared}
/-! ### sorted -/
theorem strs_out : ∀ (l : List Value), (∀ v ∈ l, ∃ x t, v = Value.str x t) → StrsAre l (l.map strOf) := fun l h => strsAre_map l h
theorem sorted_setM {a : Addr} {S : Key → Bool} {n : Nat} {Q : Value → Shared → Prop} (R : SetM P w s.heap a S n) (hh : A.handled = none) (h64 : n < 64) (hS : ∀ i, S (.inl i) = false)
    (hQ : ∀ s' p (out : Array Value) (c : Nat) (ys : List Str), (∀ b o, s.heap.get? b = some o → s'.heap.get? b = some o) → s'.gens = s.gens → s'.os = s.os → s.heap.objs.size ≤ p →
      s'.heap.get? p = some (seqObj "list" out c) → StrsAre out.toList ys → sortedS ys = true → ys.Nodup → (∀ x, x ∈ ys ↔ S (.inr x) = true) → ys.length = n → Q (.ref p) s') :
    wpAny (model P w) A (call (.builtin "sorted") [.ref a]) Q E s := by
  obtain ⟨o, es, ep, t, ho, hex, hd, g, nd, hm, hb, hf, hn, hr, hl⟩ := R
  refine Calls.call_function_entry kind_sorted plain_sorted entry_sorted (args_sorted1 _) ?_
  unfold Builtin.«sorted»
  refine wpAny_bind (m := checkCount "sorted" 1 1 _) (wpAny_pure ?_)
  refine wpAny_bind (collect_set (A := A.in1) hh ⟨o, ho, hex.1, hd⟩ hf hb hr hl fun s1 vs k1 hz g1 o1 pm => ?_)
  have hvl : vs.length = n := by rw [pm.length_eq, List.length_map, Array.length_toList]; exact hn
  have allS : ∀ v ∈ vs, ∃ x t, v = Value.str x t := fun v hv => by
    obtain ⟨e, he, rfl⟩ := List.mem_map.mp (pm.mem_iff.mp hv)
    obtain ⟨k, h1, _⟩ := g e he
    rcases keyIs_shape h1 with ⟨i, t, rfl, h2⟩ | ⟨x, t, rfl, h2⟩
    · have z := (hm (.inl i)).2 (List.mem_map.mpr ⟨e, he, (dec_of (k := .inl i) (v := e.2) h1).1⟩)
      rw [hS i] at z
      cases z
    · exact ⟨x, t, h2⟩
  have hI : StrsAre vs (vs.map strOf) := strs_out vs allS
  have pk : (vs.map decK).Perm (es.toList.map entK) := by
    have q := pm.map decK
    rw [List.map_map] at q
    exact q
  have dk : vs.map decK = (vs.map strOf).map Sum.inr := by
    rw [List.map_map]
    refine List.map_congr_left fun v hv => ?_
    obtain ⟨x, t, rfl⟩ := allS v hv
    rfl
  rw [dk] at pk
  refine wpAny_bind (wpAny_newList ?_ (by rw [hvl, sizeLine_eq]; omega))
  have hoL : (s1.heap.push (seqObj "list" vs.toArray 0)).get? s1.heap.objs.size = some (seqObj "list" vs.toArray 0) := Heap.get?_push_size _ rfl
  refine wpAny_bind (wpAny_holding (wpAny_call_entry slot_list_sort ⟨_, hoL, rfl⟩ entry_list_sort (list_sort_treeK strKind_oneLt hoL hI.keysOf (fun v₁ v₂ rest e => keyKind_strs (by rw [← e]; exact hI)) (by rw [hvl]; exact h64) fun st' hp hs => ⟨_, rfl, ?_⟩) (args_list_sort _)))
  obtain ⟨ys, a1, a2, a3⟩ := sorted_out_str hI hp hs
  obtain ⟨c, hc⟩ := sortedHeap_at (vs := vs) (out := (arrOf st').map (·.2)) hoL
  have pn : (ys.map Sum.inr : List Key).Perm (es.toList.map entK) := (a2.map Sum.inr).trans pk
  refine wpAny_pure ⟨_, rfl, hQ _ s1.heap.objs.size ((arrOf st').map (·.2)) c ys (fun b u e => ?_) g1 o1 hz hc a1 a3 (nodup_of_map (pn.nodup_iff.mpr nd)) (fun x => ?_) ?_⟩
  · have q := k1 b u e
    have hlt := Heap.lt_size q
    show (sortedHeap (s1.heap.push (seqObj "list" vs.toArray 0)) s1.heap.objs.size vs ((arrOf st').map (·.2))).get? b = some u
    rw [sortedHeap_old (Nat.ne_of_lt hlt) (by rw [size_push']; exact Nat.lt_succ_of_lt hlt)]
    exact Heap.get?_push_of_some _ q
  · rw [hm (.inr x), ← pn.mem_iff, List.mem_map]
    exact ⟨fun h => ⟨x, h, rfl⟩, fun ⟨y, h, e⟩ => by cases e; exact h⟩
  · have z := pn.length_eq
    rw [List.length_map, List.length_map] at z
    exact z.trans (Array.length_toList.trans hn)
end
/-! ### as objects that are followed -/
def SetMO (P : Program) (w : World) (a : Addr) (S : Key → Bool) (n : Nat) : HO := .ext fun h => SetM P w h a S n
theorem setMO_new {w : World} {P : Program} {H : Hp} {h : Heap} {a : Addr} {S : Key → Bool} {n : Nat} (R : SetM P w h a S n) : ObjOk P w H h a (SetMO P w a S n) := by
  have ⟨o, _, _, _, ho, _⟩ := R
  exact ⟨R, ⟨o, ho⟩, fun h1 h2 p k => p.at k⟩
section
variable {X : Cx} {pins : List (Addr × Obj)} {σ : L2.St} {H : Hp} {s : Shared}
theorem setMO_get {a : Addr} {S : Key → Bool} {n : Nat} (I : Inv X pins σ H s) (ha : H a = some (SetMO X.prog X.w a S n)) : SetM X.prog X.w s.heap a S n := (I.hok a _ ha).1
/-- set(xs), xs a list or a tuple of ints and texts -/
def rSetOfK (K : PySem.W.Frag) (P : Program) (w : World) : List V → Hp → VK → Prop := fun xs H Q => ∃ (l : Addr) (ks : List Key), xs = [V.ref l] ∧ (SqL K H l (ks.map kV) ∨ SqT K H l (ks.map kV)) ∧ ks.length + 1 < scanBound ∧
  ∀ a c, H a = none → c ≤ ks.length → Q (.ref a) (upd H a (SetMO P w a (fun j => inL ks j) c))
theorem cr_setOfK (hc : X.calm = true) : CallR X (.type "set") (rSetOfK X.K X.prog X.w) := by
  intro pins s σ H xs us Q I r h
  obtain ⟨l, ks, rfl, hl, hb, q⟩ := h
  rw [Vals.ref1 r]
  have hn : H s.heap.objs.size = none := I.hok.fresh (Nat.le_refl _)
  rcases hl with hl | hl
  · obtain ⟨its, rv, pl, hz⟩ := I.list hl
    exact call_setM_list (P := X.prog) (w := X.w) ks (I.ok.hd hc) pl.isList (by simpa using keysAre_of rv) hb fun h' tk c R hc' k =>
      ⟨.ref s.heap.objs.size, upd H s.heap.objs.size (SetMO X.prog X.w s.heap.objs.size _ c), I.laid (t' := tk) k (Nat.le_refl _) (setMO_new R), rfl, q _ c hn hc'⟩
  · obtain ⟨its, rv, pl, hz⟩ := I.tuple hl
    exact call_setM_tuple (P := X.prog) (w := X.w) ks (I.ok.hd hc) pl (by simpa using keysAre_of rv) hb fun h' tk c R hc' k =>
      ⟨.ref s.heap.objs.size, upd H s.heap.objs.size (SetMO X.prog X.w s.heap.objs.size _ c), I.laid (t' := tk) k (Nat.le_refl _) (setMO_new R), rfl, q _ c hn hc'⟩
/-- sorted(found), texts, fewer than 64 -/
def rSortedM (P : Program) (w : World) : List V → Hp → VK → Prop := fun vs H Q => ∃ (a : Addr) (S : Key → Bool) (n : Nat), vs = [V.ref a] ∧ H a = some (SetMO P w a S n) ∧ n < 64 ∧ (∀ i, S (.inl i) = false) ∧
  ∀ (ys : List Str) (p : Addr), sortedS ys = true → ys.Nodup → (∀ x, x ∈ ys ↔ S (.inr x) = true) → ys.length = n → H p = none → Q (.ref p) (upd H p (.lst (ys.map V.str)))
theorem cr_sortedM (hc : X.calm = true) : CallR X (.builtin "sorted") (rSortedM X.prog X.w) := by
  intro pins s σ H vs us Q I r h
  obtain ⟨a, S, n, rfl, ha, h64, hS, q⟩ := h
  have R := setMO_get I ha
  rw [Vals.ref1 r]
  refine sorted_setM R (I.ok.hd hc) h64 hS fun s' p out c ys k g o hp hg hi hs nd hm hl => ?_
  have hlen : (ys.map V.str).length ≤ sizeLine := by rw [List.length_map, hl, sizeLine_eq]; omega
  have hn : H p = none := I.hok.fresh hp
  have J : Inv X pins σ (upd H p (.lst (ys.map V.str))) { s with heap := s'.heap, gens := s'.gens, drawn := s'.drawn, toks := s'.toks } :=
    I.call (ch := []) (Un.laid k hp hn) (I.hok.laid k hp ⟨hlen, out.toList, c, vals_of_strs hi, hg⟩) (by rw [g]; exact I.bare) (fun _ z => nomatch z)
  have e : s' = { s with heap := s'.heap, gens := s'.gens, drawn := s'.drawn, toks := s'.toks } := by
    cases s'
    cases s
    cases o
    rfl
  rw [e]
  exact ⟨.ref p, _, J, rfl, q ys p hs nd hm hl hn⟩
end
end LG
end

section
set_option maxHeartbeats 4000000
namespace LG
open PySem PySem.Spec PyProof.Rows L2
open PpSet (compLoopS_any codeAny_compStart_set eval_SetComp newSet_ok)
/-! ### the set comprehension -/
section
variable {X : Cx}
theorem addM_ok {pins : List (Addr × Obj)} {σ : L2.St} {H : Hp} {s : Shared} {E : Value → Shared → Prop} {D : Addr} {S : Key → Bool} {n : Nat} {k : Key} {v : Value} {Q : Value → Shared → Prop} (hkey : keyIs k v = true) (I : Inv X pins σ H s) (hD : H D = some (SetMO X.prog X.w D S n)) (room : n + 1 < scanBound)
    (h : ∀ s', Inv X pins σ (upd H D (SetMO X.prog X.w D (fun j => S j || decide (j = k)) (if S k = true then n else n + 1))) s' → Q .none s') : wpAny (model X.prog X.w) X.A (call (.builtin "set.add") [.ref D, v]) Q E s := by
  refine setM_add hkey (setMO_get I hD) room fun h' sb new => ?_
  have he : ∃ u, h'.get? D = some u := by
    have ⟨o, _, _, _, ho, _⟩ := new
    exact ⟨o, ho⟩
  exact h _ (I.write (e := D) (t' := s.toks + 1) (by rw [hD]; trivial) (.inl rfl) (fun b u hb hu => (sb.2 b hb).trans hu) he (setMO_new new))
/-- len(found) -/
def rLenM (P : Program) (w : World) : List V → Hp → VK → Prop := fun xs H Q => ∃ (a : Addr) (S : Key → Bool) (n : Nat), xs = [.ref a] ∧ H a = some (SetMO P w a S n) ∧ Q (.int n) H
theorem call_lenM : CallR X (.builtin "len") (rLenM X.prog X.w) := by
  intro pins s σ H xs us Q I r h
  obtain ⟨a, S, n, rfl, ha, q⟩ := h
  obtain ⟨o, es, ep, t, ho, hex, hd, _, _, _, hb, hf, hn, _⟩ := setMO_get I ha
  rw [Vals.ref1 r]
  have hsb : es.size < 2 ^ 63 := Nat.lt_of_lt_of_le hb (by decide)
  refine call_len_set ho hex hd hf (by exact_mod_cast hsb) ⟨.int n, H, I.tok _, ⟨s.toks + 1, by rw [hn]⟩, q⟩
def tScK (P : Program) (w : World) (wi : TI) (g : TG) (tt : TT) (te : TE) (vs : List Nat) : TE := fun σ H Q => wi σ H fun J H1 => ∀ D, H1 D = none → ∃ W : Nat → Nat → Hp → Prop, (∃ m, W 0 m (upd H1 D (SetMO P w D (fun _ => false) 0))) ∧ ∀ i m H, W i m H →
  (J.stop i H ∧ Q (.ref D) H) ∨ (J.go i H ∧ ∃ Nx : Hp → Prop, (∀ H', Nx H' → ∃ m', m' < m ∧ W (i + 1) m' H') ∧ ∀ x H', J.yld i H x H' → g x (wipe σ vs) H' fun σ2 H2 => wipe σ2 vs = wipe σ vs ∧ tt σ2 H2 fun b H3 =>
    if b = true then te σ2 H3 fun y H4 => ∃ (c : Key) (S : Key → Bool) (n : Nat), y = kV c ∧ H4 D = some (SetMO P w D S n) ∧ n + 1 < scanBound ∧ Nx (upd H4 D (SetMO P w D (fun j => S j || decide (j = c)) (if S c = true then n else n + 1))) else Nx H3)
theorem scK_core {pins : List (Addr × Obj)} {s : Shared} {σ : L2.St} {H : Hp} {Q : VK} {elt tg iter : Expr} {ifs : List Expr} {scope : Scope} {own : List (PySem.Str × Nat)} {pos pos' : Pos} {wi : TI} {g : TG} {tt : TT} {te : TE} {use : Option (Value → Sem Unit)} {Qf : Value → Shared → Prop}
    (hc : X.calm = true) (hN : X.N.Nodup) (I : Inv X pins σ H s) (hi : PI X tg iter wi) (ok : BlkOk X.N X.env.scope scope own)
    (hg : ∀ (s : Shared) (H : Hp) (C : Addr) (cl : List (PySem.Str × Addr)) (fp : List Addr), PG (X.blk s H scope (compEnvC scope cl C X.env) fp) tg g) (ht : ∀ (s : Shared) (H : Hp) (C : Addr) (cl : List (PySem.Str × Addr)) (fp : List Addr), PTs (X.blk s H scope (compEnvC scope cl C X.env) fp) ifs tt)
    (he : ∀ (s : Shared) (H : Hp) (C : Addr) (cl : List (PySem.Str × Addr)) (fp : List Addr), PE (X.blk s H scope (compEnvC scope cl C X.env) fp) elt te) (hs : ∀ x, foldedSetIterable iter X.env x = pure x)
    (h : tScK X.prog X.w wi g tt te (own.map (·.2)) σ H Q)
    (hRR : ∀ D C s' m H', Inv X pins σ H' s' → Q (.ref D) H' → s'.heap.Ns C m → FpOk X pins H' C → compPost (model X.prog X.w) X.A X.xe use Qf (.ref D) C (.ok .next) s') :
    wpAny (model X.prog X.w) X.A (comprehension (.SetComp elt [⟨tg, iter, ifs, 0⟩] scope pos) scope X.env pos' (newSet (.type "set")) false (eval iter X.env) use) Qf X.xe s := by
  have hfree : ∀ y ∈ scope.names, y.2 = .free → ∃ c, X.env.cells.lookup y.1 = some c := fun y hy e => by
    rcases ok.free y hy e with k | k
    · exact I.ok.has _ (.inl k)
    · exact I.ok.has _ (.inr k)
  refine wpAny_comprehension_free (use := use) rfl hs (closure_ok hfree) ok.kind (fun y hy e => by rw [ok.uniq y hy, e])
    (thn (hi.run pins s σ H _ I h) fun xv s1 hx => thn hx fun itv s2 h2 => ?_)
  obtain ⟨it, fp, tn, J, H2, e, I2, T, st2, f2, q⟩ := h2
  subst e
  refine newSet_ok (newEnv_comp ?_)
  generalize hD : s2.heap.objs.size = D
  have hDn : H2 D = none := I2.hok.fresh (Nat.le_of_eq hD)
  obtain ⟨W, ⟨m0, w0⟩, turn⟩ := q D hDn
  -- the new list
  generalize hs3 : ({ s2 with heap := s2.heap.push { cls := .type "set", dict := none, data := .set #[] 0 (.fresh 0 0 (!X.w.params.followText "set-order")) } } : Shared) = s3
  have I3 : Inv X pins σ (upd H2 D (SetMO X.prog X.w D (fun _ => false) 0)) s3 := by
    rw [← hs3]
    refine I2.laid (t' := s2.toks) (fun b o e => Heap.get?_push_of_some _ e) (Nat.le_of_eq hD) ?_
    rw [← hD]
    exact setMO_new (SetM.new (Heap.get?_push_size _ rfl))
  have h3 : s3.heap = s2.heap.push { cls := .type "set", dict := none, data := .set #[] 0 (.fresh 0 0 (!X.w.params.followText "set-order")) } := by rw [← hs3]
  have sz : ∀ b ∈ fp, b < s2.heap.objs.size := fun b hb => by
    obtain ⟨o, e, _⟩ := T.obj _ _ st2 b hb
    exact Heap.lt_size e
  have f3 : ∀ b ∈ fp, FpOk X pins (upd H2 D (SetMO X.prog X.w D (fun _ => false) 0)) b ∧ b < s3.heap.objs.size := fun b hb => by
    have hlt := sz b hb
    refine ⟨⟨?_, (f2 b hb).2⟩, by rw [h3, Heap.size_push]; exact Nat.lt_succ_of_lt hlt⟩
    rw [upd_ne (by rw [← hD]; exact Nat.ne_of_lt hlt)]
    exact (f2 b hb).1
  have st3 : tn 0 s3.heap := T.keep _ _ _ st2 fun b _ o e => by rw [h3]; exact Heap.get?_push_of_some _ e
  have I4 := block_start I3 ok hN f3
  have pg := hg s3 (upd H2 D (SetMO X.prog X.w D (fun _ => false) 0)) s3.heap.objs.size (cellsFrom (s3.heap.objs.size + 1) scope.names (cloFrom X.env.cells scope.names [])) fp
  have pt := ht s3 (upd H2 D (SetMO X.prog X.w D (fun _ => false) 0)) s3.heap.objs.size (cellsFrom (s3.heap.objs.size + 1) scope.names (cloFrom X.env.cells scope.names [])) fp
  have pe := he s3 (upd H2 D (SetMO X.prog X.w D (fun _ => false) 0)) s3.heap.objs.size (cellsFrom (s3.heap.objs.size + 1) scope.names (cloFrom X.env.cells scope.names [])) fp
  show codeAny _ _ (.compStart (.SetComp elt [⟨tg, iter, ifs, 0⟩] scope pos) 0 (.ref it) (.ref D) (compEnvC scope (cellsFrom (s3.heap.objs.size + 1) scope.names (cloFrom X.env.cells scope.names [])) s3.heap.objs.size X.env)) (compPost (model X.prog X.w) X.A X.xe use Qf (.ref D) s3.heap.objs.size) { s3 with heap := pushCells (s3.heap.push { cls := .type "dict", data := .dict #[] }) scope.names }
  have nfp : ∀ b ∈ fp, (upd H2 D (SetMO X.prog X.w D (fun _ => false) 0)) b = none := fun b hb => (f3 b hb).1.1
  generalize hce : compEnvC scope (cellsFrom (s3.heap.objs.size + 1) scope.names (cloFrom X.env.cells scope.names [])) s3.heap.objs.size X.env = ce at I4 pg pt pe ⊢
  have cL : ce.locals = s3.heap.objs.size := by subst hce; rfl
  generalize hH3 : upd H2 D (SetMO X.prog X.w D (fun _ => false) 0) = H3 at I3 I4 pg pt pe w0 nfp f3
  generalize hs4 : ({ s3 with heap := pushCells (s3.heap.push { cls := .type "dict", data := .dict #[] }) scope.names } : Shared) = s4 at I4 ⊢
  have st4 : tn 0 s4.heap := T.keep _ _ _ st3 fun b _ o e => by rw [← hs4]; exact pushCells_keeps _ _ _ _ (Heap.get?_push_of_some _ e)
  have stat : ∀ {σ' : L2.St} {H' : Hp} {s' : Shared}, Inv (X.blk s3 H3 scope ce fp) [] σ' H' s' → (∀ b ∈ fp, H' b = none) → ∀ b ∈ fp, FpOk (X.blk s3 H3 scope ce fp) [] H' b := fun {σ' H' s'} I' hn b hb =>
    ⟨hn b hb, (I'.ok.exf b hb).1, I'.ok.exfs b hb, .inl hb, fun x c e => (I'.ok.exf b hb).2 x c e, fun p hp => absurd (show p ∈ ([] : List (Addr × Obj)) ++ [] from hp) (by simp)⟩
  have loop : codeAny (model X.prog X.w) X.A (.compLoop (.SetComp elt [⟨tg, iter, ifs, 0⟩] scope pos) 0 (.ref it) (.ref D) ce) (compPost (model X.prog X.w) X.A X.xe use Qf (.ref D) s3.heap.objs.size) s4 := by
    refine compLoopS_any (fun n s' => ∃ i H', Inv (X.blk s3 H3 scope ce fp) [] (wipe σ (own.map (·.2))) H' s' ∧ tn i s'.heap ∧ (∀ b ∈ fp, H' b = none) ∧ W i n H') ?_ m0 ⟨0, H3, I4, st4, nfp, w0⟩
    rintro n s5 ⟨i, H5, I5, st5, n5, w5⟩
    rcases turn i n H5 w5 with ⟨stop, qq⟩ | ⟨go, Nx, hNx, step⟩
    · have td := T.done (X.blk s3 H3 scope ce fp) rfl rfl rfl hc i [] s5 _ H5 (fun _ _ => False) I5 (stat I5 n5) st5 stop
      refine thnF td fun r s6 ⟨hr, I6⟩ => ?_
      subst hr
      -- back in the def's context
      have I7 : Inv X pins σ H5 s6 := I3.call' (ch := fp) I6.os I6.base I6.hok I6.bare fun b hb => ⟨(f3 b hb).1.2.2.2.1, (f3 b hb).1.2.1, (f3 b hb).1.2.2.2.2.1, (f3 b hb).1.2.2.2.2.2⟩
      have nC : H5 s3.heap.objs.size = none := by
        have z : H5 ce.locals = none := I6.free
        rw [cL] at z
        exact z
      obtain ⟨m, hn, _⟩ := I6.loc
      have hn : s6.heap.Ns ce.locals m := hn
      rw [cL] at hn
      exact hRR D s3.heap.objs.size s6 m H5 I7 qq hn (I3.fpOk (Nat.le_refl _) nC)
    · have ti := T.item (X.blk s3 H3 scope ce fp) rfl rfl rfl hc i [] s5 _ H5 (fun _ _ => False) I5 (stat I5 n5) st5 go
      refine thnF ti fun r s6 ⟨u, hr, h6⟩ => ?_
      subst hr
      refine thnF h6 fun _ s7 ⟨x, H7, I7, r7, y7, st7, n7⟩ => ?_
      have I7' := I7.pinned (stat I7 n7) (T.obj _ _ st7)
      refine thnF (pg.run _ s7 _ H7 x u _ I7' r7 (step x H7 y7)) fun _ s8 ⟨σ8, H8, I8, hw8, q8⟩ => ?_
      refine thnF (pt.run _ s8 σ8 H8 _ I8 q8) fun b s9 ⟨H9, I9, q9⟩ => ?_
      -- the turn's end
      have fin : ∀ {s' : Shared} {H' : Hp}, Inv (X.blk s3 H3 scope ce fp) ([] ++ pinsAt fp s7.heap) σ8 H' s' → Nx H' → ∃ m, m < n ∧ ∃ i H', Inv (X.blk s3 H3 scope ce fp) [] (wipe σ (own.map (·.2))) H' s' ∧ tn i s'.heap ∧ (∀ b ∈ fp, H' b = none) ∧ W i m H' := fun {s' H'} I' nx => by
        obtain ⟨m', hm, w'⟩ := hNx H' nx
        have pin' : ∀ b ∈ fp, ∀ o, s7.heap.get? b = some o → s'.heap.get? b = some o ∧ H' b = none := fun b hb o e =>
          let z := I'.pin (b, o) (List.mem_append_right _ (List.mem_append_right _ (mem_pinsAt hb e)))
          ⟨z.1, z.2.1⟩
        have hl : (wipe σ (own.map (·.2))).length = σ8.length := by rw [← hw8, wipe_length]
        refine ⟨m', hm, i + 1, H', (I'.unpinned (pins := [])).weak hl (fun j v e => ?_), T.keep _ _ _ st7 fun b hb o e => (pin' b hb o e).1, fun b hb => ?_, w'⟩
        · rw [← hw8] at e
          exact (wipe_some e).1
        · obtain ⟨o, e, _⟩ := T.obj _ _ st7 b hb
          exact (pin' b hb o e).2
      cases b with
      | false =>
        simp only [Bool.false_eq_true, if_false] at q9 ⊢
        exact fin I9 q9
      | true =>
        simp only [if_true] at q9 ⊢
        refine thnF (pe.run _ s9 σ8 H9 _ I9 q9) fun z s10 ⟨yv, H10, I10, r10, cb, S0, n0, ey, hD10, hz10, nx⟩ => ?_
        subst ey
        exact addM_ok (X := X.blk s3 H3 scope ce fp) (kV_keyIs r10) I10 hD10 hz10 fun s11 I11 => fin I11 nx
  exact codeAny_compStart_set loop (T.self X.A 0 _ _ _ st4 loop)
/-- as a value -/
theorem pe_scK {elt tg iter : Expr} {ifs : List Expr} {scope : Scope} {own : List (PySem.Str × Nat)} {pos : Pos} {wi : TI} {g : TG} {tt : TT} {te : TE} (hc : X.calm = true) (hN : X.N.Nodup) (hi : PI X tg iter wi) (ok : BlkOk X.N X.env.scope scope own)
    (hg : ∀ (s : Shared) (H : Hp) (C : Addr) (cl : List (PySem.Str × Addr)) (fp : List Addr), PG (X.blk s H scope (compEnvC scope cl C X.env) fp) tg g) (ht : ∀ (s : Shared) (H : Hp) (C : Addr) (cl : List (PySem.Str × Addr)) (fp : List Addr), PTs (X.blk s H scope (compEnvC scope cl C X.env) fp) ifs tt)
    (he : ∀ (s : Shared) (H : Hp) (C : Addr) (cl : List (PySem.Str × Addr)) (fp : List Addr), PE (X.blk s H scope (compEnvC scope cl C X.env) fp) elt te) (hs : ∀ x, foldedSetIterable iter X.env x = pure x := by intro _; rfl) :
    PE X (.SetComp elt [⟨tg, iter, ifs, 0⟩] scope pos) (tScK X.prog X.w wi g tt te (own.map (·.2))) := by
  refine ⟨fun pins s σ H Q I h => ?_⟩
  rw [eval_SetComp]
  refine scK_core hc hN I hi ok hg ht he hs h fun D C s' m H' I' q hn f => ⟨m, hn, fun h'' sb => ?_⟩
  obtain ⟨f0, f1, f2, f3, f4, f5⟩ := f
  exact ⟨.ref D, H', I'.turned (t' := s'.toks) (fun b o hb e => (sb.2 b hb).trans e) f0 f1 f3 f4 f5, rfl, q⟩
end
end LG
end

section
set_option maxHeartbeats 4000000
namespace LG
open PySem PySem.Spec PyProof.Rows L2
/-! ### == of dicts, whatever the answer -/
def sameV : V → V → Bool
  | .bl a, .bl b => a == b
  | .int a, .int b => a == b
  | .str a, .str b => a == b
  | _, _ => false
/-- of one kind: two truth values, two ints, two texts -/
def alikeV : V → V → Bool
  | .bl _, .bl _ => true
  | .int _, .int _ => true
  | .str _, .str _ => true
  | _, _ => false
theorem sameV_eq {x y : V} (h : sameV x y = true) : x = y := by
  cases x <;> cases y <;> simp_all [sameV]
theorem sameV_refl {x : V} (h : alikeV x x = true) : sameV x x = true := by
  cases x <;> simp_all [sameV, alikeV]
theorem alike_run {P : Program} {w : World} {A : Around} {s : Shared} {x y : V} {v u : Value} (h : alikeV x y = true) (rx : RelV x v) (ry : RelV y u) : SeqAt.EqP P w A s v u (sameV x y) := by
  cases x <;> cases y <;> simp only [alikeV, Bool.false_eq_true] at h
  · cases rx; cases ry
    exact SeqAt.EqAt.eqP (SeqAt.EqAt.bool_bool _ _)
  · obtain ⟨t, rfl⟩ := rx
    obtain ⟨t', rfl⟩ := ry
    exact SeqAt.EqAt.eqP (SeqAt.EqAt.int_int _ _ _ _)
  · obtain ⟨t, rfl⟩ := rx
    obtain ⟨t', rfl⟩ := ry
    exact SeqAt.EqAt.eqP (SeqAt.EqAt.str_str _ _ _ _)
/-- do the dicts hold the same -/
def sameD {κ : Type} [DecidableEq κ] (ks ls : List (κ × V)) : Bool := decide (ks.length = ls.length) && ks.all fun p => match valV ls p.1 with
  | some v => sameV p.2 v
  | none => false
def Alike {κ : Type} [DecidableEq κ] (ks ls : List (κ × V)) : Prop := ∀ p ∈ ks, ∀ v, valV ls p.1 = some v → alikeV p.2 v = true
theorem hitsK {P : Program} {w : World} {A : Around} {s : Shared} {ls : List (Key × V)} {vb : List (Key × Value)} (rb : KV ls vb) {ks : List (Key × V)} {va : List (Key × Value)} (ra : KV ks va) :
    (∀ p ∈ ks, ∀ v, valV ls p.1 = some v → alikeV p.2 v = true) → PySem.W.KeqHitsP P w A s vb va (ks.all fun p => match valV ls p.1 with
      | some v => sameV p.2 v
      | none => false) := by
  unfold KV at ra
  induction ra with
  | nil => intro _; exact .nil
  | @cons p q ps qs h t k =>
    intro hp
    obtain ⟨h1, h2⟩ := h
    obtain ⟨key, v⟩ := q
    have h1' : p.1 = key := h1
    have rr := rb.val p.1
    cases e : valV ls p.1 with
    | none =>
      rw [e] at rr
      cases e2 : valueAt vb p.1 with
      | some _ => rw [e2] at rr; exact (show False from rr).elim
      | none =>
        rw [h1'] at e2
        rw [List.all_cons, e, Bool.false_and]
        exact .miss e2
    | some u =>
      rw [e] at rr
      obtain ⟨y, hy, ry⟩ := rr.some_of
      rw [h1'] at hy
      rw [List.all_cons, e]
      exact .hit hy (alike_run (hp p List.mem_cons_self u e) h2 ry) (k fun p' hm => hp p' (List.mem_cons_of_mem _ hm))
def rEqK : R2 := fun x y H Q => ∃ a b ks ls, x = .ref a ∧ y = .ref b ∧ H a = some (.dK ks) ∧ H b = some (.dK ls) ∧ Alike ks ls ∧ Q (.bl (sameD ks ls)) H
section
variable {X : Cx}
theorem eqOp_ref {A : Around} {E : Value → Shared → Prop} {P : Program} {w : World} {s : Shared} {a b : Addr} {Q : Value → Shared → Prop} (h : wpAny (model P w) A (richCompare .Eq (.ref a) (.ref b)) Q E s) : wpAny (model P w) A (compareOp .Eq (.ref a) (.ref b)) Q E s := by
  show wpAny _ _ (richCompare .Eq (.ref a) (.ref b)) _ _ s
  exact h
theorem op_eqK (hu : X.A.units + 8 < cLine) : OpR X (compareOp .Eq) rEqK := by
  intro pins s σ H x y v u Q I rx ry h
  obtain ⟨a, b, ks, ls, rfl, rfl, ea, eb, hp, q⟩ := h
  obtain rfl : v = Value.ref a := rx
  obtain rfl : u = Value.ref b := ry
  obtain ⟨_, ya, va, ra, da⟩ := (show ObjOk X.prog X.w H s.heap a (.dK ks) from I.hok a _ ea)
  obtain ⟨_, yb, vb, rb, db⟩ := (show ObjOk X.prog X.w H s.heap b (.dK ls) from I.hok b _ eb)
  refine PySem.W.rcP_dicts (knd := mixKind X.prog X.w) ya yb da db (by omega) (fun _ => hitsK rb ra hp) _ _ (fin_bl I q ?_)
  rw [sameD, ra.length, rb.length, Bool.beq_eq_decide_eq]
end
/-! ### dicts whose keys are tuples -/
section
variable {prog : Program} {w : World} {K : Type} [DecidableEq K] {knd : HeapKind prog w K} {A : Around} {E : Value → Shared → Prop} {s : Shared}
inductive HitsH {K : Type} [DecidableEq K] (prog : Program) (w : World) (A : Around) (s : Shared) (kb : List (K × Addr × Value)) : List (K × Addr × Value) → Bool → Prop
  | nil : HitsH prog w A s kb [] true
  | miss {x : K × Addr × Value} {r : List (K × Addr × Value)} : atKey kb x.1 = none → HitsH prog w A s kb (x :: r) false
  | hit {x : K × Addr × Value} {y : Addr × Value} {r : List (K × Addr × Value)} {e b : Bool} : atKey kb x.1 = some y → SeqAt.EqP prog w A s x.2.2 y.2 e → HitsH prog w A s kb r b → HitsH prog w A s kb (x :: r) (e && b)
theorem HitsH.inv {kb : List (K × Addr × Value)} {x : K × Addr × Value} {r : List (K × Addr × Value)} {b : Bool} (h : HitsH prog w A s kb (x :: r) b) :
    (atKey kb x.1 = none ∧ b = false) ∨ ∃ y e b', atKey kb x.1 = some y ∧ SeqAt.EqP prog w A s x.2.2 y.2 e ∧ HitsH prog w A s kb r b' ∧ b = (e && b') := by
  cases h with
  | miss hn => exact .inl ⟨hn, rfl⟩
  | hit hy he hr => exact .inr ⟨_, _, _, hy, he, hr, rfl⟩
theorem pairsH_same {nm : String} {a b : Addr} {ka kb : List (K × Addr × Value)} {r : Bool} {Q : Bool → Shared → Prop} (hroom : knd.room A) (ha : (a == sysModules) = false) (hb : (b == sysModules) = false)
    (da : s.heap.DictOfH knd a ka) (db : s.heap.DictOfH knd b kb) (hits : ka.length = kb.length → HitsH prog w A s kb ka r) (h : Q (ka.length == kb.length && r) s) :
    wpAny (model prog w) A (Builtin.Dict.samePairs nm a b) Q E s := by
  obtain ⟨oa, es, ep, hoa, _, hda, hka, hia, hna⟩ := da
  obtain ⟨ob, es', ep', hob, _, hdb, hkb, hib, hnb⟩ := db
  have hla : ka.length = es.size := (size_of_entries hka).symm
  have hlb : kb.length = es'.size := (size_of_entries hkb).symm
  rw [hla, hlb] at h
  unfold Builtin.Dict.samePairs Builtin.Dict.showsAll
  rw [if_neg (show ¬ (a == sysModules) = true by rw [ha]; exact Bool.false_ne_true), if_neg (show ¬ (b == sysModules) = true by rw [hb]; exact Bool.false_ne_true)]
  refine wpAny_bind (wpAny_pure (wpAny_bind (wpAny_pure ?_)))
  refine wpAny_bind (wpAny_dictEntries hoa hda ?_)
  dsimp only
  refine wpAny_bind (wpAny_dictEntries hob hdb ?_)
  by_cases hsz : es.size = es'.size
  case neg =>
    rw [if_pos (by simpa using hsz)]
    have hbf : (es.size == es'.size) = false := by simpa using hsz
    rw [hbf, Bool.false_and] at h
    exact wpAny_bind (wpAny_rule (wpAny_pure h))
  case pos =>
    have h' : Q r s := by simpa [hsz] using h
    have hits' := hits (by rw [hla, hlb]; exact hsz)
    rw [if_neg (by rw [hsz]; simp)]
    refine wpAny_bind (wpAny_dictEpoch hoa hda ?_)
    refine wpAny_bind ?_
    rw [Std.Legacy.Range.forIn_eq_forIn_range']
    simp only [Std.Legacy.Range.size, Nat.sub_zero, Nat.add_sub_cancel, Nat.div_one]
    refine wpAny_forIn_list _
      (fun rest q s' => s' = s ∧ q = (none, ()) ∧ ∃ i, rest = List.range' i (es.size - i) ∧ i ≤ es.size ∧ HitsH prog w A s kb (ka.drop i) r)
      _ ?_ ?_ _ _ ⟨rfl, rfl, 0, by simp, Nat.zero_le _, hits'⟩
    · rintro x rest q s' ⟨rfl, rfl, i, hr, hi, hpre⟩
      have hlt : i < es.size := by
        rcases Nat.lt_or_ge i es.size with h | h
        · exact h
        · rw [Nat.sub_eq_zero_of_le h] at hr; simp at hr
      obtain ⟨rfl, hrest⟩ : x = i ∧ rest = List.range' (i + 1) (es.size - (i + 1)) := by
        have e : es.size - i = (es.size - (i + 1)) + 1 := by omega
        rw [e, List.range'_succ] at hr
        injection hr with h1 h2
        exact ⟨h1, h2⟩
      refine wpAny_bind (wpAny_dictEntries hoa hda ?_)
      have hlt' : x < ka.length := by rw [hla]; exact hlt
      have hex : es[x]? = some (entryOfKey knd ka[x]) := by rw [entry_at hka x, List.getElem?_eq_getElem hlt']; rfl
      rw [hex]
      have hdrop : ka.drop x = ka[x] :: ka.drop (x + 1) := List.drop_eq_getElem_cons hlt'
      rw [hdrop] at hpre
      have hisx := hia ka[x] (List.getElem_mem hlt')
      generalize ka[x] = X at hpre hisx
      show wpAny _ _ (holding [Value.ref X.2.1, X.2.2] _ >>= _) _ _ _
      refine wpAny_bind (wpAny_holding (wpAny_bind ?_))
      show wpAny _ _ (dictFind b (.ref X.2.1) (knd.hash X.1)) _ _ _
      refine wpAny_dictFind_heap hroom hisx hob hdb hkb hib hnb (fun hn => ?_) fun j p hj => ?_
      · rcases hpre.inv with ⟨_, er⟩ | ⟨y, _, _, hy, _⟩
        · rw [er] at h'
          refine wpAny_pure ?_
          show wpAny _ _ (if (!false) = true then _ else _) _ _ _
          rw [if_pos (by decide)]
          exact wpAny_pure (wpAny_pure h')
        · rw [atKey_none_of_get hn] at hy; exact nomatch hy
      · have hv' : atKey kb X.1 = some p := atKey_of_get hnb hj
        have hje : es'[j]? = some (entryOfKey knd (X.1, p)) := by rw [entry_at hkb j, hj]; rfl
        refine wpAny_bind (wpAny_dictEntries hob hdb ?_)
        rw [hje]
        rcases hpre.inv with ⟨hn, _⟩ | ⟨y, e, b', hy, he, hrr, er⟩
        · rw [hv'] at hn; exact nomatch hn
        · obtain rfl : p = y := Option.some.inj (hv'.symm.trans hy)
          refine wpAny_holding (he _ _ ?_)
          cases e with
          | false =>
            rw [er, Bool.false_and] at h'
            show wpAny _ _ (if (!false) = true then _ else _) _ _ _
            rw [if_pos (by decide)]
            exact wpAny_pure (wpAny_pure h')
          | true =>
            rw [Bool.true_and] at er
            rw [← er] at hrr
            show wpAny _ _ (if (!true) = true then _ else _) _ _ _
            rw [if_neg (by decide)]
            refine wpAny_bind (wpAny_dictEpoch hoa hda ?_)
            rw [if_neg (by simp)]
            exact wpAny_pure ⟨rfl, rfl, x + 1, hrest, hlt, hrr⟩
    · rintro q s' ⟨rfl, rfl, i, hr, hi, hpre⟩
      have hin : i = es.size := by
        rcases Nat.lt_or_ge i es.size with h | h
        · have e : es.size - i = (es.size - (i + 1)) + 1 := by omega
          rw [e, List.range'_succ] at hr; exact nomatch hr
        · exact Nat.le_antisymm hi h
      refine wpAny_pure ?_
      rw [hin, ← hla, List.drop_length] at hpre
      cases hpre
      exact h'
theorem rc_dictsH {a b : Addr} {ka kb : List (K × Addr × Value)} {r : Bool} (hroom : knd.room A.in1) (ha : (a == sysModules) = false) (hb : (b == sysModules) = false)
    (da : s.heap.DictOfH knd a ka) (db : s.heap.DictOfH knd b kb) (hu : A.units < cLine) (hits : ka.length = kb.length → HitsH prog w A.in1 s kb ka r) (E Q : Value → Shared → Prop) (h : Q (.bool (ka.length == kb.length && r)) s) : wpAny (model prog w) A (richCompare .Eq (.ref a) (.ref b)) Q E s := by
  refine wpAny_richCompare_same_room (op := .Eq) da.typeIs db.typeIs PySem.F.slot_dict_eq (wpAny_call_entry PySem.F.slot_dict_eq da.typeIs PySem.F.entry_dict_eq ?_ (PySem.F.args_dict_eq_2 _ _)) hu
  show wpAny _ _ (Builtin.Dict.dictSlotArgs "__eq__" ⟨[.ref a, .ref b], []⟩ >>= _) _ _ s
  refine wpAny_bind ?_
  unfold Builtin.Dict.dictSlotArgs
  refine wpAny_bind (wpAny_notOrdered_dict da.typeIs ?_)
  show wpAny _ _ (pure (Value.ref a, Value.ref b)) _ _ s
  refine wpAny_pure ?_
  refine wpAny_bind (wpAny_isInstance (T := "dict") db.typeIs PySem.F.sub_dict_dict ?_)
  simp only [Bool.not_true, Bool.false_eq_true, if_false]
  refine wpAny_bind (wpAny_pure (wpAny_bind (wpAny_pure ?_)))
  refine wpAny_bind (pairsH_same hroom ha hb da db hits ?_)
  refine wpAny_pure ⟨_, rfl, ?_, ?_⟩
  · exact fun x => nomatch x
  · simpa using h
end
theorem hitsT {P : Program} {w : World} {A : Around} {s : Shared} {H : Hp} {ls : List (List Key × V)} {vb : List (List Key × Addr × Value)} (rb : KT H ls vb) {ks : List (List Key × V)} {va : List (List Key × Addr × Value)} (ra : KT H ks va) :
    (∀ p ∈ ks, ∀ v, valV ls p.1 = some v → alikeV p.2 v = true) → HitsH P w A s vb va (ks.all fun p => match valV ls p.1 with
      | some v => sameV p.2 v
      | none => false) := by
  induction ra with
  | nil => intro _; exact .nil
  | @cons p q ps qs h t k =>
    intro hp
    obtain ⟨h1, _, h2⟩ := h
    have rr := KT.val rb p.1
    cases e : valV ls p.1 with
    | none =>
      rw [e] at rr
      cases e2 : atKey vb p.1 with
      | some z => rw [e2] at rr; exact (show False from rr).elim
      | none =>
        rw [List.all_cons, e, Bool.false_and]
        exact .miss (by rw [← h1]; exact e2)
    | some u =>
      rw [e] at rr
      obtain ⟨y, hy, ry⟩ := rr.some_of
      cases e2 : atKey vb p.1 with
      | none => rw [e2] at hy; cases hy
      | some z =>
        rw [e2] at hy
        cases hy
        rw [List.all_cons, e]
        exact .hit (by rw [← h1]; exact e2) (alike_run (hp p List.mem_cons_self u e) h2 ry) (k fun p' hm => hp p' (List.mem_cons_of_mem _ hm))
def rEqT : R2 := fun x y H Q => ∃ a b ks ls, x = .ref a ∧ y = .ref b ∧ H a = some (.dT ks) ∧ H b = some (.dT ls) ∧ Alike ks ls ∧ Q (.bl (sameD ks ls)) H
section
variable {X : Cx}
theorem op_eqT (hu : X.A.units + 8 < cLine) : OpR X (compareOp .Eq) rEqT := by
  intro pins s σ H x y v u Q I rx ry h
  obtain ⟨a, b, ks, ls, rfl, rfl, ea, eb, hp, q⟩ := h
  obtain rfl : v = Value.ref a := rx
  obtain rfl : u = Value.ref b := ry
  obtain ⟨_, ya, va, ra, da⟩ := dt_of I.hok ea
  obtain ⟨_, yb, vb, rb, db⟩ := dt_of I.hok eb
  refine rc_dictsH (knd := tupleKind (mixKind X.prog X.w)) (in1_lt hu) ya yb da db (by omega) (fun _ => hitsT rb ra hp) _ _ (fin_bl I q ?_)
  rw [sameD, Paired.length ra, Paired.length rb, Bool.beq_eq_decide_eq]
end
end LG
end

section
set_option maxHeartbeats 4000000
namespace LG
open PySem PySem.Spec PyProof.Rows L2
/-! ### for key, value in d.items(), d of tuple keys -/
theorem frzT_full {X : Cx} {pins : List (Addr × Obj)} {σ : L2.St} {H : Hp} {s : Shared} {d : Addr} {o : Obj} {kvs : List (List Key × V)} (I : Inv X pins σ H s) (h : H d = some (.frz o (.dT kvs))) :
    (d == sysModules) = false ∧ s.heap.get? d = some o ∧ o.ExactDict ∧ ∃ (es : Array DictEntry) (ep : Nat), o.data = .dict es ep ∧ es.size = kvs.length ∧
      ∀ (i : Nat) (k : List Key) (v : V), kvs[i]? = some (k, v) → ∃ (en : DictEntry) (q : Addr), es[i]? = some en ∧ en.key = .ref q ∧ H q = some (.tup (k.map kV)) ∧ RelV v en.val := by
  obtain ⟨hd, z, hs, xs, pr, o', es, ep, ho, hx, hdt, he, _⟩ := I.hok d _ h
  rw [hd] at ho
  cases ho
  refine ⟨hs, hd, hx, es, ep, hdt, ?_, fun i k v e => ?_⟩
  · have l1 : es.size = xs.length := size_of_entries he
    have l2 : kvs.length = xs.length := Paired.length pr
    omega
  · obtain ⟨b, hb, e1, e2, e3⟩ := paired_get pr e
    have q := entry_at he i
    rw [hb] at q
    exact ⟨_, b.2.1, q, rfl, e2, e3⟩
/-- the pairs, each a new tuple: the key's own tuple and the value -/
def Itit (d : Addr) (o : Obj) (kvs : List (List Key × V)) : It :=
  ⟨fun i H => H d = some (.frz o (.dT kvs)) ∧ i < kvs.length, fun i H x H' => ∃ T k v q, kvs[i]? = some (k, v) ∧ x = .ref T ∧ H q = some (.tup (k.map kV)) ∧ H T = none ∧ H' = upd H T (.tup [.ref q, v]), fun i H => H d = some (.frz o (.dT kvs)) ∧ kvs.length ≤ i⟩
section
variable {P : Program} {w : World} {K : PySem.W.Frag} {d : Addr} {o : Obj} {es : Array DictEntry} {ep : Nat}
theorem turn_itemsT {kvs : List (List Key × V)} {elts : List Expr} {kk : Nat} {tpos : Pos} (it : Addr) (hod : o.data = .dict es ep) :
    Turn P w K (.Tuple elts kk tpos) (Itit d o kvs) [it] it (fun i h => ∃ ok ov, IsItemIter h it d i kvs.length ep ok ov) where
  mem := by simp
  obj := fun i h st b hb => by
    have e : b = it := by simpa using hb
    subst e
    obtain ⟨ok, ov, e⟩ := st
    exact ⟨_, e, fun v z => nomatch z⟩
  keep := fun i h h' st k => let ⟨ok, ov, e⟩ := st; ⟨ok, ov, k it (by simp) _ e⟩
  item := by
    intro X hP hw hK hc i pins s σ H E I hf st hg
    subst hP hw hK
    obtain ⟨hd, hi⟩ := hg
    obtain ⟨hs, hgd, hx, es', ep', hdt, hsz, ent⟩ := frzT_full I hd
    obtain ⟨rfl, rfl⟩ := dict_ep hod hdt
    obtain ⟨⟨k, v⟩, hkv⟩ : ∃ p, kvs[i]? = some p := ⟨kvs[i], List.getElem?_eq_getElem hi⟩
    obtain ⟨en, q, hen, hkey, hq, hval⟩ := ent i k v hkv
    obtain ⟨ok, ov, he⟩ := st
    rw [← hsz] at he
    have hlt : it < s.heap.objs.size := Heap.lt_size he
    have hi2 : i < es'.size := by omega
    have hen2 : es'[i] = en := by rw [Array.getElem?_eq_getElem hi2] at hen; exact Option.some.inj hen
    refine DT.nextI he ⟨o, hgd, hx, hdt⟩ hi2 fun h' ho hT hz hk => ?_
    rw [hen2, hkey] at ho hT
    refine ⟨_, rfl, wpAny_letOwnedTupleGo_items (s := { s with heap := h' }) ho fun h'' he' sb => ?_⟩
    have hT2 : h''.get? s.heap.objs.size = some { cls := .type "tuple", data := .seq #[.ref q, en.val] } := (sb.2 _ (Nat.ne_of_gt hlt)).trans hT
    have new : ObjOk X.prog X.w (upd H s.heap.objs.size (.tup [.ref q, v])) h'' s.heap.objs.size (.tup [.ref q, v]) :=
      ⟨by show 2 ≤ sizeLine; decide, [.ref q, en.val], .cons rfl (.cons hval .nil), ⟨_, hT2, rfl, _, rfl⟩⟩
    have I1 : Inv X pins σ (upd H s.heap.objs.size (.tup [.ref q, v])) { s with heap := h'' } :=
      I.turnedNew (t' := s.toks) (ch := [it]) (fun b ob hb e => (sb.2 b (by simpa using hb)).trans (hk b ob (by simpa using hb) e)) hf (Nat.le_refl _) new
    refine ⟨.ref s.heap.objs.size, _, I1, rfl, ⟨_, k, v, q, hkv, rfl, hq, I.hok.fresh (Nat.le_refl _), rfl⟩, ⟨.ref q, en.val, ?_⟩, fun b hb => ?_⟩
    · rw [← hsz]; exact he'
    · have e : b = it := by simpa using hb
      rw [e, upd_ne (Nat.ne_of_lt hlt)]
      exact (hf it (by simp)).1
  done := by
    intro X hP hw hK hc i pins s σ H E I hf st hg
    subst hP hw hK
    obtain ⟨hd, hi⟩ := hg
    obtain ⟨f0, f1, f2, f3, f4, f5⟩ := hf it (by simp)
    obtain ⟨hs, hgd, hx, es', ep', hdt, hsz, ent⟩ := frzT_full I hd
    obtain ⟨rfl, rfl⟩ := dict_ep hod hdt
    obtain ⟨ok, ov, he⟩ := st
    rw [← hsz] at he
    exact DT.endI (I.ok.hd hc) he ⟨o, hgd, hx, hdt⟩ (by omega) fun h' eb => ⟨rfl, I.turned (t' := s.toks) (fun b ob hb e => eb b ob hb e) f0 f1 f3 f4 f5⟩
  self := fun A i s Q E st h => let ⟨_, _, e⟩ := st; PySem.W.kcp_self e h
end
def iItemsT (td : TE) : TI := fun σ H R => td σ H fun x H1 => ∃ d o kvs, x = .ref d ∧ H1 d = some (.frz o (.dT kvs)) ∧ R (Itit d o kvs) H1
section
variable {X : Cx} {tg e : Expr} {td : TE} {apos cpos : Pos}
theorem pi_itemsT {elts : List Expr} {kk : Nat} {tpos : Pos} (he : PE X e td) (hbase : attributeBase e "items" X.env (eval e X.env) = eval e X.env := by rfl) (hline : (apos.endLine == cpos.line) = true := by rfl) :
    PI X (.Tuple elts kk tpos) (.Call (.Attribute e "items" apos) [] [] cpos) (iItemsT td) := by
  refine ⟨fun pins s σ H R I h => ?_⟩
  refine wpAny_Call_method (T := "dict") (id := "dict.items") hbase rfl hline F.plainAttrs_dict F.slot_dict_items F.type_dict_items (thn (he.run pins s σ H _ I h) fun u s1 ⟨x, H1, I1, rx, d, o, kvs, ex, hd, q⟩ => ?_)
  subst ex
  obtain rfl : u = Value.ref d := rx
  obtain ⟨hs, hgd, hx, es, ep, hdt, hsz, ent⟩ := frzT_full I1 hd
  have raw : DT.Raw s1.heap d es ep := ⟨o, hgd, hx, hdt⟩
  refine ⟨raw.typeIs, fun o1 e1 => by cases e1; exact ⟨o, hgd, hx.2.1⟩, ?_⟩
  have I2 : Inv X pins σ H1 { s1 with heap := s1.heap.push { cls := .type "dict_items", data := .fields #[.ref d] } } := I1.kept (t' := s1.toks) fun b ob q => Heap.get?_push_of_some _ q
  have fin : wpAny (model X.prog X.w) X.A (pyIter (.ref s1.heap.objs.size)) (PIE X pins σ (.Tuple elts kk tpos) R) X.xe { s1 with heap := s1.heap.push { cls := .type "dict_items", data := .fields #[.ref d] } } := by
    refine DT.iterI (d := d) (s := { s1 with heap := s1.heap.push { cls := .type "dict_items", data := .fields #[.ref d] } }) ⟨_, Heap.get?_push_size _ rfl, rfl, rfl⟩ (raw.push _) (pi_one (tk := s1.toks) I2 _ (turn_itemsT _ hdt) ⟨.none, .none, ?_⟩ q)
    rw [hsz]
    exact Heap.get?_push_size _ rfl
  show wpAny _ _ (callWith cpos (.builtin "dict.items") [.ref d] [] []) _ X.xe s1
  exact method_meetsIn F.slot_dict_items F.entry_dict_items rfl (PySem.evalArgs_none ⟨rfl, raw.typeIs, F.args_dict_items_1 _, _, DT.meetsItems (es := es) (ep := ep) hs, raw, fin⟩)
end
theorem walk_itemsT {d : Addr} {o : Obj} {kvs : List (List Key × V)} : Walk (Itit d o kvs) kvs.length (fun H => H d = some (.frz o (.dT kvs)))
    (fun i H x H' => ∃ T k v q, kvs[i]? = some (k, v) ∧ x = .ref T ∧ H q = some (.tup (k.map kV)) ∧ H T = none ∧ H' = upd H T (.tup [.ref q, v])) :=
  ⟨fun _ _ hi q => ⟨q, hi⟩, fun _ q => ⟨q, Nat.le_refl _⟩, fun _ _ _ _ _ _ y => y⟩
/-- a set comprehension over a walk -/
theorem sc_it {P : Program} {w : World} {J : It} {n : Nat} {G : Hp → Prop} {Y : Nat → Hp → V → Hp → Prop} (W : Walk J n G Y) {g : TG} {tt : TT} {te : TE} {vs : List Nat} {σ : L2.St} {H1 : Hp} {D : Addr} {Qd : Hp → Prop} (Pv : Nat → Hp → Prop) (h0 : Pv 0 (upd H1 D (SetMO P w D (fun _ => false) 0))) (hG : ∀ i H, i ≤ n → Pv i H → G H)
    (hs : ∀ i x H H', i < n → Pv i H → Y i H x H' → g x (wipe σ vs) H' fun σ2 H2 => wipe σ2 vs = wipe σ vs ∧ tt σ2 H2 fun b H3 =>
      if b = true then te σ2 H3 fun y H4 => ∃ (c : Key) (S : Key → Bool) (m : Nat), y = kV c ∧ H4 D = some (SetMO P w D S m) ∧ m + 1 < scanBound ∧ Pv (i + 1) (upd H4 D (SetMO P w D (fun j => S j || decide (j = c)) (if S c = true then m else m + 1))) else Pv (i + 1) H3) (hd : ∀ H, Pv n H → Qd H) :
    ∃ W : Nat → Nat → Hp → Prop, (∃ m, W 0 m (upd H1 D (SetMO P w D (fun _ => false) 0))) ∧ ∀ i m H, W i m H →
      (J.stop i H ∧ Qd H) ∨ (J.go i H ∧ ∃ Nx : Hp → Prop, (∀ H', Nx H' → ∃ m', m' < m ∧ W (i + 1) m' H') ∧ ∀ x H', J.yld i H x H' → g x (wipe σ vs) H' fun σ2 H2 => wipe σ2 vs = wipe σ vs ∧ tt σ2 H2 fun b H3 =>
        if b = true then te σ2 H3 fun y H4 => ∃ (c : Key) (S : Key → Bool) (m : Nat), y = kV c ∧ H4 D = some (SetMO P w D S m) ∧ m + 1 < scanBound ∧ Nx (upd H4 D (SetMO P w D (fun j => S j || decide (j = c)) (if S c = true then m else m + 1))) else Nx H3) := by
  refine ⟨fun i m H => m = n - i ∧ i ≤ n ∧ Pv i H, ⟨n, by simp, Nat.zero_le _, h0⟩, ?_⟩
  rintro i m H ⟨rfl, hi, p⟩
  have q := hG i H hi p
  by_cases hlt : i < n
  · refine .inr ⟨W.goes i H hlt q, Pv (i + 1), fun H' p' => ⟨n - (i + 1), by omega, rfl, hlt, p'⟩, fun x H' y => hs i x H H' hlt p (W.yields i H x H' hlt q y)⟩
  · have e : i = n := by omega
    subst e
    exact .inl ⟨W.stops H q, hd H p⟩
/-- a dict comprehension over a walk -/
theorem dc_it {J : It} {n : Nat} {G : Hp → Prop} {Y : Nat → Hp → V → Hp → Prop} (W : Walk J n G Y) {g : TG} {tt : TT} {tk tv : TE} {vs : List Nat} {σ : L2.St} {H1 : Hp} {D : Addr} {Qd : Hp → Prop} (Pv : Nat → Hp → Prop) (h0 : Pv 0 (upd H1 D (.dK []))) (hG : ∀ i H, i ≤ n → Pv i H → G H)
    (hs : ∀ i x H H', i < n → Pv i H → Y i H x H' → g x (wipe σ vs) H' fun σ2 H2 => wipe σ2 vs = wipe σ vs ∧ tt σ2 H2 fun b H3 =>
      if b = true then tk σ2 H3 fun y H4 => tv σ2 H4 fun z H5 => ∃ (kvs : List (Key × V)) (k : Key), y = kV k ∧ H5 D = some (.dK kvs) ∧ kvs.length < sizeLine ∧ Pv (i + 1) (upd H5 D (.dK (putK kvs k z))) else Pv (i + 1) H3) (hd : ∀ H, Pv n H → Qd H) :
    ∃ W : Nat → Nat → Hp → Prop, (∃ m, W 0 m (upd H1 D (.dK []))) ∧ ∀ i m H, W i m H →
      (J.stop i H ∧ Qd H) ∨ (J.go i H ∧ ∃ Nx : Hp → Prop, (∀ H', Nx H' → ∃ m', m' < m ∧ W (i + 1) m' H') ∧ ∀ x H', J.yld i H x H' → g x (wipe σ vs) H' fun σ2 H2 => wipe σ2 vs = wipe σ vs ∧ tt σ2 H2 fun b H3 =>
        if b = true then tk σ2 H3 fun y H4 => tv σ2 H4 fun z H5 => ∃ (kvs : List (Key × V)) (k : Key), y = kV k ∧ H5 D = some (.dK kvs) ∧ kvs.length < sizeLine ∧ Nx (upd H5 D (.dK (putK kvs k z))) else Nx H3) := by
  refine ⟨fun i m H => m = n - i ∧ i ≤ n ∧ Pv i H, ⟨n, by simp, Nat.zero_le _, h0⟩, ?_⟩
  rintro i m H ⟨rfl, hi, p⟩
  have q := hG i H hi p
  by_cases hlt : i < n
  · refine .inr ⟨W.goes i H hlt q, Pv (i + 1), fun H' p' => ⟨n - (i + 1), by omega, rfl, hlt, p'⟩, fun x H' y => hs i x H H' hlt p (W.yields i H x H' hlt q y)⟩
  · have e : i = n := by omega
    subst e
    exact .inl ⟨W.stops H q, hd H p⟩
end LG
end

section
set_option maxHeartbeats 4000000
namespace LG
open PySem PySem.Spec PyProof.Rows L2
theorem hu8_of {A : Around} {k : Nat} (hr : Room k A) : A.units + 8 < cLine := by
  have := hr.units
  omega
theorem vals_kv {κ : Type} {kvs : List (κ × V)} {vs : List (κ × Value)} (r : KV kvs vs) : Vals (kvs.map (·.2)) (vs.map (·.2)) := by
  unfold KV at r
  induction r with
  | nil => exact .nil
  | cons h _ ih => exact .cons h.2 ih
/-! ### list(d.values()) -/
def valuesO (p d : Addr) : HO := .ext fun h => h.IsValuesView p d
def rValues : V → List V → Hp → VK → Prop := fun x xs H Q => ∃ (a : Addr) (kvs : List (Key × V)), x = .ref a ∧ xs = [] ∧ H a = some (.dK kvs) ∧ ∀ p, H p = none → Q (.ref p) (upd H p (valuesO p a))
section
variable {X : Cx}
theorem mt_values : MtR X "dict.values" rValues := by
  intro pins s σ H x xs v us Q I rx rxs h
  obtain ⟨a, kvs, rfl, rfl, ha, q⟩ := h
  cases rx
  cases rxs
  obtain ⟨z, hd, vs, rel, dd⟩ := dk_of I.hok ha
  refine call_meetsIn PySem.F.slot_dict_values dd.typeIs PySem.F.entry_dict_values (PySem.F.args_dict_values_1 _) (meets_dict_values (mixKind X.prog X.w) a hd) ⟨⟨vs, dd⟩, ?_⟩
  have hf : H s.heap.objs.size = none := I.hok.fresh (Nat.le_refl _)
  have new : ObjOk X.prog X.w H (s.heap.push { cls := .type "dict_values", data := .fields #[.ref a] }) s.heap.objs.size (valuesO s.heap.objs.size a) :=
    ⟨⟨_, Heap.get?_push_size _ rfl, rfl, rfl⟩, ⟨_, Heap.get?_push_size _ rfl⟩, fun h1 h2 x k => let ⟨o, ho, r⟩ := x; ⟨o, k o ho, r⟩⟩
  exact ⟨.ref s.heap.objs.size, upd H s.heap.objs.size (valuesO s.heap.objs.size a), I.laid (t' := s.toks) (fun b u e => Heap.get?_push_of_some _ e) (Nat.le_refl _) new, rfl, q _ hf⟩
def rListVals : List V → Hp → VK → Prop := fun xs H Q => ∃ p d kvs, xs = [.ref p] ∧ H p = some (valuesO p d) ∧ H d = some (.dK kvs) ∧ ∀ q, H q = none → Q (.ref q) (upd H q (.lst (kvs.map (·.2))))
theorem call_listVals (hc : X.calm = true) : CallR X (.type "list") rListVals := by
  intro pins s σ H xs us Q I r h
  obtain ⟨p, d, kvs, rfl, hp, hk, q⟩ := h
  rw [Vals.ref1 r]
  have view : s.heap.IsValuesView p d := (show ObjOk X.prog X.w H s.heap p (valuesO p d) from I.hok p _ hp).1
  obtain ⟨z, lo, vs, rk, hd⟩ := dk_of I.hok hk
  obtain ⟨ep, hat⟩ := hd.dictAt
  have hl : kvs.length = vs.length := Paired.length rk
  refine PySem.W.kdl_call (PySem.W.kdl_values (knd := mixKind X.prog X.w) (d := d) (kvs := vs) (ep := ep)) (I.ok.hd hc) ⟨view, hat⟩ (by rw [← hl]; exact z) fun h' tk acc' c' hkeep hS hacc => ?_
  refine ⟨.ref s.heap.objs.size, upd H s.heap.objs.size (.lst (kvs.map (·.2))), I.laid hkeep (Nat.le_refl _) (show ObjOk X.prog X.w _ _ _ (.lst (kvs.map (·.2))) from ⟨?_, acc'.toList, c', ?_, ?_⟩), rfl, q _ (I.hok.fresh (Nat.le_refl _))⟩
  · rw [List.length_map]; exact z
  · have ea : acc'.toList = vs.map (·.2) := PySem.W.kdl_vals_eq acc'.toList (by rw [Array.length_toList]; exact hacc.1) fun j v hj => hacc.2 j v (by rw [← Array.getElem?_toList]; exact hj)
    rw [ea]
    exact vals_kv rk
  · rw [Array.toArray_toList]; exact hS
end
/-! ### isinstance, more -/
theorem kitB_own : True := trivial
def vTyB (n : String) (K : PySem.W.Frag) (H : Hp) (v : V) (b : Bool) : Prop := (∃ m, Ty K H v m ∧ m ∈ tys ∧ b = kinB m n) ∨ (∃ C, TyX K H v (.ref C) ∧ (∀ b, b ∈ tys → PySem.W.kitOne K (.ref C) (.type b) = some false) ∧ b = false)
theorem isi_any {K : PySem.W.Frag} {H : Hp} {v : V} {n : String} {b : Bool} {Q : VK} (hn : n ∈ tys) (h : vTyB n K H v b) (q : Q (.bl b) H) : rIsi K [v, .ty n] H Q := by
  rcases h with ⟨m, t, hm, rfl⟩ | ⟨C, t, hk, rfl⟩
  · exact ⟨v, .ty n, _, _, _, rfl, .ty n, t, kit_some hm hn, q⟩
  · exact ⟨v, .ty n, _, _, _, rfl, .ty n, t, hk n hn, q⟩
theorem vTyB.same {K : PySem.W.Frag} {H H' : Hp} {v : V} {n : String} {b : Bool} (s : Same H H') (h : vTyB n K H v b) : vTyB n K H' v b := by
  rcases h with ⟨m, t, hm, rfl⟩ | ⟨C, t, hk, rfl⟩
  · exact .inl ⟨m, TyX.same s t, hm, rfl⟩
  · exact .inr ⟨C, TyX.same s t, hk, rfl⟩
theorem Kn.vTyB {K : PySem.W.Frag} {H : Hp} {v : V} (h : Kn K H v) (n : String) : ∃ b, vTyB n K H v b := by
  cases h with
  | ty m h hm => exact ⟨_, .inl ⟨m, h, hm, rfl⟩⟩
  | own C h m => exact ⟨_, .inr ⟨C, h, m, rfl⟩⟩
theorem vTyB.tup {K : PySem.W.Frag} {H : Hp} {a : Addr} {xs : List V} (h : H a = some (.tup xs)) : LG.vTyB "tuple" K H (.ref a) true := .inl ⟨"tuple", .base (.tup h), by decide, rfl⟩
theorem vTyB.dK {K : PySem.W.Frag} {H : Hp} {a : Addr} {xs : List (Key × V)} (h : H a = some (.dK xs)) : LG.vTyB "dict" K H (.ref a) true := .inl ⟨"dict", .base (.dK h), by decide, rfl⟩
theorem vTyB.dT {K : PySem.W.Frag} {H : Hp} {a : Addr} {xs : List (List Key × V)} (h : H a = some (.dT xs)) : LG.vTyB "dict" K H (.ref a) true := .inl ⟨"dict", .base (.dT h), by decide, rfl⟩
theorem Kn.tup {K : PySem.W.Frag} {H : Hp} {a : Addr} {xs : List V} (h : H a = some (.tup xs)) : Kn K H (.ref a) := .ty "tuple" (.base (.tup h)) (by decide)
theorem Kn.lst {K : PySem.W.Frag} {H : Hp} {a : Addr} {xs : List V} (h : H a = some (.lst xs)) : Kn K H (.ref a) := .ty "list" (.base (.lst h)) (by decide)
theorem Kn.kV {K : PySem.W.Frag} {H : Hp} (k : Key) : Kn K H (kV k) := by
  cases k with
  | inl i => exact .int i
  | inr x => exact .str x
end LG
end

section
set_option maxHeartbeats 4000000
namespace LG
open PySem PySem.Spec PyProof.Rows L2
/-! ### loops over a list or a tuple -/
def SqR (K : PySem.W.Frag) (H : Hp) (a : Addr) (xs : List V) : Prop := SqL K H a xs ∨ SqT K H a xs
def KeepAt (H H' : Hp) (a : Addr) : Prop := ∀ o, H a = some o → H' a = some o
theorem rd_keep {H H' : Hp} {a : Addr} {u : HO} (k : KeepAt H H' a) (h : Rd H a u) : Rd H' a u := h.imp (k _) fun ⟨o, e⟩ => ⟨o, k _ e⟩
theorem sqL_keep {K : PySem.W.Frag} {H H' : Hp} {a : Addr} {xs : List V} (k : KeepAt H H' a) (h : SqL K H a xs) : SqL K H' a xs := h.imp (rd_keep k) id
theorem sqT_keep {K : PySem.W.Frag} {H H' : Hp} {a : Addr} {xs : List V} (k : KeepAt H H' a) (h : SqT K H a xs) : SqT K H' a xs := h.imp (rd_keep k) id
theorem sqR_keep {K : PySem.W.Frag} {H H' : Hp} {a : Addr} {xs : List V} (k : KeepAt H H' a) (h : SqR K H a xs) : SqR K H' a xs := h.imp (sqL_keep k) (sqT_keep k)
theorem Same.at {H H' : Hp} (s : Same H H') (a : Addr) : KeepAt H H' a := s a
theorem tFor_list {K : PySem.W.Frag} {te : TE} {g : TG} {tb : TS} {D : Ends} {σ : L2.St} {H H1 H0 : Hp} {a : Addr} {xs : List V} (he : ∀ Q, Q (.ref a) H1 → te σ H Q) (hq : SqL K H0 a xs) (Pv : Nat → L2.St → Hp → Prop) (h0 : Pv 0 σ H1) (hG : ∀ i σ H', i ≤ xs.length → Pv i σ H' → KeepAt H0 H' a)
    (hs : ∀ i x σ H', xs[i]? = some x → Pv i σ H' → g x σ H' fun σ2 H2 => tb { D with nx := Pv (i + 1), ct := Pv (i + 1), bk := D.nx } σ2 H2) (hd : ∀ σ H, Pv xs.length σ H → D.nx σ H) : tFor (iList K te) g tb D σ H := by
  unfold tFor iList
  exact he _ ⟨a, rfl, ⟨xs, sqL_keep (hG 0 _ _ (Nat.zero_le _) h0) hq⟩, for_it walk_list Pv h0 (fun i σ H' hi p => sqL_keep (hG i σ H' hi p) hq) (fun i x σ H' H2 hi p y => by obtain ⟨rfl, hx⟩ := y; exact hs i x σ _ hx p) hd⟩
theorem tFor_row {K : PySem.W.Frag} {te : TE} {g : TG} {tb : TS} {D : Ends} {σ : L2.St} {H H1 H0 : Hp} {a : Addr} {xs : List V} (he : ∀ Q, Q (.ref a) H1 → te σ H Q) (hq : SqR K H0 a xs) (Pv : Nat → L2.St → Hp → Prop) (h0 : Pv 0 σ H1) (hG : ∀ i σ H', i ≤ xs.length → Pv i σ H' → KeepAt H0 H' a)
    (hs : ∀ i x σ H', xs[i]? = some x → Pv i σ H' → g x σ H' fun σ2 H2 => tb { D with nx := Pv (i + 1), ct := Pv (i + 1), bk := D.nx } σ2 H2) (hd : ∀ σ H, Pv xs.length σ H → D.nx σ H) : tFor (iRow K te) g tb D σ H := by
  rcases hq with hq | hq
  · exact .inl (tFor_list he hq Pv h0 hG hs hd)
  · refine .inr ?_
    unfold iTup
    exact he _ ⟨a, rfl, ⟨xs, sqT_keep (hG 0 _ _ (Nat.zero_le _) h0) hq⟩, for_it walk_tup Pv h0 (fun i σ H' hi p => sqT_keep (hG i σ H' hi p) hq) (fun i x σ H' H2 hi p y => by obtain ⟨rfl, hx⟩ := y; exact hs i x σ _ hx p) hd⟩
theorem tFor_enumL {K : PySem.W.Frag} {te : TE} {ti tj : Nat} {tb : TS} {D : Ends} {σ : L2.St} {H H1 H0 : Hp} {a : Addr} {xs : List V} (he : ∀ Q, Q (.ref a) H1 → te σ H Q) (hq : SqL K H0 a xs) (Pv : Nat → L2.St → Hp → Prop) (h0 : Pv 0 σ H1) (hG : ∀ i σ H', i ≤ xs.length → Pv i σ H' → KeepAt H0 H' a)
    (hs : ∀ i x σ H' T, xs[i]? = some x → Pv i σ H' → H' T = none → tb { D with nx := Pv (i + 1), ct := Pv (i + 1), bk := D.nx } ((σ.set ti (some (.int (i : Nat)))).set tj (some x)) (upd H' T (.tup [.int (i : Nat), x]))) (hd : ∀ σ H, Pv xs.length σ H → D.nx σ H) :
    tFor (iEnum K (tCons te tNil)) (gTup K 2 (gCons (gName ti) (gCons (gName tj) gNil))) tb D σ H := by
  unfold tFor iEnum tCons tNil
  refine he _ ⟨a, xs, rfl, sqL_keep (hG 0 _ _ (Nat.zero_le _) h0) hq, for_it walk_enum Pv h0 (fun i σ H' hi p => sqL_keep (hG i σ H' hi p) hq) (fun i x σ H' H2 hi p y => ?_) hd⟩
  obtain ⟨T, x1, y1, rfl, hT, rfl, e1, e2⟩ := y
  cases e1
  exact ⟨T, _, rfl, .inl (.inl upd_same), rfl, _, _, rfl, _, _, rfl, rfl, hs i y1 σ H' T e2 p hT⟩
theorem tFor_enum {K : PySem.W.Frag} {te : TE} {ti tj : Nat} {tb : TS} {D : Ends} {σ : L2.St} {H H1 H0 : Hp} {a : Addr} {xs : List V} (he : ∀ Q, Q (.ref a) H1 → te σ H Q) (hq : SqR K H0 a xs) (Pv : Nat → L2.St → Hp → Prop) (h0 : Pv 0 σ H1) (hG : ∀ i σ H', i ≤ xs.length → Pv i σ H' → KeepAt H0 H' a)
    (hs : ∀ i x σ H' T, xs[i]? = some x → Pv i σ H' → H' T = none → tb { D with nx := Pv (i + 1), ct := Pv (i + 1), bk := D.nx } ((σ.set ti (some (.int (i : Nat)))).set tj (some x)) (upd H' T (.tup [.int (i : Nat), x]))) (hd : ∀ σ H, Pv xs.length σ H → D.nx σ H) :
    tFor (iEnumS K (tCons te tNil)) (gTup K 2 (gCons (gName ti) (gCons (gName tj) gNil))) tb D σ H := by
  rcases hq with hq | hq
  · exact .inl (tFor_enumL he hq Pv h0 hG hs hd)
  · refine .inr ?_
    unfold iEnumT tCons tNil
    refine he _ ⟨a, xs, rfl, sqT_keep (hG 0 _ _ (Nat.zero_le _) h0) hq, for_it walk_enumT Pv h0 (fun i σ H' hi p => sqT_keep (hG i σ H' hi p) hq) (fun i x σ H' H2 hi p y => ?_) hd⟩
    obtain ⟨T, x1, y1, rfl, hT, rfl, e1, e2⟩ := y
    cases e1
    exact ⟨T, _, rfl, .inl (.inl upd_same), rfl, _, _, rfl, _, _, rfl, rfl, hs i y1 σ H' T e2 p hT⟩
/-- len of a list or a tuple -/
theorem len_row {K : PySem.W.Frag} {H : Hp} {a : Addr} {xs : List V} {Q : VK} (h : SqR K H a xs) (q : Q (.int xs.length) H) : gLen K [.ref a] H Q := by
  refine ⟨.ref a, xs.length, rfl, ?_, q⟩
  rcases h with h | h
  · exact .inl ⟨xs, h, rfl⟩
  · exact .inr ⟨xs, h, rfl⟩
theorem list_row {K : PySem.W.Frag} {H : Hp} {a : Addr} {xs : List V} {Q : VK} (h : SqR K H a xs) (q : ∀ l, H l = none → Q (.ref l) (upd H l (.lst xs))) : gListOf K [.ref a] H Q := ⟨a, xs, rfl, h, q⟩
theorem vRow_of {K : PySem.W.Frag} {H : Hp} {a : Addr} {xs : List V} (h : H a = some (.lst xs) ∨ H a = some (.tup xs)) : vRow K H (.ref a) true := h.elim vRow.list vRow.tup
theorem ixT {K : PySem.W.Frag} {H : Hp} {a : Addr} {xs : List V} {i : Int} {v : V} {Q : VK} (h : H a = some (.tup xs)) (e : atI xs i = some v) (q : Q v H) : rIxT K (.ref a) (.int i) H Q := ⟨a, xs, i, v, rfl, rfl, .inl (.inl h), e, q⟩
theorem ixL {K : PySem.W.Frag} {H : Hp} {a : Addr} {xs : List V} {i : Int} {v : V} {Q : VK} (h : H a = some (.lst xs)) (e : atI xs i = some v) (q : Q v H) : rIxL K (.ref a) (.int i) H Q := ⟨a, xs, i, v, rfl, rfl, .inl (.inl h), e, q⟩
theorem append_at {H : Hp} {l : Addr} {xs : List V} {y : V} {Q : VK} (h : H l = some (.lst xs)) (z : xs.length < sizeLine) (q : Q .non (upd H l (.lst (xs ++ [y])))) : rAppend (.ref l) [y] H Q := ⟨l, xs, y, rfl, rfl, h, z, q⟩
theorem tru_list {K : PySem.W.Frag} {H : Hp} {l : Addr} : True := trivial
/-- kept but for some -/
def Keeps (H H' : Hp) (ex : List Addr) : Prop := ∀ b o, b ∉ ex → H b = some o → H' b = some o
theorem Same.keeps {H H' : Hp} (s : Same H H') (ex : List Addr) : Keeps H H' ex := fun b o _ e => s b o e
theorem Keeps.trans {H H1 H2 : Hp} {ex : List Addr} (a : Keeps H H1 ex) (b : Keeps H1 H2 ex) : Keeps H H2 ex := fun c o n e => b c o n (a c o n e)
theorem Keeps.upd {H H' : Hp} {ex : List Addr} {p : Addr} {o : HO} (a : Keeps H H' ex) (hp : p ∈ ex ∨ H' p = none) : Keeps H (upd H' p o) ex := fun c u n e => by
  have z := a c u n e
  rcases hp with hp | hp
  · rw [upd_ne (fun y => n (by rw [y]; exact hp))]; exact z
  · rw [upd_ne (ne_of_none z hp)]; exact z
/-- all of H is kept if the exceptions are new -/
theorem Keeps.same {H H' : Hp} {ex : List Addr} (a : Keeps H H' ex) (h : ∀ b ∈ ex, H b = none) : Same H H' := fun b o e => a b o (fun m => by rw [h b m] at e; cases e) e
end LG
end

section
set_option maxHeartbeats 4000000
namespace LG
open PySem PySem.Spec PyProof.Rows L2
/-! ### == and != by an own __eq__ -/
/-- the class's != is the one of object -/
structure NeOwn (K : PySem.W.Frag) (C : Addr) : Prop where
  ne : PySem.W.findIn K (.ref C) "__ne__" = some (some (.builtin "object.__ne__"))
  sub : PySem.W.subIn K (.ref C) (.type "object") = some true
section
variable {X : Cx}
theorem run_in {CX : CXT} {k : Nat} {f : Addr} {fd : FuncData} {ps : List Str} {sp : Sp} {E : XK} {A : Around} {pins : List (Addr × Obj)} {σ : L2.St} {H : Hp} {s : Shared} {Q : VK} {us : List Value} {vs : List V} (F : FnOk X.prog X.w X.K X.mg X.base CX k f fd ps sp) (hr : Room k A) (he : Env0 X.prog X.w X.K X.mg X.base A X.stack s H)
    (hb : Binds X.K fd ps []) (hx : Passes CX X E) (I : Inv X pins σ H s) (r : Vals vs us) (h : sp vs H Q E) : wpAny (model X.prog X.w) A (call (.ref f) us) (EP X pins σ Q) X.xe s := by
  have hl : us.length = ps.length := by rw [← r.length]; exact F.len _ _ _ _ h
  refine wpAny_call (codeAny_mono (F.run A X.stack s H ⟨us, []⟩ us vs Q E hr he (by
    have := hb s us I.kIn (by simpa using hl)
    simpa using this) r h) fun r s' hq => ?_)
  cases r with
  | error e => exact hx pins σ H s e s' I hq
  | ok fl =>
    cases fl with
    | ret u =>
      obtain ⟨v, H', I2, rv, q⟩ := I.after hq
      exact ⟨v, H', I2, rv, q⟩
    | next => exact False.elim hq
    | brk => exact False.elim hq
    | cont => exact False.elim hq
/-- x == y, x != y, two objects of the class at C -/
def rOwnEq (C : Addr) (sp : Sp) (neg : Bool) : R2 := fun x y H Q => ∃ a b dx dy fs gs, x = .ref a ∧ y = .ref b ∧ H a = some (.ins C dx fs) ∧ H b = some (.ins C dy gs) ∧ sp [x, y] H (fun v H' => ∃ k, v = .bl k ∧ Q (.bl (if neg = true then !k else k)) H') E0
theorem op_ownEq {CX : CXT} {k : Nat} {C f : Addr} {fd : FuncData} {ps : List Str} {sp : Sp} (me : Meth X.K C "__eq__" f) (F : FnOk X.prog X.w X.K X.mg X.base CX k f fd ps sp) (hr : Room k X.A) (hb : Binds X.K fd ps []) (hx : Passes CX X E0) : OpR X (compareOp .Eq) (rOwnEq C sp false) := by
  intro pins s σ H x y v u Q I rx ry h
  obtain ⟨a, b, dx, dy, fs, gs, rfl, rfl, ha, hb', q⟩ := h
  cases rx
  cases ry
  obtain ⟨mA, J, _⟩ := ins_get I.hok ha
  obtain ⟨mB, J', _⟩ := ins_get I.hok hb'
  obtain ⟨od, J, _⟩ := J.look
  obtain ⟨od', J', _⟩ := J'.look
  obtain ⟨m, hF⟩ := I.fr
  show wpAny _ _ (richCompare .Eq (.ref a) (.ref b)) _ _ s
  refine PySem.W.cmp_K (op := .Eq) (tb := .ref C) hr.units0 hF I.ok.mod.kin J J'.type (by simp [PySem.W.notFirst]) me.at_ me.fn ?_
  refine wpAny_mono (run_in (us := [.ref a, .ref b]) (vs := [.ref a, .ref b]) F hr I.env0 hb hx I (.cons rfl (.cons rfl .nil)) q) (fun w s' z => ?_) fun _ _ x => x
  obtain ⟨z', H', I', rz, k1, ek, qz⟩ := z
  subst ek
  cases rz
  exact ⟨.bl k1, H', I', rfl, qz⟩
theorem op_ownNe {CX : CXT} {k : Nat} {C f : Addr} {fd : FuncData} {ps : List Str} {sp : Sp} (me : Meth X.K C "__eq__" f) (ne : NeOwn X.K C) (F : FnOk X.prog X.w X.K X.mg X.base CX k f fd ps sp) (hr : Room (k + 1) X.A) (hb : Binds X.K fd ps []) (hx : Passes CX X E0) : OpR X (compareOp .NotEq) (rOwnEq C sp true) := by
  intro pins s σ H x y v u Q I rx ry h
  obtain ⟨a, b, dx, dy, fs, gs, rfl, rfl, ha, hb', q⟩ := h
  cases rx
  cases ry
  obtain ⟨mA, J, _⟩ := ins_get I.hok ha
  obtain ⟨mB, J', _⟩ := ins_get I.hok hb'
  obtain ⟨od, J, _⟩ := J.look
  obtain ⟨od', J', _⟩ := J'.look
  obtain ⟨m, hF⟩ := I.fr
  have hin : Room k X.A.in1 := hr.in1
  have back : wpAny (model X.prog X.w) X.A.in1 (call (.ref f) [.ref a, .ref b]) (fun v s' => ∃ b, v = .bool b ∧ EP X pins σ Q (.bool (!b)) s') X.xe s := by
    refine wpAny_mono (run_in (us := [.ref a, .ref b]) (vs := [.ref a, .ref b]) F hin I.env0.in1 hb hx I (.cons rfl (.cons rfl .nil)) q) (fun w s' z => ?_) fun _ _ x => x
    obtain ⟨z', H', I', rz, k1, ek, qz⟩ := z
    subst ek
    cases rz
    exact ⟨k1, rfl, .bl (!k1), H', I', rfl, qz⟩
  show wpAny _ _ (richCompare .NotEq (.ref a) (.ref b)) _ _ s
  have KI := I.kIn
  -- object.__ne__
  have body : wpAny (model X.prog X.w) X.A.in1 (Builtin.«object.__ne__» ⟨[.ref a, .ref b], []⟩) (fun fin s' => ∃ v, fin = .done (.ret v) ∧ ∃ b, v = .bool b ∧ EP X pins σ Q (.bool b) s') X.xe s := by
    unfold Builtin.«object.__ne__»
    refine wpAny_bind (wpAny_pure ?_)
    dsimp only
    refine wpAny_bind (wpAny_cRoomFor hin.units0 ?_)
    refine wpAny_bind (PySem.W.ifBound_K KI J me.at_ me.fn (wpAny_mono back (fun v s' hv => ?_) fun _ _ x => x))
    obtain ⟨b1, rfl, hq⟩ := hv
    dsimp only
    refine wpAny_bind (m := truthy (.bool b1)) (wpAny_truthy_bool ?_)
    exact wpAny_pure ⟨_, rfl, _, rfl, hq⟩
  have called : wpAny (model X.prog X.w) X.A (call (.builtin "object.__ne__") [.ref a, .ref b]) (fun v s' => ∃ b, v = .bool b ∧ EP X pins σ Q (.bool b) s') X.xe s := by
    refine wpAny_call (codeAny_call_builtin PySem.F.slot_range_iterator_ne.plain PySem.F.cmpEntry_ne ?_)
    have ha2 := PySem.F.cmpArgs_ne (.ref a) (.ref b)
    have go : wpAny (model X.prog X.w) X.A.in1 (checkBuiltinCall "object.__ne__" ⟨[.ref a, .ref b], []⟩) (fun _ s' => s' = s) X.xe s := by
      simp only [checkBuiltinCall, PySem.F.cmpKind_ne, PySem.F.cmpSplit_ne]
      refine wpAny_bind ?_
      unfold isInstance
      refine wpAny_bind (J.type.here ((PySem.W.looks_subIn KI ne.sub).here ?_))
      cases hsig : Manifest.signature? "object.__ne__" with
      | none => exact wpAny_pure rfl
      | some sig =>
        simp only [argsOk, hsig] at ha2
        have h2 : Bind.checkArgs "object.__ne__" sig ⟨[.ref a, .ref b], []⟩ = pure () := ha2
        show wpAny _ _ (Bind.checkArgs "object.__ne__" sig ⟨[.ref a, .ref b], []⟩) _ _ _
        rw [h2]; exact wpAny_pure rfl
    refine wpAny_mono go (fun _ s1 e => ?_) fun _ _ x => x
    subst e
    exact wpAny_mono body (fun fin s' z => by obtain ⟨v, rfl, z⟩ := z; exact z) fun _ _ x => x
  have one : wpAny (model X.prog X.w) X.A (tryCompare (.ref a) "__ne__" (.ref b)) (fun r s' => ∃ v, r = some v ∧ EP X pins σ Q v s') X.xe s := by
    have two : wpAny (model X.prog X.w) X.A (callSpecialIfBound? (.ref a) "__ne__" [.ref b]) (fun r s' => ∃ b1, r = some (.bool b1) ∧ EP X pins σ Q (.bool b1) s') X.xe s := ?two
    · unfold tryCompare
      refine wpAny_bind (wpAny_mono two (fun r s' z => ?_) fun _ _ x => x)
      obtain ⟨b1, rfl, hq⟩ := z
      exact wpAny_pure ⟨_, rfl, hq⟩
    simp only [callSpecialIfBound?, bindSpecialIfBound?]
    refine wpAny_holding (wpAny_bind (wpAny_bind (wpAny_bind (J.type.here ((PySem.W.looks_findIn KI ne.ne).here ?_)))))
    refine wpAny_bind (wpAny_askSetting (wpAny_ite ?_))
    have fin : wpAny (model X.prog X.w) X.A (call (.builtin "object.__ne__") ([.ref a] ++ [.ref b]) >>= fun v => pure (some v)) (fun r s' => ∃ b1, r = some (.bool b1) ∧ EP X pins σ Q (.bool b1) s') X.xe s := by
      refine wpAny_bind (wpAny_mono called (fun v s' h' => ?_) fun _ _ x => x)
      obtain ⟨b1, rfl, hq⟩ := h'
      exact wpAny_pure ⟨_, rfl, hq⟩
    simp only [PySem.F.slot_range_iterator_ne.bind]
    split
    · exact wpAny_bind (wpAny_pure (wpAny_pure fin))
    · exact wpAny_tryCatch (wpAny_bind (wpAny_pure (wpAny_pure fin)))
  unfold richCompare
  simp only [oneThing_ref]
  refine wpAny_holding (wpAny_bind (wpAny_cRoomFor hr.units0 ?_))
  refine wpAny_bind (J.type.here (wpAny_bind (J'.type.here ?_)))
  rw [cmpInfo_NotEq]
  dsimp only
  rw [show (Value.ref C != Value.ref C) = false from by simp]
  simp only [Bool.false_eq_true, if_false]
  refine wpAny_bind (wpAny_pure ?_)
  simp only [Bool.false_eq_true, if_false]
  refine wpAny_bind (wpAny_mono one (fun r s' z => ?_) fun _ _ e => e)
  obtain ⟨v, rfl, hq⟩ := z
  exact wpAny_pure hq
end
end LG
end

section
set_option maxHeartbeats 4000000
namespace LG
open PySem PySem.Spec PyProof.Rows L2
/-! ### calls with keywords -/
inductive Sel where
  | pos (i : Nat)
  | kw (i : Nat)
  | dfl (i : Nat)
/-- the parameters' values, from the positional ones, the defaults, the keywords' -/
def gSel (sel : List Sel) {α : Type} (us ds ws : List α) : List α := sel.filterMap fun
  | .pos i => us[i]?
  | .kw i => ws[i]?
  | .dfl i => ds[i]?
theorem vals_at {xs : List V} {us : List Value} (h : Vals xs us) (i : Nat) : (xs[i]? = none ∧ us[i]? = none) ∨ ∃ x u, xs[i]? = some x ∧ us[i]? = some u ∧ RelV x u := by
  induction h generalizing i with
  | nil => exact .inl ⟨rfl, rfl⟩
  | cons r _ ih =>
    cases i with
    | zero => exact .inr ⟨_, _, rfl, rfl, r⟩
    | succ i => exact ih i
theorem gSel_rel (sel : List Sel) {vs ds zs : List V} {us its ws : List Value} (a : Vals vs us) (b : Vals ds its) (c : Vals zs ws) : Vals (gSel sel vs ds zs) (gSel sel us its ws) := by
  induction sel with
  | nil => exact .nil
  | cons s sel ih =>
    have key : ∀ {x : Option V} {u : Option Value}, ((x = none ∧ u = none) ∨ ∃ y v, x = some y ∧ u = some v ∧ RelV y v) → Vals (x.toList ++ gSel sel vs ds zs) (u.toList ++ gSel sel us its ws) := fun {x u} h => by
      rcases h with ⟨rfl, rfl⟩ | ⟨y, v, rfl, rfl, r⟩
      · exact ih
      · exact .cons r ih
    have e1 : ∀ {α : Type} (us ds ws : List α), gSel (s :: sel) us ds ws = (match s with | .pos i => us[i]? | .kw i => ws[i]? | .dfl i => ds[i]?).toList ++ gSel sel us ds ws := fun us ds ws => by
      cases s with
      | pos i => show List.filterMap _ _ = _; rw [List.filterMap_cons]; cases h : us[i]? <;> simp [h, gSel]
      | kw i => show List.filterMap _ _ = _; rw [List.filterMap_cons]; cases h : ws[i]? <;> simp [h, gSel]
      | dfl i => show List.filterMap _ _ = _; rw [List.filterMap_cons]; cases h : ds[i]? <;> simp [h, gSel]
    rw [e1, e1]
    cases s with
    | pos i => exact key (vals_at a i)
    | kw i => exact key (vals_at c i)
    | dfl i => exact key (vals_at b i)
section
variable {K : PySem.W.Frag} {x qual : Str} {params : Arguments} {body : List Stmt} {scope : Scope} {dvs : List V} {f : Addr} {fd : FuncData} {ps : List Str}
theorem kbD (sel : List Sel) (F : FunD K x qual params body scope dvs [] f fd) (n : Nat) (ks : List Str) (hd : dvs ≠ [])
    (h : ∀ (T : Addr) (kV doc pm : Value) (an : Option Addr) (cdv ct : Value) (us its ws : List Value), us.length = n → its.length = dvs.length → ws.length = ks.length →
      ∃ k, bindArgs (PySem.W.fnOf x qual params body scope (.ref T) kV doc pm an cdv ct) ⟨us, ks.zip ws⟩ = seqItems? (.ref T) >>= k ∧ k (some its.toArray) = pure (ps.zip (gSel sel us its ws))) :
    ∃ g, KBn K fd ps n ks g (fun vs zs => gSel sel vs dvs zs) := by
  obtain ⟨its, k⟩ := F.kbindsD n ks (fun {α} => gSel sel (α := α)) hd (fun a b c => gSel_rel sel a b c) h
  exact ⟨_, k⟩
theorem kb0 (sel : List Sel) (F : FunD K x qual params body scope [] [] f fd) (n : Nat) (ks : List Str)
    (h : ∀ (kV doc pm : Value) (an : Option Addr) (cdv ct : Value) (us ws : List Value), us.length = n → ws.length = ks.length → bindArgs (PySem.W.fnOf x qual params body scope .none kV doc pm an cdv ct) ⟨us, ks.zip ws⟩ = pure (ps.zip (gSel sel us [] ws))) :
    ∃ g, KBn K fd ps n ks g (fun vs zs => gSel sel vs [] zs) := by
  obtain ⟨oc, od, dV, kV, doc, pm, an, cdv, ct, osl, rfl, lk, hcd, hD, hK⟩ := F.ex
  rcases hD with ⟨_, rfl⟩ | ⟨e, _⟩
  · exact ⟨fun us ws => gSel sel us [] ws, fun s us ws X l1 l2 => BindsTo.of_eq (h kV doc pm an cdv ct us ws l1 l2), fun r1 r2 => gSel_rel sel r1 .nil r2⟩
  · exact absurd rfl e
end
section
variable {X : Cx} {CX : CXT} {k n : Nat} {f : Addr} {fd : FuncData} {ps ks : List Str} {sp : Sp} {E : XK} {x : Str} {p pos : Pos} {kws : List Keyword} {tk : TA} {g : List Value → List Value → List Value} {gV : List V → List V → List V}
/-- f(k = v, ..) -/
theorem pe_callN0 (F : FnOk X.prog X.w X.K X.mg X.base CX k f fd ps sp) (hr : Room k X.A) (hg : Gl X x) (hm : X.mg x = some (.ref f)) (hk : PySem.W.keepIn X.K (.ref f) = true) (hb : KBn X.K fd ps 0 ks g gV) (hx : Passes CX X E) (hkw : PK X kws tk)
    (hall : (backToKw pos (keywordEach kws X.env)).all (·.1.isSome) = true := by rfl) (hks : (backToKw pos (keywordEach kws X.env)).filterMap (·.1) = ks := by rfl) (hdb : (x == ("__debug__" : Str)) = false := by decide)
    (hpl : ((backTo pos (starEach [] X.env)).any (·.1) || (backToKw pos (keywordEach kws X.env)).any (·.1.isNone)) = false := by rfl) :
    PE X (.Call (.Name x p) [] kws pos) (tCallN 0 ks.length sp gV E tNil tk) := by
  refine ⟨fun pins s σ H Q I h => ?_⟩
  refine wpAny_Call_Name_kw (ld_glob I hg hm ?_ hdb)
  refine PySem.W.callWith_KW0 (h₀ := X.base) I.ok.mod.kin hk hall ?_ hpl
  refine thn (hkw.run pos pins s σ H _ I h) fun ws s2 ⟨zs, H2, I2, rz, l1, l2, q2⟩ => ⟨I2.kIn, ?_⟩
  rw [hks]
  exact run_fnN (us := []) (vs := []) F hr hb hx I2 .nil rz rfl l2 q2
end
/-! ### the bundles of such callees -/
section
variable (P : Program) (w : World) (K : PySem.W.Frag) (mg : Str → Option Value) (base : Heap)
def HasK (k : Nat) (p : Str × Option Str) (ps : List Str) (sp : Sp) (n : Nat) (ks : List Str) (gV : List V → List V → List V) : Prop :=
  mg p.1 = some (.ref (He.fAd K p)) ∧ ∃ fd g, PySem.W.keepIn K (.ref (He.fAd K p)) = true ∧ FnOk P w K mg base (L2.CX P w) k (He.fAd K p) fd ps sp ∧ KBn K fd ps n ks g gV
def HasMkK (k : Nat) (c : Str) (ps : List Str) (sp : Sp) (n : Nat) (ks : List Str) (gV : List V → List V → List V) : Prop :=
  mg c = some (.ref (He.ga K c)) ∧ Mk K (He.ga K c) (He.ma K (He.ga K c) "__init__") ∧ ∃ fd g, FnOk P w K mg base (L2.CX P w) k (He.ma K (He.ga K c) "__init__") fd ps sp ∧ KBn K fd ps n ks g gV
end
/-! ### the head's facts, more of them -/
/-- own: classes that isinstance is asked of; ne: classes whose != is object's; em: addresses of empty tuples -/
structure XF where
  own : List Str
  ne : List Str
  em : List (PySem.W.Frag → Addr)
def emptyB (K : PySem.W.Frag) (a : Addr) : Bool := match K.lookup a with
  | some ⟨.type c, _, .seq its _, _⟩ => decide (c = "tuple") && decide (its.size = 0)
  | _ => false
def XF.ok (x : XF) (K : PySem.W.Frag) : Bool :=
  (decide (PySem.W.specialIn K (.builtin "object.__class__") "__get__" = some (some (.builtin "getset_descriptor.__get__"))) && (decide (PySem.W.takesIn K (.builtin "object.__class__") = some true) &&
    x.own.all fun c => He.eqO (PySem.W.findIn K (.ref (He.ga K c)) "__class__") (some (some (.builtin "object.__class__"))) && decide (PySem.W.mroIn K (He.ga K c) (.type "object") = some true))) &&
  ((x.ne.all fun c => He.eqO (PySem.W.findIn K (.ref (He.ga K c)) "__ne__") (some (some (.builtin "object.__ne__"))) && decide (PySem.W.subIn K (.ref (He.ga K c)) (.type "object") = some true)) && x.em.all fun p => emptyB K (p K))
abbrev AlX : Type := Bool × He.AlD
def obsX (x : XF) (fa : List He.Fa) (fn : List He.DefD) (K : PySem.W.Frag) : AlX := (x.ok K, He.obsD fa fn K)
def obsXG (n : Nat) (x : XF) (fa : List He.Fa) (fn : List He.DefD) (g : Addr → Option Obj) : AlX := obsX x fa fn (He.frG g (He.asD g n))
def SaysX (x : XF) (fa : List He.Fa) (fn : List He.DefD) (K : PySem.W.Frag) : Prop := x.ok K = true ∧ He.SaysD fa fn K
def hookX (n : Nat) (x : XF) (fa : List He.Fa) (fn : List He.DefD) : PySem.W.Hook where
  α := AlX
  obs := fun s => obsXG n x fa fn s.heap.get?
  val := fun _ => (true, He.valD fn)
  says := fun _ h => ∃ K : PySem.W.Frag, K.In h ∧ SaysX x fa fn K
  of := fun _ _ e => ⟨_, He.frG_in, congrArg (fun z : AlX => z.1) e, congrArg (fun z : AlX => z.2) e⟩
  keeps := fun _ _ _ ⟨K, hK, c⟩ k => ⟨K, PySem.W.Frag.In.keeps hK k, c⟩
theorem obsXG_eq {n : Nat} {x : XF} {fa : List He.Fa} {fn : List He.DefD} {g : Addr → Option Obj} {s : Shared} (h : ∀ a, g a = s.heap.get? a) : obsXG n x fa fn g = (hookX n x fa fn).obs s := by
  have e : g = s.heap.get? := funext h
  rw [e] <;> rfl
theorem XF.ownC {x : XF} {K : PySem.W.Frag} (h : x.ok K = true) {c : Str} (hc : c ∈ x.own) : PySem.W.findIn K (.ref (He.ga K c)) "__class__" = some (some (.builtin "object.__class__")) ∧ PySem.W.specialIn K (.builtin "object.__class__") "__get__" = some (some (.builtin "getset_descriptor.__get__")) ∧
    PySem.W.takesIn K (.builtin "object.__class__") = some true ∧ PySem.W.mroIn K (He.ga K c) (.type "object") = some true := by
  obtain ⟨h1, h2⟩ := He.ba h
  obtain ⟨a1, a2⟩ := He.ba h1
  obtain ⟨a3, a4⟩ := He.ba a2
  obtain ⟨b1, b2⟩ := He.ba (List.all_eq_true.mp a4 c hc)
  exact ⟨He.eqO_ok b1, of_decide_eq_true a1, of_decide_eq_true a3, of_decide_eq_true b2⟩
theorem XF.neOwn {x : XF} {K : PySem.W.Frag} (h : x.ok K = true) {c : Str} (hc : c ∈ x.ne) : NeOwn K (He.ga K c) := by
  obtain ⟨h1, h2⟩ := He.ba h
  obtain ⟨a1, a2⟩ := He.ba h2
  obtain ⟨b1, b2⟩ := He.ba (List.all_eq_true.mp a1 c hc)
  exact ⟨He.eqO_ok b1, of_decide_eq_true b2⟩
/-- at a stands the empty tuple of the text -/
def EmptyT (K : PySem.W.Frag) (a : Addr) : Prop := ∃ o its n, K.lookup a = some o ∧ o.cls = .type "tuple" ∧ o.data = .seq its n ∧ its.size = 0
theorem XF.empty {x : XF} {K : PySem.W.Frag} (h : x.ok K = true) {p : PySem.W.Frag → Addr} (hp : p ∈ x.em) : EmptyT K (p K) := by
  obtain ⟨h1, h2⟩ := He.ba h
  obtain ⟨a1, a2⟩ := He.ba h2
  have e := List.all_eq_true.mp a2 p hp
  unfold emptyB at e
  cases q : K.lookup (p K) with
  | none => rw [q] at e; cases e
  | some o =>
    obtain ⟨oc, od, dt, osl⟩ := o
    rw [q] at e
    cases oc with
    | type c =>
      cases dt with
      | seq its n =>
        obtain ⟨e1, e2⟩ := He.ba (show (decide (c = "tuple") && decide (its.size = 0)) = true from e)
        exact ⟨_, its, n, q, congrArg Value.type (of_decide_eq_true e1), rfl, of_decide_eq_true e2⟩
      | _ => cases e
    | _ => cases dt <;> cases e
theorem EmptyT.sqR {K : PySem.W.Frag} {a : Addr} (h : EmptyT K a) (H : Hp) : SqR K H a [] := by
  obtain ⟨o, its, n, h1, h2, h3, h4⟩ := h
  refine .inr (.inr ⟨o, its, n, h1, h2, h3, by omega, ?_⟩)
  have e : its = #[] := Array.eq_empty_of_size_eq_zero h4
  rw [e]
  exact .nil
theorem EmptyT.row {K : PySem.W.Frag} {a : Addr} (h : EmptyT K a) (H : Hp) : vRow K H (.ref a) true := by
  obtain ⟨o, its, n, h1, h2, h3, h4⟩ := h
  exact .ty "tuple" (.kTuple h1 h2) (by decide)
end LG
end

section
set_option maxHeartbeats 4000000
namespace LG
open PySem PySem.Spec PyProof.Rows L2
local macro_rules | `(tactic| walk_at "nrm") => `(tactic| simp only [tRet, tSeq, tNext, tIfS, tAsg, gName, tVar, tC, tCons, tNil, tCB, tOp, tUn, tTest, tB, tAnd, tOr, tNot, tAndV, tOrV, tNotV, tChain, tCall, tDrop, tTup, tLst, List.getElem?_cons_zero, List.getElem?_cons_succ, Option.some.injEq, exists_eq_left', List.nil_append, List.cons_append, List.append_nil, List.set_cons_zero, List.set_cons_succ, rI0, rI, rU, ipI, tAug, V.int.injEq, V.bl.injEq, V.str.injEq, V.ref.injEq, exists_eq_left, exists_and_left, decide_eq_true_eq, Bool.not_eq_true', Bool.not_eq_eq_eq_not, Bool.not_true, Bool.not_false, Bool.false_eq_true, decide_eq_false_iff_not, if_true, if_false, true_and, and_true, ite_true, ite_false, reduceCtorEq])
/-! ### is_integer -/
def sp_is_integer (P : Program) (w : World) (K : PySem.W.Frag) : Sp := fun vs H Q _ => ∃ v, vs = [v] ∧ Kn K H v ∧ Q (.bl (vInt v)) H
def n_is_integer : List Str := ["value"]
def t_is_integer (P : Program) (w : World) (K : PySem.W.Frag) : TS :=
  (tRet (tAndV (tCB (rIsi K) (tCons (tVar 0) (tCons (tC (.ty "int")) tNil))) (tNotV (tCB (rIsi K) (tCons (tVar 0) (tCons (tC (.ty "bool")) tNil))))))
abbrev S_is_integer : List Str := ["value"]
theorem pure_is_integer {P : Program} {w : World} {K : PySem.W.Frag} (vs : List V) (H : Hp) (Q : VK) (E : XK) (h : sp_is_integer P w K vs H Q E) : t_is_integer P w K { nx := fun _ H' => Q .non H', rt := Q } (start S_is_integer vs) H := by
  obtain ⟨v, rfl, hk, q⟩ := h
  show t_is_integer P w K _ [some v] H
  unfold t_is_integer
  walk_at "nrm"
  refine isi_int hk ⟨_, rfl, ite_b (fun e => isi_bool hk ⟨_, rfl, ?_⟩) (fun e => ?_)⟩
  · cases v <;> first | exact q | (simp [vInt, vBl] at e)
  · cases v <;> first | exact q | (simp [vInt, vBl] at e)
theorem len_is_integer {P : Program} {w : World} {K : PySem.W.Frag} (vs : List V) (H : Hp) (Q : VK) (E : XK) (h : sp_is_integer P w K vs H Q E) : vs.length = n_is_integer.length := by
  obtain ⟨v, rfl, _⟩ := h
  rfl
/-! ### is_row -/
def sp_is_row (P : Program) (w : World) (K : PySem.W.Frag) : Sp := fun vs H Q _ => ∃ v b, vs = [v] ∧ vRow K H v b ∧ ∀ H', Same H H' → Q (.bl b) H'
def n_is_row : List Str := ["value"]
def t_is_row (P : Program) (w : World) (K : PySem.W.Frag) : TS :=
  (tRet (tCB (rIsiT K) (tCons (tVar 0) (tCons (tTup (tCons (tC (.ty "list")) (tCons (tC (.ty "tuple")) tNil))) tNil))))
abbrev S_is_row : List Str := ["value"]
theorem pure_is_row {P : Program} {w : World} {K : PySem.W.Frag} (vs : List V) (H : Hp) (Q : VK) (E : XK) (h : sp_is_row P w K vs H Q E) : t_is_row P w K { nx := fun _ H' => Q .non H', rt := Q } (start S_is_row vs) H := by
  obtain ⟨v, b, rfl, hr, q⟩ := h
  show t_is_row P w K _ [some v] H
  unfold t_is_row
  walk_at "nrm"
  exact ⟨by rw [sizeLine_eq]; decide, fun p hp => isi_row hr hp (q _ (same_new hp))⟩
theorem len_is_row {P : Program} {w : World} {K : PySem.W.Frag} (vs : List V) (H : Hp) (Q : VK) (E : XK) (h : sp_is_row P w K vs H Q E) : vs.length = n_is_row.length := by
  obtain ⟨v, b, rfl, _⟩ := h
  rfl
/-! ### is_name -/
def lowC (c : Nat) : Bool := decide (97 ≤ c) && decide (c ≤ 122)
def nameOk (x : Str) : Bool := decide (1 ≤ x.length) && (decide (x.length ≤ 12) && x.cps.toList.all lowC)
def vName : V → Bool
  | .str x => nameOk x
  | _ => false
/-- a text that is asked its length is none too long -/
def sp_is_name (P : Program) (w : World) (K : PySem.W.Frag) : Sp := fun vs H Q _ => ∃ v, vs = [v] ∧ Kn K H v ∧ (∀ x, v = .str x → x.length ≤ sizeLine) ∧ Q (.bl (vName v)) H
def n_is_name : List Str := ["value"]
def t_is_name (P : Program) (w : World) (K : PySem.W.Frag) : TS :=
  (tSeq (tIfS (tOr (tNot (tB (tCB (rIsi K) (tCons (tVar 0) (tCons (tC (.ty "str")) tNil))))) (tNot (tTest (tChain gLe gLe (tC (.int 1)) (tCB (gLen K) (tCons (tVar 0) tNil)) (tC (.int 12)))))) (tRet (tC (.bl false))) tNext) (tSeq (tFor (iStr (tVar 0)) (gName 1) (tIfS (tNot (tTest (tChain gLeS gLeS (tC (.str "a")) (tVar 1) (tC (.str "z"))))) (tRet (tC (.bl false))) tNext)) (tRet (tC (.bl true)))))
abbrev S_is_name : List Str := ["value", "char"]
theorem lt_sing (a b : Nat) : decide (([a] : List Nat) < [b]) = decide (a < b) := by
  by_cases h : a < b
  · rw [decide_eq_true h, decide_eq_true]
    exact List.Lex.rel h
  · rw [decide_eq_false h, decide_eq_false]
    intro k
    cases k with
    | rel k => exact h k
    | cons k => cases k
theorem leS_a {y : Nat} {H : Hp} {Q : VK} : gLeS (.str (Str.ofString "a")) (.str ⟨#[y]⟩) H Q ↔ Q (.bl (decide (97 ≤ y))) H := by
  have e1 : (Str.ofString "a").cps.toList = [97] := by decide +kernel
  have e2 : (!decide (([y] : List Nat) < [97])) = decide (97 ≤ y) := by
    rw [lt_sing]
    by_cases h : y < 97 <;> simp [h] <;> omega
  constructor
  · rintro ⟨i, j, e3, e4, q⟩
    cases e3
    cases e4
    rw [e1] at q
    exact e2 ▸ q
  · intro q
    refine ⟨_, _, rfl, rfl, ?_⟩
    rw [e1]
    exact e2 ▸ q
theorem leS_z {y : Nat} {H : Hp} {Q : VK} : gLeS (.str ⟨#[y]⟩) (.str (Str.ofString "z")) H Q ↔ Q (.bl (decide (y ≤ 122))) H := by
  have e1 : (Str.ofString "z").cps.toList = [122] := by decide +kernel
  have e2 : (!decide (([122] : List Nat) < [y])) = decide (y ≤ 122) := by
    rw [lt_sing]
    by_cases h : 122 < y <;> simp [h] <;> omega
  constructor
  · rintro ⟨i, j, e3, e4, q⟩
    cases e3
    cases e4
    rw [e1] at q
    exact e2 ▸ q
  · intro q
    refine ⟨_, _, rfl, rfl, ?_⟩
    rw [e1]
    exact e2 ▸ q
theorem pure_is_name {P : Program} {w : World} {K : PySem.W.Frag} (vs : List V) (H : Hp) (Q : VK) (E : XK) (h : sp_is_name P w K vs H Q E) : t_is_name P w K { nx := fun _ H' => Q .non H', rt := Q } (start S_is_name vs) H := by
  obtain ⟨v, rfl, hk, hz, q⟩ := h
  show t_is_name P w K _ [some v, none] H
  unfold t_is_name
  walk_at "nrm"
  refine isi_str hk ⟨_, rfl, ?_⟩
  cases v with
  | str x =>
    simp only [vStr]
    walk_at "nrm"
    refine ⟨.str x, x.length, rfl, ⟨hz x rfl, rfl⟩, ?_⟩
    walk_at "nrm"
    have e : vName (.str x) = nameOk x := rfl
    rw [e] at q
    unfold nameOk at q
    by_cases h1 : 1 ≤ x.length
    · rw [if_pos (by omega)]
      by_cases h2 : x.length ≤ 12
      · rw [if_neg (by omega)]
        rw [decide_eq_true h1, decide_eq_true h2, Bool.true_and, Bool.true_and] at q
        refine ⟨_, rfl, x, rfl, for_it walk_str (fun i σ H' => H' = H ∧ ∃ c, σ = [some (.str x), c] ∧ ∀ j, j < i → ∀ y, x.cps[j]? = some y → lowC y = true) ⟨rfl, _, rfl, fun j hj => absurd hj (Nat.not_lt_zero _)⟩ (fun _ _ _ _ _ => trivial) ?_ ?_⟩
        · rintro i v σ H1 H2 hi ⟨rfl, c, rfl, hl⟩ ⟨rfl, y, hy, rfl⟩
          walk_at "nrm"
          simp only [leS_a, leS_z, V.bl.injEq, exists_eq_left', decide_eq_true_eq, decide_eq_false_iff_not]
          have bad : lowC y = false → Q (.bl false) H2 := fun z => by
            have e3 : x.cps.toList.all lowC = false := by
              rw [List.all_eq_false]
              exact ⟨y, by
                rw [Array.mem_toList_iff]
                exact Array.mem_of_getElem? hy, by rw [z]; decide⟩
            rw [e3] at q
            exact q
          by_cases c1 : 97 ≤ y
          · rw [if_pos c1]
            by_cases c2 : y ≤ 122
            · rw [if_neg (by omega)]
              refine ⟨trivial, _, rfl, fun j hj z hz' => ?_⟩
              by_cases hji : j = i
              · subst hji
                rw [hy] at hz'
                cases hz'
                simp [lowC, c1, c2]
              · exact hl j (by omega) z hz'
            · rw [if_pos c2]
              exact bad (by simp [lowC, c2])
          · rw [if_neg c1]
            exact bad (by simp [lowC, c1])
        · rintro σ H1 ⟨rfl, c, rfl, hl⟩
          walk_at "nrm"
          have e3 : x.cps.toList.all lowC = true := by
            rw [List.all_eq_true]
            intro y hy
            obtain ⟨j, hj, e⟩ := List.getElem_of_mem hy
            rw [Array.length_toList] at hj
            exact hl j hj y (by rw [← e]; simp [hj])
          rw [e3] at q
          exact q
      · rw [if_pos (by omega)]
        rw [decide_eq_false h2] at q
        simpa using q
    · rw [if_neg (by omega)]
      rw [decide_eq_false h1] at q
      simpa using q
  | _ =>
    simp only [vStr]
    walk_at "nrm"
    exact q
theorem len_is_name {P : Program} {w : World} {K : PySem.W.Frag} (vs : List V) (H : Hp) (Q : VK) (E : XK) (h : sp_is_name P w K vs H Q E) : vs.length = n_is_name.length := by
  obtain ⟨v, rfl, _⟩ := h
  rfl
/-! ### is_state, is_number_below -/
def vState : V → Bool
  | .int i => decide (0 ≤ i) && decide (i ≤ 99)
  | _ => false
def sp_is_state (P : Program) (w : World) (K : PySem.W.Frag) : Sp := fun vs H Q _ => ∃ v, vs = [v] ∧ Kn K H v ∧ Q (.bl (vState v)) H
def n_is_state : List Str := ["value"]
def t_is_state (P : Program) (w : World) (K : PySem.W.Frag) : TS :=
  (tRet (tAndV (tCall (sp_is_integer P w K) [] E0 (tCons (tVar 0) tNil)) (tChain gLe gLe (tC (.int 0)) (tVar 0) (tC (.int 99)))))
abbrev S_is_state : List Str := ["value"]
theorem pure_is_state {P : Program} {w : World} {K : PySem.W.Frag} (vs : List V) (H : Hp) (Q : VK) (E : XK) (h : sp_is_state P w K vs H Q E) : t_is_state P w K { nx := fun _ H' => Q .non H', rt := Q } (start S_is_state vs) H := by
  obtain ⟨v, rfl, hk, q⟩ := h
  show t_is_state P w K _ [some v] H
  unfold t_is_state
  walk_at "nrm"
  refine ⟨v, rfl, hk, ?_⟩
  cases v with
  | int i =>
    simp only [vInt]
    walk_at "nrm"
    by_cases h1 : 0 ≤ i
    · rw [if_pos h1]
      simpa [vState, h1] using q
    · rw [if_neg h1]
      simpa [vState, h1] using q
  | _ =>
    simp only [vInt]
    walk_at "nrm"
    exact q
theorem len_is_state {P : Program} {w : World} {K : PySem.W.Frag} (vs : List V) (H : Hp) (Q : VK) (E : XK) (h : sp_is_state P w K vs H Q E) : vs.length = n_is_state.length := by
  obtain ⟨v, rfl, _⟩ := h
  rfl
def vBelow (n : Int) : V → Bool
  | .int i => decide (0 ≤ i) && decide (i < n)
  | _ => false
def sp_is_number_below (P : Program) (w : World) (K : PySem.W.Frag) : Sp := fun vs H Q _ => ∃ v n, vs = [v, .int n] ∧ Kn K H v ∧ Q (.bl (vBelow n v)) H
def n_is_number_below : List Str := ["value", "count"]
def t_is_number_below (P : Program) (w : World) (K : PySem.W.Frag) : TS :=
  (tRet (tAndV (tCall (sp_is_integer P w K) [] E0 (tCons (tVar 0) tNil)) (tChain gLe gLt (tC (.int 0)) (tVar 0) (tVar 1))))
abbrev S_is_number_below : List Str := ["value", "count"]
theorem pure_is_number_below {P : Program} {w : World} {K : PySem.W.Frag} (vs : List V) (H : Hp) (Q : VK) (E : XK) (h : sp_is_number_below P w K vs H Q E) : t_is_number_below P w K { nx := fun _ H' => Q .non H', rt := Q } (start S_is_number_below vs) H := by
  obtain ⟨v, n, rfl, hk, q⟩ := h
  show t_is_number_below P w K _ [some v, some (.int n)] H
  unfold t_is_number_below
  walk_at "nrm"
  refine ⟨v, rfl, hk, ?_⟩
  cases v with
  | int i =>
    simp only [vInt]
    walk_at "nrm"
    by_cases h1 : 0 ≤ i
    · rw [if_pos h1]
      simpa [vBelow, h1] using q
    · rw [if_neg h1]
      simpa [vBelow, h1] using q
  | _ =>
    simp only [vInt]
    walk_at "nrm"
    exact q
theorem len_is_number_below {P : Program} {w : World} {K : PySem.W.Frag} (vs : List V) (H : Hp) (Q : VK) (E : XK) (h : sp_is_number_below P w K vs H Q E) : vs.length = n_is_number_below.length := by
  obtain ⟨v, n, rfl, _⟩ := h
  rfl
end LG
end

section
set_option maxHeartbeats 4000000
namespace LG
open PySem PySem.Spec PyProof.Rows L2
local macro_rules | `(tactic| walk_at "nrm") => `(tactic| simp only [tRet, tSeq, tNext, tIfS, tAsg, gName, tVar, tC, tCons, tNil, tCB, tOp, tUn, tTest, tB, tAnd, tOr, tNot, tAndV, tOrV, tNotV, tChain, tCall, tDrop, tTup, tLst, tNever, tDNewK, tDNewT, sDPut, tDGet, tDGet2, tDGet1, tDIn, tDNotIn, tSAddH, tBM, tBM0, List.getElem?_cons_zero, List.getElem?_cons_succ, Option.some.injEq, exists_eq_left', List.nil_append, List.cons_append, List.append_nil, List.set_cons_zero, List.set_cons_succ, rI0, rI, rU, ipI, tAug, V.int.injEq, V.bl.injEq, V.str.injEq, V.ref.injEq, exists_eq_left, exists_and_left, decide_eq_true_eq, Bool.not_eq_true', Bool.not_eq_eq_eq_not, Bool.not_true, Bool.not_false, Bool.false_eq_true, decide_eq_false_iff_not, if_true, if_false, true_and, and_true, ite_true, ite_false, reduceCtorEq, List.cons.injEq])
theorem upd_non {H : Hp} {p q : Addr} {o : HO} (h : upd H p o q = none) : q ≠ p ∧ H q = none := by
  by_cases e : q = p
  · rw [e, upd_same] at h; cases h
  · rw [upd_ne e] at h; exact ⟨e, h⟩
theorem hasK_no {κ : Type} [DecidableEq κ] {L : List (Addr × κ)} {k : κ} (h : k ∉ L.map fun p => p.2) : hasK L k = false := decide_eq_false h
theorem iteN {c : Prop} [Decidable c] {A B : Prop} (h : ¬ c) (b : B) : if c then A else B := by rw [if_neg h]; exact b
theorem iteY {c : Prop} [Decidable c] {A B : Prop} (h : c) (a : A) : if c then A else B := by rw [if_pos h]; exact a
theorem Same.none {H H' : Hp} {p : Addr} (s : Same H H') (h : H' p = none) : H p = none := by
  cases e : H p with
  | none => rfl
  | some o => rw [s _ _ e] at h; cases h
/-! ### first_other -/
def sp_first_other (P : Program) (w : World) (K : PySem.W.Frag) : Sp := fun vs H Q _ => ∃ a xs, vs = [.ref a] ∧ SqR K H a xs ∧ (∀ x ∈ xs, Kn K H x ∧ ∀ y, x = .str y → y.length ≤ sizeLine) ∧
  (∀ H', Same H H' → (∀ x ∈ xs, vName x = true) → Q (.int (-1)) H') ∧ ∀ (i : Nat) x H', Same H H' → xs[i]? = some x → vName x = false → (∀ j, j < i → ∀ y, xs[j]? = some y → vName y = true) → Q (.int (i : Nat)) H'
def n_first_other : List Str := ["names"]
def t_first_other (P : Program) (w : World) (K : PySem.W.Frag) : TS :=
  (tSeq (tFor (iEnumS K (tCons (tVar 0) tNil)) (gTup K 2 (gCons (gName 1) (gCons (gName 2) gNil))) (tIfS (tNot (tB (tCall (sp_is_name P w K) [] E0 (tCons (tVar 2) tNil)))) (tRet (tVar 1)) tNext)) (tRet (tUn gNeg (tC (.int 1)))))
abbrev S_first_other : List Str := ["names", "at", "name"]
theorem pure_first_other {P : Program} {w : World} {K : PySem.W.Frag} (vs : List V) (H : Hp) (Q : VK) (E : XK) (h : sp_first_other P w K vs H Q E) : t_first_other P w K { nx := fun _ H' => Q .non H', rt := Q } (start S_first_other vs) H := by
  obtain ⟨a, xs, rfl, hq, hk, q1, q2⟩ := h
  show t_first_other P w K _ [some (.ref a), none, none] H
  unfold t_first_other
  show tFor _ _ _ _ _ _
  refine tFor_enum (H1 := H) (fun Q q => ⟨_, rfl, q⟩) hq (fun i σ H' => (∃ b c, σ = [some (.ref a), b, c]) ∧ Same H H' ∧ ∀ j, j < i → ∀ y, xs[j]? = some y → vName y = true) ⟨⟨_, _, rfl⟩, Same.refl H, fun j hj => absurd hj (Nat.not_lt_zero _)⟩ (fun i σ H' _ p => Same.at p.2.1 a) ?_ ?_
  · rintro i x σ H' T hx ⟨⟨b, c, rfl⟩, s, hl⟩ hT
    have s2 : Same H (upd H' T (.tup [.int (i : Nat), x])) := Same.upd s (Same.none s hT)
    have hxm := List.mem_of_getElem? hx
    walk_at "nrm"
    refine ⟨x, rfl, (hk x hxm).1.same s2, (hk x hxm).2, _, rfl, ?_⟩
    cases hv : vName x with
    | true =>
      walk_at "nrm"
      refine ⟨by simp, s2, fun j hj y hy => ?_⟩
      by_cases hji : j = i
      · subst hji; rw [hx] at hy; cases hy; exact hv
      · exact hl j (by omega) y hy
    | false =>
      walk_at "nrm"
      exact q2 i x _ s2 hx hv hl
  · rintro σ H' ⟨⟨b, c, rfl⟩, s, hl⟩
    walk_at "nrm"
    refine q1 _ s fun x hx => ?_
    obtain ⟨j, hj, e⟩ := List.getElem_of_mem hx
    exact hl j hj x (by rw [List.getElem?_eq_getElem hj, e])
theorem len_first_other {P : Program} {w : World} {K : PySem.W.Frag} (vs : List V) (H : Hp) (Q : VK) (E : XK) (h : sp_first_other P w K vs H Q E) : vs.length = n_first_other.length := by
  obtain ⟨a, xs, rfl, _⟩ := h
  rfl
/-! ### is_step -/
/-- a step: its state, its word, its end -/
abbrev Row := Int × Str × Int
def rowK (r : Row) : List Key := [.inl r.1, .inr r.2.1, .inl r.2.2]
abbrev rowT (r : Row) : HO := .tup [.int r.1, .str r.2.1, .int r.2.2]
def stOk (i : Int) : Bool := decide (0 ≤ i) && decide (i ≤ 99)
def rowOk (r : Row) : Bool := stOk r.1 && (nameOk r.2.1 && stOk r.2.2)
theorem rowT_eq (r : Row) : HO.tup ((rowK r).map kV) = rowT r := rfl
/-- for a tuple of a step's form -/
def sp_is_step (P : Program) (w : World) (K : PySem.W.Frag) : Sp := fun vs H Q _ => ∃ a r, vs = [.ref a] ∧ H a = some (rowT r) ∧ r.2.1.length ≤ sizeLine ∧ Q (.bl (rowOk r)) H
def n_is_step : List Str := ["value"]
def t_is_step (P : Program) (w : World) (K : PySem.W.Frag) : TS :=
  (tSeq (tIfS (tOr (tNot (tB (tCB (rIsi K) (tCons (tVar 0) (tCons (tC (.ty "tuple")) tNil))))) (tTest (tOp rNe (tCB (gLen K) (tCons (tVar 0) tNil)) (tC (.int 3))))) (tRet (tC (.bl false))) tNext) (tRet (tAndV (tCall (sp_is_state P w K) [] E0 (tCons (tOp (rIxT K) (tVar 0) (tC (.int 0))) tNil)) (tAndV (tCall (sp_is_name P w K) [] E0 (tCons (tOp (rIxT K) (tVar 0) (tC (.int 1))) tNil)) (tCall (sp_is_state P w K) [] E0 (tCons (tOp (rIxT K) (tVar 0) (tC (.int 2))) tNil))))))
abbrev S_is_step : List Str := ["value"]
theorem pure_is_step {P : Program} {w : World} {K : PySem.W.Frag} (vs : List V) (H : Hp) (Q : VK) (E : XK) (h : sp_is_step P w K vs H Q E) : t_is_step P w K { nx := fun _ H' => Q .non H', rt := Q } (start S_is_step vs) H := by
  obtain ⟨a, r, rfl, ha, hz, q⟩ := h
  show t_is_step P w K _ [some (.ref a)] H
  unfold t_is_step
  walk_at "nrm"
  have i0 : atI [V.int r.1, V.str r.2.1, V.int r.2.2] 0 = some (.int r.1) := rfl
  have i1 : atI [V.int r.1, V.str r.2.1, V.int r.2.2] 1 = some (.str r.2.1) := rfl
  have i2 : atI [V.int r.1, V.str r.2.1, V.int r.2.2] 2 = some (.int r.2.2) := rfl
  refine isi_any (by decide) (vTyB.tup ha) ⟨_, rfl, ?_⟩
  walk_at "nrm"
  refine len_row (.inr (.inl (.inl ha))) ?_
  refine ⟨rfl, _, rfl, iteN (by simp) ?_⟩
  refine ixT ha i0 ⟨_, rfl, .int _, _, rfl, ite_b (fun e1 => ixT ha i1 ⟨_, rfl, .str _, fun x e => by cases e; exact hz, _, rfl, ite_b (fun e2 => ixT ha i2 ⟨_, rfl, .int _, ?_⟩) fun e2 => ?_⟩) fun e1 => ?_⟩
  · have e : rowOk r = vState (.int r.2.2) := by
      show (vState (.int r.1) && (vName (.str r.2.1) && vState (.int r.2.2))) = _
      rw [e1, e2]; rfl
    rw [← e]; exact q
  · have e : rowOk r = false := by
      show (vState (.int r.1) && (vName (.str r.2.1) && vState (.int r.2.2))) = _
      rw [e1, e2]; rfl
    rw [e] at q; exact q
  · have e : rowOk r = false := by
      show (vState (.int r.1) && (vName (.str r.2.1) && vState (.int r.2.2))) = _
      rw [e1]; rfl
    rw [e] at q; exact q
theorem len_is_step {P : Program} {w : World} {K : PySem.W.Frag} (vs : List V) (H : Hp) (Q : VK) (E : XK) (h : sp_is_step P w K vs H Q E) : vs.length = n_is_step.length := by
  obtain ⟨a, r, rfl, _⟩ := h
  rfl
/-! ### checked_steps -/
/-- how many of the steps leave the state -/
def leaves (s : Int) (rs : List Row) : Nat := rs.countP fun r => decide (r.1 = s)
structure StepsOk (rs : List Row) : Prop where
  lo : 1 ≤ rs.length
  hi : rs.length ≤ 60
  ok : ∀ r ∈ rs, rowOk r = true
  nd : rs.Nodup
  few : ∀ s, leaves s rs ≤ 8
abbrev refsOf {κ : Type} (L : List (Addr × κ)) : List V := L.map fun p => V.ref p.1
def RowsAt (H : Hp) (L : List (Addr × Row)) : Prop := ∀ p ∈ L, H p.1 = some (rowT p.2)
theorem RowsAt.same {H H' : Hp} {L : List (Addr × Row)} (s : Same H H') (h : RowsAt H L) : RowsAt H' L := fun p hp => s _ _ (h p hp)
theorem rowOk_len {r : Row} (h : rowOk r = true) : r.2.1.length ≤ sizeLine := by
  have h1 : nameOk r.2.1 = true := by
    simp only [rowOk, Bool.and_eq_true] at h
    exact h.2.1
  have h2 : r.2.1.length ≤ 12 := by
    simp only [nameOk, Bool.and_eq_true, decide_eq_true_eq] at h1
    exact h1.2.1
  rw [sizeLine_eq]; omega
theorem rowK_inj {r s : Row} (h : rowK r = rowK s) : r = s := by
  simp only [rowK, List.cons.injEq, Sum.inl.injEq, Sum.inr.injEq, and_true] at h
  obtain ⟨a, b, c⟩ := r
  obtain ⟨a', b', c'⟩ := s
  simp only at h
  obtain ⟨rfl, rfl, rfl⟩ := h
  rfl
def sp_checked_steps (P : Program) (w : World) (K : PySem.W.Frag) : Sp := fun vs H Q _ => ∃ a L, vs = [.ref a] ∧ (H a = some (.lst (refsOf L)) ∨ H a = some (.tup (refsOf L))) ∧ RowsAt H L ∧ StepsOk (L.map (·.2)) ∧
  ∀ H' l, Same H H' → H l = none → H' l = some (.lst (refsOf L)) → Q (.ref l) H'
def n_checked_steps : List Str := ["steps"]
def t_checked_steps (P : Program) (w : World) (K : PySem.W.Frag) : TS :=
  (tSeq (tIfS (tOr (tNot (tB (tCall (sp_is_row P w K) [] E0 (tCons (tVar 0) tNil)))) (tNot (tTest (tChain gLe gLe (tC (.int 1)) (tCB (gLen K) (tCons (tVar 0) tNil)) (tC (.int 60)))))) tNever tNext) (tSeq (tAsg (tCB (rSet0H P w) tNil) (gName 1)) (tSeq (tAsg tDNewK (gName 2)) (tSeq (tAsg (tLst tNil) (gName 3)) (tSeq (tFor (iEnumS K (tCons (tVar 0) tNil)) (gTup K 2 (gCons (gName 4) (gCons (gName 5) gNil))) (tSeq (tIfS (tOr (tNot (tB (tCall (sp_is_step P w K) [] E0 (tCons (tVar 5) tNil)))) (tTest (tOp (rInH P w false) (tVar 5) (tVar 1)))) tNever tNext) (tSeq (sDPut (tVar 2) (tOp (rIxT K) (tVar 5) (tC (.int 0))) (tOp gAdd (tDGet2 (tVar 2) (tOp (rIxT K) (tVar 5) (tC (.int 0))) (tC (.int 0))) (tC (.int 1)))) (tSeq (tIfS (tTest (tOp gGt (tDGet (tVar 2) (tOp (rIxT K) (tVar 5) (tC (.int 0)))) (tC (.int 8)))) tNever tNext) (tSeq (tDrop (tSAddH P w (tVar 1) (tCons (tVar 5) tNil))) (tDrop (tBM K "list" rAppend (tVar 3) (tCons (tVar 5) tNil)))))))) (tRet (tVar 3)))))))
abbrev S_checked_steps : List Str := ["steps", "seen", "leaving", "rows", "at", "step"]
theorem take_succ_get {α : Type} {l : List α} {i : Nat} {x : α} (h : l[i]? = some x) : l.take (i + 1) = l.take i ++ [x] := by
  rw [List.take_succ, h]; rfl
theorem leaves_snoc (s : Int) (rs : List Row) (r : Row) : leaves s (rs ++ [r]) = leaves s rs + if r.1 = s then 1 else 0 := by
  unfold leaves
  rw [List.countP_append, List.countP_cons, List.countP_nil]
  by_cases e : r.1 = s <;> simp [e]
theorem leaves_take (s : Int) (rs : List Row) (i : Nat) : leaves s (rs.take i) ≤ leaves s rs := List.Sublist.countP_le (List.take_sublist i rs)
def cntV (n : Nat) : Option V := if n = 0 then none else some (.int n)
/-- behind i turns -/
structure CsInv (P : Program) (w : World) (H : Hp) (L : List (Addr × Row)) (sp dp lp : Addr) (i : Nat) (H' : Hp) : Prop where
  keep : Keeps H H' [sp, dp, lp]
  set : ∃ S, IsSetF P w H' sp S ∧ S.Perm ((L.take i).map fun p => (p.1, rowK p.2))
  dct : ∃ kvs, H' dp = some (.dK kvs) ∧ (∀ s : Int, valV kvs (.inl s) = cntV (leaves s ((L.take i).map (·.2)))) ∧ kvs.length ≤ i
  lst : H' lp = some (.lst (refsOf (L.take i)))
theorem pure_checked_steps {P : Program} {w : World} {K : PySem.W.Frag} (vs : List V) (H : Hp) (Q : VK) (E : XK) (h : sp_checked_steps P w K vs H Q E) : t_checked_steps P w K { nx := fun _ H' => Q .non H', rt := Q } (start S_checked_steps vs) H := by
  obtain ⟨a, L, rfl, ha, hL, ok, q⟩ := h
  show t_checked_steps P w K _ [some (.ref a), none, none, none, none, none] H
  have hq : SqR K H a (refsOf L) := ha.imp (fun h => .inl (.inl h)) fun h => .inl (.inl h)
  have len : (refsOf L).length = L.length := List.length_map _
  have lo := ok.lo
  have hi := ok.hi
  rw [List.length_map] at lo hi
  unfold t_checked_steps
  walk_at "nrm"
  refine ⟨_, _, rfl, vRow_of ha, fun H1 s1 => ⟨_, rfl, iteN (by simp) ?_⟩⟩
  refine len_row (sqR_keep (Same.at s1 a) hq) ?_
  refine ⟨_, rfl, iteY (by omega) ⟨_, rfl, iteN (by omega) ?_⟩⟩
  refine ⟨rfl, fun sp hsp dp hdp => ⟨by decide, fun lp hlp => ?_⟩⟩
  have nsp : H sp = none := Same.none s1 hsp
  obtain ⟨d1, hdp1⟩ := upd_non hdp
  obtain ⟨d2, hlp1⟩ := upd_non hlp
  obtain ⟨d3, hlp2⟩ := upd_non hlp1
  have ndp : H dp = none := Same.none s1 hdp1
  have nlp : H lp = none := Same.none s1 hlp2
  refine tFor_enum (H1 := upd (upd (upd H1 sp (SetFO P w sp [])) dp (.dK [])) lp (.lst [])) (fun Q q => ⟨_, rfl, q⟩) hq (fun i σ H' => (∃ b c, σ = [some (.ref a), some (.ref sp), some (.ref dp), some (.ref lp), b, c]) ∧ CsInv P w H L sp dp lp i H') ⟨⟨_, _, rfl⟩, ?_⟩ (fun i σ H' _ p => Same.at (Keeps.same p.2.keep fun b hb => by
      simp only [List.mem_cons, List.not_mem_nil, or_false] at hb
      rcases hb with rfl | rfl | rfl <;> assumption) a) ?_ ?_
  · refine ⟨?_, ⟨[], ⟨by rw [upd_ne (Ne.symm d3), upd_ne (Ne.symm d1)]; exact upd_same, fun p hp => by cases hp⟩, .nil⟩, ⟨[], by rw [upd_ne (Ne.symm d2)]; exact upd_same, fun s => rfl, Nat.le_refl _⟩, upd_same⟩
    intro b o nb e
    rw [upd_ne (fun z => nb (by simp [z])), upd_ne (fun z => nb (by simp [z])), upd_ne (fun z => nb (by simp [z]))]
    exact s1 b o e
  · rintro i x σ H' T hx ⟨⟨b, c, rfl⟩, inv⟩ hT
    obtain ⟨⟨p, r⟩, hpr, rfl⟩ : ∃ p, L[i]? = some p ∧ x = .ref p.1 := by
      rw [List.getElem?_map] at hx
      cases e : L[i]? with
      | none => rw [e] at hx; cases hx
      | some p => rw [e] at hx; cases hx; exact ⟨p, rfl, rfl⟩
    walk_at "nrm"
    have hmem : (p, r) ∈ L := List.mem_of_getElem? hpr
    have il : i < L.length := (List.getElem?_eq_some_iff.mp hpr).1
    have hok : rowOk r = true := ok.ok r (List.mem_map.mpr ⟨_, hmem, rfl⟩)
    have hp0 : H p = some (rowT r) := hL _ hmem
    have psp : p ≠ sp := ne_of_none hp0 nsp
    have pdp : p ≠ dp := ne_of_none hp0 ndp
    have plp : p ≠ lp := ne_of_none hp0 nlp
    have hp : H' p = some (rowT r) := inv.keep p _ (by simp [psp, pdp, plp]) hp0
    obtain ⟨S, hS, pS⟩ := inv.set
    obtain ⟨kvs, hk, hv, hkl⟩ := inv.dct
    have tk : L.take (i + 1) = L.take i ++ [(p, r)] := take_succ_get hpr
    have tk2 : (L.take (i + 1)).map (·.2) = (L.take i).map (·.2) ++ [r] := by rw [tk, List.map_append]; rfl
    have nin : rowK r ∉ S.map fun p => p.2 := fun m => by
      have m2 := (pS.map fun p => p.2).mem_iff.mp m
      rw [List.map_map] at m2
      obtain ⟨⟨p2, r2⟩, h1, h2⟩ := List.mem_map.mp m2
      have e : r2 = r := rowK_inj h2
      subst e
      have nd : ((L.take (i + 1)).map (·.2)).Nodup := by
        rw [List.map_take]; exact List.Sublist.nodup (List.take_sublist _ _) ok.nd
      rw [tk2] at nd
      exact (List.nodup_append.mp nd).2.2 r2 (List.mem_map.mpr ⟨_, h1, rfl⟩) r2 (List.mem_singleton.mpr rfl) rfl
    have has : hasK S (rowK r) = false := hasK_no nin
    generalize hH2 : upd H' T (HO.tup [V.int (i : Nat), V.ref p]) = H2
    have s2 : Same H' H2 := by rw [← hH2]; exact same_new hT
    have few : leaves r.1 ((L.take i).map (·.2)) + 1 ≤ 8 := by
      have z := leaves_take r.1 (L.map (·.2)) (i + 1)
      rw [← List.map_take, tk2, leaves_snoc, if_pos rfl] at z
      exact Nat.le_trans z (ok.few r.1)
    have sl : S.length = i := by
      rw [pS.length_eq, List.length_map, List.length_take]; omega
    have cg : (cntV (leaves r.1 ((L.take i).map (·.2)))).getD (.int 0) = .int (leaves r.1 ((L.take i).map (·.2)) : Nat) := by
      unfold cntV
      split
      · rename_i e; rw [e]; rfl
      · rfl
    generalize hn : leaves r.1 ((L.take i).map (·.2)) = n at few cg
    have vr : valV kvs (.inl r.1) = cntV n := by rw [← hn]; exact hv r.1
    refine ⟨p, r, rfl, s2 _ _ hp, rowOk_len hok, _, rfl, iteN (by rw [hok]; decide) ?_⟩
    refine ⟨rowK r, p, sp, S, rfl, rfl, s2 _ _ hp, hS.same s2, _, rfl, iteN (by rw [has]; decide) ⟨.inl ⟨kvs, .inl (s2 _ _ hk)⟩, ?_⟩⟩
    refine ixT (s2 _ _ hp) rfl ⟨_, DGet.k (k := .inl r.1) (s2 _ _ hk), _, by rw [vr]; exact cg, ?_⟩
    refine ixT (s2 _ _ hp) rfl ⟨_, .inl ⟨kvs, .inl r.1, s2 _ _ hk, rfl, small1000 (by omega), rfl⟩, ?_⟩
    generalize hH3 : upd H2 dp (HO.dK (putK kvs (.inl r.1) (V.int ((n : Int) + 1)))) = H3
    have k3 : ∀ b o, b ≠ dp → H2 b = some o → H3 b = some o := fun b o nb e => by rw [← hH3, upd_ne nb]; exact e
    have hd3 : H3 dp = some (HO.dK (putK kvs (.inl r.1) (V.int ((n : Int) + 1)))) := by rw [← hH3]; exact upd_same
    have hp3 : H3 p = some (rowT r) := k3 _ _ pdp (s2 _ _ hp)
    have hS3 : IsSetF P w H3 sp S := ⟨k3 _ _ (Ne.symm d1) (s2 _ _ hS.1), fun q hq => k3 _ _ (ne_of (s2 _ _ (hS.2 q hq)) (s2 _ _ hk) (by simp)) (s2 _ _ (hS.2 q hq))⟩
    refine ixT hp3 rfl ⟨V.int ((n : Int) + 1), ?_, (n : Int) + 1, rfl, iteN (by omega) ⟨⟨S, hS3.1⟩, ?_⟩⟩
    · have z := DGet.k (k := .inl r.1) hd3
      rw [valV_put, if_pos rfl] at z
      exact z
    refine ⟨sp, p, rowK r, S, rfl, rfl, hp3, hS3, by omega, fun m => absurd m nin, fun _ S' pm => ?_⟩
    have hl4 : upd H3 sp (SetFO P w sp S') lp = some (.lst (refsOf (L.take i))) := by
      rw [upd_ne d3]; exact k3 _ _ d2 (s2 _ _ inv.lst)
    refine ⟨.inl ⟨rfl, _, .inl (.inl hl4)⟩, append_at hl4 (small1000 (by rw [List.length_map, List.length_take]; omega)) ⟨⟨_, rfl⟩, ?_⟩⟩
    refine ⟨fun b o nb e => ?_, ⟨S', ⟨by rw [upd_ne (Ne.symm d3)]; exact upd_same, fun q hq => ?_⟩, ?_⟩, ⟨_, by rw [upd_ne (Ne.symm d2), upd_ne d1]; exact hd3, fun s => ?_, ?_⟩, by rw [show refsOf (L.take (i + 1)) = refsOf (L.take i) ++ [V.ref p] from by rw [tk]; exact List.map_append]; exact upd_same⟩
    · rw [upd_ne (fun z => nb (by simp [z])), upd_ne (fun z => nb (by simp [z]))]
      exact k3 _ _ (fun z => nb (by simp [z])) (s2 _ _ (inv.keep b o nb e))
    · have m : H3 q.1 = some (.tup (q.2.map kV)) := by
        rcases List.mem_cons.mp (pm.mem_iff.mp hq) with z | z
        · rw [z]; exact hp3
        · exact hS3.2 q z
      rw [upd_ne (ne_of m (k3 _ _ d2 (s2 _ _ inv.lst)) (by simp)), upd_ne (ne_of m hS3.1 (by simp [SetFO]))]
      exact m
    · refine pm.trans ?_
      rw [tk, List.map_append]
      exact (List.Perm.cons _ pS).trans (List.perm_append_singleton _ _).symm
    · rw [valV_put, tk2, leaves_snoc]
      by_cases e : s = r.1
      · subst e
        rw [if_pos rfl, if_pos rfl, hn]
        unfold cntV
        rw [if_neg (by omega)]
        simp
      · rw [if_neg (fun z => e (by cases z; rfl)), if_neg (fun z => e z.symm), Nat.add_zero]
        exact hv s
    · have z := length_putK kvs (.inl r.1) (V.int ((n : Int) + 1))
      omega
  · rintro σ H' ⟨⟨b, c, rfl⟩, inv⟩
    walk_at "nrm"
    have z := inv.lst
    rw [len, List.take_length] at z
    exact q H' lp (Keeps.same inv.keep fun b hb => by
      simp only [List.mem_cons, List.not_mem_nil, or_false] at hb
      rcases hb with rfl | rfl | rfl <;> assumption) nlp z
theorem len_checked_steps {P : Program} {w : World} {K : PySem.W.Frag} (vs : List V) (H : Hp) (Q : VK) (E : XK) (h : sp_checked_steps P w K vs H Q E) : vs.length = n_checked_steps.length := by
  obtain ⟨a, r, rfl, _⟩ := h
  rfl
end LG
end

section
set_option maxHeartbeats 4000000
namespace LG
open PySem PySem.Spec PyProof.Rows L2
local macro_rules | `(tactic| walk_at "nrm") => `(tactic| simp only [tRet, tSeq, tNext, tIfS, tAsg, gName, tVar, tC, tCons, tNil, tCB, tOp, tUn, tTest, tB, tAnd, tOr, tNot, tAndV, tOrV, tNotV, tChain, tCall, tDrop, tTup, tLst, tNever, tDNewK, tDNewT, sDPut, tDGet, tDGet2, tDGet1, tDIn, tDNotIn, tSAddH, tBM, tBM0, tTru, List.getElem?_cons_zero, List.getElem?_cons_succ, Option.some.injEq, exists_eq_left', List.nil_append, List.cons_append, List.append_nil, List.set_cons_zero, List.set_cons_succ, rI0, rI, rU, ipI, tAug, V.int.injEq, V.bl.injEq, V.str.injEq, V.ref.injEq, exists_eq_left, exists_and_left, decide_eq_true_eq, Bool.not_eq_true', Bool.not_eq_eq_eq_not, Bool.not_true, Bool.not_false, Bool.false_eq_true, decide_eq_false_iff_not, if_true, if_false, true_and, and_true, ite_true, ite_false, reduceCtorEq, List.cons.injEq])
/-! ### checked_marks -/
def marksOf (ns : List Int) : List (Key × V) := ns.map fun n => (.inl n, .bl true)
theorem valV_marks (n : Int) : ∀ ns : List Int, valV (marksOf ns) (.inl n) = if n ∈ ns then some (.bl true) else none
  | [] => by simp [marksOf, valV_nil]
  | m :: ns => by
    have ih := valV_marks n ns
    rw [marksOf, List.map_cons]
    by_cases e : n = m
    · subst e
      rw [valV_pos rfl, if_pos (List.mem_cons_self)]
    · rw [valV_neg (fun z => e (by cases z; rfl))]
      rw [marksOf] at ih
      rw [ih]
      by_cases h : n ∈ ns
      · rw [if_pos h, if_pos (List.mem_cons_of_mem _ h)]
      · rw [if_neg h, if_neg (fun z => (List.mem_cons.mp z).elim e h)]
theorem putK_new {kvs : List (Key × V)} {k : Key} {v : V} (h : valV kvs k = none) : putK kvs k v = kvs ++ [(k, v)] := by
  unfold putK
  rw [valV_any, h]
  rfl
def intsV (ns : List Int) : List V := ns.map V.int
def sp_checked_marks (P : Program) (w : World) (K : PySem.W.Frag) : Sp := fun vs H Q _ => ∃ a c t ns tk, vs = [.ref a, .int c, .ref t] ∧ (∃ b, vRow K H (.ref a) b ∧ b = true) ∧ SqR K H a (intsV ns) ∧ H t = some (.dK tk) ∧ ns.length ≤ 1000 ∧ ns.Nodup ∧ (∀ n ∈ ns, 0 ≤ n ∧ n < c ∧ valV tk (.inl n) = none) ∧
  ∀ H' d, Same H H' → H d = none → H' d = some (.dK (marksOf ns)) → Q (.ref d) H'
def n_checked_marks : List Str := ["numbers", "count", "taken"]
def t_checked_marks (P : Program) (w : World) (K : PySem.W.Frag) : TS :=
  (tSeq (tIfS (tNot (tB (tCall (sp_is_row P w K) [] E0 (tCons (tVar 0) tNil)))) tNever tNext) (tSeq (tAsg tDNewK (gName 3)) (tSeq (tFor (iRow K (tVar 0)) (gName 4) (tSeq (tIfS (tOr (tNot (tB (tCall (sp_is_number_below P w K) [] E0 (tCons (tVar 4) (tCons (tVar 1) tNil))))) (tOr (tB (tDIn (tVar 4) (tVar 3))) (tB (tDIn (tVar 4) (tVar 2))))) tNever tNext) (sDPut (tVar 3) (tVar 4) (tC (.bl true))))) (tRet (tVar 3)))))
abbrev S_checked_marks : List Str := ["numbers", "count", "taken", "marks", "number"]
theorem pure_checked_marks {P : Program} {w : World} {K : PySem.W.Frag} (vs : List V) (H : Hp) (Q : VK) (E : XK) (h : sp_checked_marks P w K vs H Q E) : t_checked_marks P w K { nx := fun _ H' => Q .non H', rt := Q } (start S_checked_marks vs) H := by
  obtain ⟨a, c, t, ns, tk, rfl, ⟨b, hr, rfl⟩, hq, ht, hz, nd, hn, q⟩ := h
  show t_checked_marks P w K _ [some (.ref a), some (.int c), some (.ref t), none, none] H
  unfold t_checked_marks
  walk_at "nrm"
  refine ⟨_, _, rfl, hr, fun H1 s1 => ⟨_, rfl, iteN (by simp) fun d hd => ?_⟩⟩
  have nd0 : H d = none := Same.none s1 hd
  refine tFor_row (H1 := upd H1 d (.dK [])) (fun Q q => ⟨_, rfl, q⟩) hq (fun i σ H' => (∃ b, σ = [some (.ref a), some (.int c), some (.ref t), some (.ref d), b]) ∧ Same H H' ∧ H' d = some (.dK (marksOf (ns.take i)))) ⟨⟨_, rfl⟩, Same.upd s1 nd0, upd_same⟩ (fun i σ H' _ p => Same.at p.2.1 a) ?_ ?_
  · rintro i x σ H' hx ⟨⟨b, rfl⟩, s, hd'⟩
    obtain ⟨n, hnn, rfl⟩ : ∃ n, ns[i]? = some n ∧ x = .int n := by
      rw [intsV, List.getElem?_map] at hx
      cases e : ns[i]? with
      | none => rw [e] at hx; cases hx
      | some p => rw [e] at hx; cases hx; exact ⟨p, rfl, rfl⟩
    walk_at "nrm"
    have hm : n ∈ ns := List.mem_of_getElem? hnn
    obtain ⟨n1, n2, n3⟩ := hn n hm
    have fresh : valV (marksOf (ns.take i)) (.inl n) = none := by
      rw [valV_marks, if_neg]
      intro m
      have nd2 : (ns.take (i + 1)).Nodup := List.Sublist.nodup (List.take_sublist _ _) nd
      rw [take_succ_get hnn] at nd2
      exact (List.nodup_append.mp nd2).2.2 n m n (List.mem_singleton.mpr rfl) rfl
    have td : t ≠ d := ne_of_none ht nd0
    refine ⟨.int n, c, rfl, .int n, _, rfl, iteN (by simp [vBelow, n1, n2]) ⟨_, DGet.k (k := .inl n) hd', iteN (by rw [fresh]; decide) ⟨_, DGet.k (k := .inl n) (s _ _ ht), iteN (by rw [n3]; decide) ⟨_, .inl ⟨_, .inl n, hd', rfl, small1000 ?_, rfl⟩, ⟨_, rfl⟩, Same.upd s nd0, ?_⟩⟩⟩⟩
    · rw [marksOf, List.length_map, List.length_take]; omega
    · rw [upd_same, putK_new fresh, take_succ_get hnn]
      simp [marksOf]
  · rintro σ H' ⟨⟨b, rfl⟩, s, hd'⟩
    walk_at "nrm"
    rw [intsV, List.length_map, List.take_length] at hd'
    exact q H' d s nd0 hd'
theorem len_checked_marks {P : Program} {w : World} {K : PySem.W.Frag} (vs : List V) (H : Hp) (Q : VK) (E : XK) (h : sp_checked_marks P w K vs H Q E) : vs.length = n_checked_marks.length := by
  obtain ⟨a, c, t, ns, tk, rfl, _⟩ := h
  rfl
/-- for x in d.get(y, []) -/
theorem tFor_getL {K : PySem.W.Frag} {g : TG} {tb : TS} {D : Ends} {σ : L2.St} {H : Hp} {i j : Nat} {d : Addr} {y : V} (e1 : σ[i]? = some (some (.ref d))) (e2 : σ[j]? = some (some y)) (hd : IsD H d)
    (h : ∀ ap, H ap = none → ∃ (o : Option V) (a : Addr) (xs : List V) (Pv : Nat → L2.St → Hp → Prop), DGet (upd H ap (.lst [])) d y o ∧ o.getD (.ref ap) = .ref a ∧ Pv 0 σ (upd H ap (.lst [])) ∧ (∀ i σ H', Pv i σ H' → SqL K H' a xs) ∧
      (∀ i x σ H', xs[i]? = some x → Pv i σ H' → g x σ H' fun σ2 H2 => tb { D with nx := Pv (i + 1), ct := Pv (i + 1), bk := D.nx } σ2 H2) ∧ (∀ σ H, Pv xs.length σ H → D.nx σ H)) : tFor (iList K (tDGet2 (tVar i) (tVar j) (tLst tNil))) g tb D σ H := by
  unfold tFor iList tDGet2 tVar tLst tNil
  refine ⟨_, e1, d, rfl, hd, _, e2, by decide, fun ap hap => ?_⟩
  obtain ⟨o, a, xs, Pv, h1, h2, h3, h4, h5, h6⟩ := h ap hap
  exact ⟨o, h1, a, h2, ⟨xs, h4 _ _ _ h3⟩, for_it walk_list Pv h3 (fun i σ H' hi p => h4 i σ H' p) (fun i x σ H' H2 hi p y => by obtain ⟨rfl, hx⟩ := y; exact h5 i x σ _ hx p) h6⟩
/-! ### reached_states -/
/-- the numbers below i of the steps that leave s -/
def nums (s : Int) (rs : List Row) (i : Nat) : List Nat := (List.range i).filter fun j => decide ((rs[j]?.map (·.1)) = some s)
theorem nums_succ (s : Int) (rs : List Row) (i : Nat) : nums s rs (i + 1) = nums s rs i ++ if (rs[i]?.map (·.1)) = some s then [i] else [] := by
  unfold nums
  rw [List.range_succ, List.filter_append]
  congr 1
  by_cases e : (rs[i]?.map (·.1)) = some s
  · rw [if_pos e]; simp [e]
  · rw [if_neg e]; simp [e]
theorem mem_nums {s : Int} {rs : List Row} {i j : Nat} : j ∈ nums s rs i ↔ j < i ∧ (rs[j]?.map (·.1)) = some s := by
  rw [nums, List.mem_filter, List.mem_range, decide_eq_true_eq]
def natsV (ns : List Nat) : List V := ns.map fun n => V.int (n : Nat)
/-- the dict of the numbers of the steps that leave each state -/
def LeavAt (H : Hp) (lv : Addr) (rs : List Row) : Prop := ∃ kvs, H lv = some (.dK kvs) ∧ ∀ s : Int, (nums s rs rs.length = [] → valV kvs (.inl s) = none) ∧
  (nums s rs rs.length ≠ [] → ∃ q, valV kvs (.inl s) = some (.ref q) ∧ H q = some (.lst (natsV (nums s rs rs.length))))
inductive Reach (rs : List Row) (st : Int) : Int → Prop
  | base : Reach rs st st
  | step {r : Row} : Reach rs st r.1 → r ∈ rs → Reach rs st r.2.2
theorem Reach.among {rs : List Row} {st x : Int} (h : Reach rs st x) : x ∈ st :: rs.map (·.2.2) := by
  cases h with
  | base => exact List.mem_cons_self
  | step _ hm => exact List.mem_cons_of_mem _ (List.mem_map.mpr ⟨_, hm, rfl⟩)
theorem nodup_among {α : Type} [DecidableEq α] {l m : List α} (nd : l.Nodup) (h : ∀ x ∈ l, x ∈ m) : l.length ≤ m.length := by
  induction l generalizing m with
  | nil => exact Nat.zero_le _
  | cons x l ih =>
    obtain ⟨n1, n2⟩ := List.nodup_cons.mp nd
    have hx := h x List.mem_cons_self
    have z := ih (m := m.erase x) n2 fun y hy => (List.mem_erase_of_ne (fun e => n1 (by rw [← e]; exact hy))).mpr (h y (List.mem_cons_of_mem _ hy))
    rw [List.length_erase_of_mem hx] at z
    have : 0 < m.length := List.length_pos_of_mem hx
    simp only [List.length_cons]
    omega
def sp_reached_states (P : Program) (w : World) (K : PySem.W.Frag) : Sp := fun vs H Q _ => ∃ st lv l L, vs = [.int st, .ref lv, .ref l] ∧ LeavAt H lv (L.map (·.2)) ∧ H l = some (.lst (refsOf L)) ∧ RowsAt H L ∧ L.length ≤ 60 ∧
  ∀ H' a (ns : List Int), Same H H' → H a = none → H' a = some (.lst (intsV ns)) → ns.Pairwise (· < ·) → (∀ s, s ∈ ns ↔ Reach (L.map (·.2)) st s) → Q (.ref a) H'
def n_reached_states : List Str := ["start", "leaving", "rows"]
def t_reached_states (P : Program) (w : World) (K : PySem.W.Frag) : TS :=
  (tSeq (tAsg (tDisp (((tVar 0), (tC (.bl true))) :: [])) (gName 3)) (tSeq (tAsg (tLst (tCons (tVar 0) tNil)) (gName 4)) (tSeq (tWhile (tTru K (tVar 4)) (tSeq (tAsg (tBM0 K "list" rPop (tVar 4)) (gName 5)) (tFor (iList K (tDGet2 (tVar 1) (tVar 5) (tLst tNil))) (gName 6) (tSeq (tAsg (tOp (rIxT K) (tOp (rIxL K) (tVar 2) (tVar 6)) (tC (.int 2))) (gName 7)) (tIfS (tB (tDNotIn (tVar 7) (tVar 3))) (tSeq (sDPut (tVar 3) (tVar 7) (tC (.bl true))) (tDrop (tBM K "list" rAppend (tVar 4) (tCons (tVar 7) tNil)))) tNext))))) (tRet (tCB (rSorted K) (tCons (tCB rListD (tCons (tVar 3) tNil)) tNil))))))
abbrev S_reached_states : List Str := ["start", "leaving", "rows", "found", "queue", "state", "number", "end"]
/-- while states wait: F found, qs waiting -/
structure RsInv (H : Hp) (rs : List Row) (st : Int) (fp qp : Addr) (F qs : List Int) (H' : Hp) : Prop where
  same : Same H H'
  fnd : H' fp = some (.dK (marksOf F))
  que : H' qp = some (.lst (intsV qs))
  nd : F.Nodup
  stF : st ∈ F
  re : ∀ x ∈ F, Reach rs st x
  sub : ∀ x ∈ qs, x ∈ F
  qnd : qs.Nodup
theorem RsInv.few {H : Hp} {rs : List Row} {st : Int} {fp qp : Addr} {F qs : List Int} {H' : Hp} (I : RsInv H rs st fp qp F qs H') (h : rs.length ≤ 60) : F.length ≤ 61 := by
  have z := nodup_among I.nd fun x hx => (I.re x hx).among
  simp only [List.length_cons, List.length_map] at z
  omega
theorem pure_reached_states {P : Program} {w : World} {K : PySem.W.Frag} (vs : List V) (H : Hp) (Q : VK) (E : XK) (h : sp_reached_states P w K vs H Q E) : t_reached_states P w K { nx := fun _ H' => Q .non H', rt := Q } (start S_reached_states vs) H := by
  obtain ⟨st, lv, l, L, rfl, hlv, hl, hL, h60, q⟩ := h
  show t_reached_states P w K _ [some (.int st), some (.ref lv), some (.ref l), none, none, none, none, none] H
  unfold t_reached_states
  walk_at "nrm"
  generalize hrs : L.map (·.2) = rs at hlv q
  have hr60 : rs.length ≤ 60 := by rw [← hrs, List.length_map]; exact h60
  intro fp hfp
  simp only [tPairs]
  walk_at "nrm"
  refine ⟨upd_same, [(.inl st, .bl true)], rfl, (show 1 ≤ 15 by decide), ?_⟩
  rw [upd_upd]
  have e0 : mergeK [] [((.inl st : Key), V.bl true)] = marksOf [st] := rfl
  rw [e0]
  refine ⟨(show 1 ≤ sizeLine by rw [sizeLine_eq]; decide), fun qp hqp => ?_⟩
  obtain ⟨d1, hqp0⟩ := upd_non hqp
  refine ⟨fun m σ H' => (∃ a b c, σ = [some (.int st), some (.ref lv), some (.ref l), some (.ref fp), some (.ref qp), a, b, c]) ∧ ∃ F qs, RsInv H rs st fp qp F qs H' ∧ (∀ x ∈ F, x ∉ qs → ∀ r ∈ rs, r.1 = x → r.2.2 ∈ F) ∧ m = 2 * (61 - F.length) + qs.length,
    ⟨_, ⟨_, _, _, rfl⟩, [st], [st], ⟨Same.upd (Same.upd (Same.refl H) hfp) hqp0, by rw [upd_ne (Ne.symm d1)]; exact upd_same, upd_same, by simp, List.mem_singleton.mpr rfl, fun x hx => by rw [List.mem_singleton.mp hx]; exact .base, fun x hx => hx, by simp⟩, fun x hx hn => absurd hx hn, rfl⟩, ?_⟩
  rintro m σ H' ⟨⟨a, b, c, rfl⟩, F, qs, inv, cl, rfl⟩
  walk_at "nrm"
  rcases List.eq_nil_or_concat qs with rfl | ⟨ys, s, e⟩
  · refine ⟨false, .inl ⟨_, .inl (.inl inv.que), rfl⟩, iteN (by decide) ⟨fp, _, rfl, inv.fnd, fun a1 ha1 => ?_⟩⟩
    have eF : (marksOf F).map (fun kv => kV kv.1) = F.map V.int := by rw [marksOf, List.map_map]; rfl
    rw [eF]
    refine ⟨a1, F, rfl, .inl (.inl upd_same), by have := inv.few hr60; omega, fun ns p pm srt hp => ?_⟩
    have ha0 : H a1 = none := Same.none inv.same ha1
    have hp0 : H p = none := Same.none inv.same (upd_non hp).2
    refine q _ p ns (Same.upd (Same.upd inv.same ha0) hp0) hp0 upd_same (lt_of_le_nodup ns srt (pm.nodup_iff.mpr inv.nd)) fun x => ?_
    rw [pm.mem_iff]
    refine ⟨inv.re x, fun r => ?_⟩
    induction r with
    | base => exact inv.stF
    | step _ hm ih => exact cl _ ih (by simp) _ hm rfl
  rw [List.concat_eq_append] at e
  have hqs : intsV qs = intsV ys ++ [.int s] := by rw [e, intsV, List.map_append]; rfl
  have sF : s ∈ F := inv.sub s (by rw [e]; simp)
  refine ⟨true, .inl ⟨_, .inl (.inl inv.que), by rw [hqs]; simp⟩, iteY rfl ⟨fun σ' H' => (∃ a b c, σ' = [some (.int st), some (.ref lv), some (.ref l), some (.ref fp), some (.ref qp), a, b, c]) ∧
    ∃ F2 qs2, RsInv H rs st fp qp F2 qs2 H' ∧ (∀ x ∈ F2, x ∉ qs2 → ∀ r ∈ rs, r.1 = x → r.2.2 ∈ F2) ∧ 2 * (61 - F2.length) + qs2.length < 2 * (61 - F.length) + qs.length,
    fun σ' H2 ⟨h1, F2, qs2, h2, h3, h4⟩ => ⟨_, h4, h1, F2, qs2, h2, h3, rfl⟩, .inl ⟨rfl, _, .inl (.inl inv.que)⟩, ⟨qp, _, .int s, rfl, rfl, inv.que, by rw [hqs]; simp, ?_⟩⟩⟩
  have hdl : (intsV qs).dropLast = intsV ys := by rw [hqs]; simp
  rw [hdl]
  have lq : qs.length = ys.length + 1 := by rw [e]; simp
  -- behind the pop
  have inv1 : RsInv H rs st fp qp F ys (upd H' qp (.lst (intsV ys))) := ⟨Same.upd inv.same hqp0, by rw [upd_ne (Ne.symm d1)]; exact inv.fnd, upd_same, inv.nd, inv.stF, inv.re, fun x hx => inv.sub x (by rw [e]; exact List.mem_append_left _ hx), (List.nodup_append.mp (by rw [← e]; exact inv.qnd)).1⟩
  have cl1 : ∀ x ∈ F, x ∉ ys → x ≠ s → ∀ r ∈ rs, r.1 = x → r.2.2 ∈ F := fun x hx h1 h2 => cl x hx (by rw [e]; simp [h1, h2])
  generalize upd H' qp (.lst (intsV ys)) = H1 at inv1 ⊢
  obtain ⟨kvs, hk, hs⟩ := hlv
  obtain ⟨hs0, hs1⟩ := hs s
  refine tFor_getL rfl rfl (.inl ⟨kvs, .inl (inv1.same _ _ hk)⟩) fun ap hap => ?_
  have hap0 : H ap = none := Same.none inv1.same hap
  have inv2 : RsInv H rs st fp qp F ys (upd H1 ap (.lst [])) := ⟨Same.upd inv1.same hap0, by rw [upd_ne (ne_of_none inv1.fnd hap)]; exact inv1.fnd, by rw [upd_ne (ne_of_none inv1.que hap)]; exact inv1.que, inv1.nd, inv1.stF, inv1.re, inv1.sub, inv1.qnd⟩
  -- the numbers that are walked
  obtain ⟨a1, hv, hls⟩ : ∃ a1, (valV kvs (.inl s)).getD (.ref ap) = .ref a1 ∧ ((a1 = ap ∧ nums s rs rs.length = []) ∨ H a1 = some (.lst (natsV (nums s rs rs.length)))) := by
    by_cases e0 : nums s rs rs.length = []
    · exact ⟨ap, by rw [hs0 e0]; rfl, .inl ⟨rfl, e0⟩⟩
    · obtain ⟨q1, h1, h2⟩ := hs1 e0
      exact ⟨q1, by rw [h1]; rfl, .inr h2⟩
  have h3 : upd H1 ap (.lst []) a1 = some (.lst (natsV (nums s rs rs.length))) := by
    rcases hls with ⟨rfl, e0⟩ | h
    · rw [e0]; exact upd_same
    · exact inv2.same _ _ h
  have hg : DGet (upd H1 ap (.lst [])) lv (.int s) (valV kvs (.inl s)) := DGet.k (k := .inl s) (inv2.same _ _ hk)
  generalize upd H1 ap (.lst []) = H3 at inv2 h3 hg ⊢
  have a1q : a1 ≠ qp ∧ a1 ≠ fp := by
    rcases hls with ⟨e1, _⟩ | h
    · rw [e1]
      exact ⟨fun z => (by rw [z, inv1.que] at hap; exact nomatch hap), fun z => (by rw [z, inv1.fnd] at hap; exact nomatch hap)⟩
    · exact ⟨ne_of_none h hqp0, ne_of_none h hfp⟩
  refine ⟨_, a1, natsV (nums s rs rs.length), fun i σ H' => (∃ a c, σ = [some (.int st), some (.ref lv), some (.ref l), some (.ref fp), some (.ref qp), some (.int s), a, c]) ∧
    ∃ F2 qs2, RsInv H rs st fp qp F2 qs2 H' ∧ H' a1 = some (.lst (natsV (nums s rs rs.length))) ∧ s ∈ F2 ∧ (∀ x ∈ F2, x ∉ qs2 → x ≠ s → ∀ r ∈ rs, r.1 = x → r.2.2 ∈ F2) ∧ (∀ j, j < i → ∀ n, (nums s rs rs.length)[j]? = some n → ∀ r, rs[n]? = some r → r.2.2 ∈ F2) ∧
      2 * (61 - F2.length) + qs2.length < 2 * (61 - F.length) + qs.length, hg, hv, ⟨⟨_, _, rfl⟩, F, ys, inv2, h3, sF, cl1, fun j hj => absurd hj (Nat.not_lt_zero _), by omega⟩, (fun i σ H' p => let ⟨_, _, _, _, h, _⟩ := p; .inl (.inl h)), ?_, ?_⟩
  · rintro i x σ H' hx ⟨⟨a, c, rfl⟩, F2, qs2, iv, h4, s2, c2, c3, c4⟩
    obtain ⟨n, hn, rfl⟩ : ∃ n, (nums s rs rs.length)[i]? = some n ∧ x = .int (n : Nat) := by
      rw [natsV, List.getElem?_map] at hx
      cases e : (nums s rs rs.length)[i]? with
      | none => rw [e] at hx; cases hx
      | some p => rw [e] at hx; cases hx; exact ⟨p, rfl, rfl⟩
    obtain ⟨n1, n2⟩ := mem_nums.mp (List.mem_of_getElem? hn)
    obtain ⟨r, hr, rfl⟩ : ∃ r, rs[n]? = some r ∧ r.1 = s := by
      cases e : rs[n]? with
      | none => rw [e] at n2; cases n2
      | some r => rw [e] at n2; cases n2; exact ⟨r, rfl, rfl⟩
    have hrm : r ∈ rs := List.mem_of_getElem? hr
    obtain ⟨p, hp⟩ : ∃ p, L[n]? = some (p, r) := by
      rw [← hrs, List.getElem?_map] at hr
      cases e : L[n]? with
      | none => rw [e] at hr; cases hr
      | some z =>
        rw [e] at hr
        cases hr
        exact ⟨z.1, rfl⟩
    have hlV : (refsOf L)[n]? = some (.ref p) := by rw [refsOf, List.getElem?_map, hp]; rfl
    walk_at "nrm"
    refine ixL (iv.same _ _ hl) (atI_nat hlV) (ixT (iv.same _ _ (hL _ (List.mem_of_getElem? hp))) rfl ⟨_, DGet.k (k := .inl r.2.2) iv.fnd, ?_⟩)
    rw [valV_marks]
    have few := iv.few hr60
    by_cases hin : r.2.2 ∈ F2
    · rw [if_pos hin]
      refine ⟨false, rfl, iteN (by simp) ⟨by simp, F2, qs2, iv, h4, s2, c2, fun j hj m hm r2 hr2 => ?_, c4⟩⟩
      by_cases ji : j = i
      · subst ji; rw [hn] at hm; cases hm; rw [hr] at hr2; cases hr2; exact hin
      · exact c3 j (by omega) m hm r2 hr2
    · rw [if_neg hin]
      have fr : valV (marksOf F2) (.inl r.2.2) = none := by rw [valV_marks, if_neg hin]
      have iv' : ∀ H5, Same H H5 → H5 fp = some (.dK (marksOf (F2 ++ [r.2.2]))) → H5 qp = some (.lst (intsV (qs2 ++ [r.2.2]))) → RsInv H rs st fp qp (F2 ++ [r.2.2]) (qs2 ++ [r.2.2]) H5 := fun H5 e1 e2 e3 =>
        ⟨e1, e2, e3, List.nodup_append.mpr ⟨iv.nd, by simp, fun x hx y hy => by rw [List.mem_singleton.mp hy]; exact fun z => hin (z ▸ hx)⟩, List.mem_append_left _ iv.stF,
          fun x hx => (List.mem_append.mp hx).elim (iv.re x) fun h => by rw [List.mem_singleton.mp h]; exact .step (iv.re _ s2) hrm,
          fun x hx => (List.mem_append.mp hx).elim (fun h => List.mem_append_left _ (iv.sub x h)) fun h => List.mem_append_right _ h,
          List.nodup_append.mpr ⟨iv.qnd, by simp, fun x hx y hy => by rw [List.mem_singleton.mp hy]; exact fun z => hin (z ▸ iv.sub x hx)⟩⟩
      refine ⟨true, rfl, iteY rfl ⟨_, .inl ⟨_, .inl r.2.2, iv.fnd, rfl, small1000 (by rw [marksOf, List.length_map]; omega), rfl⟩, ?_⟩⟩
      rw [putK_new fr]
      have q5 : upd H' fp (HO.dK (marksOf F2 ++ [(.inl r.2.2, V.bl true)])) qp = some (.lst (intsV qs2)) := by rw [upd_ne d1]; exact iv.que
      have qf : qs2.length < 1000 := by have z := nodup_among iv.qnd iv.sub; omega
      refine ⟨.inl ⟨rfl, _, .inl (.inl q5)⟩, append_at q5 (small1000 (by rw [intsV, List.length_map]; omega)) ⟨by simp, F2 ++ [r.2.2], qs2 ++ [r.2.2], iv' _ (Same.upd (Same.upd iv.same hfp) hqp0) ?_ ?_, ?_, List.mem_append_left _ s2, ?_, ?_, ?_⟩⟩
      · rw [upd_ne (Ne.symm d1), show marksOf (F2 ++ [r.2.2]) = marksOf F2 ++ [(.inl r.2.2, V.bl true)] from List.map_append]; exact upd_same
      · rw [show intsV (qs2 ++ [r.2.2]) = intsV qs2 ++ [V.int r.2.2] from List.map_append]; exact upd_same
      · rw [upd_ne a1q.1, upd_ne a1q.2]; exact h4
      · intro x hx h1 h2 r2 hr2 e2
        rcases List.mem_append.mp hx with h | h
        · exact List.mem_append_left _ (c2 x h (fun z => h1 (List.mem_append_left _ z)) h2 r2 hr2 e2)
        · exact absurd (List.mem_append_right _ h) h1
      · intro j hj m hm r2 hr2
        by_cases ji : j = i
        · subst ji; rw [hn] at hm; cases hm; rw [hr] at hr2; cases hr2
          exact List.mem_append_right _ (List.mem_singleton.mpr rfl)
        · exact List.mem_append_left _ (c3 j (by omega) m hm r2 hr2)
      · have few2 := (iv' (upd (upd H' fp (.dK (marksOf (F2 ++ [r.2.2])))) qp (.lst (intsV (qs2 ++ [r.2.2])))) (Same.upd (Same.upd iv.same hfp) hqp0) (by rw [upd_ne (Ne.symm d1)]; exact upd_same) upd_same).few hr60
        simp only [List.length_append, List.length_singleton] at few2 ⊢
        omega
  · rintro σ H' ⟨⟨a, c, rfl⟩, F2, qs2, iv, h4, s2, c2, c3, c4⟩
    refine ⟨⟨_, _, _, rfl⟩, F2, qs2, iv, fun x hx hn r hr hrx => ?_, c4⟩
    by_cases xs : x = s
    · obtain ⟨n, hn1, hn2⟩ := List.getElem_of_mem hr
      have hm : n ∈ nums s rs rs.length := mem_nums.mpr ⟨hn1, by rw [List.getElem?_eq_getElem hn1, hn2, ← xs, ← hrx]; rfl⟩
      obtain ⟨j, hj, ej⟩ := List.getElem_of_mem hm
      exact c3 j (by rw [natsV, List.length_map]; exact hj) n (by rw [List.getElem?_eq_getElem hj, ej]) r (by rw [List.getElem?_eq_getElem hn1, hn2])
    · exact c2 x hx hn xs r hr hrx
theorem len_reached_states {P : Program} {w : World} {K : PySem.W.Frag} (vs : List V) (H : Hp) (Q : VK) (E : XK) (h : sp_reached_states P w K vs H Q E) : vs.length = n_reached_states.length := by
  obtain ⟨st, lv, l, L, rfl, _⟩ := h
  rfl
end LG
end

section
set_option maxHeartbeats 4000000
namespace LG
open PySem PySem.Spec PyProof.Rows L2
local macro_rules | `(tactic| walk_at "nrm") => `(tactic| simp only [tRet, tSeq, tNext, tIfS, tAsg, gName, tVar, tC, tCons, tNil, tCB, tOp, tUn, tTest, tB, tAnd, tOr, tNot, tAndV, tOrV, tNotV, tChain, tCall, tDrop, tTup, tLst, tNever, tDNewK, tDNewT, sDPut, tDGet, tDGet2, tDGet1, tDIn, tDNotIn, tSAddH, tBM, tBM0, tTru, sFldC, tFldC, tDSetd, List.getElem?_cons_zero, List.getElem?_cons_succ, Option.some.injEq, exists_eq_left', List.nil_append, List.cons_append, List.append_nil, List.set_cons_zero, List.set_cons_succ, rI0, rI, rU, ipI, tAug, V.int.injEq, V.bl.injEq, V.str.injEq, V.ref.injEq, exists_eq_left, exists_and_left, decide_eq_true_eq, Bool.not_eq_true', Bool.not_eq_eq_eq_not, Bool.not_true, Bool.not_false, Bool.false_eq_true, decide_eq_false_iff_not, if_true, if_false, true_and, and_true, ite_true, ite_false, reduceCtorEq, List.cons.injEq])
/-! ### Plant.__init__ -/
abbrev fld (s : String) (v : V) : Str × V := (Str.ofString s, v)
def words (rs : List Row) : List Str := rs.map (·.2.1)
/-- a plant's object -/
structure PlantAt (K : PySem.W.Frag) (H : Hp) (x dx : Addr) (st : Int) (L : List (Addr × Row)) (wn bn : List Int) (w b l lv r : Addr) (ns : List Int) : Prop where
  ob : H x = some (.ins (He.ga K "Plant") dx [fld "wanted_at" (.ref w), fld "barred_at" (.ref b), fld "first" (.int st), fld "rows" (.ref l), fld "leaving" (.ref lv), fld "reached" (.ref r)])
  wan : H w = some (.dK (marksOf wn))
  bar : H b = some (.dK (marksOf bn))
  rows : H l = some (.lst (refsOf L))
  at_ : RowsAt H L
  leav : LeavAt H lv (L.map (·.2))
  rea : H r = some (.lst (intsV ns))
  srt : ns.Pairwise (· < ·)
  mem : ∀ s, s ∈ ns ↔ Reach (L.map (·.2)) st s
def sp_Plant_init (P : Program) (w : World) (K : PySem.W.Frag) : Sp := fun vs H Q _ => ∃ (x dx : Addr) (st : Int) (a : Addr) (L : List (Addr × Row)) (wa : Addr) (wn : List Int) (ba : Addr) (bn : List Int) (W : List Str), vs = [.ref x, .int st, .ref a, .ref wa, .ref ba] ∧ H x = some (.ins (He.ga K "Plant") dx []) ∧ stOk st = true ∧
  (H a = some (.lst (refsOf L)) ∨ H a = some (.tup (refsOf L))) ∧ RowsAt H L ∧ StepsOk (L.map (·.2)) ∧ (W.length ≤ 12 ∧ ∀ v ∈ words (L.map (·.2)), v ∈ W) ∧
  (vRow K H (.ref wa) true ∧ SqR K H wa (intsV wn) ∧ wn.Nodup ∧ (∀ n ∈ wn, 0 ≤ n ∧ n < L.length)) ∧ (vRow K H (.ref ba) true ∧ SqR K H ba (intsV bn) ∧ bn.Nodup ∧ ∀ n ∈ bn, 0 ≤ n ∧ n < L.length ∧ n ∉ wn) ∧
  ∀ H', Keeps H H' [x] → (∃ w b l lv r ns, PlantAt K H' x dx st L wn bn w b l lv r ns) → Q .non H'
def n_Plant_init : List Str := ["self", "start", "steps", "wanted", "barred"]
def t_Plant_init (P : Program) (w : World) (K : PySem.W.Frag) : TS :=
  (tSeq (tIfS (tNot (tB (tCall (sp_is_state P w K) [] E0 (tCons (tVar 1) tNil)))) tNever tNext) (tSeq (tAsg (tCall (sp_checked_steps P w K) [] E0 (tCons (tVar 2) tNil)) (gName 5)) (tSeq (tIfS (tTest (tOp gGt (tCB (rLenM P w) (tCons (tScK P w (iList K (tVar 5)) (gName 7) tYes (tOp (rIxT K) (tVar 7) (tC (.int 1))) [7]) tNil)) (tC (.int 12)))) tNever tNext) (tSeq (sFldC (He.ga K "Plant") (tVar 0) (tCall (sp_checked_marks P w K) [] E0 (tCons (tVar 3) (tCons (tCB (gLen K) (tCons (tVar 5) tNil)) (tCons tDNewK tNil)))) "wanted_at") (tSeq (sFldC (He.ga K "Plant") (tVar 0) (tCall (sp_checked_marks P w K) [] E0 (tCons (tVar 4) (tCons (tCB (gLen K) (tCons (tVar 5) tNil)) (tCons (tFldC (He.ga K "Plant") (tVar 0) "wanted_at") tNil)))) "barred_at") (tSeq (sFldC (He.ga K "Plant") (tVar 0) (tVar 1) "first") (tSeq (sFldC (He.ga K "Plant") (tVar 0) (tVar 5) "rows") (tSeq (sFldC (He.ga K "Plant") (tVar 0) tDNewK "leaving") (tSeq (tFor (iEnum K (tCons (tVar 5) tNil)) (gTup K 2 (gCons (gName 6) (gCons (gName 7) gNil))) (tDrop (tBM K "list" rAppend (tDSetd (tFldC (He.ga K "Plant") (tVar 0) "leaving") (tOp (rIxT K) (tVar 7) (tC (.int 0))) (tLst tNil)) (tCons (tVar 6) tNil)))) (sFldC (He.ga K "Plant") (tVar 0) (tCall (sp_reached_states P w K) [] E0 (tCons (tVar 1) (tCons (tFldC (He.ga K "Plant") (tVar 0) "leaving") (tCons (tVar 5) tNil)))) "reached"))))))))))
abbrev S_Plant_init : List Str := ["self", "start", "steps", "wanted", "barred", "rows", "number", "row"]
theorem tyT_keeps {K : PySem.W.Frag} {H H' : Hp} {x C dx : Addr} {fs : List (Str × V)} (hx : H x = some (.ins C dx fs)) (k : Keeps H H' [x]) {v : V} {n : String} (h : Ty K H v n) : Ty K H' v n := by
  have kk : ∀ a o, H a = some o → (∀ fs, o ≠ .ins C dx fs) → H' a = some o := fun a o e d => k a o (fun m => by rw [List.mem_singleton.mp m, hx] at e; cases e; exact d _ rfl) e
  cases h with
  | base b => cases b with
    | non => exact .base .non
    | bl x => exact .base (.bl x)
    | int i => exact .base (.int i)
    | str x => exact .base (.str x)
    | flt x => exact .base (.flt x)
    | lst e => exact .base (.lst (kk _ _ e (fun _ => by simp)))
    | frz e => exact .base (.frz (kk _ _ e (fun _ => by simp)))
    | tup e => exact .base (.tup (kk _ _ e (fun _ => by simp)))
    | dK e => exact .base (.dK (kk _ _ e (fun _ => by simp)))
    | dT e => exact .base (.dT (kk _ _ e (fun _ => by simp)))
  | byt b => exact .byt b
  | set e => exact .set (kk _ _ e (fun _ => by simp))
  | kList e c => exact .kList e c
  | kTuple e c => exact .kTuple e c
  | kDict e c => exact .kDict e c
  | fTuple e => exact .fTuple (kk _ _ e (fun _ => by simp))
  | fDict e => exact .fDict (kk _ _ e (fun _ => by simp))
theorem vRow_keeps {K : PySem.W.Frag} {H H' : Hp} {x C dx : Addr} {fs : List (Str × V)} (hx : H x = some (.ins C dx fs)) (k : Keeps H H' [x]) {v : V} {b : Bool} (h : vRow K H v b) (e : b = true) : vRow K H' v b := by
  cases h with
  | ty n h m => exact .ty n (tyT_keeps hx k h) m
  | own C h m => cases e
/-- the dict of leaving steps, behind i steps -/
structure LvInv (H : Hp) (rs : List Row) (x lv : Addr) (ob : HO) (wd bd l : Addr) (W B R : HO) (i : Nat) (H' : Hp) : Prop where
  keep : Keeps H H' [x]
  ob : H' x = some ob
  wan : H' wd = some W
  bar : H' bd = some B
  rows : H' l = some R
  dct : ∃ kvs, H' lv = some (.dK kvs) ∧ kvs.length ≤ i ∧ ∀ s : Int, (nums s rs i = [] → valV kvs (.inl s) = none) ∧ (nums s rs i ≠ [] → ∃ q, valV kvs (.inl s) = some (.ref q) ∧ H' q = some (.lst (natsV (nums s rs i))) ∧ H q = none ∧ q ≠ l)
/-- a set comprehension over a list that stands in a name -/
theorem tScK_list {P : Program} {w : World} {K : PySem.W.Frag} {i : Nat} {g : TG} {tt : TT} {te : TE} {vs : List Nat} {σ : L2.St} {H : Hp} {Q : VK} {a : Addr} {xs : List V} (e : σ[i]? = some (some (.ref a)))
    (h : ∀ D, H D = none → ∃ Pv : Nat → Hp → Prop, Pv 0 (upd H D (SetMO P w D (fun _ => false) 0)) ∧ (∀ i H', Pv i H' → SqL K H' a xs) ∧
      (∀ i x H', xs[i]? = some x → Pv i H' → g x (wipe σ vs) H' fun σ2 H2 => wipe σ2 vs = wipe σ vs ∧ tt σ2 H2 fun b H3 =>
        if b = true then te σ2 H3 fun y H4 => ∃ (c : Key) (S : Key → Bool) (m : Nat), y = kV c ∧ H4 D = some (SetMO P w D S m) ∧ m + 1 < scanBound ∧ Pv (i + 1) (upd H4 D (SetMO P w D (fun j => S j || decide (j = c)) (if S c = true then m else m + 1))) else Pv (i + 1) H3) ∧
      (∀ H', Pv xs.length H' → Q (.ref D) H')) (hq : SqL K H a xs) : tScK P w (iList K (tVar i)) g tt te vs σ H Q := by
  unfold tScK iList tVar
  refine ⟨_, e, a, rfl, ⟨xs, hq⟩, fun D hD => ?_⟩
  obtain ⟨Pv, h0, h1, h2, h3⟩ := h D hD
  exact sc_it walk_list Pv h0 (fun i H' _ p => h1 i H' p) (fun i x H' H2 hi p y => by obtain ⟨rfl, hx⟩ := y; exact h2 i x _ hx p) h3
theorem vRow_same {K : PySem.W.Frag} {H H' : Hp} {v : V} {b : Bool} (s : ∀ t, TyX K H v t → TyX K H' v t) (h : vRow K H v b) : vRow K H' v b := by
  cases h with
  | ty n h m => exact .ty n (s _ h) m
  | own C h m => exact .own C (s _ h) m
theorem pure_Plant_init {P : Program} {w : World} {K : PySem.W.Frag} (vs : List V) (H : Hp) (Q : VK) (E : XK) (h : sp_Plant_init P w K vs H Q E) : t_Plant_init P w K { nx := fun _ H' => Q .non H', rt := Q } (start S_Plant_init vs) H := by
  obtain ⟨x, dx, st, a, L, wa, wn, ba, bn, W, rfl, hx, hst, ha, hL, ok, ⟨hW1, hW2⟩, ⟨wr, wq, wnd, wb⟩, ⟨br, bq, bnd, bb⟩, q⟩ := h
  show t_Plant_init P w K _ [some (.ref x), some (.int st), some (.ref a), some (.ref wa), some (.ref ba), none, none, none] H
  unfold t_Plant_init
  walk_at "nrm"
  refine ⟨_, rfl, .int _, _, rfl, iteN (by show ¬ vState (.int st) = false; rw [show vState (.int st) = true from hst]; decide) ?_⟩
  refine ⟨a, L, rfl, ha, hL, ok, fun H1 l s1 nl hl => ?_⟩
  have hl2 : SqL K H1 l (refsOf L) := .inl (.inl hl)
  have lenL : (refsOf L).length = L.length := List.length_map _
  have rs60 := ok.hi
  rw [List.length_map] at rs60
  refine tScK_list rfl (fun D hD => ⟨fun i H' => Same H1 H' ∧ ∃ S n, H' D = some (SetMO P w D S n) ∧ ∃ Ds : List Str, Ds.Nodup ∧ Ds.length = n ∧ (∀ k, S k = true ↔ k ∈ (Ds.map Sum.inr : List Key)) ∧ (∀ v ∈ Ds, v ∈ W), ⟨Same.upd (Same.refl _) hD, _, 0, upd_same, [], .nil, rfl, fun k => by simp, fun v hv => by cases hv⟩, fun i H' p => .inl (.inl (p.1 _ _ hl)), ?_, ?_⟩) hl2
  · rintro i v H' hv ⟨s2, S, n, hS, Ds, nd, rfl, hm, hw⟩
    obtain ⟨⟨p, r⟩, hp, rfl⟩ : ∃ p, L[i]? = some p ∧ v = .ref p.1 := by
      rw [List.getElem?_map] at hv
      cases e : L[i]? with
      | none => rw [e] at hv; cases hv
      | some p => rw [e] at hv; cases hv; exact ⟨p, rfl, rfl⟩
    have hmem := List.mem_of_getElem? hp
    have h12 : Ds.length ≤ 12 := by
      exact Nat.le_trans (nodup_among nd hw) hW1
    refine ⟨rfl, ?_⟩
    unfold tYes
    refine iteY rfl ?_
    walk_at "nrm"
    refine ⟨_, rfl, ixT (s2 _ _ (s1 _ _ (hL _ hmem))) rfl ⟨.inr r.2.1, rfl, S, _, hS, Nat.lt_of_le_of_lt (Nat.succ_le_succ h12) (show Nat.succ 12 < scanBound by decide), Same.upd s2 hD, _, _, upd_same, ?_⟩⟩
    have wm : r.2.1 ∈ W := hW2 _ (List.mem_map.mpr ⟨r, List.mem_map.mpr ⟨_, hmem, rfl⟩, rfl⟩)
    by_cases hin : S (.inr r.2.1) = true
    · refine ⟨Ds, nd, by rw [if_pos hin], fun k => ?_, hw⟩
      rw [Bool.or_eq_true, decide_eq_true_eq, ← hm k]
      exact ⟨fun z => z.elim id fun e => by rw [e]; exact hin, .inl⟩
    · have nin : r.2.1 ∉ Ds := fun z => hin ((hm _).2 (List.mem_map.mpr ⟨_, z, rfl⟩))
      refine ⟨r.2.1 :: Ds, List.nodup_cons.mpr ⟨nin, nd⟩, by rw [if_neg hin]; rfl, fun k => ?_, fun v hv => (List.mem_cons.mp hv).elim (fun e => by rw [e]; exact wm) (hw v)⟩
      rw [Bool.or_eq_true, decide_eq_true_eq, hm k, List.map_cons, List.mem_cons]
      exact Or.comm
  rintro H2 ⟨s2, S, n, hS, Ds, nd, rfl, hm, hw⟩
  have h12 : Ds.length ≤ 12 := by
    exact Nat.le_trans (nodup_among nd hw) hW1
  refine ⟨D, S, _, rfl, hS, _, rfl, iteN (by omega) ?_⟩
  have few : ∀ ns : List Int, ns.Nodup → (∀ n ∈ ns, 0 ≤ n ∧ n < L.length) → ns.length ≤ 1000 := fun ns nd h => by
    have z := nodup_among (m := (List.range L.length).map fun i : Nat => (i : Int)) nd fun n hn => List.mem_map.mpr ⟨n.toNat, List.mem_range.mpr (by have := h n hn; omega), by have := h n hn; omega⟩
    rw [List.length_map, List.length_range] at z
    omega
  have s12 := Same.trans s1 s2
  refine len_row (.inl (.inl (.inl (s2 _ _ hl)))) fun mp hmp => ?_
  have smp : Same H (upd H2 mp (.dK [])) := Same.upd s12 (Same.none s12 hmp)
  refine ⟨wa, _, mp, wn, [], rfl, ⟨true, vRow_same (fun t => TyX.same smp) wr, rfl⟩, sqR_keep (Same.at smp wa) wq, upd_same, few wn wnd wb, wnd, fun n hn => ⟨(wb n hn).1, by rw [lenL]; exact (wb n hn).2, rfl⟩, fun H3 wd s3 nw hw3 => ?_⟩
  have s13 := Same.trans smp s3
  have nwd : H wd = none := Same.none smp nw
  refine ⟨dx, [], s13 _ _ hx, by decide, ?_⟩
  generalize e4 : upd H3 x (HO.ins (He.ga K (Str.ofString "Plant")) dx (putF (Str.ofString "wanted_at") (V.ref wd) [])) = H4
  have k4 : Keeps H H4 [x] := fun b o nb e => by rw [← e4, upd_ne (fun z => nb (by simp [z]))]; exact s13 _ _ e
  have x4 : H4 x = some (.ins (He.ga K "Plant") dx [fld "wanted_at" (.ref wd)]) := by rw [← e4]; exact upd_same
  have wx : wd ≠ x := Ne.symm (ne_of_none hx nwd)
  have lx : l ≠ x := Ne.symm (ne_of_none hx nl)
  have w4 : H4 wd = some (.dK (marksOf wn)) := by rw [← e4, upd_ne wx]; exact hw3
  have l4 : H4 l = some (.lst (refsOf L)) := by rw [← e4, upd_ne lx]; exact s3 _ _ (by rw [upd_ne (ne_of_none (s2 _ _ hl) hmp)]; exact s2 _ _ hl)
  have kx : ∀ {H' : Hp} {ex : Addr} {xs : List V}, Keeps H H' [x] → SqR K H ex xs → SqR K H' ex xs := fun {H' ex xs} k h => by
    by_cases z : ex = x
    · subst z
      rcases h with h | h <;> rcases h with h | ⟨o, its, n, h⟩
      · rcases h with h | ⟨o, h⟩ <;> rw [hx] at h <;> cases h
      · exact .inl (.inr ⟨o, its, n, h⟩)
      · rcases h with h | ⟨o, h⟩ <;> rw [hx] at h <;> cases h
      · exact .inr (.inr ⟨o, its, n, h⟩)
    · exact sqR_keep (fun o e => k _ o (by simp [z]) e) h
  refine len_row (.inl (.inl (.inl l4))) ⟨dx, _, x4, .ref wd, by rfl, ?_⟩
  refine ⟨ba, _, wd, bn, marksOf wn, rfl, ⟨true, vRow_keeps hx k4 br rfl, rfl⟩, kx k4 bq, w4, few bn bnd fun n hn => ⟨(bb n hn).1, (bb n hn).2.1⟩, bnd, fun n hn => ⟨(bb n hn).1, by rw [lenL]; exact (bb n hn).2.1, by rw [valV_marks, if_neg (bb n hn).2.2]⟩, fun H5 bd s5 nb hb5 => ?_⟩
  refine ⟨dx, _, s5 _ _ x4, (show 1 < 1000 by decide), dx, _, upd_same, (show 2 < 1000 by decide), dx, _, upd_same, (show 3 < 1000 by decide), ?_⟩
  simp only [upd_upd]
  generalize e8 : upd H5 x (HO.ins (He.ga K (Str.ofString "Plant")) dx (putF (Str.ofString "rows") (V.ref l) (putF (Str.ofString "first") (V.int st) (putF (Str.ofString "barred_at") (V.ref bd) [fld "wanted_at" (V.ref wd)])))) = H8
  intro lv hlv
  have x8 : H8 x = some (.ins (He.ga K "Plant") dx [fld "wanted_at" (.ref wd), fld "barred_at" (.ref bd), fld "first" (.int st), fld "rows" (.ref l)]) := by rw [← e8]; exact upd_same
  have k58 : Keeps H5 H8 [x] := fun b o nb e => by rw [← e8, upd_ne (fun z => nb (by simp [z]))]; exact e
  have nbd : H bd = none := by
    cases e : H bd with
    | none => rfl
    | some o =>
      by_cases z : bd = x
      · rw [z, x4] at nb; cases nb
      · rw [k4 _ _ (by simp [z]) e] at nb; cases nb
  have bx : bd ≠ x := Ne.symm (ne_of_none hx nbd)
  have k8 : Keeps H H8 [x] := Keeps.trans (Keeps.trans k4 (Same.keeps s5 _)) k58
  have w8 : H8 wd = some (.dK (marksOf wn)) := k58 _ _ (by simp [wx]) (s5 _ _ w4)
  have b8 : H8 bd = some (.dK (marksOf bn)) := k58 _ _ (by simp [bx]) hb5
  have l8 : H8 l = some (.lst (refsOf L)) := k58 _ _ (by simp [lx]) (s5 _ _ l4)
  have lvx : lv ≠ x := Ne.symm (ne_of_none x8 hlv)
  have nlv : H lv = none := by
    cases e : H lv with
    | none => rfl
    | some o => rw [k8 _ _ (by simp [lvx]) e] at hlv; cases hlv
  refine ⟨dx, _, by rw [upd_ne (Ne.symm lvx)]; exact x8, (by show (4 : Nat) < 1000; decide), ?_⟩
  generalize hob : HO.ins (He.ga K (Str.ofString "Plant")) dx (putF (Str.ofString "leaving") (V.ref lv) [fld "wanted_at" (V.ref wd), fld "barred_at" (V.ref bd), fld "first" (V.int st), fld "rows" (V.ref l)]) = ob
  have hob2 : ob = .ins (He.ga K "Plant") dx [fld "wanted_at" (.ref wd), fld "barred_at" (.ref bd), fld "first" (.int st), fld "rows" (.ref l), fld "leaving" (.ref lv)] := by rw [← hob]; rfl
  have base : LvInv H (L.map (·.2)) x lv ob wd bd l (.dK (marksOf wn)) (.dK (marksOf bn)) (.lst (refsOf L)) 0 (upd (upd H8 lv (.dK [])) x ob) := by
    refine ⟨fun b o nb e => ?_, upd_same, ?_, ?_, ?_, [], ?_, Nat.le_refl _, fun s => ⟨fun _ => rfl, fun z => absurd rfl z⟩⟩
    · rw [upd_ne (fun z => nb (by simp [z])), upd_ne (ne_of_none e nlv)]; exact k8 _ _ nb e
    · rw [upd_ne wx, upd_ne (ne_of_none w8 hlv)]; exact w8
    · rw [upd_ne bx, upd_ne (ne_of_none b8 hlv)]; exact b8
    · rw [upd_ne lx, upd_ne (ne_of_none l8 hlv)]; exact l8
    · rw [upd_ne lvx]; exact upd_same
  refine tFor_enumL (H0 := upd H8 lv (.dK [])) (fun Q q => ⟨_, rfl, q⟩) (xs := refsOf L) (.inl (.inl (by rw [upd_ne (ne_of_none l8 hlv)]; exact l8))) (fun i σ H' => (∃ b c, σ = [some (.ref x), some (.int st), some (.ref a), some (.ref wa), some (.ref ba), some (.ref l), b, c]) ∧ LvInv H (L.map (·.2)) x lv ob wd bd l (.dK (marksOf wn)) (.dK (marksOf bn)) (.lst (refsOf L)) i H') ⟨⟨_, _, rfl⟩, base⟩ (fun i σ H' _ p o e => ?_) ?_ ?_
  · rw [upd_ne (ne_of_none l8 hlv), l8] at e
    cases e
    exact p.2.rows
  · rintro i v σ H' T hv ⟨⟨b, c, rfl⟩, inv⟩ hT
    obtain ⟨⟨p0, r⟩, hpr, rfl⟩ : ∃ p, L[i]? = some p ∧ v = .ref p.1 := by
      rw [List.getElem?_map] at hv
      cases e : L[i]? with
      | none => rw [e] at hv; cases hv
      | some p => rw [e] at hv; cases hv; exact ⟨p, rfl, rfl⟩
    have hri : (L.map (·.2))[i]? = some r := by rw [List.getElem?_map, hpr]; rfl
    have il : i < L.length := (List.getElem?_eq_some_iff.mp hpr).1
    generalize L.map (·.2) = rs at hri inv
    have hp0 : H p0 = some (rowT r) := hL _ (List.mem_of_getElem? hpr)
    have p0x : p0 ≠ x := ne_of hp0 hx (by simp)
    have hp1 : H' p0 = some (rowT r) := inv.keep _ _ (by simp [p0x]) hp0
    obtain ⟨kvs, hk, hkl, hs⟩ := inv.dct
    walk_at "nrm"
    generalize hH2 : upd H' T (HO.tup [V.int (i : Nat), V.ref p0]) = H2
    have s2 : Same H' H2 := by rw [← hH2]; exact same_new hT
    refine ⟨dx, _, s2 _ _ (inv.ob.trans (by rw [hob2])), .ref lv, by rfl, lv, rfl, .inl ⟨kvs, .inl (s2 _ _ hk)⟩, ixT (s2 _ _ hp1) rfl ⟨Nat.zero_le _, fun p hp => ⟨kvs, by rw [upd_ne (ne_of_none (s2 _ _ hk) hp)]; exact s2 _ _ hk, .inl r.1, rfl, small1000 (by omega), ?_⟩⟩⟩
    have s3 : Same H' (upd H2 p (.lst [])) := Same.trans s2 (same_new hp)
    have h3p : upd H2 p (HO.lst []) p = some (.lst []) := upd_same
    have fresh : ∀ b o, H' b = some o → b ≠ p := fun b o e => ne_of_none (s2 _ _ e) hp
    have px : p ≠ x := Ne.symm (fresh _ _ inv.ob)
    have np : H p = none := by
      cases e : H p with
      | none => rfl
      | some o => exact absurd rfl (fresh _ _ (inv.keep _ _ (by simp [px]) e))
    generalize upd H2 p (.lst []) = H3 at s3 h3p ⊢
    have numsR : nums r.1 rs (i + 1) = nums r.1 rs i ++ [i] := by rw [nums_succ, if_pos (by rw [hri]; rfl)]
    have numsO : ∀ s, s ≠ r.1 → nums s rs (i + 1) = nums s rs i := fun s ns => by
      rw [nums_succ, if_neg (by rw [hri]; intro z; exact ns (by cases z; rfl)), List.append_nil]
    have apart : ∀ s s' : Int, s ≠ s' → nums s rs i ≠ [] → natsV (nums s rs i) ≠ natsV (nums s' rs i) := fun s s' ns hne e => by
      obtain ⟨j, hj⟩ := List.exists_mem_of_ne_nil _ hne
      have m1 : V.int (j : Nat) ∈ natsV (nums s rs i) := List.mem_map.mpr ⟨j, hj, rfl⟩
      rw [e] at m1
      obtain ⟨j', hj', e'⟩ := List.mem_map.mp m1
      have ej : j' = j := by
        have z : ((j' : Nat) : Int) = (j : Nat) := by injection e'
        omega
      subst ej
      have a1 := (mem_nums.mp hj).2
      have a2 := (mem_nums.mp hj').2
      rw [a1] at a2
      cases a2
      exact ns rfl
    have natR : natsV (nums r.1 rs (i + 1)) = natsV (nums r.1 rs i) ++ [V.int (i : Nat)] := by rw [numsR, natsV, List.map_append]; rfl
    have neR : nums r.1 rs (i + 1) ≠ [] := by rw [numsR]; simp
    obtain ⟨hs0, hs1⟩ := hs r.1
    refine ⟨fun v1 hv1 => ?_, fun hn => ?_⟩
    · have hne : nums r.1 rs i ≠ [] := fun z => by rw [hs0 z] at hv1; cases hv1
      obtain ⟨q1, h1, h2, h3, h4⟩ := hs1 hne
      rw [h1] at hv1
      cases hv1
      have hq3 := s3 _ _ h2
      have q1x : q1 ≠ x := ne_of h2 inv.ob (by rw [hob2]; simp)
      refine ⟨.inl ⟨rfl, _, .inl (.inl hq3)⟩, append_at hq3 (small1000 (by rw [natsV, List.length_map]; exact Nat.le_trans (List.length_filter_le _ _) (by rw [List.length_range]; omega))) ⟨⟨_, rfl⟩, ?_⟩⟩
      refine ⟨fun b o nb e => ?_, ?_, ?_, ?_, ?_, kvs, ?_, by omega, fun s => ?_⟩
      · rw [upd_ne (ne_of_none e h3)]; exact s3 _ _ (inv.keep b o nb e)
      · rw [upd_ne (Ne.symm q1x)]; exact s3 _ _ inv.ob
      · rw [upd_ne (ne_of (s3 _ _ inv.wan) hq3 (by simp))]; exact s3 _ _ inv.wan
      · rw [upd_ne (ne_of (s3 _ _ inv.bar) hq3 (by simp))]; exact s3 _ _ inv.bar
      · rw [upd_ne (Ne.symm h4)]; exact s3 _ _ inv.rows
      · rw [upd_ne (ne_of (s3 _ _ hk) hq3 (by simp))]; exact s3 _ _ hk
      · by_cases e : s = r.1
        · subst e
          exact ⟨fun z => absurd z neR, fun _ => ⟨q1, h1, by rw [natR]; exact upd_same, h3, h4⟩⟩
        · rw [numsO s e]
          refine ⟨(hs s).1, fun ne => ?_⟩
          obtain ⟨q2, g1, g2, g3, g4⟩ := (hs s).2 ne
          refine ⟨q2, g1, ?_, g3, g4⟩
          rw [upd_ne (ne_of g2 h2 (fun z => apart s r.1 e ne (by injection z)))]
          exact s3 _ _ g2
    · have hnil : nums r.1 rs i = [] := Classical.byContradiction fun z => by
        obtain ⟨q1, h1, _⟩ := hs1 z
        rw [hn] at h1
        cases h1
      have h4p : upd H3 lv (HO.dK (putK kvs (.inl r.1) (V.ref p))) p = some (.lst []) := by
        rw [upd_ne (Ne.symm (fresh _ _ hk))]; exact h3p
      refine ⟨.inl ⟨rfl, _, .inl (.inl h4p)⟩, append_at h4p (small1000 (Nat.zero_le _)) ⟨⟨_, rfl⟩, ?_⟩⟩
      have kp : ∀ b o, b ≠ lv → H' b = some o → upd (upd H3 lv (HO.dK (putK kvs (.inl r.1) (V.ref p)))) p (HO.lst ([] ++ [V.int (i : Nat)])) b = some o := fun b o nb e => by
        rw [upd_ne (fresh _ _ e), upd_ne nb]; exact s3 _ _ e
      refine ⟨fun b o nb e => kp _ _ (ne_of_none e nlv) (inv.keep b o nb e), kp _ _ (Ne.symm lvx) inv.ob, kp _ _ ?_ inv.wan, kp _ _ ?_ inv.bar, kp _ _ (ne_of inv.rows hk (by simp)) inv.rows, putK kvs (.inl r.1) (.ref p), ?_, ?_, fun s => ?_⟩
      · exact ne_of_none w8 hlv
      · exact ne_of_none b8 hlv
      · rw [upd_ne (fresh _ _ hk)]; exact upd_same
      · have := length_putK kvs (.inl r.1) (V.ref p); omega
      · rw [valV_put]
        by_cases e : s = r.1
        · subst e
          refine ⟨fun z => absurd z neR, fun _ => ⟨p, by rw [if_pos rfl], ?_, np, Ne.symm (fresh _ _ inv.rows)⟩⟩
          rw [natR, hnil]
          exact upd_same
        · rw [numsO s e, if_neg (fun z => e (by cases z; rfl))]
          refine ⟨(hs s).1, fun ne => ?_⟩
          obtain ⟨q2, g1, g2, g3, g4⟩ := (hs s).2 ne
          exact ⟨q2, g1, kp _ _ (ne_of g2 hk (by simp)) g2, g3, g4⟩
  · rintro σ H' ⟨⟨b, c, rfl⟩, inv⟩
    walk_at "nrm"
    rw [lenL] at inv
    have e9 : L.length = (L.map (·.2)).length := (List.length_map _).symm
    rw [e9] at inv
    obtain ⟨kvs, hk, hkl, hs⟩ := inv.dct
    have rows' : RowsAt H' L := fun p hp => inv.keep _ _ (by
      have z := ne_of (hL p hp) hx (by simp)
      simp [z]) (hL p hp)
    have leav : LeavAt H' lv (L.map (·.2)) := ⟨kvs, hk, fun s => ⟨(hs s).1, fun z => let ⟨q, a1, a2, _⟩ := (hs s).2 z; ⟨q, a1, a2⟩⟩⟩
    refine ⟨dx, _, inv.ob.trans (by rw [hob2]), .ref lv, by rfl, st, lv, l, L, rfl, leav, inv.rows, rows', rs60, fun H9 rp ns s9 nr hr srt mem => ?_⟩
    refine ⟨dx, _, s9 _ _ (inv.ob.trans (by rw [hob2])), (by show (5 : Nat) < 1000; decide), ?_⟩
    have rx : rp ≠ x := Ne.symm (ne_of_none inv.ob nr)
    have k9 : ∀ b o, b ≠ x → H' b = some o → ∀ O, upd H9 x O b = some o := fun b o nb e O => by rw [upd_ne nb]; exact s9 _ _ e
    refine q _ (fun b o nb e => k9 _ _ (by simpa using nb) (inv.keep b o nb e) _) ⟨wd, bd, l, lv, rp, ns, ?_, k9 _ _ wx inv.wan _, k9 _ _ bx inv.bar _, k9 _ _ lx inv.rows _, fun p hp => k9 _ _ (ne_of (hL p hp) hx (by simp)) (rows' p hp) _, ?_, by rw [upd_ne rx]; exact hr, srt, mem⟩
    · exact upd_same
    · exact ⟨kvs, k9 _ _ lvx hk _, fun s => ⟨(hs s).1, fun z => let ⟨q, a1, a2, _⟩ := (hs s).2 z; ⟨q, a1, k9 _ _ (ne_of a2 inv.ob (by rw [hob2]; simp)) a2 _⟩⟩⟩
theorem len_Plant_init {P : Program} {w : World} {K : PySem.W.Frag} (vs : List V) (H : Hp) (Q : VK) (E : XK) (h : sp_Plant_init P w K vs H Q E) : vs.length = n_Plant_init.length := by
  obtain ⟨x, dx, st, a, L, wa, wn, ba, bn, W, rfl, _⟩ := h
  rfl
end LG
end

section
set_option maxHeartbeats 4000000
namespace LG
open PySem PySem.Spec PyProof.Rows L2
local macro_rules | `(tactic| walk_at "nrm") => `(tactic| simp only [tRet, tSeq, tNext, tIfS, tAsg, gName, tVar, tC, tCons, tNil, tCB, tOp, tUn, tTest, tB, tAnd, tOr, tNot, tAndV, tOrV, tNotV, tChain, tCall, tDrop, tTup, tLst, tNever, tDNewK, tDNewT, sDPut, tDGet, tDGet2, tDGet1, tDIn, tDNotIn, tSAddH, tBM, tBM0, tTru, sFldC, tFldC, tDSetd, tMake, List.getElem?_cons_zero, List.getElem?_cons_succ, Option.some.injEq, exists_eq_left', List.nil_append, List.cons_append, List.append_nil, List.set_cons_zero, List.set_cons_succ, rI0, rI, rU, ipI, tAug, V.int.injEq, V.bl.injEq, V.str.injEq, V.ref.injEq, exists_eq_left, exists_and_left, decide_eq_true_eq, Bool.not_eq_true', Bool.not_eq_eq_eq_not, Bool.not_true, Bool.not_false, Bool.false_eq_true, decide_eq_false_iff_not, if_true, if_false, true_and, and_true, ite_true, ite_false, reduceCtorEq, List.cons.injEq])
/-- what isinstance asks of an own class -/
structure OwnC (K : PySem.W.Frag) (C : Addr) : Prop where
  cl : Cls K C
  ha : PySem.W.findIn K (.ref C) "__class__" = some (some (.builtin "object.__class__"))
  hn : PySem.W.specialIn K (.builtin "object.__class__") "__get__" = some (some (.builtin "getset_descriptor.__get__"))
  htk : PySem.W.takesIn K (.builtin "object.__class__") = some true
  hm : PySem.W.mroIn K C (.type "object") = some true
theorem isi_own {K : PySem.W.Frag} {H : Hp} {a C dx : Addr} {fs : List (Str × V)} {Q : VK} (o : OwnC K C) (h : H a = some (.ins C dx fs)) (q : Q (.bl true) H) : rIsi K [.ref a, .ref C] H Q :=
  ⟨.ref a, .ref C, .ref C, .ref C, true, rfl, .own C, .base (.ins h o.cl o.ha o.hn o.htk o.hm), by simp [PySem.W.kitOne], q⟩
theorem ite_bV {Q : VK} {b c : Bool} {H : Hp} {A : Prop} (h1 : b = true → A) (h2 : b = false → Q (.bl (b && c)) H) : if b = true then A else Q (.bl b) H := by
  cases b with
  | true => exact iteT (h1 rfl)
  | false => exact iteF (h2 rfl)
/-! ### Plant.__eq__ -/
/-- a step as data -/
def rowD (r : Row) : PyData := .tuple [.int r.1, .str r.2.1, .int r.2.2]
theorem rows_dp {K : PySem.W.Frag} {H : Hp} : ∀ {L : List (Addr × Row)}, RowsAt H L → DpAll K H (refsOf L) (L.map fun p => rowD p.2)
  | [], _ => .nil
  | p :: L, h => .cons (.tup (.inl (.inl (h p List.mem_cons_self))) (.cons (.int _) (.cons (.str _) (.cons (.int _) .nil)))) (rows_dp fun q hq => h q (List.mem_cons_of_mem _ hq))
theorem eqv_rows : ∀ (l m : List Row), PyData.eqvAll (l.map rowD) (m.map rowD) = decide (l = m)
  | [], [] => rfl
  | [], _ :: _ => rfl
  | _ :: _, [] => rfl
  | x :: l, y :: m => by
    have ih := eqv_rows l m
    obtain ⟨a, b, c⟩ := x
    obtain ⟨a', b', c'⟩ := y
    simp only [List.map_cons, PyData.eqvAll, rowD, PyData.eqv, ih, Bool.and_true]
    rw [Bool.eq_iff_iff]
    simp [and_assoc]
theorem name_len {x : Str} (h : nameOk x = true) : x.length ≤ 12 := by
  simp only [nameOk, Bool.and_eq_true, decide_eq_true_eq] at h
  exact h.2.1
theorem name_strOk {x : Str} (h : nameOk x = true) : PyData.strOk x = true := by
  have z := name_len h
  simp only [nameOk, Bool.and_eq_true, decide_eq_true_eq, List.all_eq_true, lowC] at h
  unfold PyData.strOk
  rw [← Array.all_toList, List.all_eq_true]
  intro c hc
  have := h.2.2 c hc
  rw [decide_eq_true_eq]
  omega
theorem shaped_rows (l : List Row) (hok : ∀ r ∈ l, rowOk r = true) : SeqAt.shaped (.list (l.map rowD)) = true := by
  have c0 : ∀ l : List Row, (∀ r ∈ l, rowOk r = true) → PyData.canLayAll0 (l.map rowD) = true := fun l h => by
    induction l with
    | nil => rfl
    | cons x l ih =>
      have hx := h x List.mem_cons_self
      simp only [rowOk, Bool.and_eq_true] at hx
      simp [rowD, PyData.canLayAll0, PyData.canLay0, ih fun r hr => h r (List.mem_cons_of_mem _ hr), name_strOk hx.2.1]
  have d0 : ∀ l : List Row, PyData.depthAll (l.map rowD) ≤ 1 := fun l => by
    induction l with
    | nil => simp [PyData.depthAll]
    | cons x l ih =>
      have e : (rowD x).depth = 1 := rfl
      show max (rowD x).depth (PyData.depthAll (l.map rowD)) ≤ 1
      rw [e]; omega
  have d1 := d0 l
  simp only [SeqAt.shaped, Bool.and_eq_true, decide_eq_true_eq, PyData.canLay0, PyData.depth]
  exact ⟨c0 l hok, decide_eq_true (by omega)⟩
def samePlant (st st' : Int) (L L' : List (Addr × Row)) (wn wn' bn bn' : List Int) : Bool := decide (st = st') && (decide (L.map (·.2) = L'.map (·.2)) && (sameD (marksOf wn) (marksOf wn') && sameD (marksOf bn) (marksOf bn')))
theorem alike_marks (a b : List Int) : Alike (marksOf a) (marksOf b) := fun p hp v hv => by
  obtain ⟨n, _, rfl⟩ := List.mem_map.mp hp
  rw [valV_marks] at hv
  split at hv
  · cases hv; rfl
  · cases hv
def sp_Plant_eq (P : Program) (w : World) (K : PySem.W.Frag) : Sp := fun vs H Q _ => ∃ x dx st L wn bn w1 b l lv r ns y dy st' L' wn' bn' w' b' l' lv' r' ns', vs = [.ref x, .ref y] ∧ OwnC K (He.ga K "Plant") ∧ PlantAt K H x dx st L wn bn w1 b l lv r ns ∧ PlantAt K H y dy st' L' wn' bn' w' b' l' lv' r' ns' ∧
  (∀ r ∈ L.map (·.2), rowOk r = true) ∧ (∀ r ∈ L'.map (·.2), rowOk r = true) ∧ Q (.bl (samePlant st st' L L' wn wn' bn bn')) H
def n_Plant_eq : List Str := ["self", "other"]
def t_Plant_eq (P : Program) (w : World) (K : PySem.W.Frag) : TS :=
  (tRet (tAndV (tCB (rIsi K) (tCons (tVar 1) (tCons (tC (.ref (He.ga K "Plant"))) tNil))) (tAndV (tOp rEq (tFldC (He.ga K "Plant") (tVar 0) "first") (tFldC (He.ga K "Plant") (tVar 1) "first")) (tAndV (tOp (rEqD K) (tFldC (He.ga K "Plant") (tVar 0) "rows") (tFldC (He.ga K "Plant") (tVar 1) "rows")) (tAndV (tOp rEqK (tFldC (He.ga K "Plant") (tVar 0) "wanted_at") (tFldC (He.ga K "Plant") (tVar 1) "wanted_at")) (tOp rEqK (tFldC (He.ga K "Plant") (tVar 0) "barred_at") (tFldC (He.ga K "Plant") (tVar 1) "barred_at")))))))
abbrev S_Plant_eq : List Str := ["self", "other"]
theorem eqK_marks {H : Hp} {a b : Addr} {xs ys : List Int} {Q : VK} (ha : H a = some (.dK (marksOf xs))) (hb : H b = some (.dK (marksOf ys))) (q : Q (.bl (sameD (marksOf xs) (marksOf ys))) H) : rEqK (.ref a) (.ref b) H Q :=
  ⟨a, b, _, _, rfl, rfl, ha, hb, alike_marks _ _, q⟩
theorem pure_Plant_eq {P : Program} {w : World} {K : PySem.W.Frag} (vs : List V) (H : Hp) (Q : VK) (E : XK) (h : sp_Plant_eq P w K vs H Q E) : t_Plant_eq P w K { nx := fun _ H' => Q .non H', rt := Q } (start S_Plant_eq vs) H := by
  obtain ⟨x, dx, st, L, wn, bn, w1, b, l, lv, r, ns, y, dy, st', L', wn', bn', w', b', l', lv', r', ns', rfl, oc, p, p', o1, o2, q⟩ := h
  show t_Plant_eq P w K _ [some (.ref x), some (.ref y)] H
  unfold t_Plant_eq
  walk_at "nrm"
  refine isi_own oc p'.ob ⟨_, rfl, iteT ?_⟩
  have k1 : decide (V.int st = V.int st') = decide (st = st') := by rw [Bool.eq_iff_iff]; simp
  have k2 : PyData.eqv (.list (L.map fun p => rowD p.2)) (.list (L'.map fun p => rowD p.2)) = decide (L.map (·.2) = L'.map (·.2)) := by
    have z := eqv_rows (L.map (·.2)) (L'.map (·.2))
    rw [List.map_map, List.map_map] at z
    exact z
  unfold samePlant at q
  refine ⟨dx, _, p.ob, .int st, by rfl, dy, _, p'.ob, .int st', by rfl, rfl, _, rfl, ?_⟩
  rw [k1]
  generalize decide (st = st') = c1 at q
  cases c1 with
  | false => exact iteF q
  | true =>
    rw [Bool.true_and] at q
    refine iteT ⟨dx, _, p.ob, .ref l, by rfl, dy, _, p'.ob, .ref l', by rfl, .list (L.map fun p => rowD p.2), .list (L'.map fun p => rowD p.2), .lst (.inl (.inl p.rows)) (rows_dp p.at_), .lst (.inl (.inl p'.rows)) (rows_dp p'.at_), ?_, ?_, _, rfl, ?_⟩
    · have z := shaped_rows _ o1
      rwa [List.map_map] at z
    · have z := shaped_rows _ o2
      rwa [List.map_map] at z
    rw [k2]
    generalize decide (L.map (·.2) = L'.map (·.2)) = c2 at q
    cases c2 with
    | false => exact iteF q
    | true =>
      rw [Bool.true_and] at q
      refine iteT ⟨dx, _, p.ob, .ref w1, by rfl, dy, _, p'.ob, .ref w', by rfl, eqK_marks p.wan p'.wan ⟨_, rfl, ?_⟩⟩
      generalize sameD (marksOf wn) (marksOf wn') = c3 at q
      cases c3 with
      | false => exact iteF q
      | true =>
        rw [Bool.true_and] at q
        exact iteT ⟨dx, _, p.ob, .ref b, by rfl, dy, _, p'.ob, .ref b', by rfl, eqK_marks p.bar p'.bar q⟩
theorem len_Plant_eq {P : Program} {w : World} {K : PySem.W.Frag} (vs : List V) (H : Hp) (Q : VK) (E : XK) (h : sp_Plant_eq P w K vs H Q E) : vs.length = n_Plant_eq.length := by
  obtain ⟨x, dx, st, L, wn, bn, w1, b, l, lv, r, ns, y, dy, st', L', wn', bn', w', b', l', lv', r', ns', rfl, _⟩ := h
  rfl
end LG
end

section
set_option maxHeartbeats 4000000
namespace LG
open PySem PySem.Spec PyProof.Rows L2
local macro_rules | `(tactic| walk_at "nrm") => `(tactic| simp only [tRet, tSeq, tNext, tIfS, tAsg, gName, tVar, tC, tCons, tNil, tCB, tOp, tUn, tTest, tB, tAnd, tOr, tNot, tAndV, tOrV, tNotV, tChain, tCall, tDrop, tTup, tLst, tNever, tDNewK, tDNewT, sDPut, tDGet, tDGet2, tDGet1, tDIn, tDNotIn, tSAddH, tBM, tBM0, tTru, sFldC, tFldC, tDSetd, tMake, List.getElem?_cons_zero, List.getElem?_cons_succ, Option.some.injEq, exists_eq_left', List.nil_append, List.cons_append, List.append_nil, List.set_cons_zero, List.set_cons_succ, rI0, rI, rU, ipI, tAug, V.int.injEq, V.bl.injEq, V.str.injEq, V.ref.injEq, exists_eq_left, exists_and_left, decide_eq_true_eq, Bool.not_eq_true', Bool.not_eq_eq_eq_not, Bool.not_true, Bool.not_false, Bool.false_eq_true, decide_eq_false_iff_not, if_true, if_false, true_and, and_true, ite_true, ite_false, reduceCtorEq, List.cons.injEq])
theorem inL_no {κ : Type} [DecidableEq κ] {l : List κ} {k : κ} (h : k ∉ l) : inL l k = false := decide_eq_false h
/-! ### tables of texts -/
def strsK (t : List (Str × Str)) : List (Key × V) := t.map fun p => (.inr p.1, .str p.2)
def marksS (c : List Str) : List (Key × V) := c.map fun x => (.inr x, .bl true)
def strsV (ws : List Str) : List V := ws.map V.str
def dedupS (ws : List Str) : List Str := ws.foldl (fun acc x => if x ∈ acc then acc else acc ++ [x]) []
theorem dedupS_snoc (ws : List Str) (x : Str) : dedupS (ws ++ [x]) = if x ∈ dedupS ws then dedupS ws else dedupS ws ++ [x] := by
  unfold dedupS
  rw [List.foldl_append]
  rfl
theorem dedupS_facts (ws : List Str) : (dedupS ws).Nodup ∧ (∀ x, x ∈ dedupS ws ↔ x ∈ ws) ∧ (dedupS ws).length ≤ ws.length := by
  have key : ∀ n (ws : List Str), ws.length = n → (dedupS ws).Nodup ∧ (∀ x, x ∈ dedupS ws ↔ x ∈ ws) ∧ (dedupS ws).length ≤ ws.length := by
    intro n
    induction n with
    | zero =>
      intro ws h
      rw [List.eq_nil_of_length_eq_zero h]
      exact ⟨.nil, fun x => Iff.rfl, Nat.le_refl _⟩
    | succ n ih =>
      intro ws h
      rcases List.eq_nil_or_concat ws with rfl | ⟨l, x, e⟩
      · cases h
      rw [List.concat_eq_append] at e
      subst e
      obtain ⟨h1, h2, h3⟩ := ih l (by simp at h; exact h)
      rw [dedupS_snoc]
      by_cases hx : x ∈ dedupS l
      · rw [if_pos hx]
        refine ⟨h1, fun y => ?_, by simp; omega⟩
        rw [List.mem_append, List.mem_singleton, h2 y]
        exact ⟨.inl, fun z => z.elim id fun e => by rw [e]; exact (h2 x).mp hx⟩
      · rw [if_neg hx]
        refine ⟨List.nodup_append.mpr ⟨h1, by simp, fun a ha b hb => by rw [List.mem_singleton.mp hb]; exact fun z => hx (z ▸ ha)⟩, fun y => ?_, by simp; omega⟩
        rw [List.mem_append, List.mem_append, h2 y]
  exact key _ ws rfl
theorem dedupS_id {ws : List Str} (h : ws.Nodup) : dedupS ws = ws := by
  have key : ∀ n (ws : List Str), ws.length = n → ws.Nodup → dedupS ws = ws := by
    intro n
    induction n with
    | zero => intro ws h _; rw [List.eq_nil_of_length_eq_zero h]; rfl
    | succ n ih =>
      intro ws h nd
      rcases List.eq_nil_or_concat ws with rfl | ⟨l, x, e⟩
      · cases h
      rw [List.concat_eq_append] at e
      subst e
      obtain ⟨n1, _, n3⟩ := List.nodup_append.mp nd
      have z := ih l (by simp at h; exact h) n1
      rw [dedupS_snoc, z, if_neg (fun m => n3 x m x (List.mem_singleton.mpr rfl) rfl)]
  exact key _ ws rfl h
theorem valV_marksS (x : Str) : ∀ c : List Str, valV (marksS c) (.inr x) = if x ∈ c then some (.bl true) else none
  | [] => by simp [marksS, valV_nil]
  | y :: c => by
    have ih := valV_marksS x c
    rw [marksS, List.map_cons]
    by_cases e : x = y
    · subst e
      rw [valV_pos rfl, if_pos (List.mem_cons_self)]
    · rw [valV_neg (fun z => e (by cases z; rfl))]
      rw [marksS] at ih
      rw [ih]
      by_cases h : x ∈ c
      · rw [if_pos h, if_pos (List.mem_cons_of_mem _ h)]
      · rw [if_neg h, if_neg (fun z => (List.mem_cons.mp z).elim e h)]
theorem putK_marksS (c : List Str) (x : Str) : putK (marksS c) (.inr x) (.bl true) = marksS (if x ∈ c then c else c ++ [x]) := by
  by_cases h : x ∈ c
  · rw [if_pos h]
    unfold putK
    rw [valV_any, valV_marksS, if_pos h]
    simp only [Option.isSome_some, if_true]
    unfold marksS
    rw [List.map_map]
    refine List.map_congr_left fun y _ => ?_
    simp only [Function.comp]
    split
    · rfl
    · rfl
  · rw [if_neg h, putK_new (by rw [valV_marksS, if_neg h])]
    simp [marksS]
theorem valV_strsK_none {t : List (Str × Str)} {x : Str} (h : x ∉ t.map (·.1)) : valV (strsK t) (.inr x) = none := by
  induction t with
  | nil => rfl
  | cons p t ih =>
    rw [strsK, List.map_cons, valV_neg (fun z => h (by cases z; simp))]
    exact ih fun m => h (by simp [m])
/-- for k, v in d.items(), d locked -/
theorem tLock_items {K : PySem.W.Frag} {i ti tj : Nat} {tb : TS} {D : Ends} {σ : L2.St} {H : Hp} {d : Addr} {kvs : List (Key × V)} (e : σ[i]? = some (some (.ref d))) (hd : H d = some (.dK kvs))
    (h : ∀ od, ∃ Pv : Nat → L2.St → Hp → Prop, Pv 0 σ (upd H d (.frz od (.dK kvs))) ∧ (∀ i σ H', Pv i σ H' → H' d = some (.frz od (.dK kvs))) ∧
      (∀ i k v σ H' T rt bk, kvs[i]? = some (k, v) → Pv i σ H' → H' T = none → tb { nx := Pv (i + 1), rt := rt, bk := bk, ct := Pv (i + 1) } ((σ.set ti (some (kV k))).set tj (some v)) (upd H' T (.tup [kV k, v]))) ∧
      (∀ σ H', Pv kvs.length σ H' → D.nx σ (upd H' d (.dK kvs)))) : tLock (tFor (iItems (tVar i)) (gTup K 2 (gCons (gName ti) (gCons (gName tj) gNil))) tb) D σ H := by
  refine ⟨d, .dK kvs, hd, trivial, fun od => ?_⟩
  obtain ⟨Pv, h0, h1, h2, h3⟩ := h od
  unfold tFor iItems tVar
  refine ⟨_, e, d, od, kvs, rfl, upd_same, for_it walk_items Pv h0 (fun i σ H' _ p => h1 i σ H' p) (fun i x σ H' H2 hi p y => ?_) fun σ H' p => ⟨h1 _ _ _ p, h3 σ H' p⟩⟩
  obtain ⟨T, x1, y1, rfl, hT, rfl, e1, e2⟩ := y
  have e1 : kvs[i]?.map (fun kv => kV kv.1) = some x1 := e1
  have e2 : kvs[i]?.map Prod.snd = some y1 := e2
  cases hk : kvs[i]? with
  | none => rw [hk] at e1; cases e1
  | some kv =>
    rw [hk] at e1 e2
    cases e1
    cases e2
    exact ⟨T, _, rfl, .inl (.inl upd_same), rfl, _, _, rfl, _, _, rfl, rfl, h2 i kv.1 kv.2 σ H' T _ _ hk p hT⟩
/-! ### checked_sights -/
def sp_checked_sights (P : Program) (w : World) (K : PySem.W.Frag) : Sp := fun vs H Q _ => ∃ d t, vs = [.ref d] ∧ H d = some (.dK (strsK t)) ∧ (t.map (·.1)).Nodup ∧ (∀ p ∈ t, nameOk p.1 = true ∧ nameOk p.2 = true) ∧ t.length ≤ 1000 ∧
  ∀ H' a, Same H H' → H a = none → H' a = some (.dK (strsK t)) → Q (.ref a) H'
def n_checked_sights : List Str := ["sights"]
def t_checked_sights (P : Program) (w : World) (K : PySem.W.Frag) : TS :=
  (tSeq (tIfS (tNot (tB (tCB (rIsi K) (tCons (tVar 0) (tCons (tC (.ty "dict")) tNil))))) tNever tNext) (tSeq (tAsg tDNewK (gName 1)) (tSeq (tLock (tFor (iItems (tVar 0)) (gTup K 2 (gCons (gName 2) (gCons (gName 3) gNil))) (tSeq (tIfS (tOr (tNot (tB (tCall (sp_is_name P w K) [] E0 (tCons (tVar 2) tNil)))) (tNot (tB (tCall (sp_is_name P w K) [] E0 (tCons (tVar 3) tNil))))) tNever tNext) (sDPut (tVar 1) (tVar 2) (tVar 3))))) (tRet (tVar 1)))))
abbrev S_checked_sights : List Str := ["sights", "table", "word", "sight"]
theorem pure_checked_sights {P : Program} {w : World} {K : PySem.W.Frag} (vs : List V) (H : Hp) (Q : VK) (E : XK) (h : sp_checked_sights P w K vs H Q E) : t_checked_sights P w K { nx := fun _ H' => Q .non H', rt := Q } (start S_checked_sights vs) H := by
  obtain ⟨d, t, rfl, hd, nd, ok, hz, q⟩ := h
  show t_checked_sights P w K _ [some (.ref d), none, none, none] H
  unfold t_checked_sights
  walk_at "nrm"
  refine isi_any (by decide) (vTyB.dK hd) ⟨_, rfl, iteN (by simp) fun a ha => ?_⟩
  have ad : a ≠ d := Ne.symm (ne_of_none hd ha)
  refine tLock_items (kvs := strsK t) rfl (by rw [upd_ne (Ne.symm ad)]; exact hd) fun od => ⟨fun i σ H' => (∃ b c, σ = [some (.ref d), some (.ref a), b, c]) ∧ H' d = some (.frz od (.dK (strsK t))) ∧ H' a = some (.dK (strsK (t.take i))) ∧ Keeps H H' [d], ⟨⟨_, _, rfl⟩, upd_same, by rw [upd_ne ad]; exact upd_same, fun b o nb e => by
      rw [upd_ne (fun z => nb (by simp [z])), upd_ne (ne_of_none e ha)]; exact e⟩, fun i σ H' p => p.2.1, ?_, ?_⟩
  · rintro i k v σ H' T rt bk hk ⟨⟨b, c, rfl⟩, hd', ha', keep⟩ hT
    obtain ⟨⟨x, y⟩, hp, rfl, rfl⟩ : ∃ p : Str × Str, t[i]? = some p ∧ k = .inr p.1 ∧ v = .str p.2 := by
      rw [strsK, List.getElem?_map] at hk
      cases e : t[i]? with
      | none => rw [e] at hk; cases hk
      | some p => rw [e] at hk; cases hk; exact ⟨p, rfl, rfl, rfl⟩
    have hm := List.mem_of_getElem? hp
    have ⟨o1, o2⟩ := ok _ hm
    have lz : ∀ x : Str, nameOk x = true → x.length ≤ sizeLine := fun x h => by have := name_len h; rw [sizeLine_eq]; omega
    have ha2 : ∀ O, upd H' T O a = some (.dK (strsK (t.take i))) := fun O => by rw [upd_ne (ne_of_none ha' hT)]; exact ha'
    have fresh : x ∉ (t.take i).map (·.1) := fun m => by
      have nd2 : ((t.take (i + 1)).map (·.1)).Nodup := by rw [List.map_take]; exact List.Sublist.nodup (List.take_sublist _ _) nd
      rw [take_succ_get hp, List.map_append] at nd2
      exact (List.nodup_append.mp nd2).2.2 x m x (List.mem_singleton.mpr rfl) rfl
    walk_at "nrm"
    refine ⟨.str x, rfl, .str x, fun z e => by cases e; exact lz _ o1, _, rfl, iteN (by show ¬ nameOk x = false; rw [o1]; decide) ⟨.str y, rfl, .str y, fun z e => by cases e; exact lz _ o2, _, rfl, iteN (by show ¬ nameOk y = false; rw [o2]; decide) ⟨_, .inl ⟨_, .inr x, ha2 _, rfl, small1000 ?_, rfl⟩, by simp, ?_, ?_, ?_⟩⟩⟩
    · rw [strsK, List.length_map, List.length_take]; omega
    · rw [upd_ne (Ne.symm ad), upd_ne (ne_of_none hd' hT)]; exact hd'
    · rw [upd_same, putK_new (valV_strsK_none fresh), take_succ_get hp]
      simp [strsK]
    · intro b o nb e
      have z := keep b o nb e
      rw [upd_ne (ne_of_none e ha), upd_ne (ne_of_none z hT)]; exact z
  · rintro σ H' ⟨⟨b, c, rfl⟩, hd', ha', keep⟩
    walk_at "nrm"
    refine q _ a (fun b o e => ?_) ha ?_
    · by_cases z : b = d
      · subst z
        rw [upd_same]; rw [hd] at e; exact e
      · rw [upd_ne z]; exact keep b o (by simp [z]) e
    · rw [upd_ne ad, ha', show (strsK t).length = t.length from List.length_map _, List.take_length]
theorem len_checked_sights {P : Program} {w : World} {K : PySem.W.Frag} (vs : List V) (H : Hp) (Q : VK) (E : XK) (h : sp_checked_sights P w K vs H Q E) : vs.length = n_checked_sights.length := by
  obtain ⟨d, t, rfl, _⟩ := h
  rfl
/-! ### checked_words, marked -/
def NamesOk (ws : List Str) : Prop := ∀ x ∈ ws, nameOk x = true
def sp_checked_words (P : Program) (w : World) (K : PySem.W.Frag) : Sp := fun vs H Q _ => ∃ a ws, vs = [.ref a] ∧ vRow K H (.ref a) true ∧ SqR K H a (strsV ws) ∧ NamesOk ws ∧
  ∀ H' l, Same H H' → H l = none → H' l = some (.lst (strsV ws)) → Q (.ref l) H'
def n_checked_words : List Str := ["words"]
def t_checked_words (P : Program) (w : World) (K : PySem.W.Frag) : TS :=
  (tSeq (tIfS (tNot (tB (tCall (sp_is_row P w K) [] E0 (tCons (tVar 0) tNil)))) tNever tNext) (tSeq (tAsg (tCall (sp_first_other P w K) [] E0 (tCons (tVar 0) tNil)) (gName 1)) (tSeq (tIfS (tTest (tOp gGe (tVar 1) (tC (.int 0)))) tNever tNext) (tRet (tCB (gListOf K) (tCons (tVar 0) tNil))))))
abbrev S_checked_words : List Str := ["words", "at"]
theorem pure_checked_words {P : Program} {w : World} {K : PySem.W.Frag} (vs : List V) (H : Hp) (Q : VK) (E : XK) (h : sp_checked_words P w K vs H Q E) : t_checked_words P w K { nx := fun _ H' => Q .non H', rt := Q } (start S_checked_words vs) H := by
  obtain ⟨a, ws, rfl, hr, hq, ok, q⟩ := h
  show t_checked_words P w K _ [some (.ref a), none] H
  unfold t_checked_words
  walk_at "nrm"
  refine ⟨_, _, rfl, hr, fun H1 s1 => ⟨_, rfl, iteN (by simp) ?_⟩⟩
  have names : ∀ x ∈ strsV ws, vName x = true := fun x hx => by
    obtain ⟨y, hy, rfl⟩ := List.mem_map.mp hx
    exact ok y hy
  refine ⟨a, strsV ws, rfl, sqR_keep (Same.at s1 a) hq, fun x hx => ?_, fun H2 s2 _ => ?_, fun i x H2 s2 hx hv _ => ?_⟩
  · obtain ⟨y, hy, rfl⟩ := List.mem_map.mp hx
    exact ⟨.str y, fun z e => by cases e; have := name_len (ok y hy); rw [sizeLine_eq]; omega⟩
  · refine ⟨_, rfl, iteN (by omega) ?_⟩
    have s12 := Same.trans s1 s2
    exact list_row (sqR_keep (Same.at s12 a) hq) fun l hl => q _ l (Same.upd s12 (Same.none s12 hl)) (Same.none s12 hl) upd_same
  · rw [names x (List.mem_of_getElem? hx)] at hv
    cases hv
theorem len_checked_words {P : Program} {w : World} {K : PySem.W.Frag} (vs : List V) (H : Hp) (Q : VK) (E : XK) (h : sp_checked_words P w K vs H Q E) : vs.length = n_checked_words.length := by
  obtain ⟨a, ws, rfl, _⟩ := h
  rfl
/-- a dict comprehension over a list -/
theorem tDc_list {K : PySem.W.Frag} {ti : TE} {g : TG} {tt : TT} {tk tv : TE} {vs : List Nat} {σ : L2.St} {H H1 : Hp} {Q : VK} {a : Addr} {xs : List V} (he : ∀ Q, Q (.ref a) H1 → ti σ H Q) (hq : SqL K H1 a xs)
    (h : ∀ D, H1 D = none → ∃ Pv : Nat → Hp → Prop, Pv 0 (upd H1 D (.dK [])) ∧ (∀ i H', Pv i H' → SqL K H' a xs) ∧
      (∀ i x H', xs[i]? = some x → Pv i H' → g x (wipe σ vs) H' fun σ2 H2 => wipe σ2 vs = wipe σ vs ∧ tt σ2 H2 fun b H3 =>
        if b = true then tk σ2 H3 fun y H4 => tv σ2 H4 fun z H5 => ∃ (kvs : List (Key × V)) (k : Key), y = kV k ∧ H5 D = some (.dK kvs) ∧ kvs.length < sizeLine ∧ Pv (i + 1) (upd H5 D (.dK (putK kvs k z))) else Pv (i + 1) H3) ∧
      (∀ H', Pv xs.length H' → Q (.ref D) H')) : tDc (iList K ti) g tt tk tv vs σ H Q := by
  unfold tDc iList
  refine he _ ⟨a, rfl, ⟨xs, hq⟩, fun D hD => ?_⟩
  obtain ⟨Pv, h0, h1, h2, h3⟩ := h D hD
  exact dc_it walk_list Pv h0 (fun i H' _ p => h1 i H' p) (fun i x H' H2 hi p y => by obtain ⟨rfl, hx⟩ := y; exact h2 i x _ hx p) h3
def sp_marked (P : Program) (w : World) (K : PySem.W.Frag) : Sp := fun vs H Q _ => ∃ l ws, vs = [.ref l] ∧ H l = some (.lst (strsV ws)) ∧ ws.length ≤ 1000 ∧ ∀ H' a, Same H H' → H a = none → H' a = some (.dK (marksS (dedupS ws))) → Q (.ref a) H'
def n_marked : List Str := ["words"]
def t_marked (P : Program) (w : World) (K : PySem.W.Frag) : TS :=
  (tRet (tDc (iList K (tVar 0)) (gName 1) tYes (tVar 1) (tC (.bl true)) [1]))
abbrev S_marked : List Str := ["words", "word"]
theorem pure_marked {P : Program} {w : World} {K : PySem.W.Frag} (vs : List V) (H : Hp) (Q : VK) (E : XK) (h : sp_marked P w K vs H Q E) : t_marked P w K { nx := fun _ H' => Q .non H', rt := Q } (start S_marked vs) H := by
  obtain ⟨l, ws, rfl, hl, hz, q⟩ := h
  show t_marked P w K _ [some (.ref l), none] H
  unfold t_marked
  show tDc _ _ _ _ _ _ _ _ _
  refine tDc_list (H1 := H) (fun Q q => ⟨_, rfl, q⟩) (.inl (.inl hl)) fun D hD => ⟨fun i H' => Same H H' ∧ H' D = some (.dK (marksS (dedupS (ws.take i)))), ⟨same_new hD, upd_same⟩, fun i H' p => .inl (.inl (p.1 _ _ hl)), ?_, ?_⟩
  · rintro i x H' hx ⟨s, hD'⟩
    obtain ⟨y, hy, rfl⟩ : ∃ y, ws[i]? = some y ∧ x = .str y := by
      rw [strsV, List.getElem?_map] at hx
      cases e : ws[i]? with
      | none => rw [e] at hx; cases hx
      | some p => rw [e] at hx; cases hx; exact ⟨p, rfl, rfl⟩
    refine ⟨rfl, ?_⟩
    unfold tYes
    refine iteY rfl ?_
    walk_at "nrm"
    have z := (dedupS_facts (ws.take i)).2.2
    rw [List.length_take] at z
    refine ⟨_, rfl, _, .inr y, rfl, hD', small1000 (by rw [marksS, List.length_map]; omega), Same.upd s hD, ?_⟩
    rw [upd_same, putK_marksS, take_succ_get hy, dedupS_snoc]
  · rintro H' ⟨s, hD'⟩
    rw [strsV, List.length_map, List.take_length] at hD'
    exact q H' D s hD hD'
theorem len_marked {P : Program} {w : World} {K : PySem.W.Frag} (vs : List V) (H : Hp) (Q : VK) (E : XK) (h : sp_marked P w K vs H Q E) : vs.length = n_marked.length := by
  obtain ⟨a, ws, rfl, _⟩ := h
  rfl
/-! ### View -/
structure ViewAt (K : PySem.W.Frag) (H : Hp) (x dx : Addr) (t : List (Str × Str)) (c : List Str) (tb cn : Addr) : Prop where
  ob : H x = some (.ins (He.ga K "View") dx [fld "table" (.ref tb), fld "can" (.ref cn)])
  tab : H tb = some (.dK (strsK t))
  can : H cn = some (.dK (marksS c))
theorem ViewAt.same {K : PySem.W.Frag} {H H' : Hp} {x dx : Addr} {t : List (Str × Str)} {c : List Str} {tb cn : Addr} (s : Same H H') (v : ViewAt K H x dx t c tb cn) : ViewAt K H' x dx t c tb cn := ⟨s _ _ v.ob, s _ _ v.tab, s _ _ v.can⟩
/-- a table of names for names -/
structure TabNames (t : List (Str × Str)) : Prop where
  nd : (t.map (·.1)).Nodup
  ok : ∀ p ∈ t, nameOk p.1 = true ∧ nameOk p.2 = true
  few : t.length ≤ 1000
/-- what is given for sights -/
def SightsAt (H : Hp) (v : V) (t : List (Str × Str)) : Prop := (v = .non ∧ t = []) ∨ ∃ d, v = .ref d ∧ H d = some (.dK (strsK t)) ∧ TabNames t
def sp_View_init (P : Program) (w : World) (K : PySem.W.Frag) : Sp := fun vs H Q _ => ∃ x dx v t ha ws, vs = [.ref x, v, .ref ha] ∧ H x = some (.ins (He.ga K "View") dx []) ∧ SightsAt H v t ∧ vRow K H (.ref ha) true ∧ SqR K H ha (strsV ws) ∧ NamesOk ws ∧ ws.length ≤ 1000 ∧
  ∀ H', Keeps H H' [x] → (∃ tb cn, ViewAt K H' x dx t (dedupS ws) tb cn) → Q .non H'
def n_View_init : List Str := ["self", "sights", "holds"]
def t_View_init (P : Program) (w : World) (K : PySem.W.Frag) : TS :=
  (tSeq (sFldC (He.ga K "View") (tVar 0) tDNewK "table") (tSeq (tIfS (tTest (tOp rNotN (tVar 1) (tC .non))) (sFldC (He.ga K "View") (tVar 0) (tCall (sp_checked_sights P w K) [] E0 (tCons (tVar 1) tNil)) "table") tNext) (sFldC (He.ga K "View") (tVar 0) (tCall (sp_marked P w K) [] E0 (tCons (tCall (sp_checked_words P w K) [] E0 (tCons (tVar 2) tNil)) tNil)) "can")))
abbrev S_View_init : List Str := ["self", "sights", "holds"]
theorem pure_View_init {P : Program} {w : World} {K : PySem.W.Frag} (vs : List V) (H : Hp) (Q : VK) (E : XK) (h : sp_View_init P w K vs H Q E) : t_View_init P w K { nx := fun _ H' => Q .non H', rt := Q } (start S_View_init vs) H := by
  obtain ⟨x, dx, v, t, ha, ws, rfl, hx, hs, hr, hq, ok, hz, q⟩ := h
  show t_View_init P w K _ [some (.ref x), some v, some (.ref ha)] H
  unfold t_View_init
  walk_at "nrm"
  intro e0 he0
  have ex : e0 ≠ x := Ne.symm (ne_of_none hx he0)
  refine ⟨dx, [], by rw [upd_ne (Ne.symm ex)]; exact hx, (by show (0 : Nat) < 1000; decide), ?_⟩
  generalize e1 : upd (upd H e0 (HO.dK [])) x (HO.ins (He.ga K (Str.ofString "View")) dx (putF (Str.ofString "table") (V.ref e0) [])) = H1
  have k1 : Keeps H H1 [x] := fun b o nb e => by rw [← e1, upd_ne (fun z => nb (by simp [z])), upd_ne (ne_of_none e he0)]; exact e
  have x1 : H1 x = some (.ins (He.ga K "View") dx [fld "table" (.ref e0)]) := by rw [← e1]; exact upd_same
  have t1 : H1 e0 = some (.dK []) := by rw [← e1, upd_ne ex]; exact upd_same
  -- behind the sights
  have fin : ∀ H2 tb, Keeps H H2 [x] → H2 x = some (.ins (He.ga K "View") dx [fld "table" (.ref tb)]) → H2 tb = some (.dK (strsK t)) → tb ≠ x →
      sp_checked_words P w K [.ref ha] H2 (fun y H3 => sp_marked P w K [y] H3 (fun y H4 => ∃ dx2 fs, H4 x = some (.ins (He.ga K "View") dx2 fs) ∧ fs.length < 1000 ∧ Q .non (upd H4 x (.ins (He.ga K "View") dx2 (putF (Str.ofString "can") y fs)))) E0) E0 := fun H2 tb k2 x2 t2 tx => by
    refine ⟨ha, ws, rfl, vRow_keeps hx k2 hr rfl, ?_, ok, fun H3 l s3 nl hl => ⟨l, ws, rfl, hl, hz, fun H4 cn s4 nc hc => ⟨dx, _, s4 _ _ (s3 _ _ x2), (by show (1 : Nat) < 1000; decide), ?_⟩⟩⟩
    · by_cases z : ha = x
      · subst z
        rcases hq with h | h <;> rcases h with h | ⟨o, its, n, h⟩
        · rcases h with h | ⟨o, h⟩ <;> rw [hx] at h <;> cases h
        · exact .inl (.inr ⟨o, its, n, h⟩)
        · rcases h with h | ⟨o, h⟩ <;> rw [hx] at h <;> cases h
        · exact .inr (.inr ⟨o, its, n, h⟩)
      · exact sqR_keep (fun o e => k2 _ o (by simp [z]) e) hq
    · have cx : cn ≠ x := fun z => by rw [z, s3 _ _ x2] at nc; cases nc
      refine q _ (fun b o nb e => by rw [upd_ne (fun z => nb (by simp [z]))]; exact s4 _ _ (s3 _ _ (k2 b o nb e))) ⟨tb, cn, upd_same, ?_, ?_⟩
      · rw [upd_ne tx]; exact s4 _ _ (s3 _ _ t2)
      · rw [upd_ne cx]; exact hc
  rcases hs with ⟨rfl, rfl⟩ | ⟨d, rfl, hd, tn⟩
  · refine ⟨rfl, _, rfl, iteN (by simp) ?_⟩
    exact fin H1 e0 k1 x1 t1 ex
  · have dxx : d ≠ x := ne_of hd hx (by simp)
    refine ⟨rfl, _, rfl, iteY (by simp) ⟨d, t, rfl, k1 _ _ (by simp [dxx]) hd, tn.nd, tn.ok, tn.few, fun H2 a s2 na hA => ?_⟩⟩
    have ax : a ≠ x := fun z => by rw [z, x1] at na; cases na
    refine ⟨dx, _, s2 _ _ x1, (by show (1 : Nat) < 1000; decide), ?_⟩
    refine fin _ a (fun b o nb e => by rw [upd_ne (fun z => nb (by simp [z]))]; exact s2 _ _ (k1 b o nb e)) upd_same (by rw [upd_ne ax]; exact hA) ax
theorem len_View_init {P : Program} {w : World} {K : PySem.W.Frag} (vs : List V) (H : Hp) (Q : VK) (E : XK) (h : sp_View_init P w K vs H Q E) : vs.length = n_View_init.length := by
  obtain ⟨x, dx, v, t, ha, ws, rfl, _⟩ := h
  rfl
/-! ### View.copy, View.__eq__, seeing, sights_told -/
def sp_View_copy (P : Program) (w : World) (K : PySem.W.Frag) : Sp := fun vs H Q _ => ∃ x dx t c tb cn, vs = [.ref x] ∧ ViewAt K H x dx t c tb cn ∧ TabNames t ∧ NamesOk c ∧ c.Nodup ∧ c.length ≤ 1000 ∧
  ∀ H' y, Same H H' → H y = none → (∃ dy tb' cn', ViewAt K H' y dy t c tb' cn') → Q (.ref y) H'
def n_View_copy : List Str := ["self"]
def t_View_copy (P : Program) (w : World) (K : PySem.W.Frag) : TS :=
  (tRet (tMake (He.ga K "View") (sp_View_init P w K) [] E0 (tCons (tFldC (He.ga K "View") (tVar 0) "table") (tCons (tCB rListD (tCons (tFldC (He.ga K "View") (tVar 0) "can") tNil)) tNil))))
abbrev S_View_copy : List Str := ["self"]
theorem pure_View_copy {P : Program} {w : World} {K : PySem.W.Frag} (vs : List V) (H : Hp) (Q : VK) (E : XK) (h : sp_View_copy P w K vs H Q E) : t_View_copy P w K { nx := fun _ H' => Q .non H', rt := Q } (start S_View_copy vs) H := by
  obtain ⟨x, dx, t, c, tb, cn, rfl, v, tn, ok, nd, hz, q⟩ := h
  show t_View_copy P w K _ [some (.ref x)] H
  unfold t_View_copy
  walk_at "nrm"
  refine ⟨dx, _, v.ob, .ref tb, by rfl, dx, _, v.ob, .ref cn, by rfl, cn, _, rfl, v.can, fun l hl y dy hy hdy hne => ?_⟩
  have e1 : (marksS c).map (fun kv => kV kv.1) = strsV c := by rw [marksS, List.map_map]; rfl
  rw [e1] at hy hdy ⊢
  have s1 : Same H (upd H l (.lst (strsV c))) := same_new hl
  generalize hH1 : upd H l (HO.lst (strsV c)) = H1 at s1 hy hdy ⊢
  have l1 : H1 l = some (.lst (strsV c)) := by rw [← hH1]; exact upd_same
  have s2 : Same H1 (upd H1 dy (.own y)) := same_new hdy
  have hy2 : upd H1 dy (.own y) y = none := by rw [upd_ne (Ne.symm hne)]; exact hy
  have s3 : Same H1 (upd (upd H1 dy (.own y)) y (.ins (He.ga K (Str.ofString "View")) dy [])) := Same.trans s2 (same_new hy2)
  have s13 := Same.trans s1 s3
  refine ⟨y, dy, .ref tb, t, l, c, rfl, upd_same, .inr ⟨tb, rfl, s13 _ _ v.tab, tn⟩, vRow.list (s3 _ _ l1), .inl (.inl (.inl (s3 _ _ l1))), ok, hz, fun H4 k4 ⟨tb', cn', v'⟩ => ⟨rfl, ?_⟩⟩
  rw [dedupS_id nd] at v'
  have ny : H y = none := Same.none s1 hy
  exact q H4 y (fun b o e => k4 b o (by simp [ne_of_none e ny]) (s13 b o e)) ny ⟨dy, tb', cn', v'⟩
theorem len_View_copy {P : Program} {w : World} {K : PySem.W.Frag} (vs : List V) (H : Hp) (Q : VK) (E : XK) (h : sp_View_copy P w K vs H Q E) : vs.length = n_View_copy.length := by
  obtain ⟨x, dx, t, c, tb, cn, rfl, _⟩ := h
  rfl
theorem alike_strs (a b : List (Str × Str)) : Alike (strsK a) (strsK b) := fun p hp v hv => by
  obtain ⟨n, _, rfl⟩ := List.mem_map.mp hp
  have key : ∀ b : List (Str × Str), valV (strsK b) (.inr n.1) = some v → ∃ y, v = .str y := fun b => by
    induction b with
    | nil => intro h; cases h
    | cons q b ih =>
      intro h
      by_cases e : (Sum.inr q.1 : Key) = .inr n.1
      · rw [strsK, List.map_cons, valV_pos e] at h
        cases h; exact ⟨_, rfl⟩
      · rw [strsK, List.map_cons, valV_neg e] at h
        exact ih h
  obtain ⟨y, rfl⟩ := key b hv
  rfl
theorem alike_marksS (a b : List Str) : Alike (marksS a) (marksS b) := fun p hp v hv => by
  obtain ⟨n, _, rfl⟩ := List.mem_map.mp hp
  rw [valV_marksS] at hv
  split at hv
  · cases hv; rfl
  · cases hv
def sameView (t t' : List (Str × Str)) (c c' : List Str) : Bool := sameD (strsK t) (strsK t') && sameD (marksS c) (marksS c')
def sp_View_eq (P : Program) (w : World) (K : PySem.W.Frag) : Sp := fun vs H Q _ => ∃ x dx t c tb cn y dy t' c' tb' cn', vs = [.ref x, .ref y] ∧ OwnC K (He.ga K "View") ∧ ViewAt K H x dx t c tb cn ∧ ViewAt K H y dy t' c' tb' cn' ∧ Q (.bl (sameView t t' c c')) H
def n_View_eq : List Str := ["self", "other"]
def t_View_eq (P : Program) (w : World) (K : PySem.W.Frag) : TS :=
  (tRet (tAndV (tCB (rIsi K) (tCons (tVar 1) (tCons (tC (.ref (He.ga K "View"))) tNil))) (tAndV (tOp rEqK (tFldC (He.ga K "View") (tVar 0) "table") (tFldC (He.ga K "View") (tVar 1) "table")) (tOp rEqK (tFldC (He.ga K "View") (tVar 0) "can") (tFldC (He.ga K "View") (tVar 1) "can")))))
abbrev S_View_eq : List Str := ["self", "other"]
theorem pure_View_eq {P : Program} {w : World} {K : PySem.W.Frag} (vs : List V) (H : Hp) (Q : VK) (E : XK) (h : sp_View_eq P w K vs H Q E) : t_View_eq P w K { nx := fun _ H' => Q .non H', rt := Q } (start S_View_eq vs) H := by
  obtain ⟨x, dx, t, c, tb, cn, y, dy, t', c', tb', cn', rfl, oc, v, v', q⟩ := h
  show t_View_eq P w K _ [some (.ref x), some (.ref y)] H
  unfold t_View_eq
  walk_at "nrm"
  unfold sameView at q
  refine isi_own oc v'.ob ⟨_, rfl, iteT ⟨dx, _, v.ob, .ref tb, by rfl, dy, _, v'.ob, .ref tb', by rfl, ⟨tb, tb', _, _, rfl, rfl, v.tab, v'.tab, alike_strs _ _, _, rfl, ?_⟩⟩⟩
  generalize sameD (strsK t) (strsK t') = c1 at q
  cases c1 with
  | false => exact iteF q
  | true =>
    rw [Bool.true_and] at q
    exact iteT ⟨dx, _, v.ob, .ref cn, by rfl, dy, _, v'.ob, .ref cn', by rfl, ⟨cn, cn', _, _, rfl, rfl, v.can, v'.can, alike_marksS _ _, q⟩⟩
theorem len_View_eq {P : Program} {w : World} {K : PySem.W.Frag} (vs : List V) (H : Hp) (Q : VK) (E : XK) (h : sp_View_eq P w K vs H Q E) : vs.length = n_View_eq.length := by
  obtain ⟨x, dx, t, c, tb, cn, y, dy, t', c', tb', cn', rfl, _⟩ := h
  rfl
/-- each word for itself -/
def selfT (ws : List Str) : List (Str × Str) := (dedupS ws).map fun x => (x, x)
def sp_seeing (P : Program) (w : World) (K : PySem.W.Frag) : Sp := fun vs H Q _ => ∃ a ws b hs, vs = [.ref a, .ref b] ∧ vRow K H (.ref a) true ∧ SqR K H a (strsV ws) ∧ NamesOk ws ∧ ws.length ≤ 1000 ∧ vRow K H (.ref b) true ∧ SqR K H b (strsV hs) ∧ NamesOk hs ∧ hs.length ≤ 1000 ∧
  ∀ H' y, Same H H' → H y = none → (∃ dy tb cn, ViewAt K H' y dy (selfT ws) (dedupS hs) tb cn) → Q (.ref y) H'
def n_seeing : List Str := ["words", "holds"]
def t_seeing (P : Program) (w : World) (K : PySem.W.Frag) : TS :=
  (tRet (tMake (He.ga K "View") (sp_View_init P w K) [] E0 (tCons (tDc (iList K (tCall (sp_checked_words P w K) [] E0 (tCons (tVar 0) tNil))) (gName 2) tYes (tVar 2) (tVar 2) [2]) (tCons (tVar 1) tNil))))
abbrev S_seeing : List Str := ["words", "holds", "word"]
theorem putK_self (c : List Str) (x : Str) : putK (strsK (c.map fun x => (x, x))) (.inr x) (.str x) = strsK ((if x ∈ c then c else c ++ [x]).map fun x => (x, x)) := by
  by_cases h : x ∈ c
  · rw [if_pos h]
    have hv : valV (strsK (c.map fun x => (x, x))) (.inr x) ≠ none := fun z => by
      have z2 := valV_not z
      exact z2 (by rw [strsK, List.map_map, List.map_map]; exact List.mem_map.mpr ⟨x, h, rfl⟩)
    unfold putK
    rw [valV_any, show (valV (strsK (c.map fun x => (x, x))) (.inr x)).isSome = true from Option.isSome_iff_ne_none.mpr hv]
    simp only [if_true]
    unfold strsK
    rw [List.map_map, List.map_map, List.map_map]
    refine List.map_congr_left fun y _ => ?_
    simp only [Function.comp]
    split
    · rename_i e; cases e; rfl
    · rfl
  · rw [if_neg h, putK_new (valV_strsK_none (by rw [List.map_map]; simpa using h))]
    simp [strsK]
theorem TyX_new {K : PySem.W.Frag} {H : Hp} : True := trivial
theorem pure_seeing {P : Program} {w : World} {K : PySem.W.Frag} (vs : List V) (H : Hp) (Q : VK) (E : XK) (h : sp_seeing P w K vs H Q E) : t_seeing P w K { nx := fun _ H' => Q .non H', rt := Q } (start S_seeing vs) H := by
  obtain ⟨a, ws, b, hs, rfl, ra, qa, oka, za, rb, qb, okb, zb, q⟩ := h
  show t_seeing P w K _ [some (.ref a), some (.ref b), none] H
  unfold t_seeing
  simp only [tRet, tMake, tCons, tNil]
  unfold tDc iList
  refine ⟨_, rfl, a, ws, rfl, ra, qa, oka, fun H1 l s1 nl hl => ⟨l, rfl, ⟨_, .inl (.inl hl)⟩, fun D hD => dc_it walk_list (fun i H' => Same H1 H' ∧ H' D = some (.dK (strsK ((dedupS (ws.take i)).map fun x => (x, x))))) ⟨same_new hD, upd_same⟩ (fun i H' _ p => .inl (.inl (p.1 _ _ hl))) ?_ ?_⟩⟩
  · rintro i x H' H2 hi ⟨s, hD'⟩ ⟨rfl, hx⟩
    obtain ⟨y, hy, rfl⟩ : ∃ y, ws[i]? = some y ∧ x = .str y := by
      rw [strsV, List.getElem?_map] at hx
      cases e : ws[i]? with
      | none => rw [e] at hx; cases hx
      | some p => rw [e] at hx; cases hx; exact ⟨p, rfl, rfl⟩
    refine ⟨rfl, ?_⟩
    unfold tYes
    refine iteY rfl ?_
    walk_at "nrm"
    have z := (dedupS_facts (ws.take i)).2.2
    rw [List.length_take] at z
    refine ⟨_, rfl, _, rfl, _, .inr y, rfl, hD', small1000 (by rw [strsK, List.length_map, List.length_map]; omega), Same.upd s hD, ?_⟩
    rw [upd_same, putK_self, take_succ_get hy, dedupS_snoc]
  · rintro H2 ⟨s2, hD2⟩
    rw [show (strsV ws).length = ws.length from List.length_map _, List.take_length] at hD2
    refine ⟨_, rfl, fun y dy hy hdy hne => ?_⟩
    have s12 := Same.trans s1 s2
    have s3 : Same H2 (upd H2 dy (.own y)) := same_new hdy
    have hy2 : upd H2 dy (.own y) y = none := by rw [upd_ne (Ne.symm hne)]; exact hy
    have s4 : Same H2 (upd (upd H2 dy (.own y)) y (.ins (He.ga K (Str.ofString "View")) dy [])) := Same.trans s3 (same_new hy2)
    have s14 := Same.trans s12 s4
    have ny : H y = none := Same.none s12 hy
    have fw := dedupS_facts ws
    refine ⟨y, dy, .ref D, selfT ws, b, hs, rfl, upd_same, .inr ⟨D, rfl, s4 _ _ hD2, ⟨?_, fun p hp => ?_, ?_⟩⟩, vRow_same (fun t => TyX.same s14) rb, sqR_keep (Same.at s14 b) qb, okb, zb, fun H5 k5 ⟨tb, cn, v⟩ => ⟨rfl, ?_⟩⟩
    · rw [selfT, List.map_map]
      have e : (dedupS ws).map ((fun x : Str × Str => x.1) ∘ fun x => (x, x)) = dedupS ws := by
        rw [show ((fun x : Str × Str => x.1) ∘ fun x => (x, x)) = id from rfl, List.map_id]
      rw [e]; exact fw.1
    · obtain ⟨x, hx, rfl⟩ := List.mem_map.mp hp
      have := oka x ((fw.2.1 x).mp hx)
      exact ⟨this, this⟩
    · rw [selfT, List.length_map]; exact Nat.le_trans fw.2.2 za
    · exact q H5 y (fun c o e => k5 c o (by simp [ne_of_none e ny]) (s14 c o e)) ny ⟨dy, tb, cn, v⟩
theorem len_seeing {P : Program} {w : World} {K : PySem.W.Frag} (vs : List V) (H : Hp) (Q : VK) (E : XK) (h : sp_seeing P w K vs H Q E) : vs.length = n_seeing.length := by
  obtain ⟨a, ws, b, hs, rfl, _⟩ := h
  rfl
def sightsOf (t : List (Str × Str)) : List Str := t.map (·.2)
/-- the sorted list of the different texts -/
structure SortedOf (ys xs : List Str) : Prop where
  srt : sortedS ys = true
  nd : ys.Nodup
  mem : ∀ x, x ∈ ys ↔ x ∈ xs
def sp_sights_told (P : Program) (w : World) (K : PySem.W.Frag) : Sp := fun vs H Q _ => ∃ x dx t c tb cn, vs = [.ref x] ∧ ViewAt K H x dx t c tb cn ∧ t.length < 60 ∧
  ∀ H' p ys, Same H H' → H p = none → H' p = some (.lst (strsV ys)) → SortedOf ys (sightsOf t) → Q (.ref p) H'
def n_sights_told : List Str := ["view"]
def t_sights_told (P : Program) (w : World) (K : PySem.W.Frag) : TS :=
  (tRet (tCB (rSortedM P w) (tCons (tCB (rSetOfK K P w) (tCons (tCB rListVals (tCons (tBM0 K "dict" rValues (tFldC (He.ga K "View") (tVar 0) "table")) tNil)) tNil)) tNil)))
abbrev S_sights_told : List Str := ["view"]
theorem pure_sights_told {P : Program} {w : World} {K : PySem.W.Frag} (vs : List V) (H : Hp) (Q : VK) (E : XK) (h : sp_sights_told P w K vs H Q E) : t_sights_told P w K { nx := fun _ H' => Q .non H', rt := Q } (start S_sights_told vs) H := by
  obtain ⟨x, dx, t, c, tb, cn, rfl, v, hz, q⟩ := h
  show t_sights_told P w K _ [some (.ref x)] H
  unfold t_sights_told
  walk_at "nrm"
  refine ⟨dx, _, v.ob, .ref tb, by rfl, .inr (.inr (.inl ⟨rfl, .inl ⟨_, v.tab⟩⟩)), tb, strsK t, rfl, rfl, v.tab, fun p1 hp1 => ?_⟩
  have s1 : Same H (upd H p1 (valuesO p1 tb)) := same_new hp1
  refine ⟨p1, tb, strsK t, rfl, upd_same, s1 _ _ v.tab, fun l hl => ?_⟩
  have s2 := Same.upd (o := .lst ((strsK t).map (·.2))) s1 (Same.none s1 hl)
  have ek : (strsK t).map (·.2) = ((sightsOf t).map (Sum.inr : Str → Key)).map kV := by
    rw [strsK, sightsOf, List.map_map, List.map_map, List.map_map]; rfl
  refine ⟨l, (sightsOf t).map Sum.inr, rfl, .inl (.inl (.inl (by rw [← ek]; exact upd_same))), ?_, fun a cc ha hcc => ?_⟩
  · rw [List.length_map, sightsOf, List.length_map]; exact Nat.lt_of_lt_of_le (Nat.succ_lt_succ hz) (by decide)
  have s3 := Same.upd (o := SetMO P w a (fun j => inL ((sightsOf t).map Sum.inr) j) cc) s2 (Same.none s2 ha)
  rw [List.length_map, sightsOf, List.length_map] at hcc
  refine ⟨a, _, cc, rfl, upd_same, by omega, fun i => inL_no (fun m => by obtain ⟨y, _, e⟩ := List.mem_map.mp m; cases e), fun ys p srt nd hm hlen hp => ?_⟩
  refine q _ p ys (Same.upd s3 (Same.none s3 hp)) (Same.none s3 hp) upd_same ⟨srt, nd, fun y => ?_⟩
  rw [hm y, inL_iff, List.mem_map]
  exact ⟨fun ⟨z, hz, e⟩ => by cases e; exact hz, fun h => ⟨y, h, rfl⟩⟩
theorem len_sights_told {P : Program} {w : World} {K : PySem.W.Frag} (vs : List V) (H : Hp) (Q : VK) (E : XK) (h : sp_sights_told P w K vs H Q E) : vs.length = n_sights_told.length := by
  obtain ⟨x, dx, t, c, tb, cn, rfl, _⟩ := h
  rfl
end LG
end

section
set_option maxHeartbeats 4000000
namespace LG
open PySem PySem.Spec PyProof.Rows L2
local macro_rules | `(tactic| walk_at "nrm") => `(tactic| simp only [wipe, tRet, tSeq, tNext, tIfS, tAsg, gName, tVar, tC, tCons, tNil, tCB, tOp, tUn, tTest, tB, tAnd, tOr, tNot, tAndV, tOrV, tNotV, tChain, tCall, tDrop, tTup, tLst, tNever, tDNewK, tDNewT, sDPut, tDGet, tDGet2, tDGet1, tDIn, tDNotIn, tSAddH, tBM, tBM0, tTru, sFldC, tFldC, tDSetd, tMake, tMeth, List.getElem?_cons_zero, List.getElem?_cons_succ, Option.some.injEq, exists_eq_left', List.nil_append, List.cons_append, List.append_nil, List.set_cons_zero, List.set_cons_succ, rI0, rI, rU, ipI, tAug, V.int.injEq, V.bl.injEq, V.str.injEq, V.ref.injEq, exists_eq_left, exists_and_left, decide_eq_true_eq, Bool.not_eq_true', Bool.not_eq_eq_eq_not, Bool.not_true, Bool.not_false, Bool.false_eq_true, decide_eq_false_iff_not, if_true, if_false, true_and, and_true, ite_true, ite_false, reduceCtorEq, List.cons.injEq])
/-! ### is_place -/
def sp_is_place (P : Program) (w : World) (K : PySem.W.Frag) : Sp := fun vs H Q _ => ∃ k n x size sg ys, vs = [.ref k, .int size, .ref sg] ∧ H k = some (.tup [.int n, .str x]) ∧ x.length ≤ sizeLine ∧ H sg = some (.lst (strsV ys)) ∧ Q (.bl (vBelow size (.int n) && (nameOk x && decide (x ∈ ys)))) H
def n_is_place : List Str := ["key", "size", "sights"]
def t_is_place (P : Program) (w : World) (K : PySem.W.Frag) : TS :=
  (tSeq (tIfS (tOr (tNot (tB (tCB (rIsi K) (tCons (tVar 0) (tCons (tC (.ty "tuple")) tNil))))) (tOr (tTest (tOp rNe (tCB (gLen K) (tCons (tVar 0) tNil)) (tC (.int 2)))) (tNot (tB (tCall (sp_is_number_below P w K) [] E0 (tCons (tOp (rIxT K) (tVar 0) (tC (.int 0))) (tCons (tVar 1) tNil))))))) (tRet (tC (.bl false))) tNext) (tRet (tAndV (tCall (sp_is_name P w K) [] E0 (tCons (tOp (rIxT K) (tVar 0) (tC (.int 1))) tNil)) (tOp (rIn K false) (tOp (rIxT K) (tVar 0) (tC (.int 1))) (tVar 2)))))
abbrev S_is_place : List Str := ["key", "size", "sights"]
theorem inV_strs (x : Str) (ys : List Str) : inV (.str x) (strsV ys) = decide (x ∈ ys) := by
  rw [Bool.eq_iff_iff, decide_eq_true_eq, inV, List.any_eq_true]
  constructor
  · rintro ⟨y, hy, e⟩
    obtain ⟨z, hz, rfl⟩ := List.mem_map.mp hy
    have : z = x := by simpa [eqV] using e
    rw [← this]; exact hz
  · intro h
    exact ⟨.str x, List.mem_map.mpr ⟨x, h, rfl⟩, by simp [eqV]⟩
theorem pure_is_place {P : Program} {w : World} {K : PySem.W.Frag} (vs : List V) (H : Hp) (Q : VK) (E : XK) (h : sp_is_place P w K vs H Q E) : t_is_place P w K { nx := fun _ H' => Q .non H', rt := Q } (start S_is_place vs) H := by
  obtain ⟨k, n, x, size, sg, ys, rfl, hk, hz, hs, q⟩ := h
  show t_is_place P w K _ [some (.ref k), some (.int size), some (.ref sg)] H
  unfold t_is_place
  walk_at "nrm"
  have i0 : atI [V.int n, V.str x] 0 = some (.int n) := rfl
  have i1 : atI [V.int n, V.str x] 1 = some (.str x) := rfl
  refine isi_any (by decide) (vTyB.tup hk) ⟨_, rfl, iteN (by simp) (len_row (.inr (.inl (.inl hk))) ⟨rfl, _, rfl, iteN (by simp) (ixT hk i0 ⟨.int n, size, rfl, .int n, _, rfl, ?_⟩)⟩)⟩
  generalize vBelow size (.int n) = c1 at q
  cases c1 with
  | false => exact iteY rfl (by simpa using q)
  | true =>
    rw [Bool.true_and] at q
    refine iteN (by simp) (ixT hk i1 ⟨.str x, rfl, .str x, fun z e => by cases e; exact hz, _, rfl, ?_⟩)
    rw [show vName (.str x) = nameOk x from rfl]
    generalize nameOk x = c2 at q
    cases c2 with
    | false => exact iteF (by simpa using q)
    | true =>
      rw [Bool.true_and] at q
      refine iteT (ixT hk i1 ⟨sg, strsV ys, rfl, .inl (.inl (.inl hs)), rfl, ?_, ?_⟩)
      · rw [List.all_eq_true]
        intro y hy
        obtain ⟨z, _, rfl⟩ := List.mem_map.mp hy
        rfl
      · rw [inV_strs]; exact q
theorem len_is_place {P : Program} {w : World} {K : PySem.W.Frag} (vs : List V) (H : Hp) (Q : VK) (E : XK) (h : sp_is_place P w K vs H Q E) : vs.length = n_is_place.length := by
  obtain ⟨k, n, x, size, sg, ys, rfl, _⟩ := h
  rfl
/-- a list comprehension over a list or a tuple that stands in a name -/
theorem tLc_row {K : PySem.W.Frag} {i : Nat} {g : TG} {tt : TT} {te : TE} {vs : List Nat} {σ : L2.St} {H H0 : Hp} {Q : VK} {a : Addr} {xs : List V} (e : σ[i]? = some (some (.ref a))) (hq : SqR K H0 a xs) (k0 : KeepAt H0 H a)
    (h : ∀ D, H D = none → ∃ Pv : Nat → Hp → Prop, Pv 0 (upd H D (.lst [])) ∧ (∀ i H', Pv i H' → KeepAt H0 H' a) ∧
      (∀ i x H', xs[i]? = some x → Pv i H' → g x (wipe σ vs) H' fun σ2 H2 => wipe σ2 vs = wipe σ vs ∧ tt σ2 H2 fun b H3 =>
        if b = true then te σ2 H3 fun y H4 => ∃ acc, H4 D = some (.lst acc) ∧ acc.length < sizeLine ∧ Pv (i + 1) (upd H4 D (.lst (acc ++ [y]))) else Pv (i + 1) H3) ∧
      (∀ H', Pv xs.length H' → Q (.ref D) H')) : tLc (iRow K (tVar i)) g tt te vs σ H Q := by
  rcases hq with hq | hq
  · refine .inl ?_
    unfold iList tVar
    refine ⟨_, e, a, rfl, ⟨xs, sqL_keep k0 hq⟩, fun D hD => ?_⟩
    obtain ⟨Pv, h0, h1, h2, h3⟩ := h D hD
    exact lc_it walk_list Pv h0 (fun i H' _ p => sqL_keep (h1 i H' p) hq) (fun i x H' H2 hi p y => by obtain ⟨rfl, hx⟩ := y; exact h2 i x _ hx p) h3
  · refine .inr ?_
    unfold iTup tVar
    refine ⟨_, e, a, rfl, ⟨xs, sqT_keep k0 hq⟩, fun D hD => ?_⟩
    obtain ⟨Pv, h0, h1, h2, h3⟩ := h D hD
    exact lc_it walk_tup Pv h0 (fun i H' _ p => sqT_keep (h1 i H' p) hq) (fun i x H' H2 hi p y => by obtain ⟨rfl, hx⟩ := y; exact h2 i x _ hx p) h3
theorem bools_all (n : Nat) : (List.replicate n true).all id = true := by
  rw [List.all_eq_true]
  intro b hb
  rw [List.eq_of_mem_replicate hb]; rfl
/-! ### checked_lines -/
/-- the rows of held words as they are given -/
def HeldAt (H : Hp) (its : List (Addr × List Str)) : Prop := ∀ p ∈ its, H p.1 = some (.lst (strsV p.2)) ∨ H p.1 = some (.tup (strsV p.2))
/-- the lines of a guard -/
def LinesAt (H : Hp) (l : Addr) (M : List (Addr × List Str)) : Prop := H l = some (.lst (refsOf M)) ∧ ∀ p ∈ M, H p.1 = some (.tup (strsV p.2))
theorem LinesAt.same {H H' : Hp} {l : Addr} {M : List (Addr × List Str)} (s : Same H H') (h : LinesAt H l M) : LinesAt H' l M := ⟨s _ _ h.1, fun p hp => s _ _ (h.2 p hp)⟩
inductive LinesOf : List (List Str) → List (List Str) → Prop
  | nil : LinesOf [] []
  | cons {ys xs : List Str} {m l : List (List Str)} : SortedOf ys xs → LinesOf m l → LinesOf (ys :: m) (xs :: l)
theorem LinesOf.snoc {m l : List (List Str)} (h : LinesOf m l) {ys xs : List Str} (s : SortedOf ys xs) : LinesOf (m ++ [ys]) (l ++ [xs]) := by
  induction h with
  | nil => exact .cons s .nil
  | cons h _ ih => exact .cons h ih
def sp_checked_lines (P : Program) (w : World) (K : PySem.W.Frag) : Sp := fun vs H Q _ => ∃ x dx t c tb cn a its, vs = [.ref x, .ref a] ∧ ViewAt K H x dx t c tb cn ∧ (H a = some (.lst (refsOf its)) ∨ H a = some (.tup (refsOf its))) ∧ HeldAt H its ∧ 1 ≤ its.length ∧ its.length ≤ 200 ∧
  (∀ p ∈ its, p.2.length < 60 ∧ ∀ v ∈ p.2, nameOk v = true ∧ v ∈ c) ∧
  ∀ H' l M, Same H H' → H l = none → LinesAt H' l M → LinesOf (M.map (·.2)) (its.map (·.2)) → Q (.ref l) H'
def n_checked_lines : List Str := ["view", "held"]
def t_checked_lines (P : Program) (w : World) (K : PySem.W.Frag) : TS :=
  (tSeq (tIfS (tOr (tNot (tB (tCall (sp_is_row P w K) [] E0 (tCons (tVar 1) tNil)))) (tNot (tTest (tChain gLe gLe (tC (.int 1)) (tCB (gLen K) (tCons (tVar 1) tNil)) (tC (.int 200)))))) tNever tNext) (tSeq (tAsg (tLst tNil) (gName 2)) (tSeq (tFor (iRow K (tVar 1)) (gName 3) (tSeq (tIfS (tOr (tNot (tB (tCall (sp_is_row P w K) [] E0 (tCons (tVar 3) tNil)))) (tNot (tB (tCB (rAll K) (tCons (tLc (iRow K (tVar 3)) (gName 4) tYes (tAndV (tCall (sp_is_name P w K) [] E0 (tCons (tVar 4) tNil)) (tDIn (tVar 4) (tFldC (He.ga K "View") (tVar 0) "can"))) [4]) tNil))))) tNever tNext) (tDrop (tBM K "list" rAppend (tVar 2) (tCons (tCB (gTupleOf K) (tCons (tCB (rSortedM P w) (tCons (tCB (rSetOfK K P w) (tCons (tVar 3) tNil)) tNil)) tNil)) tNil))))) (tRet (tVar 2)))))
abbrev S_checked_lines : List Str := ["view", "held", "lines", "item", "word"]
theorem pure_checked_lines {P : Program} {w : World} {K : PySem.W.Frag} (vs : List V) (H : Hp) (Q : VK) (E : XK) (h : sp_checked_lines P w K vs H Q E) : t_checked_lines P w K { nx := fun _ H' => Q .non H', rt := Q } (start S_checked_lines vs) H := by
  obtain ⟨x, dx, t, c, tb, cn, a, its, rfl, v, ha, hit, lo, hi, ok, q⟩ := h
  show t_checked_lines P w K _ [some (.ref x), some (.ref a), none, none, none] H
  have hq : SqR K H a (refsOf its) := ha.imp (fun h => .inl (.inl h)) fun h => .inl (.inl h)
  have len : (refsOf its).length = its.length := List.length_map _
  unfold t_checked_lines
  walk_at "nrm"
  refine ⟨_, _, rfl, vRow_of ha, fun H1 s1 => ⟨_, rfl, iteN (by simp) ?_⟩⟩
  refine len_row (sqR_keep (Same.at s1 a) hq) ⟨_, rfl, iteY (by omega) ⟨_, rfl, iteN (by omega) ⟨by decide, fun l hl => ?_⟩⟩⟩
  have nl : H l = none := Same.none s1 hl
  refine tFor_row (H1 := upd H1 l (.lst [])) (fun Q q => ⟨_, rfl, q⟩) hq (fun i σ H' => (∃ b d, σ = [some (.ref x), some (.ref a), some (.ref l), b, d]) ∧ Same H H' ∧ ∃ M, LinesAt H' l M ∧ LinesOf (M.map (·.2)) ((its.take i).map (·.2)) ∧ M.length = i) ⟨⟨_, _, rfl⟩, Same.upd s1 nl, [], ⟨upd_same, fun p hp => by cases hp⟩, .nil, rfl⟩ (fun i σ H' _ p => Same.at p.2.1 a) ?_ ?_
  · rintro i y σ H' hy ⟨⟨b, d, rfl⟩, s, M, lm, lo', lM⟩
    obtain ⟨⟨p0, ws⟩, hp, rfl⟩ : ∃ p, its[i]? = some p ∧ y = .ref p.1 := by
      rw [List.getElem?_map] at hy
      cases e : its[i]? with
      | none => rw [e] at hy; cases hy
      | some p => rw [e] at hy; cases hy; exact ⟨p, rfl, rfl⟩
    have hp_ := hp
    have hm := List.mem_of_getElem? hp
    obtain ⟨wz, wok⟩ := ok _ hm
    have il : i < its.length := (List.getElem?_eq_some_iff.mp hp).1
    have h0 := hit _ hm
    have hqp : SqR K H p0 (strsV ws) := h0.imp (fun h => .inl (.inl h)) fun h => .inl (.inl h)
    walk_at "nrm"
    refine ⟨_, _, rfl, vRow_of (h0.imp (s _ _) (s _ _)), fun H2 s2 => ⟨_, rfl, iteN (by simp) ?_⟩⟩
    have s02 := Same.trans s s2
    refine tLc_row rfl hqp (Same.at s02 p0) fun D hD => ⟨fun j H3 => Same H2 H3 ∧ H3 D = some (.lst ((List.replicate j true).map V.bl)), ⟨same_new hD, upd_same⟩, fun j H3 p => Same.at (Same.trans s02 p.1) p0, ?_, ?_⟩
    · rintro j y H3 hy3 ⟨s3, hD3⟩
      obtain ⟨z, hz, rfl⟩ : ∃ z, ws[j]? = some z ∧ y = .str z := by
        rw [strsV, List.getElem?_map] at hy3
        cases e : ws[j]? with
        | none => rw [e] at hy3; cases hy3
        | some p => rw [e] at hy3; cases hy3; exact ⟨p, rfl, rfl⟩
      obtain ⟨z1, z2⟩ := wok z (List.mem_of_getElem? hz)
      have jl : j < ws.length := (List.getElem?_eq_some_iff.mp hz).1
      have v3 := ViewAt.same (Same.trans s02 s3) v
      refine ⟨rfl, ?_⟩
      unfold tYes
      refine iteY rfl ?_
      walk_at "nrm"
      refine ⟨.str z, rfl, .str z, fun y e => by cases e; have := name_len z1; rw [sizeLine_eq]; omega, _, rfl, ?_⟩
      rw [show vName (.str z) = true from z1]
      refine iteT ⟨dx, _, v3.ob, .ref cn, by rfl, cn, rfl, _, DGet.k (k := .inr z) v3.can, ?_⟩
      rw [valV_marksS, if_pos z2]
      refine ⟨_, hD3, small1000 (by rw [List.length_map, List.length_replicate]; simp only at wz; omega), Same.upd s3 hD, ?_⟩
      rw [upd_same, List.replicate_succ', List.map_append]
      rfl
    · rintro H3 ⟨s3, hD3⟩
      have s03 := Same.trans s02 s3
      have lm3 := LinesAt.same (Same.trans s2 s3) lm
      refine ⟨D, List.replicate (strsV ws).length true, rfl, .inl (.inl hD3), _, rfl, iteN (by rw [bools_all]; decide) ⟨.inl ⟨rfl, _, .inl (.inl lm3.1)⟩, ?_⟩⟩
      have ek : (ws.map (Sum.inr : Str → Key)).map kV = strsV ws := by rw [List.map_map]; rfl
      refine ⟨p0, ws.map Sum.inr, rfl, by rw [ek]; exact (sqR_keep (Same.at s03 p0) hqp), by rw [List.length_map]; exact Nat.lt_of_lt_of_le (Nat.succ_lt_succ wz) (by decide), fun sa cc hsa hcc => ?_⟩
      rw [List.length_map] at hcc
      simp only at wz
      refine ⟨sa, _, cc, rfl, upd_same, by omega, fun i => inL_no (fun m => by obtain ⟨y, _, e⟩ := List.mem_map.mp m; cases e), fun ys p srt nd hmm hlen hp => ?_⟩
      refine ⟨p, strsV ys, rfl, .inl ⟨.inl (.inl upd_same), fun tp htp => ?_⟩⟩
      have s4 : Same H3 (upd (upd (upd H3 sa (SetMO P w sa (fun j => inL (ws.map Sum.inr) j) cc)) p (.lst (ys.map V.str))) tp (.tup (strsV ys))) := Same.trans (same_new hsa) (Same.trans (same_new hp) (same_new htp))
      have lm4 := LinesAt.same s4 lm3
      have tnl : tp ≠ l := fun z => by
        rw [z] at htp
        have z2 := Same.trans (same_new (o := SetMO P w sa (fun j => inL (ws.map Sum.inr) j) cc) hsa) (same_new (o := .lst (ys.map V.str)) hp) l _ lm3.1
        exact absurd (z2.symm.trans htp) (by simp)
      have tt : upd (upd (upd H3 sa (SetMO P w sa (fun j => inL (ws.map Sum.inr) j) cc)) p (.lst (ys.map V.str))) tp (.tup (strsV ys)) tp = some (.tup (strsV ys)) := upd_same
      generalize upd (upd (upd H3 sa (SetMO P w sa (fun j => inL (ws.map Sum.inr) j) cc)) p (.lst (ys.map V.str))) tp (.tup (strsV ys)) = H5 at s4 lm4 tt ⊢
      refine append_at lm4.1 (small1000 (by rw [List.length_map, lM]; omega)) ⟨⟨_, rfl⟩, Same.upd (Same.trans s03 s4) nl, M ++ [(tp, ys)], ⟨by rw [show refsOf (M ++ [(tp, ys)]) = refsOf M ++ [V.ref tp] from List.map_append]; exact upd_same, fun q hq => ?_⟩, ?_, by rw [List.length_append, lM]; rfl⟩
      · rcases List.mem_append.mp hq with h | h
        · rw [upd_ne (ne_of (lm4.2 q h) lm4.1 (by simp))]; exact lm4.2 q h
        · rw [List.mem_singleton.mp h, upd_ne tnl]; exact tt
      · rw [take_succ_get hp_, List.map_append, List.map_append]
        refine LinesOf.snoc lo' ⟨srt, nd, fun y => ?_⟩
        rw [hmm y, inL_iff, List.mem_map]
        exact ⟨fun ⟨z, hz, e⟩ => by cases e; exact hz, fun h => ⟨y, h, rfl⟩⟩
  · rintro σ H' ⟨⟨b, d, rfl⟩, s, M, lm, lo', lM⟩
    walk_at "nrm"
    rw [len, List.take_length] at lo'
    exact q H' l M s nl lm lo'
theorem len_checked_lines {P : Program} {w : World} {K : PySem.W.Frag} (vs : List V) (H : Hp) (Q : VK) (E : XK) (h : sp_checked_lines P w K vs H Q E) : vs.length = n_checked_lines.length := by
  obtain ⟨x, dx, t, c, tb, cn, a, its, rfl, _⟩ := h
  rfl
/-! ### checked_arrows -/
/-- moves: from a node and a sight to a node -/
abbrev Arr := (Int × Str) × Int
def arrK (A : List Arr) : List (List Key × V) := A.map fun a => ([.inl a.1.1, .inr a.1.2], .int a.2)
theorem putK_newT {κ : Type} [DecidableEq κ] {kvs : List (κ × V)} {k : κ} {v : V} (h : valV kvs k = none) : putK kvs k v = kvs ++ [(k, v)] := by
  unfold putK
  rw [valV_any, h]
  rfl
theorem valV_arr_none {A : List Arr} {k : Int × Str} (h : k ∉ A.map (·.1)) : valV (arrK A) [.inl k.1, .inr k.2] = none := by
  induction A with
  | nil => rfl
  | cons p A ih =>
    rw [arrK, List.map_cons, valV_neg (fun z => h ?_)]
    · exact ih fun m => h (by simp [m])
    · simp only [List.cons.injEq, Sum.inl.injEq, Sum.inr.injEq, and_true] at z
      obtain ⟨z1, z2⟩ := z
      refine List.mem_cons.mpr (.inl ?_)
      obtain ⟨k1, k2⟩ := k
      obtain ⟨⟨p1, p2⟩, p3⟩ := p
      simp only at z1 z2
      rw [z1, z2]
/-- for k, v in d.items(), keys tuples, d locked -/
theorem tLock_itemsT {K : PySem.W.Frag} {i ti tj : Nat} {tb : TS} {D : Ends} {σ : L2.St} {H : Hp} {d : Addr} {kvs : List (List Key × V)} (e : σ[i]? = some (some (.ref d))) (hd : H d = some (.dT kvs))
    (h : ∀ od, ∃ Pv : Nat → L2.St → Hp → Prop, Pv 0 σ (upd H d (.frz od (.dT kvs))) ∧ (∀ i σ H', Pv i σ H' → H' d = some (.frz od (.dT kvs))) ∧
      (∀ i k v σ H' T q rt bk, kvs[i]? = some (k, v) → Pv i σ H' → H' q = some (.tup (k.map kV)) → H' T = none → tb { nx := Pv (i + 1), rt := rt, bk := bk, ct := Pv (i + 1) } ((σ.set ti (some (.ref q))).set tj (some v)) (upd H' T (.tup [.ref q, v]))) ∧
      (∀ σ H', Pv kvs.length σ H' → D.nx σ (upd H' d (.dT kvs)))) : tLock (tFor (iItemsT (tVar i)) (gTup K 2 (gCons (gName ti) (gCons (gName tj) gNil))) tb) D σ H := by
  refine ⟨d, .dT kvs, hd, trivial, fun od => ?_⟩
  obtain ⟨Pv, h0, h1, h2, h3⟩ := h od
  unfold tFor iItemsT tVar
  refine ⟨_, e, d, od, kvs, rfl, upd_same, for_it walk_itemsT Pv h0 (fun i σ H' _ p => h1 i σ H' p) (fun i x σ H' H2 hi p y => ?_) fun σ H' p => ⟨h1 _ _ _ p, h3 σ H' p⟩⟩
  obtain ⟨T, k, v, q, hk, rfl, hq, hT, rfl⟩ := y
  exact ⟨T, _, rfl, .inl (.inl upd_same), rfl, _, _, rfl, _, _, rfl, rfl, h2 i k v σ H' T q _ _ hk p hq hT⟩
def sp_checked_arrows (P : Program) (w : World) (K : PySem.W.Frag) : Sp := fun vs H Q _ => ∃ x dx t c tb cn size m A, vs = [.ref x, .int size, .ref m] ∧ ViewAt K H x dx t c tb cn ∧ t.length < 60 ∧ H m = some (.dT (arrK A)) ∧ (A.map (·.1)).Nodup ∧ A.length ≤ 1000 ∧
  (∀ a ∈ A, 0 ≤ a.1.1 ∧ a.1.1 < size ∧ nameOk a.1.2 = true ∧ a.1.2 ∈ sightsOf t ∧ 0 ≤ a.2 ∧ a.2 < size) ∧ ∀ H' d, Same H H' → H d = none → H' d = some (.dT (arrK A)) → Q (.ref d) H'
def n_checked_arrows : List Str := ["view", "size", "moves"]
def t_checked_arrows (P : Program) (w : World) (K : PySem.W.Frag) : TS :=
  (tSeq (tIfS (tNot (tB (tCB (rIsi K) (tCons (tVar 2) (tCons (tC (.ty "dict")) tNil))))) tNever tNext) (tSeq (tAsg (tCall (sp_sights_told P w K) [] E0 (tCons (tVar 0) tNil)) (gName 3)) (tSeq (tAsg tDNewT (gName 4)) (tSeq (tLock (tFor (iItemsT (tVar 2)) (gTup K 2 (gCons (gName 5) (gCons (gName 6) gNil))) (tSeq (tIfS (tNot (tB (tCall (sp_is_place P w K) [] E0 (tCons (tVar 5) (tCons (tVar 1) (tCons (tVar 3) tNil)))))) tNever tNext) (tSeq (tIfS (tNot (tB (tCall (sp_is_number_below P w K) [] E0 (tCons (tVar 6) (tCons (tVar 1) tNil))))) tNever tNext) (sDPut (tVar 4) (tVar 5) (tVar 6)))))) (tRet (tVar 4))))))
abbrev S_checked_arrows : List Str := ["view", "size", "moves", "sights", "arrows", "key", "value"]
theorem pure_checked_arrows {P : Program} {w : World} {K : PySem.W.Frag} (vs : List V) (H : Hp) (Q : VK) (E : XK) (h : sp_checked_arrows P w K vs H Q E) : t_checked_arrows P w K { nx := fun _ H' => Q .non H', rt := Q } (start S_checked_arrows vs) H := by
  obtain ⟨x, dx, t, c, tb, cn, size, m, A, rfl, v, tz, hm, nd, hz, ok, q⟩ := h
  show t_checked_arrows P w K _ [some (.ref x), some (.int size), some (.ref m), none, none, none, none] H
  unfold t_checked_arrows
  walk_at "nrm"
  refine isi_any (by decide) (vTyB.dT hm) ⟨_, rfl, iteN (by simp) ⟨x, dx, t, c, tb, cn, rfl, v, tz, fun H1 sg ys s1 nsg hsg so a ha => ?_⟩⟩
  have na : H a = none := Same.none s1 ha
  have am : a ≠ m := Ne.symm (ne_of_none hm na)
  have sgm : sg ≠ m := Ne.symm (ne_of_none hm nsg)
  have sga : sg ≠ a := ne_of_none hsg ha
  refine tLock_itemsT (kvs := arrK A) rfl (by rw [upd_ne (Ne.symm am)]; exact s1 _ _ hm) fun od => ⟨fun i σ H' => (∃ b c, σ = [some (.ref x), some (.int size), some (.ref m), some (.ref sg), some (.ref a), b, c]) ∧ H' m = some (.frz od (.dT (arrK A))) ∧ H' a = some (.dT (arrK (A.take i))) ∧ H' sg = some (.lst (strsV ys)) ∧ Keeps H H' [m], ⟨⟨_, _, rfl⟩, upd_same, by rw [upd_ne am]; exact upd_same, by rw [upd_ne sgm, upd_ne sga]; exact hsg, fun b o nb e => by
      rw [upd_ne (fun z => nb (by simp [z])), upd_ne (ne_of_none e na)]; exact s1 _ _ e⟩, fun i σ H' p => p.2.1, ?_, ?_⟩
  · rintro i k v1 σ H' T q1 rt bk hk ⟨⟨b, c1, rfl⟩, hm', ha', hs', keep⟩ hq1 hT
    obtain ⟨⟨⟨n, y⟩, e⟩, hp, rfl, rfl⟩ : ∃ p : Arr, A[i]? = some p ∧ k = [.inl p.1.1, .inr p.1.2] ∧ v1 = .int p.2 := by
      rw [arrK, List.getElem?_map] at hk
      cases e : A[i]? with
      | none => rw [e] at hk; cases hk
      | some p => rw [e] at hk; cases hk; exact ⟨p, rfl, rfl, rfl⟩
    obtain ⟨o1, o2, o3, o4, o5, o6⟩ := ok _ (List.mem_of_getElem? hp)
    simp only at o1 o2 o3 o4 o5 o6
    have fresh : (n, y) ∉ (A.take i).map (·.1) := fun mm => by
      have nd2 : ((A.take (i + 1)).map (·.1)).Nodup := by rw [List.map_take]; exact List.Sublist.nodup (List.take_sublist _ _) nd
      rw [take_succ_get hp, List.map_append] at nd2
      exact (List.nodup_append.mp nd2).2.2 _ mm _ (List.mem_singleton.mpr rfl) rfl
    have kT : ∀ b o, H' b = some o → ∀ O, upd H' T O b = some o := fun b o e O => by rw [upd_ne (ne_of_none e hT)]; exact e
    walk_at "nrm"
    refine ⟨q1, n, y, size, sg, ys, rfl, kT _ _ hq1 _, by have := name_len o3; rw [sizeLine_eq]; omega, kT _ _ hs' _, _, rfl, iteN ?_ ⟨.int e, size, rfl, .int e, _, rfl, iteN ?_ ⟨_, .inr ⟨_, [.inl n, .inr y], q1, kT _ _ ha' _, rfl, kT _ _ hq1 _, small1000 ?_, rfl⟩, ?_, ?_, ?_, ?_, ?_⟩⟩⟩
    · have z : y ∈ ys := (so.mem y).mpr o4
      simp [vBelow, o1, o2, o3, z]
    · simp [vBelow, o5, o6]
    · rw [arrK, List.length_map, List.length_take]; omega
    · simp
    · rw [upd_ne (Ne.symm am)]; exact kT _ _ hm' _
    · rw [upd_same, putK_newT (valV_arr_none (k := (n, y)) fresh), take_succ_get hp]
      simp [arrK]
    · rw [upd_ne sga]; exact kT _ _ hs' _
    · intro b o nb e
      rw [upd_ne (ne_of_none e na)]; exact kT _ _ (keep b o nb e) _
  · rintro σ H' ⟨⟨b, c1, rfl⟩, hm', ha', hs', keep⟩
    walk_at "nrm"
    refine q _ a (fun b o e => ?_) na ?_
    · by_cases z : b = m
      · subst z
        rw [upd_same]; rw [hm] at e; exact e
      · rw [upd_ne z]; exact keep b o (by simp [z]) e
    · rw [upd_ne am, ha', show (arrK A).length = A.length from List.length_map _, List.take_length]
theorem len_checked_arrows {P : Program} {w : World} {K : PySem.W.Frag} (vs : List V) (H : Hp) (Q : VK) (E : XK) (h : sp_checked_arrows P w K vs H Q E) : vs.length = n_checked_arrows.length := by
  obtain ⟨x, dx, t, c, tb, cn, size, m, A, rfl, _⟩ := h
  rfl
/-! ### Guard -/
structure GuardAt (K : PySem.W.Frag) (H : Hp) (x dx : Addr) (t : List (Str × Str)) (c : List Str) (its : List (List Str)) (A : List Arr) (o do_ tb cn l ar : Addr) (M : List (Addr × List Str)) : Prop where
  ob : H x = some (.ins (He.ga K "Guard") dx [fld "own" (.ref o), fld "lines" (.ref l), fld "arrows" (.ref ar)])
  own : ViewAt K H o do_ t c tb cn
  lines : LinesAt H l M
  lof : LinesOf (M.map (·.2)) its
  arr : H ar = some (.dT (arrK A))
def sp_Guard_init (P : Program) (w : World) (K : PySem.W.Frag) : Sp := fun vs H Q _ => ∃ x dx v dv t c tb cn m A a its, vs = [.ref x, .ref v, .ref m, .ref a] ∧ OwnC K (He.ga K "View") ∧ H x = some (.ins (He.ga K "Guard") dx []) ∧ ViewAt K H v dv t c tb cn ∧ TabNames t ∧ t.length < 60 ∧ NamesOk c ∧ c.Nodup ∧ c.length ≤ 1000 ∧
  (H a = some (.lst (refsOf its)) ∨ H a = some (.tup (refsOf its))) ∧ HeldAt H its ∧ 1 ≤ its.length ∧ its.length ≤ 200 ∧ (∀ p ∈ its, p.2.length < 60 ∧ ∀ v ∈ p.2, nameOk v = true ∧ v ∈ c) ∧
  H m = some (.dT (arrK A)) ∧ (A.map (·.1)).Nodup ∧ A.length ≤ 1000 ∧ (∀ a ∈ A, 0 ≤ a.1.1 ∧ a.1.1 < its.length ∧ nameOk a.1.2 = true ∧ a.1.2 ∈ sightsOf t ∧ 0 ≤ a.2 ∧ a.2 < its.length) ∧
  ∀ H', Keeps H H' [x] → (∃ o do_ tb cn l ar M, GuardAt K H' x dx t c (its.map (·.2)) A o do_ tb cn l ar M) → Q .non H'
def n_Guard_init : List Str := ["self", "view", "moves", "held"]
def t_Guard_init (P : Program) (w : World) (K : PySem.W.Frag) : TS :=
  (tSeq (tIfS (tNot (tB (tCB (rIsi K) (tCons (tVar 1) (tCons (tC (.ref (He.ga K "View"))) tNil))))) tNever tNext) (tSeq (sFldC (He.ga K "Guard") (tVar 0) (tMeth (He.ga K "View") "copy" (sp_View_copy P w K) [] E0 (tVar 1) tNil) "own") (tSeq (sFldC (He.ga K "Guard") (tVar 0) (tCall (sp_checked_lines P w K) [] E0 (tCons (tFldC (He.ga K "Guard") (tVar 0) "own") (tCons (tVar 3) tNil))) "lines") (sFldC (He.ga K "Guard") (tVar 0) (tCall (sp_checked_arrows P w K) [] E0 (tCons (tFldC (He.ga K "Guard") (tVar 0) "own") (tCons (tCB (gLen K) (tCons (tFldC (He.ga K "Guard") (tVar 0) "lines") tNil)) (tCons (tVar 2) tNil)))) "arrows"))))
abbrev S_Guard_init : List Str := ["self", "view", "moves", "held"]
theorem LinesOf.len {m l : List (List Str)} (h : LinesOf m l) : m.length = l.length := by
  induction h with
  | nil => rfl
  | cons _ _ ih => simp [ih]
theorem pure_Guard_init {P : Program} {w : World} {K : PySem.W.Frag} (vs : List V) (H : Hp) (Q : VK) (E : XK) (h : sp_Guard_init P w K vs H Q E) : t_Guard_init P w K { nx := fun _ H' => Q .non H', rt := Q } (start S_Guard_init vs) H := by
  obtain ⟨x, dx, v, dv, t, c, tb, cn, m, A, a, its, rfl, oc, hx, hv, tn, tz, ok, nd, hz, ha, hit, lo, hi, iok, hm, and_, hA, aok, q⟩ := h
  show t_Guard_init P w K _ [some (.ref x), some (.ref v), some (.ref m), some (.ref a)] H
  unfold t_Guard_init
  walk_at "nrm"
  refine isi_own oc hv.ob ⟨_, rfl, iteN (by simp) ⟨dv, _, hv.ob, by rfl, v, dv, t, c, tb, cn, rfl, hv, tn, ok, nd, hz, fun H1 o s1 no ⟨do_, tb', cn', vo⟩ => ?_⟩⟩
  refine ⟨dx, [], s1 _ _ hx, (by show (0 : Nat) < 1000; decide), ?_⟩
  have nox : o ≠ x := Ne.symm (ne_of_none hx no)
  generalize e2 : upd H1 x (HO.ins (He.ga K (Str.ofString "Guard")) dx (putF (Str.ofString "own") (V.ref o) [])) = H2
  have k2 : ∀ b u, b ≠ x → H1 b = some u → H2 b = some u := fun b u nb e => by rw [← e2, upd_ne nb]; exact e
  have x2 : H2 x = some (.ins (He.ga K "Guard") dx [fld "own" (.ref o)]) := by rw [← e2]; exact upd_same
  have v2 : ViewAt K H2 o do_ t c tb' cn' := ⟨k2 _ _ nox vo.ob, k2 _ _ (ne_of vo.tab (s1 _ _ hx) (by simp)) vo.tab, k2 _ _ (ne_of vo.can (s1 _ _ hx) (by simp)) vo.can⟩
  have kk : ∀ b u, b ≠ x → H b = some u → H2 b = some u := fun b u nb e => k2 _ _ nb (s1 _ _ e)
  have ax : a ≠ x := ha.elim (fun h => ne_of h hx (by simp)) fun h => ne_of h hx (by simp)
  refine ⟨dx, _, x2, .ref o, by rfl, o, do_, t, c, tb', cn', a, its, rfl, v2, ha.imp (kk _ _ ax) (kk _ _ ax), fun p hp => (hit p hp).imp (fun h => kk _ _ (ne_of h hx (by simp)) h) (fun h => kk _ _ (ne_of h hx (by simp)) h), lo, hi, iok, fun H3 l M s3 nl lm lof => ?_⟩
  refine ⟨dx, _, s3 _ _ x2, (by show (1 : Nat) < 1000; decide), ?_⟩
  have lx : l ≠ x := fun z => by rw [z, x2] at nl; cases nl
  generalize e4 : upd H3 x (HO.ins (He.ga K (Str.ofString "Guard")) dx (putF (Str.ofString "lines") (V.ref l) [fld "own" (V.ref o)])) = H4
  have k4 : ∀ b u, b ≠ x → H3 b = some u → H4 b = some u := fun b u nb e => by rw [← e4, upd_ne nb]; exact e
  have x4 : H4 x = some (.ins (He.ga K "Guard") dx [fld "own" (.ref o), fld "lines" (.ref l)]) := by rw [← e4]; exact upd_same
  have k24 : ∀ b u, b ≠ x → H2 b = some u → H4 b = some u := fun b u nb e => k4 _ _ nb (s3 _ _ e)
  have v4 : ViewAt K H4 o do_ t c tb' cn' := ⟨k24 _ _ nox v2.ob, k24 _ _ (ne_of v2.tab x2 (by simp)) v2.tab, k24 _ _ (ne_of v2.can x2 (by simp)) v2.can⟩
  have x3 := s3 _ _ x2
  have l4 : LinesAt H4 l M := ⟨k4 _ _ lx lm.1, fun p hp => k4 _ _ (ne_of (lm.2 p hp) x3 (by simp)) (lm.2 p hp)⟩
  have len : (refsOf M).length = its.length := by
    have z := lof.len
    rw [List.length_map, List.length_map] at z
    rw [refsOf, List.length_map]; exact z
  have mx : m ≠ x := ne_of hm hx (by simp)
  refine ⟨dx, _, x4, .ref o, by rfl, dx, _, x4, .ref l, by rfl, len_row (.inl (.inl (.inl l4.1))) ?_⟩
  rw [len]
  refine ⟨o, do_, t, c, tb', cn', its.length, m, A, rfl, v4, tz, k24 _ _ mx (kk _ _ mx hm), and_, hA, aok, fun H5 ar s5 nar har => ?_⟩
  refine ⟨dx, _, s5 _ _ x4, (by show (2 : Nat) < 1000; decide), ?_⟩
  have arx : ar ≠ x := fun z => by rw [z, x4] at nar; cases nar
  have k6 : ∀ b u, b ≠ x → H4 b = some u → ∀ O, upd H5 x O b = some u := fun b u nb e O => by rw [upd_ne nb]; exact s5 _ _ e
  refine q _ (fun b u nb e => k6 _ _ (by simpa using nb) (k24 _ _ (by simpa using nb) (kk _ _ (by simpa using nb) e)) _) ⟨o, do_, tb', cn', l, ar, M, upd_same, ⟨k6 _ _ nox v4.ob _, k6 _ _ (ne_of v4.tab x4 (by simp)) v4.tab _, k6 _ _ (ne_of v4.can x4 (by simp)) v4.can _⟩, ⟨k6 _ _ lx l4.1 _, fun p hp => k6 _ _ (ne_of (l4.2 p hp) x4 (by simp)) (l4.2 p hp) _⟩, lof, by rw [upd_ne arx]; exact har⟩
theorem len_Guard_init {P : Program} {w : World} {K : PySem.W.Frag} (vs : List V) (H : Hp) (Q : VK) (E : XK) (h : sp_Guard_init P w K vs H Q E) : vs.length = n_Guard_init.length := by
  obtain ⟨x, dx, v, dv, t, c, tb, cn, m, A, a, its, rfl, _⟩ := h
  rfl
theorem alike_arr (a b : List Arr) : Alike (arrK a) (arrK b) := fun p hp v hv => by
  obtain ⟨n, _, rfl⟩ := List.mem_map.mp hp
  have key : ∀ b : List Arr, valV (arrK b) ([.inl n.1.1, .inr n.1.2] : List Key) = some v → ∃ y, v = .int y := fun b => by
    induction b with
    | nil => intro h; cases h
    | cons q b ih =>
      intro h
      by_cases e : ([.inl q.1.1, .inr q.1.2] : List Key) = [.inl n.1.1, .inr n.1.2]
      · rw [arrK, List.map_cons, valV_pos e] at h
        cases h; exact ⟨_, rfl⟩
      · rw [arrK, List.map_cons, valV_neg e] at h
        exact ih h
  obtain ⟨y, rfl⟩ := key b hv
  rfl
/-- a line as data -/
def lineD (ys : List Str) : PyData := .tuple (ys.map .str)
theorem strs_dp {K : PySem.W.Frag} {H : Hp} : ∀ ys : List Str, DpAll K H (strsV ys) (ys.map .str)
  | [] => .nil
  | y :: ys => .cons (.str y) (strs_dp ys)
theorem lines_dp {K : PySem.W.Frag} {H : Hp} : ∀ {M : List (Addr × List Str)}, (∀ p ∈ M, H p.1 = some (.tup (strsV p.2))) → DpAll K H (refsOf M) (M.map fun p => lineD p.2)
  | [], _ => .nil
  | p :: M, h => .cons (.tup (.inl (.inl (h p List.mem_cons_self))) (strs_dp p.2)) (lines_dp fun q hq => h q (List.mem_cons_of_mem _ hq))
theorem eqv_strs : ∀ l m : List Str, PyData.eqvAll (l.map .str) (m.map .str) = decide (l = m)
  | [], [] => rfl
  | [], _ :: _ => rfl
  | _ :: _, [] => rfl
  | x :: l, y :: m => by
    simp only [List.map_cons, PyData.eqvAll, PyData.eqv, eqv_strs l m]
    rw [Bool.eq_iff_iff]
    simp
theorem eqv_lines : ∀ l m : List (List Str), PyData.eqvAll (l.map lineD) (m.map lineD) = decide (l = m)
  | [], [] => rfl
  | [], _ :: _ => rfl
  | _ :: _, [] => rfl
  | x :: l, y :: m => by
    simp only [List.map_cons, PyData.eqvAll, lineD, PyData.eqv, eqv_strs, eqv_lines l m]
    rw [Bool.eq_iff_iff]
    simp
theorem shaped_lines (l : List (List Str)) (hok : ∀ ys ∈ l, NamesOk ys) : SeqAt.shaped (.list (l.map lineD)) = true := by
  have c1 : ∀ ys : List Str, NamesOk ys → PyData.canLayAll0 (ys.map .str) = true := fun ys h => by
    induction ys with
    | nil => rfl
    | cons x l ih => simp [PyData.canLayAll0, PyData.canLay0, ih fun r hr => h r (List.mem_cons_of_mem _ hr), name_strOk (h x List.mem_cons_self)]
  have c0 : ∀ l : List (List Str), (∀ ys ∈ l, NamesOk ys) → PyData.canLayAll0 (l.map lineD) = true := fun l h => by
    induction l with
    | nil => rfl
    | cons x l ih => simp [lineD, PyData.canLayAll0, PyData.canLay0, ih fun r hr => h r (List.mem_cons_of_mem _ hr), c1 x (h x List.mem_cons_self)]
  have d1 : ∀ ys : List Str, PyData.depthAll (ys.map .str) = 0 := fun ys => by
    induction ys with
    | nil => rfl
    | cons x l ih =>
      show max 0 (PyData.depthAll (l.map .str)) = 0
      rw [ih]; rfl
  have d0 : ∀ l : List (List Str), PyData.depthAll (l.map lineD) ≤ 1 := fun l => by
    induction l with
    | nil => simp [PyData.depthAll]
    | cons x l ih =>
      have e : (lineD x).depth = 1 := by show PyData.depthAll (x.map .str) + 1 = 1; rw [d1]
      show max (lineD x).depth (PyData.depthAll (l.map lineD)) ≤ 1
      rw [e]; omega
  have dd := d0 l
  simp only [SeqAt.shaped, Bool.and_eq_true, decide_eq_true_eq, PyData.canLay0, PyData.depth]
  exact ⟨c0 l hok, decide_eq_true (by omega)⟩
def sameGuard (t t' : List (Str × Str)) (c c' : List Str) (M M' : List (Addr × List Str)) (A A' : List Arr) : Bool := sameView t t' c c' && (decide (M.map (·.2) = M'.map (·.2)) && sameD (arrK A) (arrK A'))
def sp_Guard_eq (P : Program) (w : World) (K : PySem.W.Frag) : Sp := fun vs H Q _ => ∃ x dx t c its A o do_ tb cn l ar M y dy t' c' its' A' o' do' tb' cn' l' ar' M', vs = [.ref x, .ref y] ∧ OwnC K (He.ga K "View") ∧ OwnC K (He.ga K "Guard") ∧ GuardAt K H x dx t c its A o do_ tb cn l ar M ∧ GuardAt K H y dy t' c' its' A' o' do' tb' cn' l' ar' M' ∧
  (∀ p ∈ M, NamesOk p.2) ∧ (∀ p ∈ M', NamesOk p.2) ∧ Q (.bl (sameGuard t t' c c' M M' A A')) H
def n_Guard_eq : List Str := ["self", "other"]
def t_Guard_eq (P : Program) (w : World) (K : PySem.W.Frag) : TS :=
  (tRet (tAndV (tCB (rIsi K) (tCons (tVar 1) (tCons (tC (.ref (He.ga K "Guard"))) tNil))) (tAndV (tOp (rOwnEq (He.ga K "View") (sp_View_eq P w K) false) (tFldC (He.ga K "Guard") (tVar 0) "own") (tFldC (He.ga K "Guard") (tVar 1) "own")) (tAndV (tOp (rEqD K) (tFldC (He.ga K "Guard") (tVar 0) "lines") (tFldC (He.ga K "Guard") (tVar 1) "lines")) (tOp rEqT (tFldC (He.ga K "Guard") (tVar 0) "arrows") (tFldC (He.ga K "Guard") (tVar 1) "arrows"))))))
abbrev S_Guard_eq : List Str := ["self", "other"]
theorem pure_Guard_eq {P : Program} {w : World} {K : PySem.W.Frag} (vs : List V) (H : Hp) (Q : VK) (E : XK) (h : sp_Guard_eq P w K vs H Q E) : t_Guard_eq P w K { nx := fun _ H' => Q .non H', rt := Q } (start S_Guard_eq vs) H := by
  obtain ⟨x, dx, t, c, its, A, o, do_, tb, cn, l, ar, M, y, dy, t', c', its', A', o', do', tb', cn', l', ar', M', rfl, ov, og, g, g', n1, n2, q⟩ := h
  show t_Guard_eq P w K _ [some (.ref x), some (.ref y)] H
  unfold t_Guard_eq
  walk_at "nrm"
  unfold sameGuard at q
  refine isi_own og g'.ob ⟨_, rfl, iteT ⟨dx, _, g.ob, .ref o, by rfl, dy, _, g'.ob, .ref o', by rfl, ⟨o, o', do_, do', _, _, rfl, rfl, g.own.ob, g'.own.ob, o, do_, t, c, tb, cn, o', do', t', c', tb', cn', rfl, ov, g.own, g'.own, _, rfl, _, rfl, ?_⟩⟩⟩
  simp only [Bool.false_eq_true, if_false]
  generalize sameView t t' c c' = c1 at q
  cases c1 with
  | false => exact iteF q
  | true =>
    rw [Bool.true_and] at q
    have k2 : PyData.eqv (.list (M.map fun p => lineD p.2)) (.list (M'.map fun p => lineD p.2)) = decide (M.map (·.2) = M'.map (·.2)) := by
      have z := eqv_lines (M.map (·.2)) (M'.map (·.2))
      rw [List.map_map, List.map_map] at z
      exact z
    refine iteT ⟨dx, _, g.ob, .ref l, by rfl, dy, _, g'.ob, .ref l', by rfl, .list (M.map fun p => lineD p.2), .list (M'.map fun p => lineD p.2), .lst (.inl (.inl g.lines.1)) (lines_dp g.lines.2), .lst (.inl (.inl g'.lines.1)) (lines_dp g'.lines.2), ?_, ?_, _, rfl, ?_⟩
    · have z := shaped_lines (M.map (·.2)) (fun ys h => by obtain ⟨p, hp, rfl⟩ := List.mem_map.mp h; exact n1 p hp)
      rwa [List.map_map] at z
    · have z := shaped_lines (M'.map (·.2)) (fun ys h => by obtain ⟨p, hp, rfl⟩ := List.mem_map.mp h; exact n2 p hp)
      rwa [List.map_map] at z
    rw [k2]
    generalize decide (M.map (·.2) = M'.map (·.2)) = c2 at q
    cases c2 with
    | false => exact iteF q
    | true =>
      rw [Bool.true_and] at q
      exact iteT ⟨dx, _, g.ob, .ref ar, by rfl, dy, _, g'.ob, .ref ar', by rfl, ⟨ar, ar', _, _, rfl, rfl, g.arr, g'.arr, alike_arr _ _, q⟩⟩
theorem len_Guard_eq {P : Program} {w : World} {K : PySem.W.Frag} (vs : List V) (H : Hp) (Q : VK) (E : XK) (h : sp_Guard_eq P w K vs H Q E) : vs.length = n_Guard_eq.length := by
  obtain ⟨x, dx, t, c, its, A, o, do_, tb, cn, l, ar, M, y, dy, t', c', its', A', o', do', tb', cn', l', ar', M', rfl, _⟩ := h
  rfl
end LG
end

section
set_option maxHeartbeats 4000000
namespace LG
open PySem PySem.Spec PyProof.Rows L2
local macro_rules | `(tactic| walk_at "nrm") => `(tactic| simp only [wipe, tRet, tSeq, tNext, tIfS, tAsg, gName, L2.gSub, tVar, tC, tCons, tNil, tCB, tOp, tUn, tTest, tB, tAnd, tOr, tNot, tAndV, tOrV, tNotV, tChain, tCall, tDrop, tTup, tLst, tNever, tDNewK, tDNewT, sDPut, tDGet, tDGet2, tDGet1, tDIn, tDNotIn, tSAddH, tBM, tBM0, tTru, sFldC, tFldC, tDSetd, tMake, tMeth, List.getElem?_cons_zero, List.getElem?_cons_succ, Option.some.injEq, exists_eq_left', List.nil_append, List.cons_append, List.append_nil, List.set_cons_zero, List.set_cons_succ, rI0, rI, rU, ipI, tAug, V.int.injEq, V.bl.injEq, V.str.injEq, V.ref.injEq, exists_eq_left, exists_and_left, decide_eq_true_eq, Bool.not_eq_true', Bool.not_eq_eq_eq_not, Bool.not_true, Bool.not_false, Bool.false_eq_true, decide_eq_false_iff_not, if_true, if_false, true_and, and_true, ite_true, ite_false, reduceCtorEq, List.cons.injEq])
/-! ### the draws -/
/-- a stream stands at s -/
def StreamAt (H : Hp) (s : Addr) : Prop := ∃ a b c : Int, H s = some (.lst [.int a, .int b, .int c]) ∧ 0 ≤ c ∧ c < 2147483648
def sp__law_stream (P : Program) (w : World) (K : PySem.W.Frag) : Sp := fun vs H Q _ => ∃ a ns, vs = [.ref a, .int 0] ∧ SqL K H a (intsV ns) ∧ ∀ H' s, Same H H' → H s = none → StreamAt H' s → Q (.ref s) H'
def n__law_stream : List Str := ["_law_script", "_law_at"]
def t__law_stream (P : Program) (w : World) (K : PySem.W.Frag) : TS :=
  (tSeq (tAsg (tC (.int 0)) (gName 2)) (tSeq (tIfS (tTest (tOp gLt (tVar 1) (tCB (gLen K) (tCons (tVar 0) tNil)))) (tAsg (tOp (rIxL K) (tVar 0) (tVar 1)) (gName 2)) tNext) (tSeq (tIfS (tTest (tOp gGe (tVar 2) (tOp (rI CPow fun i j => .int (i ^ j.toNat)) (tC (.int 10)) (tC (.int 18))))) (tRet (tLst (tCons (tVar 2) (tCons (tC (.int 0)) (tCons (tVar 1) tNil))))) tNext) (tRet (tLst (tCons (tC (.int 0)) (tCons (tC (.int 0)) (tCons (tOp (rI (fun _ j => 0 < j) fun i j => .int (i % j)) (tCB (fun xs H Q => (∃ i, xs = [.int i] ∧ Q (.int i) H) ∨ ∃ k, xs = [.bl k] ∧ Q (.int (if k then 1 else 0)) H) (tCons (tOp gAdd (tOp (rI CMul fun i j => .int (i * j)) (tVar 2) (tC (.int 7919))) (tOp (rI CMul fun i j => .int (i * j)) (tVar 1) (tC (.int 31)))) tNil)) (tC (.int 2147483647))) tNil))))))))
abbrev S__law_stream : List Str := ["_law_script", "_law_at", "_law_cell"]
theorem pure__law_stream {P : Program} {w : World} {K : PySem.W.Frag} (vs : List V) (H : Hp) (Q : VK) (E : XK) (h : sp__law_stream P w K vs H Q E) : t__law_stream P w K { nx := fun _ H' => Q .non H', rt := Q } (start S__law_stream vs) H := by
  obtain ⟨a, ns, rfl, hq, q⟩ := h
  show t__law_stream P w K _ [some (.ref a), some (.int 0), none] H
  unfold t__law_stream
  have len : (intsV ns).length = ns.length := List.length_map _
  have ten : (10 : Int) ^ Int.toNat 18 = 1000000000000000000 := by decide
  have low : ∀ i : Int, 0 ≤ i % 2147483647 ∧ i % 2147483647 < 2147483648 := fun i => ⟨Int.emod_nonneg _ (by decide), Int.lt_trans (Int.emod_lt_of_pos _ (by decide)) (by decide)⟩
  by_cases hl : 0 < ns.length
  · walk_at "nrm"
    refine len_row (.inl hq) ⟨_, rfl, iteY (by omega) ⟨a, intsV ns, 0, .int ns[0], rfl, rfl, hq, atI_nat (j := 0) (by rw [intsV, List.getElem?_map, List.getElem?_eq_getElem hl]; rfl), ?_⟩⟩
    generalize ns[0] = c
    refine ⟨⟨by decide, by decide, by decide⟩, c, rfl, ?_⟩
    by_cases hc : (10 : Int) ^ Int.toNat 18 ≤ c
    · exact iteY hc ⟨(show 3 ≤ sizeLine by rw [sizeLine_eq]; decide), fun p hp => q _ p (same_new hp) hp ⟨_, _, _, upd_same, by decide, by decide⟩⟩
    · exact iteN hc ⟨c, rfl, .inr (by decide), .inl (by decide), .inl ⟨by decide, (show 3 ≤ sizeLine by rw [sizeLine_eq]; decide), fun p hp => q _ p (same_new hp) hp ⟨_, _, _, upd_same, low _⟩⟩⟩
  · walk_at "nrm"
    refine len_row (.inl hq) ⟨_, rfl, iteN (by omega) ⟨⟨by decide, by decide, by decide⟩, iteN (by rw [ten]; decide) ⟨.inl (by decide), .inl (by decide), .inl ⟨by decide, (show 3 ≤ sizeLine by rw [sizeLine_eq]; decide), fun p hp => q _ p (same_new hp) hp ⟨_, _, _, upd_same, low _⟩⟩⟩⟩⟩
theorem len__law_stream {P : Program} {w : World} {K : PySem.W.Frag} (vs : List V) (H : Hp) (Q : VK) (E : XK) (h : sp__law_stream P w K vs H Q E) : vs.length = n__law_stream.length := by
  obtain ⟨a, ns, rfl, _⟩ := h
  rfl
def sp__law_draw (P : Program) (w : World) (K : PySem.W.Frag) : Sp := fun vs H Q _ => ∃ s m, vs = [.ref s, .int m] ∧ StreamAt H s ∧ 1 ≤ m ∧ m ≤ 100000 ∧ ∀ H' r, Keeps H H' [s] → StreamAt H' s → 0 ≤ r → r < m → Q (.int r) H'
def n__law_draw : List Str := ["_law_stream_here", "_law_limit"]
def t__law_draw (P : Program) (w : World) (K : PySem.W.Frag) : TS :=
  (tSeq (tIfS (tTest (tOp gGt (tOp (rIxL K) (tVar 0) (tC (.int 0))) (tC (.int 0)))) (tSeq (tAsg (tOp (rIxL K) (tVar 0) (tC (.int 0))) (gName 3)) (tSeq (tAsg (tOp (rI CDivW fun i j => .int (i / j)) (tVar 3) (tVar 1)) (L2.gSub (tVar 0) (tC (.int 0)) rSetL)) (tRet (tOp (rI (fun _ j => 0 < j) fun i j => .int (i % j)) (tCB (fun xs H Q => (∃ i, xs = [.int i] ∧ Q (.int i) H) ∨ ∃ k, xs = [.bl k] ∧ Q (.int (if k then 1 else 0)) H) (tCons (tVar 3) tNil)) (tVar 1))))) tNext) (tSeq (tAsg (tOp gAdd (tOp (rIxL K) (tVar 0) (tC (.int 1))) (tC (.int 1))) (L2.gSub (tVar 0) (tC (.int 1)) rSetL)) (tSeq (tAsg (tOp (rI (fun _ j => 0 < j) fun i j => .int (i % j)) (tCB (fun xs H Q => (∃ i, xs = [.int i] ∧ Q (.int i) H) ∨ ∃ k, xs = [.bl k] ∧ Q (.int (if k then 1 else 0)) H) (tCons (tOp gAdd (tOp gAdd (tOp (rI CMul fun i j => .int (i * j)) (tOp (rIxL K) (tVar 0) (tC (.int 2))) (tC (.int 48271))) (tOp (rI CMul fun i j => .int (i * j)) (tOp (rIxL K) (tVar 0) (tC (.int 1))) (tC (.int 40692)))) (tC (.int 30103))) tNil)) (tC (.int 2147483647))) (gName 2)) (tSeq (tAsg (tOp (rI (fun _ j => 0 < j) fun i j => .int (i % j)) (tCB (fun xs H Q => (∃ i, xs = [.int i] ∧ Q (.int i) H) ∨ ∃ k, xs = [.bl k] ∧ Q (.int (if k then 1 else 0)) H) (tCons (tOp (rI CMul fun i j => .int (i * j)) (tVar 2) (tOp gAdd (tOp (rI CDivW fun i j => .int (i / j)) (tVar 2) (tC (.int 1009))) (tC (.int 69621)))) tNil)) (tC (.int 2147483629))) (gName 2)) (tSeq (tAsg (tVar 2) (L2.gSub (tVar 0) (tC (.int 2)) rSetL)) (tRet (tOp (rI (fun _ j => 0 < j) fun i j => .int (i % j)) (tCB (fun xs H Q => (∃ i, xs = [.int i] ∧ Q (.int i) H) ∨ ∃ k, xs = [.bl k] ∧ Q (.int (if k then 1 else 0)) H) (tCons (tOp (rI CDivW fun i j => .int (i / j)) (tVar 2) (tC (.int 8))) tNil)) (tVar 1))))))))
abbrev S__law_draw : List Str := ["_law_stream_here", "_law_limit", "_law_number", "_law_rest"]
theorem pure__law_draw {P : Program} {w : World} {K : PySem.W.Frag} (vs : List V) (H : Hp) (Q : VK) (E : XK) (h : sp__law_draw P w K vs H Q E) : t__law_draw P w K { nx := fun _ H' => Q .non H', rt := Q } (start S__law_draw vs) H := by
  obtain ⟨s, m, rfl, ⟨a, b, c, hs, hc0, hc1⟩, m1, m2, q⟩ := h
  show t__law_draw P w K _ [some (.ref s), some (.int m), none, none] H
  unfold t__law_draw
  walk_at "nrm"
  have i0 : ∀ a b c : Int, atI [V.int a, V.int b, V.int c] 0 = some (.int a) := fun _ _ _ => rfl
  have i1 : ∀ a b c : Int, atI [V.int a, V.int b, V.int c] 1 = some (.int b) := fun _ _ _ => rfl
  have i2 : ∀ a b c : Int, atI [V.int a, V.int b, V.int c] 2 = some (.int c) := fun _ _ _ => rfl
  refine ixL hs (i0 a b c) ⟨_, rfl, ?_⟩
  have low : ∀ i : Int, 0 ≤ i % m ∧ i % m < m := fun i => ⟨Int.emod_nonneg _ (by omega), Int.emod_lt_of_pos _ (by omega)⟩
  have dm : CDivW 0 m := wide_div (b := 17) (by omega) (by omega) (by decide) (by decide)
  by_cases ha : 0 < a
  · refine iteY ha (ixL hs (i0 a b c) ⟨a, rfl, ⟨dm.1, dm.2⟩, s, _, 0, 0, rfl, rfl, hs, rfl, ?_⟩)
    refine .inl ⟨_, rfl, by omega, q _ _ (fun x o nb e => by rw [upd_ne (fun z => nb (by simp [z]))]; exact e) ⟨a / m, b, c, upd_same, hc0, hc1⟩ (low a).1 (low a).2⟩
  · refine iteN ha (ixL hs (i1 a b c) ⟨b, rfl, s, _, 1, 1, rfl, rfl, hs, rfl, ?_⟩)
    have h1 : upd H s (HO.lst ([V.int a, V.int b, V.int c].set 1 (V.int (b + 1)))) s = some (.lst [V.int a, V.int (b + 1), V.int c]) := upd_same
    have k1 : Keeps H (upd H s (HO.lst ([V.int a, V.int b, V.int c].set 1 (V.int (b + 1))))) [s] := fun x o nb e => by rw [upd_ne (fun z => nb (by simp [z]))]; exact e
    generalize upd H s (HO.lst ([V.int a, V.int b, V.int c].set 1 (V.int (b + 1)))) = H1 at h1 k1 ⊢
    refine ixL h1 (i2 _ _ _) ⟨c, rfl, .inr (by decide), ixL h1 (i1 _ _ _) ⟨b + 1, rfl, .inr (by decide), ?_⟩⟩
    have n1 : 0 ≤ (c * 48271 + (b + 1) * 40692 + 30103) % 2147483647 ∧ (c * 48271 + (b + 1) * 40692 + 30103) % 2147483647 < 2147483647 := ⟨Int.emod_nonneg _ (by decide), Int.emod_lt_of_pos _ (by decide)⟩
    generalize (c * 48271 + (b + 1) * 40692 + 30103) % 2147483647 = n at n1 ⊢
    have n2 : 0 ≤ n * (n / 1009 + 69621) % 2147483629 ∧ n * (n / 1009 + 69621) % 2147483629 < 2147483629 := ⟨Int.emod_nonneg _ (by decide), Int.emod_lt_of_pos _ (by decide)⟩
    refine .inl ⟨by decide, ⟨by decide, by decide +kernel⟩, .inl ⟨by omega, by omega⟩, .inl ⟨by decide, s, _, 2, 2, rfl, rfl, h1, rfl, ⟨by decide, by decide +kernel⟩, .inl ⟨by omega, ?_⟩⟩⟩
    generalize n * (n / 1009 + 69621) % 2147483629 = n' at n2 ⊢
    exact q _ _ (fun x o nb e => by rw [upd_ne (fun z => nb (by simp [z]))]; exact k1 x o nb e) ⟨a, b + 1, n', upd_same, by omega, by omega⟩ (low _).1 (low _).2
theorem len__law_draw {P : Program} {w : World} {K : PySem.W.Frag} (vs : List V) (H : Hp) (Q : VK) (E : XK) (h : sp__law_draw P w K vs H Q E) : vs.length = n__law_draw.length := by
  obtain ⟨s, m, rfl, _⟩ := h
  rfl
theorem lst_ne {H : Hp} {s : Addr} (h : StreamAt H s) : ∃ a b c, H s = some (.lst [V.int a, V.int b, V.int c]) := let ⟨a, b, c, e, _⟩ := h; ⟨a, b, c, e⟩
/-- for x in range(n), n drawn or given -/
theorem tFor_rng {g : TG} {tb : TS} {D : Ends} {σ : L2.St} {H : Hp} {n : Nat} (Pv : Nat → L2.St → Hp → Prop) (h0 : Pv 0 σ H)
    (hs : ∀ i σ H', i < n → Pv i σ H' → g (.int (i : Nat)) σ H' fun σ2 H2 => tb { D with nx := Pv (i + 1), ct := Pv (i + 1), bk := D.nx } σ2 H2) (hd : ∀ σ H, Pv n σ H → D.nx σ H) :
    ∃ W : Nat → Nat → L2.St → Hp → Prop, (∃ m, W 0 m σ H) ∧ ∀ i m σ H, W i m σ H →
      ((Itr 0 n).stop i H ∧ D.nx σ H) ∨ ((Itr 0 n).go i H ∧ ∃ N : L2.St → Hp → Prop, (∀ σ' H', N σ' H' → ∃ m', m' < m ∧ W (i + 1) m' σ' H') ∧ ∀ x H', (Itr 0 n).yld i H x H' → g x σ H' fun σ2 H2 => tb { D with nx := N, ct := N, bk := D.nx } σ2 H2) :=
  for_it walk_range Pv h0 (fun _ _ _ _ _ => trivial) (fun i x σ H' H2 hi p y => by
    obtain ⟨rfl, hx⟩ := y
    have e : x = .int (i : Nat) := by rw [hx]; show V.int (0 + (i : Nat)) = _; rw [Int.zero_add]
    subst e
    exact hs i σ _ hi p) hd
/-! ### _law_rows -/
theorem eqv_row (r s : Row) : PyData.eqv (rowD r) (rowD s) = decide (r = s) := by
  obtain ⟨a, b, c⟩ := r
  obtain ⟨a', b', c'⟩ := s
  simp only [rowD, PyData.eqv, PyData.eqvAll, Bool.and_true]
  rw [Bool.eq_iff_iff]
  simp [and_assoc]
theorem shaped_row {r : Row} (h : rowOk r = true) : SeqAt.shaped (rowD r) = true := by
  simp only [rowOk, Bool.and_eq_true] at h
  have e : (rowD r).depth = 1 := rfl
  simp only [SeqAt.shaped, Bool.and_eq_true, decide_eq_true_eq, e]
  exact ⟨by simp [rowD, PyData.canLayAll0, PyData.canLay0, name_strOk h.2.1], by omega⟩
def sp__law_rows (P : Program) (w : World) (K : PySem.W.Frag) : Sp := fun vs H Q _ => ∃ s pa ps na ws, vs = [.ref s, .ref pa, .ref na] ∧ StreamAt H s ∧ H pa = some (.lst (intsV ps)) ∧ pa ≠ s ∧ H na = some (.lst (strsV ws)) ∧ na ≠ s ∧ 1 ≤ ps.length ∧ ps.length ≤ 1000 ∧ 1 ≤ ws.length ∧ ws.length ≤ 1000 ∧ (∀ p ∈ ps, stOk p = true) ∧ NamesOk ws ∧
  ∀ H' l L, Keeps H H' [s] → StreamAt H' s → H l = none → l ≠ s → H' l = some (.lst (refsOf L)) → RowsAt H' L → (L.map (·.2)).Nodup → 1 ≤ L.length → L.length ≤ 8 → (∀ p ∈ L, rowOk p.2 = true ∧ p.2.2.1 ∈ ws) → Q (.ref l) H'
def n__law_rows : List Str := ["_law_stream_here", "_law_places", "_law_names"]
def t__law_rows (P : Program) (w : World) (K : PySem.W.Frag) : TS :=
  (tSeq (tAsg (tLst tNil) (gName 3)) (tSeq (tFor (iRng1 (tCons (tOp gAdd (tC (.int 1)) (tCall (sp__law_draw P w K) [] E0 (tCons (tVar 0) (tCons (tC (.int 8)) tNil)))) tNil)) (gName 4) (tSeq (tAsg (tOp (rIxL K) (tVar 1) (tCall (sp__law_draw P w K) [] E0 (tCons (tVar 0) (tCons (tCB (gLen K) (tCons (tVar 1) tNil)) tNil)))) (gName 5)) (tSeq (tAsg (tOp (rIxL K) (tVar 2) (tCall (sp__law_draw P w K) [] E0 (tCons (tVar 0) (tCons (tCB (gLen K) (tCons (tVar 2) tNil)) tNil)))) (gName 6)) (tSeq (tAsg (tTup (tCons (tVar 5) (tCons (tVar 6) (tCons (tOp (rIxL K) (tVar 1) (tCall (sp__law_draw P w K) [] E0 (tCons (tVar 0) (tCons (tCB (gLen K) (tCons (tVar 1) tNil)) tNil)))) tNil)))) (gName 7)) (tIfS (tTest (tOp (rNotInD K) (tVar 7) (tVar 3))) (tDrop (tBM K "list" rAppend (tVar 3) (tCons (tVar 7) tNil))) tNext))))) (tRet (tVar 3))))
abbrev S__law_rows : List Str := ["_law_stream_here", "_law_places", "_law_names", "_law_rows_here", "_law_turn", "_law_first", "_law_name", "_law_row"]
structure LrInv (H : Hp) (s l : Addr) (ws : List Str) (i : Nat) (H' : Hp) : Prop where
  keep : Keeps H H' [s, l]
  st : StreamAt H' s
  rows : ∃ L : List (Addr × Row), H' l = some (.lst (refsOf L)) ∧ RowsAt H' L ∧ (L.map (·.2)).Nodup ∧ L.length ≤ i ∧ (1 ≤ i → 1 ≤ L.length) ∧ ∀ p ∈ L, rowOk p.2 = true ∧ p.2.2.1 ∈ ws
theorem pure__law_rows {P : Program} {w : World} {K : PySem.W.Frag} (vs : List V) (H : Hp) (Q : VK) (E : XK) (h : sp__law_rows P w K vs H Q E) : t__law_rows P w K { nx := fun _ H' => Q .non H', rt := Q } (start S__law_rows vs) H := by
  obtain ⟨s, pa, ps, na, ws, rfl, hst, hp, pas, hn, nas, p1, p2, w1, w2, pok, wok, q⟩ := h
  show t__law_rows P w K _ [some (.ref s), some (.ref pa), some (.ref na), none, none, none, none, none] H
  unfold t__law_rows
  have lps : (intsV ps).length = ps.length := List.length_map _
  have lws : (strsV ws).length = ws.length := List.length_map _
  walk_at "nrm"
  refine ⟨Nat.zero_le _, fun l hl => ?_⟩
  obtain ⟨a0, b0, c0, hs0⟩ := lst_ne hst
  have ls : l ≠ s := Ne.symm (ne_of_none hs0 hl)
  have pl : pa ≠ l := ne_of_none hp hl
  have nl : na ≠ l := ne_of_none hn hl
  unfold tFor iRng1
  have kl0 : ∀ b u, H b = some u → upd H l (.lst []) b = some u := fun b u e => by rw [upd_ne (ne_of_none e hl)]; exact e
  have st0 : StreamAt (upd H l (.lst [])) s := by
    obtain ⟨a, b, c, e, e2⟩ := hst
    exact ⟨a, b, c, kl0 _ _ e, e2⟩
  refine ⟨_, rfl, s, 8, rfl, st0, by decide, by decide, fun H1 r k1 st1 r0 r1 => ⟨1, r, rfl, rfl, 1 + r, rfl, by omega, by omega, ?_⟩⟩
  have inv0 : LrInv H s l ws 0 H1 := ⟨fun b o nb e => k1 _ _ (fun z => nb (by simp at z; simp [z])) (kl0 _ _ e), st1, [], k1 _ _ (by simp [ls]) upd_same, fun p hp => (by cases hp), List.nodup_nil, Nat.le_refl _, fun h => absurd h (by omega), fun p hp => (by cases hp)⟩
  refine tFor_rng (fun i σ H' => (∃ a b c d, σ = [some (.ref s), some (.ref pa), some (.ref na), some (.ref l), a, b, c, d]) ∧ LrInv H s l ws i H') ⟨⟨_, _, _, _, rfl⟩, inv0⟩ ?_ ?_
  · rintro i σ H' hi ⟨⟨a, b, c, d, rfl⟩, inv⟩
    obtain ⟨L, hL, rows, nd, Ll, L1, ok⟩ := inv.rows
    have ip : ∀ H'', Keeps H' H'' [s] → H'' pa = some (.lst (intsV ps)) ∧ H'' na = some (.lst (strsV ws)) ∧ H'' l = some (.lst (refsOf L)) ∧ RowsAt H'' L := fun H'' k => by
      obtain ⟨a, b, c, es⟩ := lst_ne inv.st
      exact ⟨k _ _ (by simp [pas]) (inv.keep _ _ (by simp [pas, pl]) hp), k _ _ (by simp [nas]) (inv.keep _ _ (by simp [nas, nl]) hn), k _ _ (by simp [ls]) hL, fun p hp => k _ _ (by simp [ne_of (rows p hp) es (by simp)]) (rows p hp)⟩
    walk_at "nrm"
    have b0 := ip H' (fun b o _ e => e)
    refine len_row (.inl (.inl (.inl b0.1))) ⟨s, _, rfl, inv.st, by omega, by omega, fun H2 r2 k2 st2 g0 g1 => ?_⟩
    obtain ⟨x1, hx1⟩ : ∃ x1, ps[r2.toNat]? = some x1 := ⟨_, List.getElem?_eq_getElem (by omega)⟩
    have at1 : atI (intsV ps) r2 = some (.int x1) := by
      have e : r2 = (r2.toNat : Int) := by omega
      rw [e]
      exact atI_nat (by rw [intsV, List.getElem?_map, hx1]; rfl)
    have b2 := ip H2 k2
    refine ixL b2.1 at1 ?_
    refine len_row (.inl (.inl (.inl b2.2.1))) ⟨s, _, rfl, st2, by omega, by omega, fun H3 r3 k3 st3 g2 g3 => ?_⟩
    have k13 := Keeps.trans k2 k3
    have b3 := ip H3 k13
    obtain ⟨x2, hx2⟩ : ∃ x2, ws[r3.toNat]? = some x2 := ⟨_, List.getElem?_eq_getElem (by omega)⟩
    have at2 : atI (strsV ws) r3 = some (.str x2) := by
      have e : r3 = (r3.toNat : Int) := by omega
      rw [e]
      exact atI_nat (by rw [strsV, List.getElem?_map, hx2]; rfl)
    refine ixL b3.2.1 at2 ?_
    refine len_row (.inl (.inl (.inl b3.1))) ⟨s, _, rfl, st3, by omega, by omega, fun H4 r4 k4 st4 g4 g5 => ?_⟩
    have k14 := Keeps.trans k13 k4
    have b4 := ip H4 k14
    obtain ⟨x3, hx3⟩ : ∃ x3, ps[r4.toNat]? = some x3 := ⟨_, List.getElem?_eq_getElem (by omega)⟩
    have at3 : atI (intsV ps) r4 = some (.int x3) := by
      have e : r4 = (r4.toNat : Int) := by omega
      rw [e]
      exact atI_nat (by rw [intsV, List.getElem?_map, hx3]; rfl)
    refine ixL b4.1 at3 ⟨(show 3 ≤ sizeLine by rw [sizeLine_eq]; decide), fun t ht => ?_⟩
    have rk : rowOk (x1, x2, x3) = true := by
      have a1 := pok _ (List.mem_of_getElem? hx1)
      have a2 := wok _ (List.mem_of_getElem? hx2)
      have a3 := pok _ (List.mem_of_getElem? hx3)
      show (stOk x1 && (nameOk x2 && stOk x3)) = true
      rw [a1, a2, a3]; rfl
    have s5 : Same H4 (upd H4 t (.tup [.int x1, .str x2, .int x3])) := same_new ht
    have t5 : upd H4 t (HO.tup [V.int x1, V.str x2, V.int x3]) t = some (rowT (x1, x2, x3)) := upd_same
    obtain ⟨sa, sb, sc, es4⟩ := lst_ne st4
    have ts : t ≠ s := Ne.symm (ne_of_none es4 ht)
    have tl : t ≠ l := Ne.symm (ne_of_none b4.2.2.1 ht)
    have st5 : StreamAt (upd H4 t (.tup [.int x1, .str x2, .int x3])) s := by
      obtain ⟨a, b, c, e, e2⟩ := st4
      exact ⟨a, b, c, s5 _ _ e, e2⟩
    have keep5 : Keeps H (upd H4 t (.tup [.int x1, .str x2, .int x3])) [s, l] := fun b o nb e => s5 _ _ (k14 _ _ (fun z => nb (by simp at z; simp [z])) (inv.keep b o nb e))
    generalize upd H4 t (HO.tup [V.int x1, V.str x2, V.int x3]) = H5 at s5 t5 st5 keep5 ⊢
    have rows5 : RowsAt H5 L := fun p hp => s5 _ _ (b4.2.2.2 p hp)
    have l5 := s5 _ _ b4.2.2.1
    refine ⟨rowD (x1, x2, x3), L.map fun p => rowD p.2, .tup (.inl (.inl t5)) (.cons (.int _) (.cons (.str _) (.cons (.int _) .nil))), .lst (.inl (.inl l5)) (rows_dp rows5), shaped_row rk, ?_, _, rfl, ?_⟩
    · have z := shaped_rows (L.map (·.2)) (fun r hr => by obtain ⟨p, hp, rfl⟩ := List.mem_map.mp hr; exact (ok p hp).1)
      rwa [List.map_map] at z
    have eany : ((L.map fun p => rowD p.2).any fun z => PyData.eqv z (rowD (x1, x2, x3))) = decide ((x1, x2, x3) ∈ L.map (·.2)) := by
      rw [Bool.eq_iff_iff, decide_eq_true_eq, List.any_eq_true]
      constructor
      · rintro ⟨z, hz, e⟩
        obtain ⟨p, hp, rfl⟩ := List.mem_map.mp hz
        rw [eqv_row, decide_eq_true_eq] at e
        rw [← e]; exact List.mem_map.mpr ⟨p, hp, rfl⟩
      · intro h
        obtain ⟨p, hp, e⟩ := List.mem_map.mp h
        exact ⟨rowD p.2, List.mem_map.mpr ⟨p, hp, rfl⟩, by rw [eqv_row, decide_eq_true_eq]; exact e⟩
    rw [eany]
    by_cases hin : (x1, x2, x3) ∈ L.map (·.2)
    · refine iteN (by simp [hin]) ⟨⟨_, rfl⟩, keep5, st5, L, l5, rows5, nd, by omega, fun _ => ?_, ok⟩
      obtain ⟨p, hp, _⟩ := List.mem_map.mp hin
      exact List.length_pos_of_mem hp
    · refine iteY (by simp [hin]) ⟨.inl ⟨rfl, _, .inl (.inl l5)⟩, append_at l5 (small1000 (by rw [List.length_map]; omega)) ⟨⟨_, rfl⟩, ?_⟩⟩
      refine ⟨fun b o nb e => by rw [upd_ne (fun z => nb (by simp [z]))]; exact keep5 b o nb e, ?_, L ++ [(t, (x1, x2, x3))], by rw [show refsOf (L ++ [(t, (x1, x2, x3))]) = refsOf L ++ [V.ref t] from List.map_append]; exact upd_same, fun p hp => ?_, ?_, by simp; omega, fun _ => by simp, fun p hp => ?_⟩
      · obtain ⟨a, b, c, e, e2⟩ := st5
        exact ⟨a, b, c, by rw [upd_ne (Ne.symm ls)]; exact e, e2⟩
      · rcases List.mem_append.mp hp with h | h
        · rw [upd_ne (ne_of (rows5 p h) l5 (by simp))]; exact rows5 p h
        · rw [List.mem_singleton.mp h, upd_ne tl]; exact t5
      · rw [List.map_append]
        exact List.nodup_append.mpr ⟨nd, by simp, fun a ha b hb => by rw [List.mem_singleton.mp hb]; exact fun z => hin (by rw [z] at ha; exact ha)⟩
      · rcases List.mem_append.mp hp with h | h
        · exact ok p h
        · rw [List.mem_singleton.mp h]; exact ⟨rk, List.mem_of_getElem? hx2⟩
  · rintro σ H' ⟨⟨a, b, c, d, rfl⟩, inv⟩
    walk_at "nrm"
    obtain ⟨L, hL, rows, nd, Ll, L1, ok⟩ := inv.rows
    exact q H' l L (fun b o nb e => inv.keep b o (by simp at nb; simp [nb, ne_of_none e hl]) e) inv.st hl ls hL rows nd (L1 (by omega)) (by omega) ok
theorem len__law_rows {P : Program} {w : World} {K : PySem.W.Frag} (vs : List V) (H : Hp) (Q : VK) (E : XK) (h : sp__law_rows P w K vs H Q E) : vs.length = n__law_rows.length := by
  obtain ⟨s, pa, ps, na, ws, rfl, _⟩ := h
  rfl
end LG
end

section
set_option maxHeartbeats 4000000
namespace LG
open PySem PySem.Spec PyProof.Rows L2
local macro_rules | `(tactic| walk_at "nrm") => `(tactic| simp only [wipe, tRet, tSeq, tNext, tIfS, tAsg, gName, L2.gSub, tVar, tC, tCons, tNil, tCB, tOp, tUn, tTest, tB, tAnd, tOr, tNot, tAndV, tOrV, tNotV, tChain, tCall, tDrop, tTup, tLst, tNever, tDNewK, tDNewT, sDPut, tDGet, tDGet2, tDGet1, tDIn, tDNotIn, tSAddH, tBM, tBM0, tTru, sFldC, tFldC, tDSetd, tMake, tMeth, List.getElem?_cons_zero, List.getElem?_cons_succ, Option.some.injEq, exists_eq_left', List.nil_append, List.cons_append, List.append_nil, List.set_cons_zero, List.set_cons_succ, rI0, rI, rU, ipI, tAug, V.int.injEq, V.bl.injEq, V.str.injEq, V.ref.injEq, exists_eq_left, exists_and_left, decide_eq_true_eq, Bool.not_eq_true', Bool.not_eq_eq_eq_not, Bool.not_true, Bool.not_false, Bool.false_eq_true, decide_eq_false_iff_not, if_true, if_false, true_and, and_true, ite_true, ite_false, reduceCtorEq, List.cons.injEq])
/-! ### _law_table -/
def sp__law_table (P : Program) (w : World) (K : PySem.W.Frag) : Sp := fun vs H Q _ => ∃ s na ns, vs = [.ref s, .ref na] ∧ StreamAt H s ∧ na ≠ s ∧ H na = some (.lst (strsV ns)) ∧ ns.Nodup ∧ ns.length = 3 ∧
  ∀ H' d t, Keeps H H' [s] → StreamAt H' s → H d = none → H' d = some (.dK (strsK t)) → (t.map (·.1)).Nodup → (∀ p ∈ t, p.1 ∈ ns ∧ p.2 ∈ ns) → t.length ≤ 3 → Q (.ref d) H'
def n__law_table : List Str := ["_law_stream_here", "_law_names"]
def t__law_table (P : Program) (w : World) (K : PySem.W.Frag) : TS :=
  (tSeq (tAsg tDNewK (gName 2)) (tSeq (tFor (iList K (tVar 1)) (gName 3) (tSeq (tAsg (tCall (sp__law_draw P w K) [] E0 (tCons (tVar 0) (tCons (tC (.int 3)) tNil))) (gName 4)) (tIfS (tTest (tOp gGt (tVar 4) (tC (.int 0)))) (sDPut (tVar 2) (tVar 3) (tOp (rIxL K) (tVar 1) (tOp gSub (tVar 4) (tC (.int 1))))) tNext))) (tRet (tVar 2))))
abbrev S__law_table : List Str := ["_law_stream_here", "_law_names", "_law_table_here", "_law_name", "_law_kind"]
structure LtInv (H : Hp) (s d : Addr) (ns : List Str) (i : Nat) (H' : Hp) : Prop where
  keep : Keeps H H' [s]
  st : StreamAt H' s
  tab : ∃ t, H' d = some (.dK (strsK t)) ∧ (t.map (·.1)).Nodup ∧ (∀ p ∈ t, p.1 ∈ ns.take i ∧ p.2 ∈ ns) ∧ t.length ≤ i
theorem mem_take_succ {α : Type} {l : List α} {i : Nat} {x : α} (h : x ∈ l.take i) : x ∈ l.take (i + 1) := by
  rw [List.take_succ]; exact List.mem_append_left _ h
theorem strs_get {ws : List Str} {i : Nat} {x : V} (hx : (strsV ws)[i]? = some x) : ∃ y, ws[i]? = some y ∧ x = .str y := by
  rw [strsV, List.getElem?_map] at hx
  cases e : ws[i]? with
  | none => rw [e] at hx; cases hx
  | some p => rw [e] at hx; cases hx; exact ⟨p, rfl, rfl⟩
theorem fresh_take {α : Type} {l : List α} {i : Nat} {x : α} (nd : l.Nodup) (hx : l[i]? = some x) : x ∉ l.take i := fun m => by
  have nd2 : (l.take (i + 1)).Nodup := List.Sublist.nodup (List.take_sublist _ _) nd
  rw [take_succ_get hx] at nd2
  exact (List.nodup_append.mp nd2).2.2 _ m _ (List.mem_singleton.mpr rfl) rfl
theorem pure__law_table {P : Program} {w : World} {K : PySem.W.Frag} (vs : List V) (H : Hp) (Q : VK) (E : XK) (h : sp__law_table P w K vs H Q E) : t__law_table P w K { nx := fun _ H' => Q .non H', rt := Q } (start S__law_table vs) H := by
  obtain ⟨s, na, ns, rfl, hst, nas, hn, nnd, n3, q⟩ := h
  show t__law_table P w K _ [some (.ref s), some (.ref na), none, none, none] H
  unfold t__law_table
  walk_at "nrm"
  intro d hd
  obtain ⟨a0, b0, c0, hs0⟩ := lst_ne hst
  have ds : d ≠ s := Ne.symm (ne_of_none hs0 hd)
  have nad : na ≠ d := ne_of_none hn hd
  refine tFor_list (H0 := H) (fun Q q => ⟨_, rfl, q⟩) (.inl (.inl hn)) (fun i σ H' => (∃ a b, σ = [some (.ref s), some (.ref na), some (.ref d), a, b]) ∧ LtInv H s d ns i H') ⟨⟨_, _, rfl⟩, ⟨fun b o _ e => by rw [upd_ne (ne_of_none e hd)]; exact e, ?_, [], upd_same, List.nodup_nil, fun p hp => (by cases hp), Nat.le_refl _⟩⟩ (fun i σ H' _ p o e => p.2.keep _ _ (by simp [nas]) e) ?_ ?_
  · obtain ⟨a, b, c, e, e2⟩ := hst
    exact ⟨a, b, c, by rw [upd_ne (Ne.symm ds)]; exact e, e2⟩
  · rintro i x σ H' hx ⟨⟨a, b, rfl⟩, inv⟩
    obtain ⟨y, hy, rfl⟩ := strs_get hx
    obtain ⟨t, ht, tn, tok, tl⟩ := inv.tab
    have i3 : i < 3 := by
      have := List.getElem?_eq_some_iff.mp hy
      obtain ⟨z, _⟩ := this
      omega
    walk_at "nrm"
    refine ⟨s, _, rfl, inv.st, by omega, by omega, fun H2 r k2 st2 r0 r1 => ?_⟩
    have keep2 := Keeps.trans inv.keep k2
    have ht2 : H2 d = some (.dK (strsK t)) := k2 _ _ (by simp [ds]) ht
    have hn2 := keep2 _ _ (by simp [nas]) hn
    by_cases hr : 0 < r
    · obtain ⟨z, hz⟩ : ∃ z, ns[(r - 1).toNat]? = some z := ⟨_, List.getElem?_eq_getElem (by omega)⟩
      have atz : atI (strsV ns) (r - 1) = some (.str z) := by
        have e : r - 1 = ((r - 1).toNat : Int) := by omega
        rw [e]
        exact atI_nat (by rw [strsV, List.getElem?_map, hz]; rfl)
      have fresh : y ∉ t.map (·.1) := fun m => by
        obtain ⟨p, hp, e⟩ := List.mem_map.mp m
        exact fresh_take nnd hy (by rw [← e]; exact (tok p hp).1)
      refine ⟨r, rfl, iteY hr ⟨r, rfl, ixL hn2 atz ⟨_, .inl ⟨_, .inr y, ht2, rfl, small1000 (by rw [strsK, List.length_map]; omega), rfl⟩, ?_⟩⟩⟩
      refine ⟨by simp, fun b o nb e => ?_, ?_, t ++ [(y, z)], ?_, ?_, ?_, ?_⟩
      · rw [upd_ne (ne_of_none e hd)]; exact keep2 b o nb e
      · obtain ⟨a, b, c, e, e2⟩ := st2
        exact ⟨a, b, c, by rw [upd_ne (Ne.symm ds)]; exact e, e2⟩
      · rw [upd_same, putK_new (valV_strsK_none fresh)]
        simp [strsK]
      · rw [List.map_append]
        exact List.nodup_append.mpr ⟨tn, by simp, fun a ha b hb => by rw [List.mem_singleton.mp hb]; exact fun z => fresh (by rw [z] at ha; exact ha)⟩
      · intro p hp
        rcases List.mem_append.mp hp with h | h
        · exact ⟨mem_take_succ (tok p h).1, (tok p h).2⟩
        · rw [List.mem_singleton.mp h]
          exact ⟨by rw [take_succ_get hy]; simp, List.mem_of_getElem? hz⟩
      · rw [List.length_append]; simp; omega
    · exact ⟨r, rfl, iteN hr ⟨⟨_, rfl⟩, keep2, st2, t, ht2, tn, fun p hp => ⟨mem_take_succ (tok p hp).1, (tok p hp).2⟩, by omega⟩⟩
  · rintro σ H' ⟨⟨a, b, rfl⟩, inv⟩
    walk_at "nrm"
    obtain ⟨t, ht, tn, tok, tl⟩ := inv.tab
    have e : (strsV ns).length = 3 := by rw [strsV, List.length_map]; exact n3
    exact q H' d t inv.keep inv.st hd ht tn (fun p hp => ⟨List.mem_of_mem_take (tok p hp).1, (tok p hp).2⟩) (by omega)
theorem len__law_table {P : Program} {w : World} {K : PySem.W.Frag} (vs : List V) (H : Hp) (Q : VK) (E : XK) (h : sp__law_table P w K vs H Q E) : vs.length = n__law_table.length := by
  obtain ⟨s, na, ns, rfl, _⟩ := h
  rfl
/-- for x in e, e's list found on the way -/
theorem tFor_listE {K : PySem.W.Frag} {te : TE} {g : TG} {tb : TS} {D : Ends} {σ : L2.St} {H : Hp} (Ph : Addr → List V → Hp → Prop) (he : ∀ Q : VK, (∀ a xs H1, Ph a xs H1 → Q (.ref a) H1) → te σ H Q)
    (h : ∀ a xs H1, Ph a xs H1 → ∃ Pv : Nat → L2.St → Hp → Prop, Pv 0 σ H1 ∧ (∀ i σ H', i ≤ xs.length → Pv i σ H' → SqL K H' a xs) ∧
      (∀ i x σ H', xs[i]? = some x → Pv i σ H' → g x σ H' fun σ2 H2 => tb { D with nx := Pv (i + 1), ct := Pv (i + 1), bk := D.nx } σ2 H2) ∧ (∀ σ H, Pv xs.length σ H → D.nx σ H)) : tFor (iList K te) g tb D σ H := by
  unfold tFor iList
  refine he _ fun a xs H1 hp => ?_
  obtain ⟨Pv, h0, h1, h2, h3⟩ := h a xs H1 hp
  exact ⟨a, rfl, ⟨xs, h1 0 _ _ (Nat.zero_le _) h0⟩, for_it walk_list Pv h0 h1 (fun i x σ H' H2 hi p y => by obtain ⟨rfl, hx⟩ := y; exact h2 i x σ _ hx p) h3⟩
/-! ### _law_arrows -/
def sp__law_arrows (P : Program) (w : World) (K : PySem.W.Frag) : Sp := fun vs H Q _ => ∃ s tb t m, vs = [.ref s, .ref tb, .int m] ∧ StreamAt H s ∧ tb ≠ s ∧ H tb = some (.dK (strsK t)) ∧ t.length ≤ 3 ∧ 1 ≤ m ∧ m ≤ 2 ∧
  ∀ H' d A, Keeps H H' [s] → StreamAt H' s → H d = none → H' d = some (.dT (arrK A)) → (A.map (·.1)).Nodup → A.length ≤ 1000 → (∀ a ∈ A, 0 ≤ a.1.1 ∧ a.1.1 < m ∧ a.1.2 ∈ sightsOf t ∧ 0 ≤ a.2 ∧ a.2 < m) → Q (.ref d) H'
def n__law_arrows : List Str := ["_law_stream_here", "_law_table_here", "_law_many"]
def t__law_arrows (P : Program) (w : World) (K : PySem.W.Frag) : TS :=
  (tSeq (tAsg tDNewT (gName 3)) (tSeq (tFor (iList K (tCB (rSortedM P w) (tCons (tCB (rSetOfK K P w) (tCons (tCB rListVals (tCons (tBM0 K "dict" rValues (tVar 1)) tNil)) tNil)) tNil))) (gName 4) (tFor (iRng1 (tCons (tVar 2) tNil)) (gName 5) (tSeq (tAsg (tCall (sp__law_draw P w K) [] E0 (tCons (tVar 0) (tCons (tOp gAdd (tVar 2) (tC (.int 1))) tNil))) (gName 6)) (tIfS (tTest (tOp gLt (tVar 6) (tVar 2))) (sDPut (tVar 3) (tTup (tCons (tVar 5) (tCons (tVar 4) tNil))) (tVar 6)) tNext)))) (tRet (tVar 3))))
abbrev S__law_arrows : List Str := ["_law_stream_here", "_law_table_here", "_law_many", "_law_arrows_here", "_law_mark", "_law_node", "_law_end"]
structure LaInv (H : Hp) (s d p : Addr) (ys : List Str) (m : Int) (i j : Nat) (H' : Hp) : Prop where
  keep : Keeps H H' [s]
  st : StreamAt H' s
  srt : H' p = some (.lst (strsV ys))
  tab : ∃ A, H' d = some (.dT (arrK A)) ∧ (A.map (·.1)).Nodup ∧ A.length ≤ i * 2 + j ∧ ∀ a ∈ A, 0 ≤ a.1.1 ∧ a.1.1 < m ∧ 0 ≤ a.2 ∧ a.2 < m ∧ (a.1.2 ∈ ys.take i ∨ (ys[i]? = some a.1.2 ∧ a.1.1 < j))
theorem pure__law_arrows {P : Program} {w : World} {K : PySem.W.Frag} (vs : List V) (H : Hp) (Q : VK) (E : XK) (h : sp__law_arrows P w K vs H Q E) : t__law_arrows P w K { nx := fun _ H' => Q .non H', rt := Q } (start S__law_arrows vs) H := by
  obtain ⟨s, tb, t, m, rfl, hst, tbs, htb, tz, m1, m2, q⟩ := h
  show t__law_arrows P w K _ [some (.ref s), some (.ref tb), some (.int m), none, none, none, none] H
  unfold t__law_arrows
  walk_at "nrm"
  intro d hd
  obtain ⟨a0, b0, c0, hs0⟩ := lst_ne hst
  have ds : d ≠ s := Ne.symm (ne_of_none hs0 hd)
  have tbd : tb ≠ d := ne_of_none htb hd
  have sd : Same H (upd H d (.dT [])) := same_new hd
  have dd : upd H d (HO.dT []) d = some (.dT []) := upd_same
  generalize upd H d (HO.dT []) = H0 at sd dd ⊢
  have htb0 := sd _ _ htb
  refine tFor_listE (fun p xs H1 => ∃ ys, xs = strsV ys ∧ Same H0 H1 ∧ H0 p = none ∧ H1 p = some (.lst (strsV ys)) ∧ ys.length ≤ 3 ∧ ys.Nodup ∧ ∀ y ∈ ys, y ∈ sightsOf t) (fun Q q => ?_) ?_
  · walk_at "nrm"
    refine ⟨.inr (.inr (.inl ⟨rfl, .inl ⟨_, htb0⟩⟩)), tb, strsK t, rfl, rfl, htb0, fun p1 hp1 => ?_⟩
    have s1 : Same H0 (upd H0 p1 (valuesO p1 tb)) := same_new hp1
    refine ⟨p1, tb, strsK t, rfl, upd_same, s1 _ _ htb0, fun l hl => ?_⟩
    have s2 := Same.upd (o := .lst ((strsK t).map (·.2))) s1 (Same.none s1 hl)
    have ek : (strsK t).map (·.2) = ((sightsOf t).map (Sum.inr : Str → Key)).map kV := by
      rw [strsK, sightsOf, List.map_map, List.map_map, List.map_map]; rfl
    refine ⟨l, (sightsOf t).map Sum.inr, rfl, .inl (.inl (.inl (by rw [← ek]; exact upd_same))), ?_, fun a cc ha hcc => ?_⟩
    · rw [List.length_map, sightsOf, List.length_map]; exact Nat.lt_of_lt_of_le (show t.length + 1 < 61 by omega) (by decide)
    have s3 := Same.upd (o := SetMO P w a (fun j => inL ((sightsOf t).map Sum.inr) j) cc) s2 (Same.none s2 ha)
    rw [List.length_map, sightsOf, List.length_map] at hcc
    refine ⟨a, _, cc, rfl, upd_same, by omega, fun i => inL_no (fun m => by obtain ⟨y, _, e⟩ := List.mem_map.mp m; cases e), fun ys p srt nd hm hlen hp => ?_⟩
    refine q p _ _ ⟨ys, rfl, Same.upd s3 (Same.none s3 hp), Same.none s3 hp, upd_same, by omega, nd, fun y hy => ?_⟩
    have z := (hm y).mp hy
    rw [inL_iff, List.mem_map] at z
    obtain ⟨x, hx, e⟩ := z
    cases e
    exact hx
  · rintro p xs H1 ⟨ys, rfl, s1, np, hp, y3, ynd, yok⟩
    have np2 : H p = none := by
      cases e : H p with
      | none => rfl
      | some o => rw [sd _ _ e] at np; cases np
    have ps : p ≠ s := Ne.symm (ne_of_none hs0 np2)
    have pd : p ≠ d := Ne.symm (ne_of_none dd np)
    refine ⟨fun i σ H' => (∃ a b c, σ = [some (.ref s), some (.ref tb), some (.int m), some (.ref d), a, b, c]) ∧ LaInv H s d p ys m i 0 H', ⟨⟨_, _, _, rfl⟩, fun b o _ e => s1 _ _ (sd _ _ e), ?_, hp, [], s1 _ _ dd, List.nodup_nil, Nat.le_refl _, fun p hp => (by cases hp)⟩, fun i σ H' _ pv => .inl (.inl pv.2.srt), ?_, ?_⟩
    · obtain ⟨a, b, c, e, e2⟩ := hst
      exact ⟨a, b, c, s1 _ _ (sd _ _ e), e2⟩
    · rintro i x σ H2 hx ⟨⟨a, b, c, rfl⟩, inv⟩
      obtain ⟨y, hy, rfl⟩ := strs_get hx
      have i3 : i < 3 := by
        obtain ⟨z, _⟩ := List.getElem?_eq_some_iff.mp hy
        omega
      walk_at "nrm"
      unfold tFor iRng1
      refine ⟨_, rfl, m, rfl, by omega, by omega, ?_⟩
      refine tFor_rng (fun j σ H' => (∃ b c, σ = [some (.ref s), some (.ref tb), some (.int m), some (.ref d), some (.str y), b, c]) ∧ LaInv H s d p ys m i j H') ⟨⟨_, _, rfl⟩, inv⟩ ?_ ?_
      · rintro j σ H3 hj ⟨⟨b, c, rfl⟩, inv⟩
        obtain ⟨A, hA, An, Al, Aok⟩ := inv.tab
        walk_at "nrm"
        refine ⟨s, _, rfl, inv.st, by omega, by omega, fun H4 r k4 st4 r0 r1 => ?_⟩
        have keep4 := Keeps.trans inv.keep k4
        have hA4 := k4 _ _ (by simp [ds]) hA
        have hp4 := k4 _ _ (by simp [ps]) inv.srt
        have grow : ∀ a : Arr, (0 ≤ a.1.1 ∧ a.1.1 < m ∧ 0 ≤ a.2 ∧ a.2 < m ∧ (a.1.2 ∈ ys.take i ∨ (ys[i]? = some a.1.2 ∧ a.1.1 < (j : Nat)))) → 0 ≤ a.1.1 ∧ a.1.1 < m ∧ 0 ≤ a.2 ∧ a.2 < m ∧ (a.1.2 ∈ ys.take i ∨ (ys[i]? = some a.1.2 ∧ a.1.1 < ((j + 1 : Nat) : Int))) := fun a ⟨h1, h2, h3, h4, h5⟩ => ⟨h1, h2, h3, h4, h5.imp id fun ⟨z1, z2⟩ => ⟨z1, by omega⟩⟩
        refine ⟨r, rfl, ?_⟩
        by_cases hr : r < m
        · refine iteY hr ⟨(show 2 ≤ sizeLine by rw [sizeLine_eq]; decide), fun T hT => ⟨_, .inr ⟨_, [.inl (j : Nat), .inr y], T, (by rw [upd_ne (ne_of_none hA4 hT)]; exact hA4), rfl, upd_same, small1000 ?_, rfl⟩, ?_⟩⟩
          · rw [arrK, List.length_map]; omega
          have kT : ∀ b o, H4 b = some o → ∀ O, b ≠ d → upd (upd H4 T (.tup [.int (j : Nat), .str y])) d O b = some o := fun b o e O nb => by rw [upd_ne nb, upd_ne (ne_of_none e hT)]; exact e
          have fresh : (((j : Nat) : Int), y) ∉ A.map (·.1) := fun mm => by
            obtain ⟨a, ha, e⟩ := List.mem_map.mp mm
            obtain ⟨_, _, _, _, h5⟩ := Aok a ha
            rw [e] at h5
            rcases h5 with h | ⟨_, h⟩
            · have nd2 : ys.Nodup := ynd
              exact fresh_take nd2 hy h
            · exact absurd h (by simp)
          refine ⟨⟨_, rfl⟩, fun b o nb e => kT _ _ (keep4 b o nb e) _ (ne_of_none e hd), ?_, kT _ _ hp4 _ pd, A ++ [((((j : Nat) : Int), y), r)], ?_, ?_, ?_, ?_⟩
          · obtain ⟨a, b, c, e, e2⟩ := st4
            exact ⟨a, b, c, kT _ _ e _ (Ne.symm ds), e2⟩
          · rw [upd_same, putK_newT (valV_arr_none (k := (((j : Nat) : Int), y)) fresh)]
            simp [arrK]
          · rw [List.map_append]
            exact List.nodup_append.mpr ⟨An, by simp, fun a ha b hb => by rw [List.mem_singleton.mp hb]; exact fun z => fresh (by rw [z] at ha; exact ha)⟩
          · rw [List.length_append]; simp; omega
          · intro a ha
            rcases List.mem_append.mp ha with h | h
            · exact grow a (Aok a h)
            · rw [List.mem_singleton.mp h]
              exact ⟨by simp, by simp; omega, r0, hr, .inr ⟨hy, by simp; omega⟩⟩
        · exact iteN hr ⟨⟨_, rfl⟩, keep4, st4, hp4, A, hA4, An, by omega, fun a ha => grow a (Aok a ha)⟩
      · rintro σ H3 ⟨⟨b, c, rfl⟩, inv⟩
        obtain ⟨A, hA, An, Al, Aok⟩ := inv.tab
        refine ⟨⟨_, _, _, rfl⟩, inv.keep, inv.st, inv.srt, A, hA, An, by omega, fun a ha => ?_⟩
        obtain ⟨h1, h2, h3, h4, h5⟩ := Aok a ha
        refine ⟨h1, h2, h3, h4, .inl ?_⟩
        rcases h5 with h | ⟨h, _⟩
        · exact mem_take_succ h
        · rw [take_succ_get h]; simp
    · rintro σ H3 ⟨⟨a, b, c, rfl⟩, inv⟩
      walk_at "nrm"
      obtain ⟨A, hA, An, Al, Aok⟩ := inv.tab
      have e : (strsV ys).length = ys.length := by rw [strsV, List.length_map]
      rw [e] at Al Aok
      refine q H3 d A inv.keep inv.st hd hA An (by omega) fun a ha => ?_
      obtain ⟨h1, h2, h3, h4, h5⟩ := Aok a ha
      refine ⟨h1, h2, ?_, h3, h4⟩
      rcases h5 with h | ⟨h, _⟩
      · exact yok _ (List.mem_of_mem_take h)
      · exact yok _ (List.mem_of_getElem? h)
theorem len__law_arrows {P : Program} {w : World} {K : PySem.W.Frag} (vs : List V) (H : Hp) (Q : VK) (E : XK) (h : sp__law_arrows P w K vs H Q E) : vs.length = n__law_arrows.length := by
  obtain ⟨s, na, ns, m, rfl, _⟩ := h
  rfl
end LG
end

section
set_option maxHeartbeats 4000000
namespace LG
open PySem PySem.Spec PyProof.Rows L2
/-! ### what is the same is equal -/
theorem valV_mem {κ : Type} [DecidableEq κ] {p : κ × V} : ∀ {ks : List (κ × V)}, (ks.map (·.1)).Nodup → p ∈ ks → valV ks p.1 = some p.2
  | q :: ks, nd, h => by
    rw [List.map_cons, List.nodup_cons] at nd
    rcases List.mem_cons.mp h with e | m
    · rw [e]; exact valV_pos rfl
    · rw [valV_neg (fun z => nd.1 (by rw [z]; exact List.mem_map.mpr ⟨p, m, rfl⟩))]
      exact valV_mem nd.2 m
theorem sameD_refl {κ : Type} [DecidableEq κ] {ks : List (κ × V)} (nd : (ks.map (·.1)).Nodup) (hv : ∀ p ∈ ks, sameV p.2 p.2 = true) : sameD ks ks = true := by
  unfold sameD
  rw [Bool.and_eq_true, decide_eq_true_eq, List.all_eq_true]
  refine ⟨rfl, fun p hp => ?_⟩
  rw [valV_mem nd hp]
  exact hv p hp
theorem nodup_map {α β : Type} {f : α → β} (hf : ∀ a b, f a = f b → a = b) : ∀ {l : List α}, l.Nodup → (l.map f).Nodup
  | [], _ => List.nodup_nil
  | x :: l, nd => by
    rw [List.nodup_cons] at nd
    rw [List.map_cons, List.nodup_cons]
    exact ⟨fun m => by obtain ⟨y, hy, e⟩ := List.mem_map.mp m; rw [hf _ _ e] at hy; exact nd.1 hy, nodup_map hf nd.2⟩
theorem same_marks {ns : List Int} (nd : ns.Nodup) : sameD (marksOf ns) (marksOf ns) = true := by
  refine sameD_refl ?_ fun p hp => ?_
  · rw [marksOf, List.map_map]
    exact nodup_map (fun a b e => by cases e; rfl) nd
  · obtain ⟨n, _, rfl⟩ := List.mem_map.mp hp
    rfl
theorem same_marks0 (ns : List Int) : sameD (marksOf ns) (marksOf []) = decide (ns = []) := by
  cases ns with
  | nil => rfl
  | cons n ns => rfl
theorem same_strs {t : List (Str × Str)} (nd : (t.map (·.1)).Nodup) : sameD (strsK t) (strsK t) = true := by
  refine sameD_refl ?_ fun p hp => ?_
  · have e : (strsK t).map (·.1) = (t.map (·.1)).map (Sum.inr : Str → Key) := by rw [strsK, List.map_map, List.map_map]; rfl
    rw [e]
    exact nodup_map (fun a b e => by cases e; rfl) nd
  · obtain ⟨n, _, rfl⟩ := List.mem_map.mp hp
    exact sameV_refl rfl
theorem same_marksS {c : List Str} (nd : c.Nodup) : sameD (marksS c) (marksS c) = true := by
  refine sameD_refl ?_ fun p hp => ?_
  · rw [marksS, List.map_map]
    exact nodup_map (fun a b e => by cases e; rfl) nd
  · obtain ⟨n, _, rfl⟩ := List.mem_map.mp hp
    rfl
theorem same_arr {A : List Arr} (nd : (A.map (·.1)).Nodup) : sameD (arrK A) (arrK A) = true := by
  refine sameD_refl ?_ fun p hp => ?_
  · have e : (arrK A).map (·.1) = (A.map (·.1)).map fun k => ([.inl k.1, .inr k.2] : List Key) := by rw [arrK, List.map_map, List.map_map]; rfl
    rw [e]
    refine nodup_map (fun a b e => ?_) nd
    obtain ⟨a1, a2⟩ := a
    obtain ⟨b1, b2⟩ := b
    simp only [List.cons.injEq, Sum.inl.injEq, Sum.inr.injEq, and_true] at e
    rw [e.1, e.2]
  · obtain ⟨n, _, rfl⟩ := List.mem_map.mp hp
    exact sameV_refl rfl
theorem same_plant {st : Int} {L : List (Addr × Row)} {wn bn : List Int} (h1 : wn.Nodup) (h2 : bn.Nodup) : samePlant st st L L wn wn bn bn = true := by
  unfold samePlant
  rw [same_marks h1, same_marks h2]
  simp
theorem same_plant0 {st : Int} {L : List (Addr × Row)} {wn bn : List Int} (h1 : wn.Nodup) : samePlant st st L L wn wn bn [] = decide (bn = []) := by
  unfold samePlant
  rw [same_marks h1, same_marks0]
  simp
theorem same_view {t : List (Str × Str)} {c : List Str} (h1 : (t.map (·.1)).Nodup) (h2 : c.Nodup) : sameView t t c c = true := by
  unfold sameView
  rw [same_strs h1, same_marksS h2]
  rfl
/-! ### one sorted list -/
theorem rising_pw : ∀ (l : List Str) (p : Str), risingS p l = true → (p :: l).Pairwise (fun a b => a.cps.toList ≤ b.cps.toList)
  | [], p, _ => by simp
  | x :: r, p, h => by
    simp only [risingS, Bool.and_eq_true, Bool.not_eq_true', ltCps_eq, decide_eq_false_iff_not] at h
    have ih := rising_pw r x h.2
    have px : p.cps.toList ≤ x.cps.toList := List.not_lt.mp h.1
    refine List.pairwise_cons.mpr ⟨fun y hy => ?_, ih⟩
    rcases List.mem_cons.mp hy with e | m
    · rw [e]; exact px
    · exact List.le_trans px ((List.pairwise_cons.mp ih).1 y m)
theorem sorted_pw {l : List Str} (h : sortedS l = true) : l.Pairwise (fun a b => a.cps.toList ≤ b.cps.toList) := by
  cases l with
  | nil => exact .nil
  | cons x r => exact rising_pw r x h
theorem SortedOf.uniq {ys zs xs : List Str} (h : SortedOf ys xs) (h' : SortedOf zs xs) : ys = zs := by
  have p : ys.Perm zs := (List.perm_ext_iff_of_nodup h.nd h'.nd).mpr fun a => (h.mem a).trans (h'.mem a).symm
  refine p.eq_of_pairwise (le := fun a b => a.cps.toList ≤ b.cps.toList) (fun a b _ _ h1 h2 => ?_) (sorted_pw h.srt) (sorted_pw h'.srt)
  have e := List.le_antisymm h1 h2
  obtain ⟨⟨a⟩⟩ := a
  obtain ⟨⟨b⟩⟩ := b
  simp only at e
  rw [e]
theorem LinesOf.uniq {m m' l : List (List Str)} (h : LinesOf m l) (h' : LinesOf m' l) : m = m' := by
  induction h generalizing m' with
  | nil => cases h'; rfl
  | cons s _ ih =>
    cases h' with
    | cons s' h' => rw [s.uniq s', ih h']
/-! ### given rows -/
def RowV (K : PySem.W.Frag) (H : Hp) (a : Addr) (xs : List V) : Prop := H a = some (.lst xs) ∨ H a = some (.tup xs) ∨ (EmptyT K a ∧ xs = [])
theorem RowV.same {K : PySem.W.Frag} {H H' : Hp} {a : Addr} {xs : List V} (s : Same H H') (h : RowV K H a xs) : RowV K H' a xs := h.imp (s _ _) fun h => h.imp (s _ _) id
theorem RowV.row {K : PySem.W.Frag} {H : Hp} {a : Addr} {xs : List V} (h : RowV K H a xs) : vRow K H (.ref a) true := by
  rcases h with h | h | ⟨h, _⟩
  · exact .list h
  · exact .tup h
  · exact h.row H
theorem RowV.sq {K : PySem.W.Frag} {H : Hp} {a : Addr} {xs : List V} (h : RowV K H a xs) : SqR K H a xs := by
  rcases h with h | h | ⟨h, rfl⟩
  · exact .inl (.inl (.inl h))
  · exact .inr (.inl (.inl h))
  · exact h.sqR H
/-! ### plants -/
def PlantO (K : PySem.W.Frag) (H : Hp) (x : Addr) (st : Int) (L : List (Addr × Row)) (wn bn : List Int) : Prop := ∃ dx w b l lv r ns, PlantAt K H x dx st L wn bn w b l lv r ns
theorem PlantO.same {K : PySem.W.Frag} {H H' : Hp} {x : Addr} {st : Int} {L : List (Addr × Row)} {wn bn : List Int} (s : Same H H') (h : PlantO K H x st L wn bn) : PlantO K H' x st L wn bn := by
  obtain ⟨dx, w, b, l, lv, r, ns, p⟩ := h
  obtain ⟨kvs, lk, lf⟩ := p.leav
  exact ⟨dx, w, b, l, lv, r, ns, s _ _ p.ob, s _ _ p.wan, s _ _ p.bar, s _ _ p.rows, p.at_.same s, ⟨kvs, s _ _ lk, fun x => ⟨(lf x).1, fun z => by obtain ⟨q, h1, h2⟩ := (lf x).2 z; exact ⟨q, h1, s _ _ h2⟩⟩⟩, s _ _ p.rea, p.srt, p.mem⟩
/-- the rows given for a plant -/
structure PlArgs (H : Hp) (st : Int) (a : Addr) (L : List (Addr × Row)) : Prop where
  st : stOk st = true
  rows : H a = some (.lst (refsOf L))
  at_ : RowsAt H L
  ok : StepsOk (L.map (·.2))
  few : ∃ W : List Str, W.length ≤ 12 ∧ ∀ v ∈ words (L.map (·.2)), v ∈ W
theorem PlArgs.same {H H' : Hp} {st : Int} {a : Addr} {L : List (Addr × Row)} (s : Same H H') (h : PlArgs H st a L) : PlArgs H' st a L := ⟨h.st, s _ _ h.rows, h.at_.same s, h.ok, h.few⟩
/-- two kinds of marks -/
structure MarksOk (n : Nat) (wn bn : List Int) : Prop where
  wnd : wn.Nodup
  bnd : bn.Nodup
  wb : ∀ i ∈ wn, 0 ≤ i ∧ i < n
  bb : ∀ i ∈ bn, 0 ≤ i ∧ i < n ∧ i ∉ wn
theorem MarksOk.zero {n : Nat} {wn bn : List Int} (h : MarksOk n wn bn) : MarksOk n wn [] := ⟨h.wnd, List.nodup_nil, h.wb, fun i hi => by cases hi⟩
theorem fresh_same {H : Hp} {x dx : Addr} {o1 o2 : HO} (hx : H x = none) (hd : H dx = none) (ne : dx ≠ x) : Same H (upd (upd H dx o1) x o2) :=
  Same.upd (same_new hd) hx
theorem mkPlant {P : Program} {w : World} {K : PySem.W.Frag} {H : Hp} {st : Int} {a : Addr} {L : List (Addr × Row)} {wa ba : Addr} {wn bn : List Int} {R : Addr → Hp → Prop} {E : XK} (pa : PlArgs H st a L) (mw : RowV K H wa (intsV wn)) (mb : RowV K H ba (intsV bn)) (mk : MarksOk L.length wn bn)
    (q : ∀ H' x, Same H H' → H x = none → PlantO K H' x st L wn bn → R x H') : ∀ x dx, H x = none → H dx = none → dx ≠ x →
    sp_Plant_init P w K [.ref x, .int st, .ref a, .ref wa, .ref ba] (upd (upd H dx (.own x)) x (.ins (He.ga K "Plant") dx [])) (fun v H2 => v = .non ∧ R x H2) E := fun x dx hx hdx ne => by
  have s1 : Same H (upd (upd H dx (.own x)) x (.ins (He.ga K "Plant") dx [])) := fresh_same hx hdx ne
  have pa1 := pa.same s1
  obtain ⟨W, w1, w2⟩ := pa.few
  refine ⟨x, dx, st, a, L, wa, wn, ba, bn, W, rfl, upd_same, pa.st, .inl pa1.rows, pa1.at_, pa.ok, ⟨w1, w2⟩, ⟨(mw.same s1).row, (mw.same s1).sq, mk.wnd, mk.wb⟩, ⟨(mb.same s1).row, (mb.same s1).sq, mk.bnd, mk.bb⟩, fun H' k ⟨w, b, l, lv, r, ns, p⟩ => ⟨rfl, q H' x (fun b o e => k _ _ (by simp [ne_of_none e hx]) (s1 _ _ e)) hx ⟨dx, w, b, l, lv, r, ns, p⟩⟩⟩
theorem eqPlant {P : Program} {w : World} {K : PySem.W.Frag} {H : Hp} {x y : Addr} {st : Int} {L : List (Addr × Row)} {wn bn wn' bn' : List Int} {Q : VK} {neg : Bool} (oc : OwnC K (He.ga K "Plant")) (ok : ∀ r ∈ L.map (·.2), rowOk r = true) (p : PlantO K H x st L wn bn) (p' : PlantO K H y st L wn' bn')
    (q : Q (.bl (if neg = true then !samePlant st st L L wn wn' bn bn' else samePlant st st L L wn wn' bn bn')) H) : rOwnEq (He.ga K "Plant") (sp_Plant_eq P w K) neg (.ref x) (.ref y) H Q := by
  obtain ⟨dx, w1, b, l, lv, r, ns, p⟩ := p
  obtain ⟨dy, w', b', l', lv', r', ns', p'⟩ := p'
  exact ⟨x, y, dx, dy, _, _, rfl, rfl, p.ob, p'.ob, x, dx, st, L, wn, bn, w1, b, l, lv, r, ns, y, dy, st, L, wn', bn', w', b', l', lv', r', ns', rfl, oc, p, p', ok, ok, _, rfl, q⟩
/-! ### views -/
def ViewO (K : PySem.W.Frag) (H : Hp) (x : Addr) (t : List (Str × Str)) (c : List Str) : Prop := ∃ dx tb cn, ViewAt K H x dx t c tb cn
theorem ViewO.same {K : PySem.W.Frag} {H H' : Hp} {x : Addr} {t : List (Str × Str)} {c : List Str} (s : Same H H') (h : ViewO K H x t c) : ViewO K H' x t c := by
  obtain ⟨dx, tb, cn, v⟩ := h
  exact ⟨dx, tb, cn, v.same s⟩
theorem SightsAt.same {H H' : Hp} {v : V} {t : List (Str × Str)} (s : Same H H') (h : SightsAt H v t) : SightsAt H' v t := h.imp id fun ⟨d, e, h, n⟩ => ⟨d, e, s _ _ h, n⟩
theorem mkView {P : Program} {w : World} {K : PySem.W.Frag} {H : Hp} {v : V} {t : List (Str × Str)} {ha : Addr} {ws : List Str} {R : Addr → Hp → Prop} {E : XK} (hs : SightsAt H v t) (hr : RowV K H ha (strsV ws)) (ok : NamesOk ws) (hz : ws.length ≤ 1000)
    (q : ∀ H' x, Same H H' → H x = none → ViewO K H' x t (dedupS ws) → R x H') : ∀ x dx, H x = none → H dx = none → dx ≠ x →
    sp_View_init P w K [.ref x, v, .ref ha] (upd (upd H dx (.own x)) x (.ins (He.ga K "View") dx [])) (fun v H2 => v = .non ∧ R x H2) E := fun x dx hx hdx ne => by
  have s1 : Same H (upd (upd H dx (.own x)) x (.ins (He.ga K "View") dx [])) := fresh_same hx hdx ne
  refine ⟨x, dx, v, t, ha, ws, rfl, upd_same, hs.same s1, (hr.same s1).row, (hr.same s1).sq, ok, hz, fun H' k ⟨tb, cn, p⟩ => ⟨rfl, q H' x (fun b o e => k _ _ (by simp [ne_of_none e hx]) (s1 _ _ e)) hx ⟨dx, tb, cn, p⟩⟩⟩
theorem mkSeeing {P : Program} {w : World} {K : PySem.W.Frag} {H : Hp} {a b : Addr} {ws hs : List Str} {Q : VK} {E : XK} (hr : RowV K H a (strsV ws)) (ok : NamesOk ws) (hz : ws.length ≤ 1000) (hr' : RowV K H b (strsV hs)) (ok' : NamesOk hs) (hz' : hs.length ≤ 1000)
    (q : ∀ H' x, Same H H' → H x = none → ViewO K H' x (selfT ws) (dedupS hs) → Q (.ref x) H') : sp_seeing P w K [.ref a, .ref b] H Q E :=
  ⟨a, ws, b, hs, rfl, hr.row, hr.sq, ok, hz, hr'.row, hr'.sq, ok', hz', fun H' y s n h => q H' y s n h⟩
theorem eqView {P : Program} {w : World} {K : PySem.W.Frag} {H : Hp} {x y : Addr} {t : List (Str × Str)} {c : List Str} {Q : VK} {neg : Bool} (oc : OwnC K (He.ga K "View")) (n1 : (t.map (·.1)).Nodup) (n2 : c.Nodup) (p : ViewO K H x t c) (p' : ViewO K H y t c)
    (q : Q (.bl (!neg)) H) : rOwnEq (He.ga K "View") (sp_View_eq P w K) neg (.ref x) (.ref y) H Q := by
  obtain ⟨dx, tb, cn, v⟩ := p
  obtain ⟨dy, tb', cn', v'⟩ := p'
  exact ⟨x, y, dx, dy, _, _, rfl, rfl, v.ob, v'.ob, x, dx, t, c, tb, cn, y, dy, t, c, tb', cn', rfl, oc, v, v', _, rfl, by rw [same_view n1 n2]; cases neg <;> exact q⟩
/-! ### guards -/
def GuardO (K : PySem.W.Frag) (H : Hp) (x : Addr) (t : List (Str × Str)) (c : List Str) (its : List (List Str)) (A : List Arr) : Prop := ∃ dx o do_ tb cn l ar M, GuardAt K H x dx t c its A o do_ tb cn l ar M
theorem GuardO.same {K : PySem.W.Frag} {H H' : Hp} {x : Addr} {t : List (Str × Str)} {c : List Str} {its : List (List Str)} {A : List Arr} (s : Same H H') (h : GuardO K H x t c its A) : GuardO K H' x t c its A := by
  obtain ⟨dx, o, do_, tb, cn, l, ar, M, g⟩ := h
  exact ⟨dx, o, do_, tb, cn, l, ar, M, s _ _ g.ob, g.own.same s, g.lines.same s, g.lof, s _ _ g.arr⟩
/-- what is given for a guard -/
structure GdArgs (K : PySem.W.Frag) (H : Hp) (v m a : Addr) (t : List (Str × Str)) (c : List Str) (A : List Arr) (its : List (Addr × List Str)) : Prop where
  view : ViewO K H v t c
  tn : TabNames t
  tz : t.length < 60
  cok : NamesOk c
  cnd : c.Nodup
  cz : c.length ≤ 1000
  rows : H a = some (.lst (refsOf its))
  held : HeldAt H its
  lo : 1 ≤ its.length
  hi : its.length ≤ 200
  iok : ∀ p ∈ its, p.2.length < 60 ∧ ∀ v ∈ p.2, nameOk v = true ∧ v ∈ c
  arr : H m = some (.dT (arrK A))
  and_ : (A.map (·.1)).Nodup
  az : A.length ≤ 1000
  aok : ∀ a ∈ A, 0 ≤ a.1.1 ∧ a.1.1 < its.length ∧ nameOk a.1.2 = true ∧ a.1.2 ∈ sightsOf t ∧ 0 ≤ a.2 ∧ a.2 < its.length
theorem GdArgs.same {K : PySem.W.Frag} {H H' : Hp} {v m a : Addr} {t : List (Str × Str)} {c : List Str} {A : List Arr} {its : List (Addr × List Str)} (s : Same H H') (h : GdArgs K H v m a t c A its) : GdArgs K H' v m a t c A its :=
  ⟨h.view.same s, h.tn, h.tz, h.cok, h.cnd, h.cz, s _ _ h.rows, fun p hp => (h.held p hp).imp (s _ _) (s _ _), h.lo, h.hi, h.iok, s _ _ h.arr, h.and_, h.az, h.aok⟩
theorem mkGuard {P : Program} {w : World} {K : PySem.W.Frag} {H : Hp} {v m a : Addr} {t : List (Str × Str)} {c : List Str} {A : List Arr} {its : List (Addr × List Str)} {R : Addr → Hp → Prop} {E : XK} (oc : OwnC K (He.ga K "View")) (g : GdArgs K H v m a t c A its)
    (q : ∀ H' x, Same H H' → H x = none → GuardO K H' x t c (its.map (·.2)) A → R x H') : ∀ x dx, H x = none → H dx = none → dx ≠ x →
    sp_Guard_init P w K [.ref x, .ref v, .ref m, .ref a] (upd (upd H dx (.own x)) x (.ins (He.ga K "Guard") dx [])) (fun v H2 => v = .non ∧ R x H2) E := fun x dx hx hdx ne => by
  have s1 : Same H (upd (upd H dx (.own x)) x (.ins (He.ga K "Guard") dx [])) := fresh_same hx hdx ne
  have g1 := g.same s1
  obtain ⟨dv, tb, cn, hv⟩ := g1.view
  refine ⟨x, dx, v, dv, t, c, tb, cn, m, A, a, its, rfl, oc, upd_same, hv, g.tn, g.tz, g.cok, g.cnd, g.cz, .inl g1.rows, g1.held, g.lo, g.hi, g.iok, g1.arr, g.and_, g.az, g.aok, fun H' k ⟨o, do_, tb, cn, l, ar, M, p⟩ => ⟨rfl, q H' x (fun b o e => k _ _ (by simp [ne_of_none e hx]) (s1 _ _ e)) hx ⟨dx, o, do_, tb, cn, l, ar, M, p⟩⟩⟩
theorem LinesOf.mem {m l : List (List Str)} (h : LinesOf m l) : ∀ ys ∈ m, ∃ xs ∈ l, SortedOf ys xs := by
  induction h with
  | nil => intro ys hy; cases hy
  | cons s _ ih =>
    intro ys hy
    rcases List.mem_cons.mp hy with e | e
    · exact ⟨_, List.mem_cons_self, e ▸ s⟩
    · obtain ⟨xs, h1, h2⟩ := ih ys e
      exact ⟨xs, List.mem_cons_of_mem _ h1, h2⟩
theorem eqGuard {P : Program} {w : World} {K : PySem.W.Frag} {H : Hp} {x y : Addr} {t : List (Str × Str)} {c : List Str} {its : List (List Str)} {A : List Arr} {Q : VK} (ov : OwnC K (He.ga K "View")) (og : OwnC K (He.ga K "Guard")) (n1 : (t.map (·.1)).Nodup) (n2 : c.Nodup) (n3 : (A.map (·.1)).Nodup)
    (iok : ∀ xs ∈ its, NamesOk xs) (p : GuardO K H x t c its A) (p' : GuardO K H y t c its A) (q : Q (.bl true) H) : rOwnEq (He.ga K "Guard") (sp_Guard_eq P w K) false (.ref x) (.ref y) H Q := by
  obtain ⟨dx, o, do_, tb, cn, l, ar, M, g⟩ := p
  obtain ⟨dy, o', do_', tb', cn', l', ar', M', g'⟩ := p'
  have nm : ∀ {M : List (Addr × List Str)}, LinesOf (M.map (·.2)) its → ∀ p ∈ M, NamesOk p.2 := fun h p hp z hz => by
    obtain ⟨xs, hx, s⟩ := h.mem p.2 (List.mem_map.mpr ⟨p, hp, rfl⟩)
    exact iok xs hx z ((s.mem z).mp hz)
  refine ⟨x, y, dx, dy, _, _, rfl, rfl, g.ob, g'.ob, x, dx, t, c, its, A, o, do_, tb, cn, l, ar, M, y, dy, t, c, its, A, o', do_', tb', cn', l', ar', M', rfl, ov, og, g, g', nm g.lof, nm g'.lof, _, rfl, ?_⟩
  rw [show sameGuard t t c c M M' A A = true from by
    unfold sameGuard
    rw [same_view n1 n2, g.lof.uniq g'.lof, same_arr n3]
    simp]
  exact q
end LG
end

section
set_option maxHeartbeats 4000000
namespace LG
open PySem PySem.Spec PyProof.Rows L2
/-! ### the law -/
def d_Plant_d1 (K : PySem.W.Frag) : List V := [.ref (He.dflAt ("Plant", some "__init__") 0 K)]
def gv_Plant_k0_barred_wanted_steps_start (K : PySem.W.Frag) : List V → List V → List V := fun vs zs => gSel [.pos 0, .kw 3, .kw 2, .kw 1, .kw 0] vs [.ref (He.dflAt ("Plant", some "__init__") 0 K)] zs
theorem gve_Plant_k0_barred_wanted_steps_start (K : PySem.W.Frag) (x0 : V) (z0 : V) (z1 : V) (z2 : V) (z3 : V) : gv_Plant_k0_barred_wanted_steps_start K [x0] [z0, z1, z2, z3] = [x0, z3, z2, z1, z0] := rfl
def gv_Plant_k2_wanted (K : PySem.W.Frag) : List V → List V → List V := fun vs zs => gSel [.pos 0, .pos 1, .pos 2, .kw 0, .dfl 0] vs [.ref (He.dflAt ("Plant", some "__init__") 0 K)] zs
theorem gve_Plant_k2_wanted (K : PySem.W.Frag) (x0 : V) (x1 : V) (x2 : V) (z0 : V) : gv_Plant_k2_wanted K [x0, x1, x2] [z0] = [x0, x1, x2, z0, .ref (He.dflAt ("Plant", some "__init__") 0 K)] := rfl
def gv_View_k0_holds_sights (K : PySem.W.Frag) : List V → List V → List V := fun vs zs => gSel [.pos 0, .kw 1, .kw 0] vs [.non, .ref (He.dflAt ("View", some "__init__") 1 K)] zs
theorem gve_View_k0_holds_sights (K : PySem.W.Frag) (x0 : V) (z0 : V) (z1 : V) : gv_View_k0_holds_sights K [x0] [z0, z1] = [x0, z1, z0] := rfl
def gv_View_k0_holds (K : PySem.W.Frag) : List V → List V → List V := fun vs zs => gSel [.pos 0, .dfl 0, .kw 0] vs [.non, .ref (He.dflAt ("View", some "__init__") 1 K)] zs
theorem gve_View_k0_holds (K : PySem.W.Frag) (x0 : V) (z0 : V) : gv_View_k0_holds K [x0] [z0] = [x0, .non, z0] := rfl
def gv_View_k0_sights (K : PySem.W.Frag) : List V → List V → List V := fun vs zs => gSel [.pos 0, .kw 0, .dfl 1] vs [.non, .ref (He.dflAt ("View", some "__init__") 1 K)] zs
theorem gve_View_k0_sights (K : PySem.W.Frag) (x0 : V) (z0 : V) : gv_View_k0_sights K [x0] [z0] = [x0, z0, .ref (He.dflAt ("View", some "__init__") 1 K)] := rfl
def gv_seeing_k0_holds_words (K : PySem.W.Frag) : List V → List V → List V := fun vs zs => gSel [.kw 1, .kw 0] vs [.ref (He.dflAt ("seeing", none) 0 K)] zs
theorem gve_seeing_k0_holds_words (K : PySem.W.Frag) (z0 : V) (z1 : V) : gv_seeing_k0_holds_words K [] [z0, z1] = [z1, z0] := rfl
def gv_seeing_k0_words (K : PySem.W.Frag) : List V → List V → List V := fun vs zs => gSel [.kw 0, .dfl 0] vs [.ref (He.dflAt ("seeing", none) 0 K)] zs
theorem gve_seeing_k0_words (K : PySem.W.Frag) (z0 : V) : gv_seeing_k0_words K [] [z0] = [z0, .ref (He.dflAt ("seeing", none) 0 K)] := rfl
def gv_Guard_k0_held_moves_view (K : PySem.W.Frag) : List V → List V → List V := fun vs zs => gSel [.pos 0, .kw 2, .kw 1, .kw 0] vs [] zs
theorem gve_Guard_k0_held_moves_view (K : PySem.W.Frag) (x0 : V) (z0 : V) (z1 : V) (z2 : V) : gv_Guard_k0_held_moves_view K [x0] [z0, z1, z2] = [x0, z2, z1, z0] := rfl
local macro_rules | `(tactic| walk_at "nrm") => `(tactic| simp only [wipe, tRet, tSeq, tNext, tIfS, tAsg, gName, L2.gSub, tVar, tC, tCons, tNil, tCB, tOp, tUn, tTest, tB, tAnd, tOr, tNot, tAndV, tOrV, tNotV, tChain, tCall, tDrop, tTup, tLst, tNever, tDNewK, tDNewT, sDPut, tDGet, tDGet2, tDGet1, tDIn, tDNotIn, tSAddH, tBM, tBM0, tTru, sFldC, tFldC, tDSetd, gve_Plant_k0_barred_wanted_steps_start, gve_Plant_k2_wanted, gve_View_k0_holds_sights, gve_View_k0_holds, gve_View_k0_sights, gve_seeing_k0_holds_words, gve_seeing_k0_words, gve_Guard_k0_held_moves_view, d_Plant_d1, tMake, tMakeK, tCallN, tSl, tPart, tNoPart, tMeth, List.getElem?_cons_zero, List.getElem?_cons_succ, Option.some.injEq, exists_eq_left', List.nil_append, List.cons_append, List.append_nil, List.set_cons_zero, List.set_cons_succ, rI0, rI, rU, ipI, tAug, V.int.injEq, V.bl.injEq, V.str.injEq, V.ref.injEq, exists_eq_left, exists_and_left, decide_eq_true_eq, Bool.not_eq_true', Bool.not_eq_eq_eq_not, Bool.not_true, Bool.not_false, Bool.false_eq_true, decide_eq_false_iff_not, if_true, if_false, true_and, and_true, ite_true, ite_false, reduceCtorEq, List.cons.injEq])
def n_law : List Str := ["_law_script"]
def t_law_18 (P : Program) (w : World) (K : PySem.W.Frag) : TS :=
  (tRet (tOp (rOwnEq (He.ga K "Guard") (sp_Guard_eq P w K) false) (tMakeK (He.ga K "Guard") 0 3 (sp_Guard_init P w K) (gv_Guard_k0_held_moves_view K) E0 tNil (tCons (tVar 12) (tCons (tVar 13) (tCons (tVar 11) tNil)))) (tMake (He.ga K "Guard") (sp_Guard_init P w K) [] E0 (tCons (tVar 11) (tCons (tVar 13) (tCons (tVar 12) tNil))))))
def t_law_17 (P : Program) (w : World) (K : PySem.W.Frag) : TS :=
  (tSeq (tAsg (tCall (sp__law_arrows P w K) [] E0 (tCons (tVar 1) (tCons (tVar 9) (tCons (tCB (gLen K) (tCons (tVar 12) tNil)) tNil)))) (gName 13)) (t_law_18 P w K))
def t_law_16 (P : Program) (w : World) (K : PySem.W.Frag) : TS :=
  (tSeq (tAsg (tSl (rSlL K) (tLst (tCons (tVar 10) (tCons (tSl (rSlL K) (tVar 10) tNoPart (tPart (tC (.int 1)))) tNil))) tNoPart (tPart (tOp gAdd (tC (.int 1)) (tCall (sp__law_draw P w K) [] E0 (tCons (tVar 1) (tCons (tC (.int 2)) tNil)))))) (gName 12)) (t_law_17 P w K))
def t_law_15 (P : Program) (w : World) (K : PySem.W.Frag) : TS :=
  (tSeq (tIfS (tTest (tOp (rOwnEq (He.ga K "View") (sp_View_eq P w K) true) (tCallN 0 1 (sp_seeing P w K) (gv_seeing_k0_words K) E0 tNil (tCons (tVar 3) tNil)) (tCall (sp_seeing P w K) [] E0 (tCons (tVar 3) (tCons (tTup tNil) tNil))))) (tRet (tC (.bl false))) tNext) (t_law_16 P w K))
def t_law_14 (P : Program) (w : World) (K : PySem.W.Frag) : TS :=
  (tSeq (tIfS (tOr (tTest (tOp (rOwnEq (He.ga K "View") (sp_View_eq P w K) true) (tMakeK (He.ga K "View") 0 1 (sp_View_init P w K) (gv_View_k0_sights K) E0 tNil (tCons (tVar 9) tNil)) (tMake (He.ga K "View") (sp_View_init P w K) [] E0 (tCons (tVar 9) (tCons (tLst tNil) tNil))))) (tTest (tOp (rOwnEq (He.ga K "View") (sp_View_eq P w K) true) (tCallN 0 2 (sp_seeing P w K) (gv_seeing_k0_holds_words K) E0 tNil (tCons (tVar 10) (tCons (tVar 3) tNil))) (tCall (sp_seeing P w K) [] E0 (tCons (tVar 3) (tCons (tVar 10) tNil)))))) (tRet (tC (.bl false))) tNext) (t_law_15 P w K))
def t_law_13 (P : Program) (w : World) (K : PySem.W.Frag) : TS :=
  (tSeq (tIfS (tOr (tTest (tOp (rOwnEq (He.ga K "View") (sp_View_eq P w K) true) (tMakeK (He.ga K "View") 0 2 (sp_View_init P w K) (gv_View_k0_holds_sights K) E0 tNil (tCons (tVar 10) (tCons (tVar 9) tNil))) (tVar 11))) (tTest (tOp (rOwnEq (He.ga K "View") (sp_View_eq P w K) true) (tMakeK (He.ga K "View") 0 1 (sp_View_init P w K) (gv_View_k0_holds K) E0 tNil (tCons (tVar 10) tNil)) (tMake (He.ga K "View") (sp_View_init P w K) [] E0 (tCons tDNewK (tCons (tVar 10) tNil)))))) (tRet (tC (.bl false))) tNext) (t_law_14 P w K))
def t_law_12 (P : Program) (w : World) (K : PySem.W.Frag) : TS :=
  (tSeq (tAsg (tMake (He.ga K "View") (sp_View_init P w K) [] E0 (tCons (tVar 9) (tCons (tVar 10) tNil))) (gName 11)) (t_law_13 P w K))
def t_law_11 (P : Program) (w : World) (K : PySem.W.Frag) : TS :=
  (tSeq (tAsg (tLc (iList K (tVar 3)) (gName 16) (tTest (tOp rEq (tCall (sp__law_draw P w K) [] E0 (tCons (tVar 1) (tCons (tC (.int 2)) tNil))) (tC (.int 1)))) (tVar 16) [16]) (gName 10)) (t_law_12 P w K))
def t_law_10 (P : Program) (w : World) (K : PySem.W.Frag) : TS :=
  (tSeq (tAsg (tCall (sp__law_table P w K) [] E0 (tCons (tVar 1) (tCons (tVar 3) tNil))) (gName 9)) (t_law_11 P w K))
def t_law_9 (P : Program) (w : World) (K : PySem.W.Frag) : TS :=
  (tSeq (tIfS (tOr (tTest (tOp (rOwnEq (He.ga K "Plant") (sp_Plant_eq P w K) true) (tMakeK (He.ga K "Plant") 2 1 (sp_Plant_init P w K) (gv_Plant_k2_wanted K) E0 (tCons (tVar 2) (tCons (tVar 4) tNil)) (tCons (tVar 6) tNil)) (tMake (He.ga K "Plant") (sp_Plant_init P w K) [] E0 (tCons (tVar 2) (tCons (tVar 4) (tCons (tVar 6) (tCons (tTup tNil) tNil))))))) (tTest (tOp rNe (tOp (rOwnEq (He.ga K "Plant") (sp_Plant_eq P w K) false) (tVar 8) (tMake (He.ga K "Plant") (sp_Plant_init P w K) (d_Plant_d1 K) E0 (tCons (tVar 2) (tCons (tVar 4) (tCons (tVar 6) tNil))))) (tOp (rEqD K) (tVar 7) (tLst tNil))))) (tRet (tC (.bl false))) tNext) (t_law_10 P w K))
def t_law_8 (P : Program) (w : World) (K : PySem.W.Frag) : TS :=
  (tSeq (tIfS (tTest (tOp (rOwnEq (He.ga K "Plant") (sp_Plant_eq P w K) true) (tMakeK (He.ga K "Plant") 0 4 (sp_Plant_init P w K) (gv_Plant_k0_barred_wanted_steps_start K) E0 tNil (tCons (tVar 7) (tCons (tVar 6) (tCons (tVar 4) (tCons (tVar 2) tNil))))) (tVar 8))) (tRet (tC (.bl false))) tNext) (t_law_9 P w K))
def t_law_7 (P : Program) (w : World) (K : PySem.W.Frag) : TS :=
  (tSeq (tAsg (tMake (He.ga K "Plant") (sp_Plant_init P w K) [] E0 (tCons (tVar 2) (tCons (tVar 4) (tCons (tVar 6) (tCons (tVar 7) tNil))))) (gName 8)) (t_law_8 P w K))
def t_law_6 (P : Program) (w : World) (K : PySem.W.Frag) : TS :=
  (tSeq (tAsg (tLc (iRng1 (tCons (tCB (gLen K) (tCons (tVar 4) tNil)) tNil)) (gName 15) (tTest (tOp rEq (tOp (rIxL K) (tVar 5) (tVar 15)) (tC (.int 1)))) (tVar 15) [15]) (gName 7)) (t_law_7 P w K))
def t_law_5 (P : Program) (w : World) (K : PySem.W.Frag) : TS :=
  (tSeq (tAsg (tLc (iRng1 (tCons (tCB (gLen K) (tCons (tVar 4) tNil)) tNil)) (gName 15) (tTest (tOp rEq (tOp (rIxL K) (tVar 5) (tVar 15)) (tC (.int 0)))) (tVar 15) [15]) (gName 6)) (t_law_6 P w K))
def t_law_4 (P : Program) (w : World) (K : PySem.W.Frag) : TS :=
  (tSeq (tAsg (tLc (iList K (tVar 4)) (gName 14) tYes (tCall (sp__law_draw P w K) [] E0 (tCons (tVar 1) (tCons (tC (.int 3)) tNil))) [14]) (gName 5)) (t_law_5 P w K))
def t_law_3 (P : Program) (w : World) (K : PySem.W.Frag) : TS :=
  (tSeq (tAsg (tCall (sp__law_rows P w K) [] E0 (tCons (tVar 1) (tCons (tLc (iRng1 (tCons (tOp gAdd (tC (.int 1)) (tCall (sp__law_draw P w K) [] E0 (tCons (tVar 1) (tCons (tC (.int 4)) tNil)))) tNil)) (gName 17) tYes (tOp gAdd (tVar 2) (tVar 17)) [17]) (tCons (tVar 3) tNil)))) (gName 4)) (t_law_4 P w K))
def t_law_2 (P : Program) (w : World) (K : PySem.W.Frag) : TS :=
  (tSeq (tAsg (tOp (rIxL K) (tLst (tCons (tLst (tCons (tC (.str "go")) (tCons (tC (.str "up")) (tCons (tC (.str "low")) tNil)))) (tCons (tLst (tCons (tC (.str "b")) (tCons (tC (.str "ab")) (tCons (tC (.str "a")) tNil)))) tNil))) (tCall (sp__law_draw P w K) [] E0 (tCons (tVar 1) (tCons (tC (.int 2)) tNil)))) (gName 3)) (t_law_3 P w K))
def t_law_1 (P : Program) (w : World) (K : PySem.W.Frag) : TS :=
  (tSeq (tAsg (tCall (sp__law_draw P w K) [] E0 (tCons (tVar 1) (tCons (tC (.int 90)) tNil))) (gName 2)) (t_law_2 P w K))
def t_law_0 (P : Program) (w : World) (K : PySem.W.Frag) : TS :=
  (tSeq (tAsg (tCall (sp__law_stream P w K) [] E0 (tCons (tVar 0) (tCons (tC (.int 0)) tNil))) (gName 1)) (t_law_1 P w K))
def t_law (P : Program) (w : World) (K : PySem.W.Frag) : TS := t_law_0 P w K
abbrev S_law : List Str := ["_law_script", "_law_stream_here", "_law_base", "_law_names", "_law_rows_here", "_law_kinds", "_law_good", "_law_bad", "_law_one", "_law_table_here", "_law_grips", "_law_eye", "_law_lines", "_law_arrows_here", "_law_row", "_law_at", "_law_name", "_law_k"]
/-- what the law takes of the head -/
structure LawK (K : PySem.W.Frag) : Prop where
  op : OwnC K (He.ga K "Plant")
  ov : OwnC K (He.ga K "View")
  og : OwnC K (He.ga K "Guard")
  e1 : EmptyT K (He.dflAt ("Plant", some "__init__") 0 K)
  e2 : EmptyT K (He.dflAt ("View", some "__init__") 1 K)
  e3 : EmptyT K (He.dflAt ("seeing", none) 0 K)
section
variable {P : Program} {w : World} {K : PySem.W.Frag} {H : Hp} {Q : VK}
theorem law18 (lk : LawK K) {v m a : Addr} {t : List (Str × Str)} {c : List Str} {A : List Arr} {its : List (Addr × List Str)} {o0 o1 o2 o3 o4 o5 o6 o7 o8 o9 o10 : Option V} (g : GdArgs K H v m a t c A its) (q : ∀ H', Q (.bl true) H') :
    t_law_18 P w K { nx := fun _ H' => Q .non H', rt := Q } [o0, o1, o2, o3, o4, o5, o6, o7, o8, o9, o10, some (.ref v), some (.ref a), some (.ref m), none, none, none, none] H := by
  unfold t_law_18
  walk_at "nrm"
  refine ⟨rfl, rfl, mkGuard (w := w) lk.ov g fun H1 x s1 _ gx => mkGuard (w := w) lk.ov (g.same s1) fun H2 y s2 _ gy => eqGuard lk.ov lk.og g.tn.nd g.cnd g.and_ (fun xs hx z hz => ?_) (gx.same s2) gy (q _)⟩
  obtain ⟨p, hp, rfl⟩ := List.mem_map.mp hx
  exact ((g.iok p hp).2 z hz).1
/-- the names' list -/
structure Nm (H : Hp) (s na : Addr) (ns : List Str) : Prop where
  at_ : H na = some (.lst (strsV ns))
  ne : na ≠ s
  nd : ns.Nodup
  ok : NamesOk ns
  n3 : ns.length = 3
theorem Nm.keeps {H' : Hp} {s na : Addr} {ns : List Str} (h : Nm H s na ns) (k : Keeps H H' [s]) : Nm H' s na ns := ⟨k _ _ (by simp [h.ne]) h.at_, h.ne, h.nd, h.ok, h.n3⟩
/-- the table -/
structure Tb (H : Hp) (s tb : Addr) (t : List (Str × Str)) (ns : List Str) : Prop where
  at_ : H tb = some (.dK (strsK t))
  ne : tb ≠ s
  nd : (t.map (·.1)).Nodup
  sub : ∀ p ∈ t, p.1 ∈ ns ∧ p.2 ∈ ns
  few : t.length ≤ 3
theorem Tb.keeps {H' : Hp} {s tb : Addr} {t : List (Str × Str)} {ns : List Str} (h : Tb H s tb t ns) (k : Keeps H H' [s]) : Tb H' s tb t ns := ⟨k _ _ (by simp [h.ne]) h.at_, h.ne, h.nd, h.sub, h.few⟩
theorem Tb.names {s tb : Addr} {t : List (Str × Str)} {ns : List Str} (h : Tb H s tb t ns) (ok : NamesOk ns) : TabNames t := ⟨h.nd, fun p hp => ⟨ok _ (h.sub p hp).1, ok _ (h.sub p hp).2⟩, Nat.le_trans h.few (by decide)⟩
/-- the held words -/
structure Gr (H : Hp) (s gr : Addr) (gs : List Str) (ns : List Str) : Prop where
  at_ : H gr = some (.lst (strsV gs))
  ne : gr ≠ s
  nd : gs.Nodup
  sub : ∀ x ∈ gs, x ∈ ns
  few : gs.length ≤ 3
theorem Gr.keeps {H' : Hp} {s gr : Addr} {gs ns : List Str} (h : Gr H s gr gs ns) (k : Keeps H H' [s]) : Gr H' s gr gs ns := ⟨k _ _ (by simp [h.ne]) h.at_, h.ne, h.nd, h.sub, h.few⟩
theorem Gr.names {s gr : Addr} {gs ns : List Str} (h : Gr H s gr gs ns) (ok : NamesOk ns) : NamesOk gs := fun x hx => ok x (h.sub x hx)
theorem ViewO.keeps {H' : Hp} {s x : Addr} {t : List (Str × Str)} {c : List Str} (h : ViewO K H x t c) (st : StreamAt H s) (k : Keeps H H' [s]) : ViewO K H' x t c := by
  obtain ⟨dx, tb, cn, v⟩ := h
  obtain ⟨a, b, c, e⟩ := lst_ne st
  exact ⟨dx, tb, cn, k _ _ (by simp [ne_of v.ob e (by simp)]) v.ob, k _ _ (by simp [ne_of v.tab e (by simp)]) v.tab, k _ _ (by simp [ne_of v.can e (by simp)]) v.can⟩
/-- the lines given -/
structure Ln (H : Hp) (s a : Addr) (its : List (Addr × List Str)) (gs : List Str) : Prop where
  at_ : H a = some (.lst (refsOf its))
  ne : a ≠ s
  held : ∀ p ∈ its, H p.1 = some (.lst (strsV p.2)) ∧ p.1 ≠ s ∧ p.2.length ≤ 3 ∧ ∀ x ∈ p.2, x ∈ gs
  lo : 1 ≤ its.length
  hi : its.length ≤ 2
theorem Ln.keeps {H' : Hp} {s a : Addr} {its : List (Addr × List Str)} {gs : List Str} (h : Ln H s a its gs) (k : Keeps H H' [s]) : Ln H' s a its gs :=
  ⟨k _ _ (by simp [h.ne]) h.at_, h.ne, fun p hp => ⟨k _ _ (by simp [(h.held p hp).2.1]) (h.held p hp).1, (h.held p hp).2⟩, h.lo, h.hi⟩
theorem law17 (lk : LawK K) {s tb v a : Addr} {t : List (Str × Str)} {ns gs : List Str} {its : List (Addr × List Str)} {o0 o2 o3 o4 o5 o6 o7 o8 o10 o13 : Option V} (st : StreamAt H s) (hb : Tb H s tb t ns) (ok : NamesOk ns) (gok : NamesOk gs) (gnd : gs.Nodup) (gz : gs.length ≤ 3) (hv : ViewO K H v t gs) (hl : Ln H s a its gs) (q : ∀ H', Q (.bl true) H') :
    t_law_17 P w K { nx := fun _ H' => Q .non H', rt := Q } [o0, some (.ref s), o2, o3, o4, o5, o6, o7, o8, some (.ref tb), o10, some (.ref v), some (.ref a), o13, none, none, none, none] H := by
  unfold t_law_17
  walk_at "nrm"
  have e : (refsOf its).length = its.length := by rw [refsOf, List.length_map]
  refine len_row (.inl (.inl (.inl hl.at_))) ?_
  rw [e]
  have lo := hl.lo
  have hi := hl.hi
  refine ⟨s, tb, t, _, rfl, st, hb.ne, hb.at_, hb.few, by omega, by omega, fun H1 m A k1 st1 nm hm and_ az aok => ?_⟩
  have hl1 := hl.keeps k1
  refine law18 lk (c := gs) (t := t) (A := A) (its := its) ⟨hv.keeps st k1, hb.names ok, by have := hb.few; omega, gok, gnd, by omega, hl1.at_, fun p hp => .inl (hl1.held p hp).1, lo, by omega, fun p hp => ⟨by have := (hl1.held p hp).2.2.1; omega, fun x hx => ⟨gok x ((hl1.held p hp).2.2.2 x hx), (hl1.held p hp).2.2.2 x hx⟩⟩, hm, and_, az, fun x hx => ?_⟩ q
  obtain ⟨h1, h2, h3, h4, h5⟩ := aok x hx
  refine ⟨h1, h2, ?_, h3, h4, h5⟩
  obtain ⟨p, hp, e⟩ := List.mem_map.mp h3
  rw [← e]
  exact ok _ (hb.sub p hp).2
theorem cut1 (gs : List Str) (h : gs.length ≤ 3) : cutV (strsV gs) none (some 1) = strsV (gs.take 1) := by
  match gs, h with
  | [], _ => rfl
  | [_], _ => rfl
  | [_, _], _ => rfl
  | [_, _, _], _ => rfl
  | _ :: _ :: _ :: _ :: _, h => simp at h
theorem law16 (lk : LawK K) {s tb gr v : Addr} {t : List (Str × Str)} {ns gs : List Str} {o0 o2 o3 o4 o5 o6 o7 o8 o12 o13 : Option V} (st : StreamAt H s) (hb : Tb H s tb t ns) (ok : NamesOk ns) (hg : Gr H s gr gs ns) (hv : ViewO K H v t gs) (q : ∀ H', Q (.bl true) H') :
    t_law_16 P w K { nx := fun _ H' => Q .non H', rt := Q } [o0, some (.ref s), o2, o3, o4, o5, o6, o7, o8, some (.ref tb), some (.ref gr), some (.ref v), o12, o13, none, none, none, none] H := by
  unfold t_law_16
  walk_at "nrm"
  refine ⟨gr, strsV gs, rfl, .inl (.inl hg.at_), fun c hc => ?_⟩
  rw [cut1 gs hg.few]
  have s1 : Same H (upd H c (.lst (strsV (gs.take 1)))) := same_new hc
  have c1 : upd H c (HO.lst (strsV (gs.take 1))) c = some (.lst (strsV (gs.take 1))) := upd_same
  generalize upd H c (HO.lst (strsV (gs.take 1))) = H1 at s1 c1 ⊢
  obtain ⟨a0, b0, c0, hs0⟩ := lst_ne st
  refine ⟨(show 2 ≤ sizeLine by rw [sizeLine_eq]; decide), fun l hl => ?_⟩
  have s2 : Same H1 (upd H1 l (.lst [.ref gr, .ref c])) := same_new hl
  have l2 : upd H1 l (HO.lst [V.ref gr, V.ref c]) l = some (.lst [.ref gr, .ref c]) := upd_same
  generalize upd H1 l (HO.lst [V.ref gr, V.ref c]) = H2 at s2 l2 ⊢
  have st2 : StreamAt H2 s := by
    obtain ⟨a, b, c, e, e2⟩ := st
    exact ⟨a, b, c, s2 _ _ (s1 _ _ e), e2⟩
  have k02 : Keeps H H2 [s] := fun b o _ e => s2 _ _ (s1 _ _ e)
  have cs : c ≠ s := Ne.symm (ne_of_none hs0 hc)
  have ls : l ≠ s := Ne.symm (ne_of_none (s1 _ _ hs0) hl)
  refine ⟨s, _, rfl, st2, by omega, by omega, fun H3 r k3 st3 r0 r1 => ⟨_, rfl, l, _, rfl, .inl (.inl (k3 _ _ (by simp [ls]) l2)), fun a ha => ?_⟩⟩
  obtain ⟨a3, b3, c3, hs3⟩ := lst_ne st3
  have as : a ≠ s := Ne.symm (ne_of_none hs3 ha)
  have k03 := Keeps.trans k02 k3
  have hg3 := (hg.keeps k03)
  have hc3 := k3 _ _ (by simp [cs]) (s2 _ _ c1)
  have hv3 : ViewO K H3 v t gs := (hv.same (s1.trans s2)).keeps st2 k3
  have hb3 := hb.keeps k03
  have fin : ∀ its : List (Addr × List Str), (∀ p ∈ its, H3 p.1 = some (.lst (strsV p.2)) ∧ p.1 ≠ s ∧ p.2.length ≤ 3 ∧ ∀ x ∈ p.2, x ∈ gs) → 1 ≤ its.length → its.length ≤ 2 → t_law_17 P w K { nx := fun _ H' => Q .non H', rt := Q } [o0, some (.ref s), o2, o3, o4, o5, o6, o7, o8, some (.ref tb), some (.ref gr), some (.ref v), some (.ref a), o13, none, none, none, none] (upd H3 a (.lst (refsOf its))) := fun its hi lo hi2 => by
    have s4 : Same H3 (upd H3 a (.lst (refsOf its))) := same_new ha
    have st4 : StreamAt (upd H3 a (.lst (refsOf its))) s := by
      obtain ⟨a, b, c, e, e2⟩ := st3
      exact ⟨a, b, c, s4 _ _ e, e2⟩
    exact law17 lk (gs := gs) (its := its) (t := t) (ns := ns) st4 (hb3.keeps (Same.keeps s4 _)) ok (hg.names ok) hg.nd hg.few (hv3.same s4) ⟨upd_same, as, fun p hp => ⟨s4 _ _ (hi p hp).1, (hi p hp).2⟩, lo, hi2⟩ q
  have g1 : H3 gr = some (.lst (strsV gs)) ∧ gr ≠ s ∧ gs.length ≤ 3 ∧ ∀ x ∈ gs, x ∈ gs := ⟨hg3.at_, hg.ne, hg.few, fun x h => h⟩
  have g2 : H3 c = some (.lst (strsV (gs.take 1))) ∧ c ≠ s ∧ (gs.take 1).length ≤ 3 ∧ ∀ x ∈ gs.take 1, x ∈ gs := ⟨hc3, cs, by rw [List.length_take]; omega, fun x h => List.mem_of_mem_take h⟩
  by_cases hr : r = 0
  · subst hr
    exact fin [(gr, gs)] (fun p hp => by rw [List.mem_singleton.mp hp]; exact g1) (by simp) (by simp)
  · have hr : r = 1 := by omega
    subst hr
    refine fin [(gr, gs), (c, gs.take 1)] (fun p hp => ?_) (by simp) (by simp)
    rcases List.mem_cons.mp hp with e | e
    · rw [e]; exact g1
    · rw [List.mem_singleton.mp e]; exact g2
theorem st_same {H' : Hp} {s : Addr} (k : Same H H') (h : StreamAt H s) : StreamAt H' s := by
  obtain ⟨a, b, c, e, e2⟩ := h
  exact ⟨a, b, c, k _ _ e, e2⟩
theorem law15 (lk : LawK K) {s na tb gr v : Addr} {t : List (Str × Str)} {ns gs : List Str} {o0 o2 o4 o5 o6 o7 o8 o12 o13 : Option V} (st : StreamAt H s) (hn : Nm H s na ns) (hb : Tb H s tb t ns) (hg : Gr H s gr gs ns) (hv : ViewO K H v t gs) (q : ∀ H', Q (.bl true) H') :
    t_law_15 P w K { nx := fun _ H' => Q .non H', rt := Q } [o0, some (.ref s), o2, some (.ref na), o4, o5, o6, o7, o8, some (.ref tb), some (.ref gr), some (.ref v), o12, o13, none, none, none, none] H := by
  unfold t_law_15
  walk_at "nrm"
  have n3 : ns.length ≤ 1000 := by have := hn.n3; omega
  have sn : ((selfT ns).map (·.1)).Nodup := by
    rw [selfT, List.map_map, show ((fun x : Str × Str => x.1) ∘ fun x : Str => (x, x)) = id from rfl, List.map_id]
    exact (dedupS_facts ns).1
  refine ⟨rfl, rfl, mkSeeing (.inl hn.at_) hn.ok n3 (.inr (.inr ⟨lk.e3, rfl⟩)) (hs := []) (fun x h => by cases h) (by decide) fun H1 x s1 _ vx => ⟨(show 0 ≤ sizeLine from Nat.zero_le _), fun p hp => ?_⟩⟩
  have s2 : Same H1 (upd H1 p (.tup [])) := same_new hp
  have p2 : upd H1 p (HO.tup []) p = some (.tup []) := upd_same
  generalize upd H1 p (HO.tup []) = H2 at s2 p2 ⊢
  refine mkSeeing (.inl (s2 _ _ (s1 _ _ hn.at_))) hn.ok n3 (.inr (.inl p2)) (hs := []) (fun x h => by cases h) (by decide) fun H3 y s3 _ vy => eqView lk.ov sn (by decide) (vx.same (s2.trans s3)) vy ⟨_, rfl, iteN (by decide) ?_⟩
  have s03 : Same H H3 := (s1.trans s2).trans s3
  exact law16 lk (t := t) (ns := ns) (gs := gs) (st_same s03 st) (hb.keeps (Same.keeps s03 _)) hn.ok (hg.keeps (Same.keeps s03 _)) (hv.same s03) q
theorem law14 (lk : LawK K) {s na tb gr v : Addr} {t : List (Str × Str)} {ns gs : List Str} {o0 o2 o4 o5 o6 o7 o8 o12 o13 : Option V} (st : StreamAt H s) (hn : Nm H s na ns) (hb : Tb H s tb t ns) (hg : Gr H s gr gs ns) (hv : ViewO K H v t gs) (q : ∀ H', Q (.bl true) H') :
    t_law_14 P w K { nx := fun _ H' => Q .non H', rt := Q } [o0, some (.ref s), o2, some (.ref na), o4, o5, o6, o7, o8, some (.ref tb), some (.ref gr), some (.ref v), o12, o13, none, none, none, none] H := by
  unfold t_law_14
  walk_at "nrm"
  have n3 : ns.length ≤ 1000 := by have := hn.n3; omega
  have g3 : gs.length ≤ 1000 := by have := hg.few; omega
  have tn := hb.names hn.ok
  have sn : ((selfT ns).map (·.1)).Nodup := by
    rw [selfT, List.map_map, show ((fun x : Str × Str => x.1) ∘ fun x : Str => (x, x)) = id from rfl, List.map_id]
    exact (dedupS_facts ns).1
  refine ⟨rfl, rfl, mkView (ws := []) (.inr ⟨_, rfl, hb.at_, tn⟩) (.inr (.inr ⟨lk.e2, rfl⟩)) (fun x h => by cases h) (by decide) fun H1 x s1 _ vx => ⟨(show 0 ≤ sizeLine from Nat.zero_le _), fun p hp => ?_⟩⟩
  have s2 : Same H1 (upd H1 p (.lst [])) := same_new hp
  have p2 : upd H1 p (HO.lst []) p = some (.lst []) := upd_same
  generalize upd H1 p (HO.lst []) = H2 at s2 p2 ⊢
  refine mkView (ws := []) (.inr ⟨_, rfl, s2 _ _ (s1 _ _ hb.at_), tn⟩) (.inl p2) (fun x h => by cases h) (by decide) fun H3 y s3 _ vy => eqView lk.ov tn.nd (by decide) (vx.same (s2.trans s3)) vy ⟨_, rfl, iteN (by decide) ?_⟩
  have s03 : Same H H3 := (s1.trans s2).trans s3
  refine ⟨rfl, rfl, mkSeeing (.inl (s03 _ _ hn.at_)) hn.ok n3 (.inl (s03 _ _ hg.at_)) (hg.names hn.ok) g3 fun H4 x4 s4 _ v4 => mkSeeing (.inl (s4 _ _ (s03 _ _ hn.at_))) hn.ok n3 (.inl (s4 _ _ (s03 _ _ hg.at_))) (hg.names hn.ok) g3 fun H5 x5 s5 _ v5 => eqView lk.ov sn (dedupS_facts gs).1 (v4.same s5) v5 ⟨_, rfl, iteN (by decide) ?_⟩⟩
  have s05 : Same H H5 := (s03.trans s4).trans s5
  exact law15 lk (t := t) (ns := ns) (gs := gs) (st_same s05 st) (hn.keeps (Same.keeps s05 _)) (hb.keeps (Same.keeps s05 _)) (hg.keeps (Same.keeps s05 _)) (hv.same s05) q
theorem law13 (lk : LawK K) {s na tb gr v : Addr} {t : List (Str × Str)} {ns gs : List Str} {o0 o2 o4 o5 o6 o7 o8 o12 o13 : Option V} (st : StreamAt H s) (hn : Nm H s na ns) (hb : Tb H s tb t ns) (hg : Gr H s gr gs ns) (hv : ViewO K H v t gs) (q : ∀ H', Q (.bl true) H') :
    t_law_13 P w K { nx := fun _ H' => Q .non H', rt := Q } [o0, some (.ref s), o2, some (.ref na), o4, o5, o6, o7, o8, some (.ref tb), some (.ref gr), some (.ref v), o12, o13, none, none, none, none] H := by
  unfold t_law_13
  walk_at "nrm"
  have g3 : gs.length ≤ 1000 := by have := hg.few; omega
  have tn := hb.names hn.ok
  have gn := hg.names hn.ok
  refine ⟨rfl, rfl, mkView (.inr ⟨_, rfl, hb.at_, tn⟩) (.inl hg.at_) gn g3 fun H1 x s1 _ vx => eqView lk.ov tn.nd hg.nd (by rw [dedupS_id hg.nd] at vx; exact vx) (hv.same s1) ⟨_, rfl, iteN (by decide) ?_⟩⟩
  refine ⟨rfl, rfl, mkView (.inl ⟨rfl, rfl⟩) (.inl (s1 _ _ hg.at_)) gn g3 fun H2 x2 s2 _ v2 p hp => ?_⟩
  have s3 : Same H2 (upd H2 p (.dK [])) := same_new hp
  have p3 : upd H2 p (HO.dK []) p = some (.dK (strsK [])) := upd_same
  generalize upd H2 p (HO.dK []) = H3 at s3 p3 ⊢
  refine mkView (t := []) (.inr ⟨_, rfl, p3, ⟨List.nodup_nil, fun p h => (by cases h), by decide⟩⟩) (.inl (s3 _ _ (s2 _ _ (s1 _ _ hg.at_)))) gn g3 fun H4 x4 s4 _ v4 => eqView (t := []) lk.ov List.nodup_nil (dedupS_facts gs).1 (v2.same (s3.trans s4)) v4 ⟨_, rfl, iteN (by decide) ?_⟩
  have s04 : Same H H4 := ((s1.trans s2).trans s3).trans s4
  exact law14 lk (t := t) (ns := ns) (gs := gs) (st_same s04 st) (hn.keeps (Same.keeps s04 _)) (hb.keeps (Same.keeps s04 _)) (hg.keeps (Same.keeps s04 _)) (hv.same s04) q
theorem law12 (lk : LawK K) {s na tb gr : Addr} {t : List (Str × Str)} {ns gs : List Str} {o0 o2 o4 o5 o6 o7 o8 o11 o12 o13 : Option V} (st : StreamAt H s) (hn : Nm H s na ns) (hb : Tb H s tb t ns) (hg : Gr H s gr gs ns) (q : ∀ H', Q (.bl true) H') :
    t_law_12 P w K { nx := fun _ H' => Q .non H', rt := Q } [o0, some (.ref s), o2, some (.ref na), o4, o5, o6, o7, o8, some (.ref tb), some (.ref gr), o11, o12, o13, none, none, none, none] H := by
  unfold t_law_12
  walk_at "nrm"
  refine mkView (.inr ⟨_, rfl, hb.at_, hb.names hn.ok⟩) (.inl hg.at_) (hg.names hn.ok) (by have := hg.few; omega) fun H1 x s1 _ vx => ?_
  rw [dedupS_id hg.nd] at vx
  exact law13 lk (t := t) (ns := ns) (gs := gs) (st_same s1 st) (hn.keeps (Same.keeps s1 _)) (hb.keeps (Same.keeps s1 _)) (hg.keeps (Same.keeps s1 _)) vx q
end
end LG
end

section
set_option maxHeartbeats 4000000
namespace LG
open PySem PySem.Spec PyProof.Rows L2
local macro_rules | `(tactic| walk_at "nrm") => `(tactic| simp only [wipe, tRet, tSeq, tNext, tIfS, tAsg, gName, L2.gSub, tVar, tC, tCons, tNil, tCB, tOp, tUn, tTest, tB, tAnd, tOr, tNot, tAndV, tOrV, tNotV, tChain, tCall, tDrop, tTup, tLst, tNever, tDNewK, tDNewT, sDPut, tDGet, tDGet2, tDGet1, tDIn, tDNotIn, tSAddH, tBM, tBM0, tTru, sFldC, tFldC, tDSetd, gve_Plant_k0_barred_wanted_steps_start, gve_Plant_k2_wanted, gve_View_k0_holds_sights, gve_View_k0_holds, gve_View_k0_sights, gve_seeing_k0_holds_words, gve_seeing_k0_words, gve_Guard_k0_held_moves_view, d_Plant_d1, tMake, tMakeK, tCallN, tSl, tPart, tNoPart, tMeth, List.getElem?_cons_zero, List.getElem?_cons_succ, Option.some.injEq, exists_eq_left', List.nil_append, List.cons_append, List.append_nil, List.set_cons_zero, List.set_cons_succ, rI0, rI, rU, ipI, tAug, V.int.injEq, V.bl.injEq, V.str.injEq, V.ref.injEq, exists_eq_left, exists_and_left, decide_eq_true_eq, Bool.not_eq_true', Bool.not_eq_eq_eq_not, Bool.not_true, Bool.not_false, Bool.false_eq_true, decide_eq_false_iff_not, if_true, if_false, true_and, and_true, ite_true, ite_false, reduceCtorEq, List.cons.injEq])
/-- [.. for x in range(e)] -/
theorem tLc_rng {ta : TA} {g : TG} {tt : TT} {te : TE} {vs : List Nat} {σ : L2.St} {H : Hp} {Q : VK} (Ph : Int → Hp → Prop) (he : ∀ R : List V → Hp → Prop, (∀ n H1, Ph n H1 → R [.int n] H1) → ta σ H R)
    (h : ∀ n H1, Ph n H1 → (0 ≤ n ∧ n < 1000) ∧ ∀ D, H1 D = none → ∃ Pv : Nat → Hp → Prop, Pv 0 (upd H1 D (.lst [])) ∧
      (∀ i H', i < n.toNat → Pv i H' → g (.int (i : Nat)) (wipe σ vs) H' fun σ2 H2 => wipe σ2 vs = wipe σ vs ∧ tt σ2 H2 fun b H3 => if b = true then te σ2 H3 fun y H4 => ∃ acc, H4 D = some (.lst acc) ∧ acc.length < sizeLine ∧ Pv (i + 1) (upd H4 D (.lst (acc ++ [y]))) else Pv (i + 1) H3) ∧
      (∀ H', Pv n.toNat H' → Q (.ref D) H')) : tLc (iRng1 ta) g tt te vs σ H Q := by
  unfold tLc iRng1
  refine he _ fun n H1 hp => ?_
  obtain ⟨hn, h⟩ := h n H1 hp
  refine ⟨n, rfl, by omega, by omega, fun D hD => ?_⟩
  obtain ⟨Pv, h0, h2, h3⟩ := h D hD
  exact lc_it walk_range Pv h0 (fun _ _ _ _ => trivial) (fun i x H' H2 hi p y => by
    obtain ⟨rfl, hx⟩ := y
    have e : x = .int (i : Nat) := by rw [hx]; show V.int (0 + (i : Nat)) = _; rw [Int.zero_add]
    subst e
    exact h2 i _ hi p) h3
/-- [.. for x in xs], xs a list that stands in a name -/
theorem tLc_list {K : PySem.W.Frag} {i : Nat} {g : TG} {tt : TT} {te : TE} {vs : List Nat} {σ : L2.St} {H : Hp} {Q : VK} {a : Addr} {xs : List V} (e : σ[i]? = some (some (.ref a))) (hq : H a = some (.lst xs))
    (h : ∀ D, H D = none → ∃ Pv : Nat → Hp → Prop, Pv 0 (upd H D (.lst [])) ∧ (∀ i H', Pv i H' → H' a = some (.lst xs)) ∧
      (∀ i x H', xs[i]? = some x → Pv i H' → g x (wipe σ vs) H' fun σ2 H2 => wipe σ2 vs = wipe σ vs ∧ tt σ2 H2 fun b H3 =>
        if b = true then te σ2 H3 fun y H4 => ∃ acc, H4 D = some (.lst acc) ∧ acc.length < sizeLine ∧ Pv (i + 1) (upd H4 D (.lst (acc ++ [y]))) else Pv (i + 1) H3) ∧
      (∀ H', Pv xs.length H' → Q (.ref D) H')) : tLc (iList K (tVar i)) g tt te vs σ H Q := by
  unfold tLc iList tVar
  refine ⟨_, e, a, rfl, ⟨xs, .inl (.inl hq)⟩, fun D hD => ?_⟩
  obtain ⟨Pv, h0, h1, h2, h3⟩ := h D hD
  exact lc_it walk_list Pv h0 (fun i H' _ p => .inl (.inl (h1 i H' p))) (fun i x H' H2 hi p y => by obtain ⟨rfl, hx⟩ := y; exact h2 i x _ hx p) h3
section
variable {P : Program} {w : World} {K : PySem.W.Frag} {H : Hp} {Q : VK}
theorem law11 (lk : LawK K) {s na tb : Addr} {t : List (Str × Str)} {ns : List Str} {o0 o2 o4 o5 o6 o7 o8 o10 o11 o12 o13 : Option V} (st : StreamAt H s) (hn : Nm H s na ns) (hb : Tb H s tb t ns) (q : ∀ H', Q (.bl true) H') :
    t_law_11 P w K { nx := fun _ H' => Q .non H', rt := Q } [o0, some (.ref s), o2, some (.ref na), o4, o5, o6, o7, o8, some (.ref tb), o10, o11, o12, o13, none, none, none, none] H := by
  unfold t_law_11
  walk_at "nrm"
  obtain ⟨a0, b0, c0, hs0⟩ := lst_ne st
  refine tLc_list rfl hn.at_ fun D hD => ?_
  have ds : D ≠ s := Ne.symm (ne_of_none hs0 hD)
  have nad : na ≠ D := ne_of_none hn.at_ hD
  refine ⟨fun i H' => Keeps H H' [s] ∧ StreamAt H' s ∧ ∃ gs, H' D = some (.lst (strsV gs)) ∧ gs.Nodup ∧ (∀ x ∈ gs, x ∈ ns.take i) ∧ gs.length ≤ i, ⟨fun b o _ e => by rw [upd_ne (ne_of_none e hD)]; exact e, ?_, [], upd_same, List.nodup_nil, fun x h => (by cases h), Nat.le_refl _⟩, fun i H' p => p.1 _ _ (by simp [hn.ne]) hn.at_, ?_, ?_⟩
  · obtain ⟨a, b, c, e, e2⟩ := st
    exact ⟨a, b, c, by rw [upd_ne (Ne.symm ds)]; exact e, e2⟩
  · rintro i x H' hx ⟨k1, st1, gs, hg, gnd, gsub, gz⟩
    obtain ⟨y, hy, rfl⟩ := strs_get hx
    refine ⟨rfl, ?_⟩
    walk_at "nrm"
    refine ⟨s, _, rfl, st1, by omega, by omega, fun H2 r k2 st2 r0 r1 => ?_⟩
    have k12 := Keeps.trans k1 k2
    have hg2 := k2 _ _ (by simp [ds]) hg
    have i3 : i < 3 := by
      obtain ⟨z, _⟩ := List.getElem?_eq_some_iff.mp hy
      have := hn.n3
      omega
    refine ⟨rfl, _, rfl, ?_⟩
    by_cases hr : r = 1
    · subst hr
      refine iteY (by decide) ⟨strsV gs, hg2, small1000 (by rw [strsV, List.length_map]; omega), fun b o nb e => by rw [upd_ne (ne_of_none e hD)]; exact k12 b o nb e, ?_, gs ++ [y], ?_, ?_, ?_, ?_⟩
      · obtain ⟨a, b, c, e, e2⟩ := st2
        exact ⟨a, b, c, by rw [upd_ne (Ne.symm ds)]; exact e, e2⟩
      · rw [upd_same]; simp [strsV]
      · exact List.nodup_append.mpr ⟨gnd, by simp, fun a ha b hb => by rw [List.mem_singleton.mp hb]; exact fun z => fresh_take hn.nd hy (gsub _ (by rw [z] at ha; exact ha))⟩
      · intro x hx
        rcases List.mem_append.mp hx with h | h
        · exact mem_take_succ (gsub x h)
        · rw [List.mem_singleton.mp h, take_succ_get hy]; simp
      · rw [List.length_append]; simp; omega
    · exact iteN (by simp [hr]) ⟨k12, st2, gs, hg2, gnd, fun x hx => mem_take_succ (gsub x hx), by omega⟩
  · rintro H' ⟨k1, st1, gs, hg, gnd, gsub, gz⟩
    have e : (strsV ns).length = 3 := by rw [strsV, List.length_map]; exact hn.n3
    exact law12 lk (t := t) (ns := ns) (gs := gs) st1 (hn.keeps k1) (hb.keeps k1) ⟨hg, ds, gnd, fun x hx => List.mem_of_mem_take (gsub x hx), by omega⟩ q
theorem law10 (lk : LawK K) {s na : Addr} {ns : List Str} {o0 o2 o4 o5 o6 o7 o8 o9 o10 o11 o12 o13 : Option V} (st : StreamAt H s) (hn : Nm H s na ns) (q : ∀ H', Q (.bl true) H') :
    t_law_10 P w K { nx := fun _ H' => Q .non H', rt := Q } [o0, some (.ref s), o2, some (.ref na), o4, o5, o6, o7, o8, o9, o10, o11, o12, o13, none, none, none, none] H := by
  unfold t_law_10
  walk_at "nrm"
  obtain ⟨a0, b0, c0, hs0⟩ := lst_ne st
  exact ⟨s, na, ns, rfl, st, hn.ne, hn.at_, hn.nd, hn.n3, fun H1 d t k1 st1 nd hd tnd tsub tz => law11 lk (t := t) (ns := ns) st1 (hn.keeps k1) ⟨hd, Ne.symm (ne_of_none hs0 nd), tnd, tsub, tz⟩ q⟩
theorem ints_dp {H : Hp} : ∀ ns : List Int, DpAll K H (intsV ns) (ns.map .int)
  | [] => .nil
  | n :: ns => .cons (.int n) (ints_dp ns)
theorem eqv_ints0 (bn : List Int) : PyData.eqv (.list (bn.map .int)) (.list []) = decide (bn = []) := by
  cases bn <;> rfl
theorem shaped_ints (l : List Int) : SeqAt.shaped (.list (l.map .int)) = true := by
  have c0 : PyData.canLayAll0 (l.map .int) = true := by
    induction l with
    | nil => rfl
    | cons x l ih => simp [PyData.canLayAll0, PyData.canLay0, ih]
  have d0 : PyData.depthAll (l.map .int) = 0 := by
    induction l with
    | nil => rfl
    | cons x l ih =>
      show max 0 (PyData.depthAll (l.map .int)) = 0
      rw [ih (by simpa [PyData.canLayAll0, PyData.canLay0] using c0)]; rfl
  simp only [SeqAt.shaped, Bool.and_eq_true, decide_eq_true_eq, PyData.canLay0, PyData.depth]
  exact ⟨c0, decide_eq_true (by omega)⟩
theorem law9 (lk : LawK K) {s na ra ga ba x : Addr} {base : Int} {ns : List Str} {L : List (Addr × Row)} {gn bn : List Int} {o0 o5 o9 o10 o11 o12 o13 : Option V} (st : StreamAt H s) (hn : Nm H s na ns) (pa : PlArgs H base ra L) (hg : H ga = some (.lst (intsV gn))) (hb : H ba = some (.lst (intsV bn))) (mk : MarksOk L.length gn bn) (hx : PlantO K H x base L gn bn) (q : ∀ H', Q (.bl true) H') :
    t_law_9 P w K { nx := fun _ H' => Q .non H', rt := Q } [o0, some (.ref s), some (.int base), some (.ref na), some (.ref ra), o5, some (.ref ga), some (.ref ba), some (.ref x), o9, o10, o11, o12, o13, none, none, none, none] H := by
  unfold t_law_9
  walk_at "nrm"
  have ok := pa.ok.ok
  refine ⟨rfl, rfl, mkPlant pa (.inl hg) (.inr (.inr ⟨lk.e1, rfl⟩)) (bn := []) mk.zero fun H1 y s1 _ hy => ⟨(show 0 ≤ sizeLine from Nat.zero_le _), fun p hp => ?_⟩⟩
  have s2 : Same H1 (upd H1 p (.tup [])) := same_new hp
  have p2 : upd H1 p (HO.tup []) p = some (.tup (intsV [])) := upd_same
  generalize upd H1 p (HO.tup []) = H2 at s2 p2 ⊢
  have s02 : Same H H2 := s1.trans s2
  refine mkPlant (pa.same s02) (.inl (s02 _ _ hg)) (.inr (.inl p2)) mk.zero fun H3 z s3 _ hz => eqPlant lk.op ok (hy.same (s2.trans s3)) hz ⟨_, rfl, iteN ?_ ?_⟩
  · rw [same_plant mk.wnd List.nodup_nil]; decide
  have s03 : Same H H3 := s02.trans s3
  refine mkPlant (pa.same s03) (.inl (s03 _ _ hg)) (.inr (.inr ⟨lk.e1, rfl⟩)) (bn := []) mk.zero fun H4 z4 s4 _ h4 => eqPlant lk.op ok (hx.same (s03.trans s4)) h4 ?_
  rw [same_plant0 mk.wnd]
  refine ⟨Nat.zero_le _, fun l hl => ?_⟩
  have s5 : Same H4 (upd H4 l (.lst [])) := same_new hl
  have l5 : upd H4 l (HO.lst []) l = some (.lst []) := upd_same
  generalize upd H4 l (HO.lst []) = H5 at s5 l5 ⊢
  have s05 : Same H H5 := (s03.trans s4).trans s5
  refine ⟨.list (bn.map .int), .list [], .lst (.inl (.inl (s05 _ _ hb))) (ints_dp bn), .lst (.inl (.inl l5)) .nil, shaped_ints bn, by decide, ?_⟩
  rw [eqv_ints0]
  refine ⟨rfl, _, rfl, iteN (by simp) ?_⟩
  exact law10 lk (ns := ns) (st_same s05 st) (hn.keeps (Same.keeps s05 _)) q
theorem law8 (lk : LawK K) {s na ra ga ba x : Addr} {base : Int} {ns : List Str} {L : List (Addr × Row)} {gn bn : List Int} {o0 o5 o9 o10 o11 o12 o13 : Option V} (st : StreamAt H s) (hn : Nm H s na ns) (pa : PlArgs H base ra L) (hg : H ga = some (.lst (intsV gn))) (hb : H ba = some (.lst (intsV bn))) (mk : MarksOk L.length gn bn) (hx : PlantO K H x base L gn bn) (q : ∀ H', Q (.bl true) H') :
    t_law_8 P w K { nx := fun _ H' => Q .non H', rt := Q } [o0, some (.ref s), some (.int base), some (.ref na), some (.ref ra), o5, some (.ref ga), some (.ref ba), some (.ref x), o9, o10, o11, o12, o13, none, none, none, none] H := by
  unfold t_law_8
  walk_at "nrm"
  refine ⟨rfl, rfl, mkPlant pa (.inl hg) (.inl hb) mk fun H1 y s1 _ hy => eqPlant lk.op pa.ok.ok hy (hx.same s1) ⟨_, rfl, iteN ?_ ?_⟩⟩
  · rw [same_plant mk.wnd mk.bnd]; decide
  exact law9 lk (ns := ns) (L := L) (st_same s1 st) (hn.keeps (Same.keeps s1 _)) (pa.same s1) (s1 _ _ hg) (s1 _ _ hb) mk (hx.same s1) q
theorem law7 (lk : LawK K) {s na ra ga ba : Addr} {base : Int} {ns : List Str} {L : List (Addr × Row)} {gn bn : List Int} {o0 o5 o8 o9 o10 o11 o12 o13 : Option V} (st : StreamAt H s) (hn : Nm H s na ns) (pa : PlArgs H base ra L) (hg : H ga = some (.lst (intsV gn))) (hb : H ba = some (.lst (intsV bn))) (mk : MarksOk L.length gn bn) (q : ∀ H', Q (.bl true) H') :
    t_law_7 P w K { nx := fun _ H' => Q .non H', rt := Q } [o0, some (.ref s), some (.int base), some (.ref na), some (.ref ra), o5, some (.ref ga), some (.ref ba), o8, o9, o10, o11, o12, o13, none, none, none, none] H := by
  unfold t_law_7
  walk_at "nrm"
  exact mkPlant pa (.inl hg) (.inl hb) mk fun H1 y s1 _ hy => law8 lk (ns := ns) (L := L) (st_same s1 st) (hn.keeps (Same.keeps s1 _)) (pa.same s1) (s1 _ _ hg) (s1 _ _ hb) mk hy q
end
end LG
end

section
set_option maxHeartbeats 4000000
namespace LG
open PySem PySem.Spec PyProof.Rows L2
local macro_rules | `(tactic| walk_at "nrm") => `(tactic| simp only [wipe, tRet, tSeq, tNext, tIfS, tAsg, gName, L2.gSub, tVar, tC, tCons, tNil, tCB, tOp, tUn, tTest, tB, tAnd, tOr, tNot, tAndV, tOrV, tNotV, tChain, tCall, tDrop, tTup, tLst, tNever, tDNewK, tDNewT, sDPut, tDGet, tDGet2, tDGet1, tDIn, tDNotIn, tSAddH, tBM, tBM0, tTru, sFldC, tFldC, tDSetd, gve_Plant_k0_barred_wanted_steps_start, gve_Plant_k2_wanted, gve_View_k0_holds_sights, gve_View_k0_holds, gve_View_k0_sights, gve_seeing_k0_holds_words, gve_seeing_k0_words, gve_Guard_k0_held_moves_view, d_Plant_d1, tMake, tMakeK, tCallN, tSl, tPart, tNoPart, tMeth, List.getElem?_cons_zero, List.getElem?_cons_succ, Option.some.injEq, exists_eq_left', List.nil_append, List.cons_append, List.append_nil, List.set_cons_zero, List.set_cons_succ, rI0, rI, rU, ipI, tAug, V.int.injEq, V.bl.injEq, V.str.injEq, V.ref.injEq, exists_eq_left, exists_and_left, decide_eq_true_eq, Bool.not_eq_true', Bool.not_eq_eq_eq_not, Bool.not_true, Bool.not_false, Bool.false_eq_true, decide_eq_false_iff_not, if_true, if_false, true_and, and_true, ite_true, ite_false, reduceCtorEq, List.cons.injEq])
section
variable {P : Program} {w : World} {K : PySem.W.Frag} {H : Hp} {Q : VK}
/-- the rows of the law -/
structure Rw (H : Hp) (s ra : Addr) (L : List (Addr × Row)) (ns : List Str) : Prop where
  at_ : H ra = some (.lst (refsOf L))
  ne : ra ≠ s
  rows : RowsAt H L
  nd : (L.map (·.2)).Nodup
  lo : 1 ≤ L.length
  hi : L.length ≤ 8
  ok : ∀ p ∈ L, rowOk p.2 = true ∧ p.2.2.1 ∈ ns
theorem Rw.keeps {H' : Hp} {s ra : Addr} {L : List (Addr × Row)} {ns : List Str} (h : Rw H s ra L ns) (st : StreamAt H s) (k : Keeps H H' [s]) : Rw H' s ra L ns := by
  obtain ⟨a, b, c, e⟩ := lst_ne st
  exact ⟨k _ _ (by simp [h.ne]) h.at_, h.ne, fun p hp => k _ _ (by simp [ne_of (h.rows p hp) e (by simp)]) (h.rows p hp), h.nd, h.lo, h.hi, h.ok⟩
theorem Rw.args {s ra : Addr} {L : List (Addr × Row)} {ns : List Str} (h : Rw H s ra L ns) (n3 : ns.length = 3) {base : Int} (b : stOk base = true) : PlArgs H base ra L :=
  ⟨b, h.at_, h.rows, ⟨by rw [List.length_map]; exact h.lo, by rw [List.length_map]; have := h.hi; omega, fun r hr => by obtain ⟨p, hp, rfl⟩ := List.mem_map.mp hr; exact (h.ok p hp).1, h.nd,
    fun s => by
      have z := List.countP_le_length (p := fun r : Row => decide (r.1 = s)) (l := L.map (·.2))
      rw [List.length_map] at z
      exact Nat.le_trans z h.hi⟩, ns, by omega, fun v hv => by
    obtain ⟨r, hr, rfl⟩ := List.mem_map.mp hv
    obtain ⟨p, hp, rfl⟩ := List.mem_map.mp hr
    exact (h.ok p hp).2⟩
theorem ints_get {ns : List Int} {i : Nat} {x : V} (hx : (intsV ns)[i]? = some x) : ∃ y, ns[i]? = some y ∧ x = .int y := by
  rw [intsV, List.getElem?_map] at hx
  cases e : ns[i]? with
  | none => rw [e] at hx; cases hx
  | some p => rw [e] at hx; cases hx; exact ⟨p, rfl, rfl⟩
/-- the numbers of one kind -/
theorem pick (c : Int) {ra ki : Addr} {L : List (Addr × Row)} {ks : List Int} {o0 o1 o2 o3 o6 o7 o8 o9 o10 o11 o12 o13 : Option V} (hL : H ra = some (.lst (refsOf L))) (hk : H ki = some (.lst (intsV ks))) (hz : ks.length = L.length) (hi : L.length ≤ 8)
    (q : ∀ H' D gn, Same H H' → H D = none → H' D = some (.lst (intsV gn)) → gn.Nodup → (∀ i ∈ gn, 0 ≤ i ∧ i < L.length ∧ ks[i.toNat]? = some c) → Q (.ref D) H') :
    tLc (iRng1 (tCons (tCB (gLen K) (tCons (tVar 4) tNil)) tNil)) (gName 15) (tTest (tOp rEq (tOp (rIxL K) (tVar 5) (tVar 15)) (tC (.int c)))) (tVar 15) [15] [o0, o1, o2, o3, some (.ref ra), some (.ref ki), o6, o7, o8, o9, o10, o11, o12, o13, none, none, none, none] H Q := by
  refine tLc_rng (fun n H1 => n = (L.length : Int) ∧ H1 = H) (fun R hR => ?_) ?_
  · walk_at "nrm"
    have e : (refsOf L).length = L.length := by rw [refsOf, List.length_map]
    refine len_row (.inl (.inl (.inl hL))) ?_
    rw [e]
    exact hR _ _ ⟨rfl, rfl⟩
  · rintro n H1 ⟨rfl, rfl⟩
    refine ⟨⟨by omega, by omega⟩, fun D hD => ?_⟩
    refine ⟨fun i H' => Same H1 H' ∧ ∃ gn, H' D = some (.lst (intsV gn)) ∧ gn.Nodup ∧ gn.length ≤ i ∧ ∀ j ∈ gn, 0 ≤ j ∧ j < (i : Nat) ∧ ks[j.toNat]? = some c, ⟨same_new hD, [], upd_same, List.nodup_nil, Nat.le_refl _, fun j h => (by cases h)⟩, ?_, ?_⟩
    · rintro i H' hi2 ⟨s1, gn, hg, gnd, gz, gok⟩
      have hi3 : i < L.length := by omega
      obtain ⟨x, hx⟩ : ∃ x, ks[i]? = some x := ⟨_, List.getElem?_eq_getElem (by omega)⟩
      refine ⟨rfl, ?_⟩
      walk_at "nrm"
      refine ixL (s1 _ _ hk) (atI_nat (j := i) (v := .int x) (by rw [intsV, List.getElem?_map, hx]; rfl)) ⟨rfl, _, rfl, ?_⟩
      by_cases hc : x = c
      · subst hc
        refine iteY (by simp) ⟨intsV gn, hg, small1000 (by rw [intsV, List.length_map]; omega), Same.upd s1 hD, gn ++ [(i : Int)], ?_, ?_, ?_, ?_⟩
        · rw [upd_same]; simp [intsV]
        · exact List.nodup_append.mpr ⟨gnd, by simp, fun a ha b hb => by rw [List.mem_singleton.mp hb]; exact fun z => by have := (gok a ha).2.1; omega⟩
        · rw [List.length_append]; simp; omega
        · intro j hj
          rcases List.mem_append.mp hj with h | h
          · obtain ⟨h1, h2, h3⟩ := gok j h
            exact ⟨h1, by omega, h3⟩
          · rw [List.mem_singleton.mp h]
            exact ⟨by omega, by omega, by simpa using hx⟩
      · refine iteN (by simp [hc]) ⟨s1, gn, hg, gnd, by omega, fun j hj => ?_⟩
        obtain ⟨h1, h2, h3⟩ := gok j hj
        exact ⟨h1, by omega, h3⟩
    · rintro H' ⟨s1, gn, hg, gnd, gz, gok⟩
      exact q H' D gn s1 hD hg gnd fun i hi => by
        obtain ⟨h1, h2, h3⟩ := gok i hi
        exact ⟨h1, by simpa using h2, h3⟩
theorem law6 (lk : LawK K) {s na ra ki ga : Addr} {base : Int} {ns : List Str} {L : List (Addr × Row)} {ks gn : List Int} {o0 o7 o8 o9 o10 o11 o12 o13 : Option V} (st : StreamAt H s) (hn : Nm H s na ns) (b : stOk base = true) (hr : Rw H s ra L ns) (hk : H ki = some (.lst (intsV ks))) (kz : ks.length = L.length)
    (hg : H ga = some (.lst (intsV gn))) (gnd : gn.Nodup) (gok : ∀ i ∈ gn, 0 ≤ i ∧ i < L.length ∧ ks[i.toNat]? = some 0) (q : ∀ H', Q (.bl true) H') :
    t_law_6 P w K { nx := fun _ H' => Q .non H', rt := Q } [o0, some (.ref s), some (.int base), some (.ref na), some (.ref ra), some (.ref ki), some (.ref ga), o7, o8, o9, o10, o11, o12, o13, none, none, none, none] H := by
  unfold t_law_6
  walk_at "nrm"
  refine pick 1 hr.at_ hk kz hr.hi fun H1 ba bn s1 nb hb bnd bok => ?_
  have hr1 := hr.keeps st (Same.keeps s1 _)
  refine law7 lk (ns := ns) (L := L) (gn := gn) (bn := bn) (st_same s1 st) (hn.keeps (Same.keeps s1 _)) (hr1.args hn.n3 b) (s1 _ _ hg) hb ⟨gnd, bnd, fun i hi => ⟨(gok i hi).1, (gok i hi).2.1⟩, fun i hi => ⟨(bok i hi).1, (bok i hi).2.1, fun m => ?_⟩⟩ q
  have e1 := (bok i hi).2.2
  rw [(gok i m).2.2] at e1
  cases e1
theorem law5 (lk : LawK K) {s na ra ki : Addr} {base : Int} {ns : List Str} {L : List (Addr × Row)} {ks : List Int} {o0 o6 o7 o8 o9 o10 o11 o12 o13 : Option V} (st : StreamAt H s) (hn : Nm H s na ns) (b : stOk base = true) (hr : Rw H s ra L ns) (hk : H ki = some (.lst (intsV ks))) (kz : ks.length = L.length) (q : ∀ H', Q (.bl true) H') :
    t_law_5 P w K { nx := fun _ H' => Q .non H', rt := Q } [o0, some (.ref s), some (.int base), some (.ref na), some (.ref ra), some (.ref ki), o6, o7, o8, o9, o10, o11, o12, o13, none, none, none, none] H := by
  unfold t_law_5
  walk_at "nrm"
  exact pick 0 hr.at_ hk kz hr.hi fun H1 ga gn s1 nb hg gnd gok => law6 lk (ns := ns) (L := L) (ks := ks) (st_same s1 st) (hn.keeps (Same.keeps s1 _)) b (hr.keeps st (Same.keeps s1 _)) (s1 _ _ hk) kz hg gnd gok q
theorem law4 (lk : LawK K) {s na ra : Addr} {base : Int} {ns : List Str} {L : List (Addr × Row)} {o0 o5 o6 o7 o8 o9 o10 o11 o12 o13 : Option V} (st : StreamAt H s) (hn : Nm H s na ns) (b : stOk base = true) (hr : Rw H s ra L ns) (q : ∀ H', Q (.bl true) H') :
    t_law_4 P w K { nx := fun _ H' => Q .non H', rt := Q } [o0, some (.ref s), some (.int base), some (.ref na), some (.ref ra), o5, o6, o7, o8, o9, o10, o11, o12, o13, none, none, none, none] H := by
  unfold t_law_4
  walk_at "nrm"
  obtain ⟨a0, b0, c0, hs0⟩ := lst_ne st
  refine tLc_list rfl hr.at_ fun D hD => ?_
  have ds : D ≠ s := Ne.symm (ne_of_none hs0 hD)
  refine ⟨fun i H' => Keeps H H' [s] ∧ StreamAt H' s ∧ ∃ ks, H' D = some (.lst (intsV ks)) ∧ ks.length = i, ⟨fun b o _ e => by rw [upd_ne (ne_of_none e hD)]; exact e, ?_, [], upd_same, rfl⟩, fun i H' p => p.1 _ _ (by simp [hr.ne]) hr.at_, ?_, ?_⟩
  · obtain ⟨a, b, c, e, e2⟩ := st
    exact ⟨a, b, c, by rw [upd_ne (Ne.symm ds)]; exact e, e2⟩
  · rintro i x H' hx ⟨k1, st1, ks, hk, kz⟩
    have i8 : i < L.length := by
      obtain ⟨z, _⟩ := List.getElem?_eq_some_iff.mp hx
      rwa [refsOf, List.length_map] at z
    have hi := hr.hi
    refine ⟨rfl, ?_⟩
    unfold tYes
    refine iteY rfl ?_
    walk_at "nrm"
    refine ⟨s, _, rfl, st1, by omega, by omega, fun H2 r k2 st2 r0 r1 => ⟨intsV ks, k2 _ _ (by simp [ds]) hk, small1000 (by rw [intsV, List.length_map]; omega), fun b o nb e => by rw [upd_ne (ne_of_none e hD)]; exact Keeps.trans k1 k2 b o nb e, ?_, ks ++ [r], ?_, ?_⟩⟩
    · obtain ⟨a, b, c, e, e2⟩ := st2
      exact ⟨a, b, c, by rw [upd_ne (Ne.symm ds)]; exact e, e2⟩
    · rw [upd_same]; simp [intsV]
    · rw [List.length_append, kz]; rfl
  · rintro H' ⟨k1, st1, ks, hk, kz⟩
    have e : (refsOf L).length = L.length := by rw [refsOf, List.length_map]
    exact law5 lk (ns := ns) (L := L) (ks := ks) st1 (hn.keeps k1) b (hr.keeps st k1) hk (kz.trans e) q
theorem law3 (lk : LawK K) {s na : Addr} {base : Int} {ns : List Str} {o0 o4 o5 o6 o7 o8 o9 o10 o11 o12 o13 : Option V} (st : StreamAt H s) (hn : Nm H s na ns) (b0 : 0 ≤ base) (b1 : base < 90) (q : ∀ H', Q (.bl true) H') :
    t_law_3 P w K { nx := fun _ H' => Q .non H', rt := Q } [o0, some (.ref s), some (.int base), some (.ref na), o4, o5, o6, o7, o8, o9, o10, o11, o12, o13, none, none, none, none] H := by
  unfold t_law_3
  walk_at "nrm"
  have n3 := hn.n3
  refine tLc_rng (fun n H1 => 1 ≤ n ∧ n ≤ 4 ∧ Keeps H H1 [s] ∧ StreamAt H1 s) (fun R hR => ?_) ?_
  · walk_at "nrm"
    exact ⟨s, _, rfl, st, by omega, by omega, fun H2 r k2 st2 r0 r1 => ⟨r, rfl, hR _ _ ⟨by omega, by omega, k2, st2⟩⟩⟩
  · rintro n H1 ⟨n1, n4, k1, st1⟩
    obtain ⟨a0, b0', c0, hs1⟩ := lst_ne st1
    refine ⟨⟨by omega, by omega⟩, fun D hD => ?_⟩
    have ds : D ≠ s := Ne.symm (ne_of_none hs1 hD)
    refine ⟨fun i H' => Same H1 H' ∧ ∃ ps, H' D = some (.lst (intsV ps)) ∧ ps.length = i ∧ ∀ p ∈ ps, stOk p = true, ⟨same_new hD, [], upd_same, rfl, fun j h => (by cases h)⟩, ?_, ?_⟩
    · rintro i H' hi ⟨s1, ps, hp, pz, pok⟩
      refine ⟨rfl, ?_⟩
      unfold tYes
      refine iteY rfl ?_
      walk_at "nrm"
      refine ⟨intsV ps, hp, small1000 (by rw [intsV, List.length_map]; omega), Same.upd s1 hD, ps ++ [base + (i : Int)], ?_, ?_, ?_⟩
      · rw [upd_same]; simp [intsV]
      · rw [List.length_append, pz]; rfl
      · intro j hj
        rcases List.mem_append.mp hj with h | h
        · exact pok j h
        · rw [List.mem_singleton.mp h]
          simp only [stOk, Bool.and_eq_true, decide_eq_true_eq]
          omega
    · rintro H' ⟨s1, ps, hp, pz, pok⟩
      have hn1 := (hn.keeps k1).keeps (Same.keeps s1 _)
      refine ⟨s, D, ps, na, ns, rfl, st_same s1 st1, hp, ds, hn1.at_, hn1.ne, by omega, by omega, by omega, by omega, pok, hn.ok, fun H2 l L k2 st2 nl ls hl rows nd lo hi ok => ?_⟩
      exact law4 lk (ns := ns) (L := L) st2 (hn1.keeps k2) (by simp only [stOk, Bool.and_eq_true, decide_eq_true_eq]; omega) ⟨hl, ls, rows, nd, lo, hi, ok⟩ q
theorem law2 (lk : LawK K) {s : Addr} {base : Int} {o0 o3 o4 o5 o6 o7 o8 o9 o10 o11 o12 o13 : Option V} (st : StreamAt H s) (b0 : 0 ≤ base) (b1 : base < 90) (q : ∀ H', Q (.bl true) H') :
    t_law_2 P w K { nx := fun _ H' => Q .non H', rt := Q } [o0, some (.ref s), some (.int base), o3, o4, o5, o6, o7, o8, o9, o10, o11, o12, o13, none, none, none, none] H := by
  unfold t_law_2
  walk_at "nrm"
  obtain ⟨a0, b0', c0, hs0⟩ := lst_ne st
  have z3 : 3 ≤ sizeLine := by rw [sizeLine_eq]; decide
  refine ⟨z3, fun p1 h1 => ⟨z3, fun p2 h2 => ⟨Nat.le_trans (show 2 ≤ 3 by decide) z3, fun p3 h3 => ?_⟩⟩⟩
  have s1 : Same H (upd H p1 (.lst (strsV ["go", "up", "low"]))) := same_new h1
  have e1 : upd H p1 (HO.lst [V.str (Str.ofString "go"), V.str (Str.ofString "up"), V.str (Str.ofString "low")]) p1 = some (.lst (strsV ["go", "up", "low"])) := upd_same
  change Same H (upd H p1 (HO.lst [V.str (Str.ofString "go"), V.str (Str.ofString "up"), V.str (Str.ofString "low")])) at s1
  generalize upd H p1 (HO.lst [V.str (Str.ofString "go"), V.str (Str.ofString "up"), V.str (Str.ofString "low")]) = H1 at s1 e1 h2 h3 ⊢
  have s2 : Same H1 (upd H1 p2 (HO.lst [V.str (Str.ofString "b"), V.str (Str.ofString "ab"), V.str (Str.ofString "a")])) := same_new h2
  have e2 : upd H1 p2 (HO.lst [V.str (Str.ofString "b"), V.str (Str.ofString "ab"), V.str (Str.ofString "a")]) p2 = some (.lst (strsV ["b", "ab", "a"])) := upd_same
  generalize upd H1 p2 (HO.lst [V.str (Str.ofString "b"), V.str (Str.ofString "ab"), V.str (Str.ofString "a")]) = H2 at s2 e2 h3 ⊢
  have s3 : Same H2 (upd H2 p3 (.lst [.ref p1, .ref p2])) := same_new h3
  have e3 : upd H2 p3 (HO.lst [V.ref p1, V.ref p2]) p3 = some (.lst [.ref p1, .ref p2]) := upd_same
  generalize upd H2 p3 (HO.lst [V.ref p1, V.ref p2]) = H3 at s3 e3 ⊢
  have s03 : Same H H3 := (s1.trans s2).trans s3
  have p1s : p1 ≠ s := Ne.symm (ne_of_none hs0 h1)
  have p2s : p2 ≠ s := Ne.symm (ne_of_none (s1 _ _ hs0) h2)
  have p3s : p3 ≠ s := Ne.symm (ne_of_none (s2 _ _ (s1 _ _ hs0)) h3)
  refine ⟨s, _, rfl, st_same s03 st, by omega, by omega, fun H4 r k4 st4 r0 r1 => ?_⟩
  have e34 := k4 _ _ (by simp [p3s]) e3
  by_cases hr : r = 0
  · subst hr
    exact ixL e34 (v := .ref p1) rfl (law3 lk (ns := ["go", "up", "low"]) st4 ⟨k4 _ _ (by simp [p1s]) (s3 _ _ (s2 _ _ e1)), p1s, by decide +kernel, by unfold NamesOk; decide +kernel, rfl⟩ b0 b1 q)
  · have hr : r = 1 := by omega
    subst hr
    exact ixL e34 (v := .ref p2) rfl (law3 lk (ns := ["b", "ab", "a"]) st4 ⟨k4 _ _ (by simp [p2s]) (s3 _ _ e2), p2s, by decide +kernel, by unfold NamesOk; decide +kernel, rfl⟩ b0 b1 q)
theorem law1 (lk : LawK K) {s : Addr} {o0 o2 o3 o4 o5 o6 o7 o8 o9 o10 o11 o12 o13 : Option V} (st : StreamAt H s) (q : ∀ H', Q (.bl true) H') :
    t_law_1 P w K { nx := fun _ H' => Q .non H', rt := Q } [o0, some (.ref s), o2, o3, o4, o5, o6, o7, o8, o9, o10, o11, o12, o13, none, none, none, none] H := by
  unfold t_law_1
  walk_at "nrm"
  exact ⟨s, _, rfl, st, by omega, by omega, fun H2 r k2 st2 r0 r1 => law2 lk st2 r0 r1 q⟩
end
def sp_law (P : Program) (w : World) (K : PySem.W.Frag) : Sp := fun vs H Q _ => ∃ a ns, vs = [.ref a] ∧ SqL K H a (intsV ns) ∧ LawK K ∧ ∀ H', Q (.bl true) H'
theorem pure_law {P : Program} {w : World} {K : PySem.W.Frag} (vs : List V) (H : Hp) (Q : VK) (E : XK) (h : sp_law P w K vs H Q E) : t_law P w K { nx := fun _ H' => Q .non H', rt := Q } (start S_law vs) H := by
  obtain ⟨a, ns, rfl, hq, lk, q⟩ := h
  show t_law_0 P w K _ [some (.ref a), none, none, none, none, none, none, none, none, none, none, none, none, none, none, none, none, none] H
  unfold t_law_0
  walk_at "nrm"
  exact ⟨a, ns, rfl, hq, fun H' s _ _ st => law1 lk st q⟩
theorem len_law {P : Program} {w : World} {K : PySem.W.Frag} (vs : List V) (H : Hp) (Q : VK) (E : XK) (h : sp_law P w K vs H Q E) : vs.length = n_law.length := by
  obtain ⟨a, ns, rfl, _⟩ := h
  rfl
end LG
end

section
set_option maxHeartbeats 4000000
namespace LG
open PySem PySem.Spec PyProof.Rows L2
def top (i : Nat) : Stmt := PySem.Challenge.pw_leastguards_k88_arguments_by_name.main.body.getD i (.Pass ⟨0, 0, 0, 0⟩)
theorem hu65_of {A : Around} {k : Nat} (hr : Room k A) : A.units + 65 < cLine := by
  have := hr.un
  omega
def l_int : List (Str × Int) := [("MOST_LETTERS", 12), ("MOST_STATE", 99), ("MOST_STEPS", 60), ("MOST_LEAVING", 8), ("MOST_WORDS", 12), ("MOST_NODES", 200)]
def l_gl : List Str := ["Plant", "View", "Guard"]
def l_cl : List Str := ["Plant", "View", "Guard"]
def l_na : List (Str × Str) := [("Plant", "first"), ("Plant", "rows"), ("Plant", "leaving"), ("Plant", "reached"), ("Plant", "wanted_at"), ("Plant", "barred_at"), ("View", "table"), ("View", "can"), ("Guard", "own"), ("Guard", "lines"), ("Guard", "arrows")]
abbrev Txt := TxtG frees l_int l_gl l_cl l_na
section
variable {P : Program} {w : World} {K : PySem.W.Frag} {mg : Str → Option Value} {base : Heap}
abbrev s_is_integer : Stmt := top 4
theorem sc_is_integer : FnScope ["value"] n_is_integer (defScope s_is_integer) := ⟨rfl, rfl, rfl, by decide +kernel, rfl, by decide +kernel, by decide +kernel⟩
theorem ok_is_integer {f : Addr} {fd : FuncData} {dvs : List V} (F : FunD K "is_integer" "is_integer" (defArgs s_is_integer) (defBody s_is_integer) (defScope s_is_integer) dvs [] f fd) (T : Txt K mg)
     : FnOk P w K mg base (L2.CX P w) 1 f fd n_is_integer (sp_is_integer P w K) := by
  refine F.ok sc_is_integer len_is_integer (fun cdv A outer s H vs Q E hr h => ⟨t_is_integer P w K, PSs.nox ?_, pure_is_integer vs H Q E h⟩)
  have hu := hu_of hr
  have hu64 := hr.units
  have hu65 := hu65_of hr
  have hu8 := hu8_of hr
  have sc := sc_is_integer
  let N : List Str := ["value"]
  let st : Stmt := s_is_integer
  exact (pss_one (ps_ret (pe_and (pe_callB call_isi (by rfl) (T.fr "isinstance" (by decide)) (by decide +kernel) (pa_cons (pv 0) (pa_cons (pe_bltn (v := .ty "int") (by rfl) (T.fr "int" (by decide)) (by decide +kernel) rfl) pa_nil))) (pe_one (pe_not (pe_callB call_isi (by rfl) (T.fr "isinstance" (by decide)) (by decide +kernel) (pa_cons (pv 0) (pa_cons (pe_bltn (v := .ty "bool") (by rfl) (T.fr "bool" (by decide)) (by decide +kernel) rfl) pa_nil))))))))
abbrev s_is_row : Stmt := top 5
theorem sc_is_row : FnScope ["value"] n_is_row (defScope s_is_row) := ⟨rfl, rfl, rfl, by decide +kernel, rfl, by decide +kernel, by decide +kernel⟩
theorem ok_is_row {f : Addr} {fd : FuncData} {dvs : List V} (F : FunD K "is_row" "is_row" (defArgs s_is_row) (defBody s_is_row) (defScope s_is_row) dvs [] f fd) (T : Txt K mg)
     : FnOk P w K mg base (L2.CX P w) 1 f fd n_is_row (sp_is_row P w K) := by
  refine F.ok sc_is_row len_is_row (fun cdv A outer s H vs Q E hr h => ⟨t_is_row P w K, PSs.nox ?_, pure_is_row vs H Q E h⟩)
  have hu := hu_of hr
  have hu64 := hr.units
  have hu65 := hu65_of hr
  have hu8 := hu8_of hr
  have sc := sc_is_row
  let N : List Str := ["value"]
  let st : Stmt := s_is_row
  exact (pss_one (ps_ret (pe_callB call_isiT (by rfl) (T.fr "isinstance" (by decide)) (by decide +kernel) (pa_cons (pv 0) (pa_cons (pe_tup (pa_cons (pe_bltn (v := .ty "list") (by rfl) (T.fr "list" (by decide)) (by decide +kernel) rfl) (pa_cons (pe_bltn (v := .ty "tuple") (by rfl) (T.fr "tuple" (by decide)) (by decide +kernel) rfl) pa_nil))) pa_nil)))))
abbrev s_is_name : Stmt := top 6
theorem sc_is_name : FnScope ["value", "char"] n_is_name (defScope s_is_name) := ⟨rfl, rfl, rfl, by decide +kernel, rfl, by decide +kernel, by decide +kernel⟩
theorem ok_is_name {f : Addr} {fd : FuncData} {dvs : List V} (F : FunD K "is_name" "is_name" (defArgs s_is_name) (defBody s_is_name) (defScope s_is_name) dvs [] f fd) (T : Txt K mg)
     : FnOk P w K mg base (L2.CX P w) 1 f fd n_is_name (sp_is_name P w K) := by
  refine F.ok sc_is_name len_is_name (fun cdv A outer s H vs Q E hr h => ⟨t_is_name P w K, PSs.nox ?_, pure_is_name vs H Q E h⟩)
  have hu := hu_of hr
  have hu64 := hr.units
  have hu65 := hu65_of hr
  have hu8 := hu8_of hr
  have sc := sc_is_name
  let N : List Str := ["value", "char"]
  let st : Stmt := s_is_name
  exact (pss_cons (ps_if (PW.pt (pw_or (pt_not (pt_val (pe_callB call_isi (by rfl) (T.fr "isinstance" (by decide)) (by decide +kernel) (pa_cons (pv 0) (pa_cons (pe_bltn (v := .ty "str") (by rfl) (T.fr "str" (by decide)) (by decide +kernel) rfl) pa_nil))))) (pw_or1 (pt_not (pt_chain op_le op_le pe_int (pe_callB call_len (by rfl) (T.fr "len" (by decide)) (by decide +kernel) (pa_cons (pv 0) pa_nil)) (pe_glob rfl (T.int "MOST_LETTERS" 12 (by decide)).choose_spec ⟨_, rfl⟩)))))) (pss_one (ps_ret pe_bl)) pss_nil) (pss_cons (ps_for PassesOwn.never rfl (pi_str (pv 0)) (pg_name (i := 1) sc.nd rfl (Or.inl rfl)) (pss_one (ps_if (pt_not (pt_chain op_le_str op_le_str pe_str (pv 1) pe_str)) (pss_one (ps_ret pe_bl)) pss_nil))) (pss_one (ps_ret pe_bl))))
abbrev s_is_state : Stmt := top 7
theorem sc_is_state : FnScope ["value"] n_is_state (defScope s_is_state) := ⟨rfl, rfl, rfl, by decide +kernel, rfl, by decide +kernel, by decide +kernel⟩
theorem ok_is_state {f : Addr} {fd : FuncData} {dvs : List V} (F : FunD K "is_state" "is_state" (defArgs s_is_state) (defBody s_is_state) (defScope s_is_state) dvs [] f fd) (T : Txt K mg)
    (h_is_integer : Has P w K mg base 1 ("is_integer", none) n_is_integer (sp_is_integer P w K) []) : FnOk P w K mg base (L2.CX P w) 2 f fd n_is_state (sp_is_state P w K) := by
  obtain ⟨mg_is_integer, fd_is_integer, ds_is_integer, kp_is_integer, G_is_integer, v_is_integer, b_is_integer⟩ := h_is_integer
  refine F.ok sc_is_state len_is_state (fun cdv A outer s H vs Q E hr h => ⟨t_is_state P w K, PSs.nox ?_, pure_is_state vs H Q E h⟩)
  have hu := hu_of hr
  have hu64 := hr.units
  have hu65 := hu65_of hr
  have hu8 := hu8_of hr
  have sc := sc_is_state
  let N : List Str := ["value"]
  let st : Stmt := s_is_state
  exact (pss_one (ps_ret (pe_and (pe_call G_is_integer (hr.mono (by decide)) rfl mg_is_integer kp_is_integer b_is_integer v_is_integer passL (pa_cons (pv 0) pa_nil)) (pe_one (pe_chain op_le op_le pe_int (pv 0) (pe_glob rfl (T.int "MOST_STATE" 99 (by decide)).choose_spec ⟨_, rfl⟩))))))
abbrev s_is_number_below : Stmt := top 8
theorem sc_is_number_below : FnScope ["value", "count"] n_is_number_below (defScope s_is_number_below) := ⟨rfl, rfl, rfl, by decide +kernel, rfl, by decide +kernel, by decide +kernel⟩
theorem ok_is_number_below {f : Addr} {fd : FuncData} {dvs : List V} (F : FunD K "is_number_below" "is_number_below" (defArgs s_is_number_below) (defBody s_is_number_below) (defScope s_is_number_below) dvs [] f fd) (T : Txt K mg)
    (h_is_integer : Has P w K mg base 1 ("is_integer", none) n_is_integer (sp_is_integer P w K) []) : FnOk P w K mg base (L2.CX P w) 2 f fd n_is_number_below (sp_is_number_below P w K) := by
  obtain ⟨mg_is_integer, fd_is_integer, ds_is_integer, kp_is_integer, G_is_integer, v_is_integer, b_is_integer⟩ := h_is_integer
  refine F.ok sc_is_number_below len_is_number_below (fun cdv A outer s H vs Q E hr h => ⟨t_is_number_below P w K, PSs.nox ?_, pure_is_number_below vs H Q E h⟩)
  have hu := hu_of hr
  have hu64 := hr.units
  have hu65 := hu65_of hr
  have hu8 := hu8_of hr
  have sc := sc_is_number_below
  let N : List Str := ["value", "count"]
  let st : Stmt := s_is_number_below
  exact (pss_one (ps_ret (pe_and (pe_call G_is_integer (hr.mono (by decide)) rfl mg_is_integer kp_is_integer b_is_integer v_is_integer passL (pa_cons (pv 0) pa_nil)) (pe_one (pe_chain op_le op_lt pe_int (pv 0) (pv 1))))))
abbrev s_first_other : Stmt := top 9
theorem sc_first_other : FnScope ["names", "at", "name"] n_first_other (defScope s_first_other) := ⟨rfl, rfl, rfl, by decide +kernel, rfl, by decide +kernel, by decide +kernel⟩
theorem ok_first_other {f : Addr} {fd : FuncData} {dvs : List V} (F : FunD K "first_other" "first_other" (defArgs s_first_other) (defBody s_first_other) (defScope s_first_other) dvs [] f fd) (T : Txt K mg)
    (h_is_name : Has P w K mg base 1 ("is_name", none) n_is_name (sp_is_name P w K) []) : FnOk P w K mg base (L2.CX P w) 2 f fd n_first_other (sp_first_other P w K) := by
  obtain ⟨mg_is_name, fd_is_name, ds_is_name, kp_is_name, G_is_name, v_is_name, b_is_name⟩ := h_is_name
  refine F.ok sc_first_other len_first_other (fun cdv A outer s H vs Q E hr h => ⟨t_first_other P w K, PSs.nox ?_, pure_first_other vs H Q E h⟩)
  have hu := hu_of hr
  have hu64 := hr.units
  have hu65 := hu65_of hr
  have hu8 := hu8_of hr
  have sc := sc_first_other
  let N : List Str := ["names", "at", "name"]
  let st : Stmt := s_first_other
  exact (pss_cons (ps_for PassesOwn.never rfl (pi_enumS (by rfl) (T.fr "enumerate" (by decide)) (pa_cons (pv 0) pa_nil)) (pg_tup rfl (pgs_cons (pg_name (i := 1) sc.nd rfl (Or.inl rfl)) (pgs_cons (pg_name (i := 2) sc.nd rfl (Or.inl rfl)) pgs_nil))) (pss_one (ps_if (pt_not (pt_val (pe_call G_is_name (hr.mono (by decide)) rfl mg_is_name kp_is_name b_is_name v_is_name passL (pa_cons (pv 2) pa_nil)))) (pss_one (ps_ret (pv 1))) pss_nil))) (pss_one (ps_ret (pe_un un_neg pe_int))))
abbrev s_is_step : Stmt := top 24
theorem sc_is_step : FnScope ["value"] n_is_step (defScope s_is_step) := ⟨rfl, rfl, rfl, by decide +kernel, rfl, by decide +kernel, by decide +kernel⟩
theorem ok_is_step {f : Addr} {fd : FuncData} {dvs : List V} (F : FunD K "is_step" "is_step" (defArgs s_is_step) (defBody s_is_step) (defScope s_is_step) dvs [] f fd) (T : Txt K mg)
    (h_is_state : Has P w K mg base 2 ("is_state", none) n_is_state (sp_is_state P w K) [])
    (h_is_name : Has P w K mg base 1 ("is_name", none) n_is_name (sp_is_name P w K) []) : FnOk P w K mg base (L2.CX P w) 3 f fd n_is_step (sp_is_step P w K) := by
  obtain ⟨mg_is_state, fd_is_state, ds_is_state, kp_is_state, G_is_state, v_is_state, b_is_state⟩ := h_is_state
  obtain ⟨mg_is_name, fd_is_name, ds_is_name, kp_is_name, G_is_name, v_is_name, b_is_name⟩ := h_is_name
  refine F.ok sc_is_step len_is_step (fun cdv A outer s H vs Q E hr h => ⟨t_is_step P w K, PSs.nox ?_, pure_is_step vs H Q E h⟩)
  have hu := hu_of hr
  have hu64 := hr.units
  have hu65 := hu65_of hr
  have hu8 := hu8_of hr
  have sc := sc_is_step
  let N : List Str := ["value"]
  let st : Stmt := s_is_step
  exact (pss_cons (ps_if (PW.pt (pw_or (pt_not (pt_val (pe_callB call_isi (by rfl) (T.fr "isinstance" (by decide)) (by decide +kernel) (pa_cons (pv 0) (pa_cons (pe_bltn (v := .ty "tuple") (by rfl) (T.fr "tuple" (by decide)) (by decide +kernel) rfl) pa_nil))))) (pw_or1 (pt_cmpR op_ne (pe_callB call_len (by rfl) (T.fr "len" (by decide)) (by decide +kernel) (pa_cons (pv 0) pa_nil)) pe_int (nomark _))))) (pss_one (ps_ret pe_bl)) pss_nil) (pss_one (ps_ret (pe_and (pe_call G_is_state (hr.mono (by decide)) rfl mg_is_state kp_is_state b_is_state v_is_state passL (pa_cons (pe_ix ix_tup (pv 0) pe_int (fun _ _ => rfl)) pa_nil)) (pe_and (pe_call G_is_name (hr.mono (by decide)) rfl mg_is_name kp_is_name b_is_name v_is_name passL (pa_cons (pe_ix ix_tup (pv 0) pe_int (fun _ _ => rfl)) pa_nil)) (pe_one (pe_call G_is_state (hr.mono (by decide)) rfl mg_is_state kp_is_state b_is_state v_is_state passL (pa_cons (pe_ix ix_tup (pv 0) pe_int (fun _ _ => rfl)) pa_nil))))))))
abbrev s_checked_steps : Stmt := top 25
theorem sc_checked_steps : FnScope ["steps", "seen", "leaving", "rows", "at", "step"] n_checked_steps (defScope s_checked_steps) := ⟨rfl, rfl, rfl, by decide +kernel, rfl, by decide +kernel, by decide +kernel⟩
theorem ok_checked_steps {f : Addr} {fd : FuncData} {dvs : List V} (F : FunD K "checked_steps" "checked_steps" (defArgs s_checked_steps) (defBody s_checked_steps) (defScope s_checked_steps) dvs [] f fd) (T : Txt K mg)
    (h_is_row : Has P w K mg base 1 ("is_row", none) n_is_row (sp_is_row P w K) [])
    (h_is_step : Has P w K mg base 3 ("is_step", none) n_is_step (sp_is_step P w K) []) : FnOk P w K mg base (L2.CX P w) 4 f fd n_checked_steps (sp_checked_steps P w K) := by
  obtain ⟨mg_is_row, fd_is_row, ds_is_row, kp_is_row, G_is_row, v_is_row, b_is_row⟩ := h_is_row
  obtain ⟨mg_is_step, fd_is_step, ds_is_step, kp_is_step, G_is_step, v_is_step, b_is_step⟩ := h_is_step
  refine F.ok sc_checked_steps len_checked_steps (fun cdv A outer s H vs Q E hr h => ⟨t_checked_steps P w K, PSs.nox ?_, pure_checked_steps vs H Q E h⟩)
  have hu := hu_of hr
  have hu64 := hr.units
  have hu65 := hu65_of hr
  have hu8 := hu8_of hr
  have sc := sc_checked_steps
  let N : List Str := ["steps", "seen", "leaving", "rows", "at", "step"]
  let st : Stmt := s_checked_steps
  exact (pss_cons (ps_if (PW.pt (pw_or (pt_not (pt_val (pe_call G_is_row (hr.mono (by decide)) rfl mg_is_row kp_is_row b_is_row v_is_row passL (pa_cons (pv 0) pa_nil)))) (pw_or1 (pt_not (pt_chain op_le op_le pe_int (pe_callB call_len (by rfl) (T.fr "len" (by decide)) (by decide +kernel) (pa_cons (pv 0) pa_nil)) (pe_glob rfl (T.int "MOST_STEPS" 60 (by decide)).choose_spec ⟨_, rfl⟩)))))) (pss_one ps_never) pss_nil) (pss_cons (ps_set (i := 1) sc.nd rfl (Or.inl rfl) (pe_callTy0 cr_set0H (by rfl) (T.fr "set" (by decide)) (by decide +kernel))) (pss_cons (ps_set (i := 2) sc.nd rfl (Or.inl rfl) pe_dnewK) (pss_cons (ps_set (i := 3) sc.nd rfl (Or.inl rfl) (pe_lst pa_nil)) (pss_cons (ps_for PassesOwn.never rfl (pi_enumS (by rfl) (T.fr "enumerate" (by decide)) (pa_cons (pv 0) pa_nil)) (pg_tup rfl (pgs_cons (pg_name (i := 4) sc.nd rfl (Or.inl rfl)) (pgs_cons (pg_name (i := 5) sc.nd rfl (Or.inl rfl)) pgs_nil))) (pss_cons (ps_if (PW.pt (pw_or (pt_not (pt_val (pe_call G_is_step (hr.mono (by decide)) rfl mg_is_step kp_is_step b_is_step v_is_step passL (pa_cons (pv 5) pa_nil)))) (pw_or1 (pt_cmpR (op_in_setH hu8) (pv 5) (pv 1) rfl)))) (pss_one ps_never) pss_nil) (pss_cons (ps_dput hu (pv 2) (pe_ix ix_tup (pv 5) pe_int (fun _ _ => rfl)) (pe_op op_add (pe_dget2 hu (pv 2) (pe_ix ix_tup (pv 5) pe_int (fun _ _ => rfl)) pe_int ⟨by rfl, by rfl, by rfl, by rfl⟩) pe_int) rfl) (pss_cons (ps_if (pt_cmpR op_gt (pe_dget hu (pv 2) (pe_ix ix_tup (pv 5) pe_int (fun _ _ => rfl)) (fun _ _ => rfl)) (pe_glob rfl (T.int "MOST_LEAVING" 8 (by decide)).choose_spec ⟨_, rfl⟩) (nomark _)) (pss_one ps_never) pss_nil) (pss_cons (ps_expr (pe_saddH hu8 (pv 1) (pa_cons (pv 5) pa_nil))) (pss_one (ps_expr (pe_bm PySem.F.plainAttrs_list PySem.F.slot_list_append PySem.F.type_list_append mt_append (pv 3) (pa_cons (pv 5) pa_nil))))))))) (pss_one (ps_ret (pv 3))))))))
abbrev s_checked_marks : Stmt := top 26
theorem sc_checked_marks : FnScope ["numbers", "count", "taken", "marks", "number"] n_checked_marks (defScope s_checked_marks) := ⟨rfl, rfl, rfl, by decide +kernel, rfl, by decide +kernel, by decide +kernel⟩
theorem ok_checked_marks {f : Addr} {fd : FuncData} {dvs : List V} (F : FunD K "checked_marks" "checked_marks" (defArgs s_checked_marks) (defBody s_checked_marks) (defScope s_checked_marks) dvs [] f fd) (T : Txt K mg)
    (h_is_row : Has P w K mg base 1 ("is_row", none) n_is_row (sp_is_row P w K) [])
    (h_is_number_below : Has P w K mg base 2 ("is_number_below", none) n_is_number_below (sp_is_number_below P w K) []) : FnOk P w K mg base (L2.CX P w) 3 f fd n_checked_marks (sp_checked_marks P w K) := by
  obtain ⟨mg_is_row, fd_is_row, ds_is_row, kp_is_row, G_is_row, v_is_row, b_is_row⟩ := h_is_row
  obtain ⟨mg_is_number_below, fd_is_number_below, ds_is_number_below, kp_is_number_below, G_is_number_below, v_is_number_below, b_is_number_below⟩ := h_is_number_below
  refine F.ok sc_checked_marks len_checked_marks (fun cdv A outer s H vs Q E hr h => ⟨t_checked_marks P w K, PSs.nox ?_, pure_checked_marks vs H Q E h⟩)
  have hu := hu_of hr
  have hu64 := hr.units
  have hu65 := hu65_of hr
  have hu8 := hu8_of hr
  have sc := sc_checked_marks
  let N : List Str := ["numbers", "count", "taken", "marks", "number"]
  let st : Stmt := s_checked_marks
  exact (pss_cons (ps_if (pt_not (pt_val (pe_call G_is_row (hr.mono (by decide)) rfl mg_is_row kp_is_row b_is_row v_is_row passL (pa_cons (pv 0) pa_nil)))) (pss_one ps_never) pss_nil) (pss_cons (ps_set (i := 3) sc.nd rfl (Or.inl rfl) pe_dnewK) (pss_cons (ps_for PassesOwn.never rfl (pi_row (pv 0)) (pg_name (i := 4) sc.nd rfl (Or.inl rfl)) (pss_cons (ps_if (PW.pt (pw_or (pt_not (pt_val (pe_call G_is_number_below (hr.mono (by decide)) rfl mg_is_number_below kp_is_number_below b_is_number_below v_is_number_below passL (pa_cons (pv 4) (pa_cons (pv 1) pa_nil))))) (pw_or (pt_cmp (pc_din hu (pv 4) (pv 3))) (pw_or1 (pt_cmp (pc_din hu (pv 4) (pv 2))))))) (pss_one ps_never) pss_nil) (pss_one (ps_dput hu (pv 3) (pv 4) pe_bl rfl)))) (pss_one (ps_ret (pv 3))))))
abbrev s_reached_states : Stmt := top 27
theorem sc_reached_states : FnScope ["start", "leaving", "rows", "found", "queue", "state", "number", "end"] n_reached_states (defScope s_reached_states) := ⟨rfl, rfl, rfl, by decide +kernel, rfl, by decide +kernel, by decide +kernel⟩
theorem ok_reached_states {f : Addr} {fd : FuncData} {dvs : List V} (F : FunD K "reached_states" "reached_states" (defArgs s_reached_states) (defBody s_reached_states) (defScope s_reached_states) dvs [] f fd) (T : Txt K mg)
     : FnOk P w K mg base (L2.CX P w) 1 f fd n_reached_states (sp_reached_states P w K) := by
  refine F.ok sc_reached_states len_reached_states (fun cdv A outer s H vs Q E hr h => ⟨t_reached_states P w K, PSs.nox ?_, pure_reached_states vs H Q E h⟩)
  have hu := hu_of hr
  have hu64 := hr.units
  have hu65 := hu65_of hr
  have hu8 := hu8_of hr
  have sc := sc_reached_states
  let N : List Str := ["start", "leaving", "rows", "found", "queue", "state", "number", "end"]
  let st : Stmt := s_reached_states
  exact (pss_cons (ps_set (i := 3) sc.nd rfl (Or.inl rfl) (pe_disp (pps_cons (pv 0) pe_bl pps_nil) rfl rfl (fun z => nomatch z) (by decide))) (pss_cons (ps_set (i := 4) sc.nd rfl (Or.inl rfl) (pe_lst (pa_cons (pv 0) pa_nil))) (pss_cons (ps_while PassesOwn.never (pt_truth (pv 4) (by intro _; rfl)) (pss_cons (ps_set (i := 5) sc.nd rfl (Or.inl rfl) (pe_bm0 PySem.F.plainAttrs_list PySem.F.slot_list_pop PySem.F.type_list_pop mt_pop (pv 4))) (pss_one (ps_for PassesOwn.never rfl (pi_list (pe_dget2 hu (pv 1) (pv 5) (pe_lst pa_nil) ⟨by rfl, by rfl, by rfl, by rfl⟩)) (pg_name (i := 6) sc.nd rfl (Or.inl rfl)) (pss_cons (ps_set (i := 7) sc.nd rfl (Or.inl rfl) (pe_ix ix_tup (pe_ix ix_list (pv 2) (pv 6) (fun _ _ => rfl)) pe_int (fun _ _ => rfl))) (pss_one (ps_if (pt_cmp (pc_dnotin hu (pv 7) (pv 3))) (pss_cons (ps_dput hu (pv 3) (pv 7) pe_bl rfl) (pss_one (ps_expr (pe_bm PySem.F.plainAttrs_list PySem.F.slot_list_append PySem.F.type_list_append mt_append (pv 4) (pa_cons (pv 7) pa_nil))))) pss_nil))))))) (pss_one (ps_ret (pe_callB cr_sorted (by rfl) (T.fr "sorted" (by decide)) (by decide +kernel) (pa_cons (pe_callTy (call_list_dK rfl) (by rfl) (T.fr "list" (by decide)) (by decide +kernel) (pa_cons (pv 3) pa_nil)) pa_nil)))))))
abbrev s_Plant_init : Stmt := inClass (top 28) 0
theorem sc_Plant_init : FnScope ["self", "start", "steps", "wanted", "barred", "rows", "number", "row"] n_Plant_init (defScope s_Plant_init) := ⟨rfl, rfl, rfl, by decide +kernel, rfl, by decide +kernel, by decide +kernel⟩
theorem ok_Plant_init {f : Addr} {fd : FuncData} {dvs : List V} (F : FunD K "__init__" "Plant.__init__" (defArgs s_Plant_init) (defBody s_Plant_init) (defScope s_Plant_init) dvs [] f fd) (T : Txt K mg)
    (h_is_state : Has P w K mg base 2 ("is_state", none) n_is_state (sp_is_state P w K) [])
    (h_checked_steps : Has P w K mg base 4 ("checked_steps", none) n_checked_steps (sp_checked_steps P w K) [])
    (h_checked_marks : Has P w K mg base 3 ("checked_marks", none) n_checked_marks (sp_checked_marks P w K) [])
    (h_reached_states : Has P w K mg base 1 ("reached_states", none) n_reached_states (sp_reached_states P w K) []) : FnOk P w K mg base (L2.CX P w) 5 f fd n_Plant_init (sp_Plant_init P w K) := by
  obtain ⟨mg_is_state, fd_is_state, ds_is_state, kp_is_state, G_is_state, v_is_state, b_is_state⟩ := h_is_state
  obtain ⟨mg_checked_steps, fd_checked_steps, ds_checked_steps, kp_checked_steps, G_checked_steps, v_checked_steps, b_checked_steps⟩ := h_checked_steps
  obtain ⟨mg_checked_marks, fd_checked_marks, ds_checked_marks, kp_checked_marks, G_checked_marks, v_checked_marks, b_checked_marks⟩ := h_checked_marks
  obtain ⟨mg_reached_states, fd_reached_states, ds_reached_states, kp_reached_states, G_reached_states, v_reached_states, b_reached_states⟩ := h_reached_states
  refine F.ok sc_Plant_init len_Plant_init (fun cdv A outer s H vs Q E hr h => ⟨t_Plant_init P w K, PSs.nox ?_, pure_Plant_init vs H Q E h⟩)
  have hu := hu_of hr
  have hu64 := hr.units
  have hu65 := hu65_of hr
  have hu8 := hu8_of hr
  have sc := sc_Plant_init
  let N : List Str := ["self", "start", "steps", "wanted", "barred", "rows", "number", "row"]
  let st : Stmt := s_Plant_init
  exact (pss_cons (ps_if (pt_not (pt_val (pe_call G_is_state (hr.mono (by decide)) rfl mg_is_state kp_is_state b_is_state v_is_state passL (pa_cons (pv 1) pa_nil)))) (pss_one ps_never) pss_nil) (pss_cons (ps_set (i := 5) sc.nd rfl (Or.inl rfl) (pe_call G_checked_steps (hr.mono (by decide)) rfl mg_checked_steps kp_checked_steps b_checked_steps v_checked_steps passL (pa_cons (pv 2) pa_nil))) (pss_cons (ps_if (pt_cmpR op_gt (pe_callB call_lenM (by rfl) (T.fr "len" (by decide)) (by decide +kernel) (pa_cons (pe_scK (own := [("row", 7)]) (g := (gName 7)) (tt := tYes) (te := (tOp (rIxT K) (tVar 7) (tC (.int 1)))) rfl sc.nd (pi_list (pv 5)) (blkOk_by (own := [("row", 7)]) (N := N) (sc := defScope st) (by decide +kernel)) (fun _ _ _ _ _ => (pg_name (i := 7) sc.nd rfl (Or.inl rfl))) (fun _ _ _ _ _ => pts_nil) (fun _ _ _ _ _ => (pe_ix ix_tup (pv 7) pe_int (fun _ _ => rfl)))) pa_nil)) (pe_glob rfl (T.int "MOST_WORDS" 12 (by decide)).choose_spec ⟨_, rfl⟩) (nomark _)) (pss_one ps_never) pss_nil) (pss_cons (ps_fldC (T.cl "Plant" (by decide)) (T.na "Plant" "wanted_at" (by decide)) (pv 0) (pe_call G_checked_marks (hr.mono (by decide)) rfl mg_checked_marks kp_checked_marks b_checked_marks v_checked_marks passL (pa_cons (pv 3) (pa_cons (pe_callB call_len (by rfl) (T.fr "len" (by decide)) (by decide +kernel) (pa_cons (pv 5) pa_nil)) (pa_cons pe_dnewK pa_nil)))) rfl) (pss_cons (ps_fldC (T.cl "Plant" (by decide)) (T.na "Plant" "barred_at" (by decide)) (pv 0) (pe_call G_checked_marks (hr.mono (by decide)) rfl mg_checked_marks kp_checked_marks b_checked_marks v_checked_marks passL (pa_cons (pv 4) (pa_cons (pe_callB call_len (by rfl) (T.fr "len" (by decide)) (by decide +kernel) (pa_cons (pv 5) pa_nil)) (pa_cons (pe_fldC (T.cl "Plant" (by decide)) (T.na "Plant" "wanted_at" (by decide)) (pv 0) rfl) pa_nil)))) rfl) (pss_cons (ps_fldC (T.cl "Plant" (by decide)) (T.na "Plant" "first" (by decide)) (pv 0) (pv 1) rfl) (pss_cons (ps_fldC (T.cl "Plant" (by decide)) (T.na "Plant" "rows" (by decide)) (pv 0) (pv 5) rfl) (pss_cons (ps_fldC (T.cl "Plant" (by decide)) (T.na "Plant" "leaving" (by decide)) (pv 0) pe_dnewK rfl) (pss_cons (ps_for PassesOwn.never rfl (pi_enum (by rfl) (T.fr "enumerate" (by decide)) (pa_cons (pv 5) pa_nil)) (pg_tup rfl (pgs_cons (pg_name (i := 6) sc.nd rfl (Or.inl rfl)) (pgs_cons (pg_name (i := 7) sc.nd rfl (Or.inl rfl)) pgs_nil))) (pss_one (ps_expr (pe_bm PySem.F.plainAttrs_list PySem.F.slot_list_append PySem.F.type_list_append mt_append (pe_dsetd (pe_fldC (T.cl "Plant" (by decide)) (T.na "Plant" "leaving" (by decide)) (pv 0) rfl) (pe_ix ix_tup (pv 7) pe_int (fun _ _ => rfl)) (pe_lst pa_nil) ⟨by rfl, by rfl, by rfl, by rfl⟩) (pa_cons (pv 6) pa_nil))))) (pss_one (ps_fldC (T.cl "Plant" (by decide)) (T.na "Plant" "reached" (by decide)) (pv 0) (pe_call G_reached_states (hr.mono (by decide)) rfl mg_reached_states kp_reached_states b_reached_states v_reached_states passL (pa_cons (pv 1) (pa_cons (pe_fldC (T.cl "Plant" (by decide)) (T.na "Plant" "leaving" (by decide)) (pv 0) rfl) (pa_cons (pv 5) pa_nil)))) rfl)))))))))))
abbrev s_Plant_eq : Stmt := inClass (top 28) 7
theorem sc_Plant_eq : FnScope ["self", "other"] n_Plant_eq (defScope s_Plant_eq) := ⟨rfl, rfl, rfl, by decide +kernel, rfl, by decide +kernel, by decide +kernel⟩
theorem ok_Plant_eq {f : Addr} {fd : FuncData} {dvs : List V} (F : FunD K "__eq__" "Plant.__eq__" (defArgs s_Plant_eq) (defBody s_Plant_eq) (defScope s_Plant_eq) dvs [] f fd) (T : Txt K mg)
     : FnOk P w K mg base (L2.CX P w) 1 f fd n_Plant_eq (sp_Plant_eq P w K) := by
  refine F.ok sc_Plant_eq len_Plant_eq (fun cdv A outer s H vs Q E hr h => ⟨t_Plant_eq P w K, PSs.nox ?_, pure_Plant_eq vs H Q E h⟩)
  have hu := hu_of hr
  have hu64 := hr.units
  have hu65 := hu65_of hr
  have hu8 := hu8_of hr
  have sc := sc_Plant_eq
  let N : List Str := ["self", "other"]
  let st : Stmt := s_Plant_eq
  exact (pss_one (ps_ret (pe_and (pe_callB call_isi (by rfl) (T.fr "isinstance" (by decide)) (by decide +kernel) (pa_cons (pv 1) (pa_cons (pe_glob rfl (T.gl "Plant" (by decide)) rfl) pa_nil))) (pe_and (pe_cmpR op_eq (pe_fldC (T.cl "Plant" (by decide)) (T.na "Plant" "first" (by decide)) (pv 0) rfl) (pe_fldC (T.cl "Plant" (by decide)) (T.na "Plant" "first" (by decide)) (pv 1) rfl) (nomark _)) (pe_and (pe_cmpR (op_eqD hu64) (pe_fldC (T.cl "Plant" (by decide)) (T.na "Plant" "rows" (by decide)) (pv 0) rfl) (pe_fldC (T.cl "Plant" (by decide)) (T.na "Plant" "rows" (by decide)) (pv 1) rfl) (nomark _)) (pe_and (pe_cmpR (op_eqK hu8) (pe_fldC (T.cl "Plant" (by decide)) (T.na "Plant" "wanted_at" (by decide)) (pv 0) rfl) (pe_fldC (T.cl "Plant" (by decide)) (T.na "Plant" "wanted_at" (by decide)) (pv 1) rfl) (nomark _)) (pe_one (pe_cmpR (op_eqK hu8) (pe_fldC (T.cl "Plant" (by decide)) (T.na "Plant" "barred_at" (by decide)) (pv 0) rfl) (pe_fldC (T.cl "Plant" (by decide)) (T.na "Plant" "barred_at" (by decide)) (pv 1) rfl) (nomark _)))))))))
abbrev s_checked_sights : Stmt := top 30
theorem sc_checked_sights : FnScope ["sights", "table", "word", "sight"] n_checked_sights (defScope s_checked_sights) := ⟨rfl, rfl, rfl, by decide +kernel, rfl, by decide +kernel, by decide +kernel⟩
theorem ok_checked_sights {f : Addr} {fd : FuncData} {dvs : List V} (F : FunD K "checked_sights" "checked_sights" (defArgs s_checked_sights) (defBody s_checked_sights) (defScope s_checked_sights) dvs [] f fd) (T : Txt K mg)
    (h_is_name : Has P w K mg base 1 ("is_name", none) n_is_name (sp_is_name P w K) []) : FnOk P w K mg base (L2.CX P w) 2 f fd n_checked_sights (sp_checked_sights P w K) := by
  obtain ⟨mg_is_name, fd_is_name, ds_is_name, kp_is_name, G_is_name, v_is_name, b_is_name⟩ := h_is_name
  refine F.ok sc_checked_sights len_checked_sights (fun cdv A outer s H vs Q E hr h => ⟨t_checked_sights P w K, PSs.nox ?_, pure_checked_sights vs H Q E h⟩)
  have hu := hu_of hr
  have hu64 := hr.units
  have hu65 := hu65_of hr
  have hu8 := hu8_of hr
  have sc := sc_checked_sights
  let N : List Str := ["sights", "table", "word", "sight"]
  let st : Stmt := s_checked_sights
  exact (pss_cons (ps_if (pt_not (pt_val (pe_callB call_isi (by rfl) (T.fr "isinstance" (by decide)) (by decide +kernel) (pa_cons (pv 0) (pa_cons (pe_bltn (v := .ty "dict") (by rfl) (T.fr "dict" (by decide)) (by decide +kernel) rfl) pa_nil))))) (pss_one ps_never) pss_nil) (pss_cons (ps_set (i := 1) sc.nd rfl (Or.inl rfl) pe_dnewK) (pss_cons (ps_lock (ps_for PassesOwn.never rfl (pi_items (pv 0)) (pg_tup rfl (pgs_cons (pg_name (i := 2) sc.nd rfl (Or.inl rfl)) (pgs_cons (pg_name (i := 3) sc.nd rfl (Or.inl rfl)) pgs_nil))) (pss_cons (ps_if (PW.pt (pw_or (pt_not (pt_val (pe_call G_is_name (hr.mono (by decide)) rfl mg_is_name kp_is_name b_is_name v_is_name passL (pa_cons (pv 2) pa_nil)))) (pw_or1 (pt_not (pt_val (pe_call G_is_name (hr.mono (by decide)) rfl mg_is_name kp_is_name b_is_name v_is_name passL (pa_cons (pv 3) pa_nil))))))) (pss_one ps_never) pss_nil) (pss_one (ps_dput hu (pv 1) (pv 2) (pv 3) rfl))))) (pss_one (ps_ret (pv 1))))))
abbrev s_checked_words : Stmt := top 31
theorem sc_checked_words : FnScope ["words", "at"] n_checked_words (defScope s_checked_words) := ⟨rfl, rfl, rfl, by decide +kernel, rfl, by decide +kernel, by decide +kernel⟩
theorem ok_checked_words {f : Addr} {fd : FuncData} {dvs : List V} (F : FunD K "checked_words" "checked_words" (defArgs s_checked_words) (defBody s_checked_words) (defScope s_checked_words) dvs [] f fd) (T : Txt K mg)
    (h_is_row : Has P w K mg base 1 ("is_row", none) n_is_row (sp_is_row P w K) [])
    (h_first_other : Has P w K mg base 2 ("first_other", none) n_first_other (sp_first_other P w K) []) : FnOk P w K mg base (L2.CX P w) 3 f fd n_checked_words (sp_checked_words P w K) := by
  obtain ⟨mg_is_row, fd_is_row, ds_is_row, kp_is_row, G_is_row, v_is_row, b_is_row⟩ := h_is_row
  obtain ⟨mg_first_other, fd_first_other, ds_first_other, kp_first_other, G_first_other, v_first_other, b_first_other⟩ := h_first_other
  refine F.ok sc_checked_words len_checked_words (fun cdv A outer s H vs Q E hr h => ⟨t_checked_words P w K, PSs.nox ?_, pure_checked_words vs H Q E h⟩)
  have hu := hu_of hr
  have hu64 := hr.units
  have hu65 := hu65_of hr
  have hu8 := hu8_of hr
  have sc := sc_checked_words
  let N : List Str := ["words", "at"]
  let st : Stmt := s_checked_words
  exact (pss_cons (ps_if (pt_not (pt_val (pe_call G_is_row (hr.mono (by decide)) rfl mg_is_row kp_is_row b_is_row v_is_row passL (pa_cons (pv 0) pa_nil)))) (pss_one ps_never) pss_nil) (pss_cons (ps_set (i := 1) sc.nd rfl (Or.inl rfl) (pe_call G_first_other (hr.mono (by decide)) rfl mg_first_other kp_first_other b_first_other v_first_other passL (pa_cons (pv 0) pa_nil))) (pss_cons (ps_if (pt_cmpR op_ge (pv 1) pe_int (nomark _)) (pss_one ps_never) pss_nil) (pss_one (ps_ret (pe_callTy call_list_of (by rfl) (T.fr "list" (by decide)) (by decide +kernel) (pa_cons (pv 0) pa_nil)))))))
abbrev s_marked : Stmt := top 32
theorem sc_marked : FnScope ["words", "word"] n_marked (defScope s_marked) := ⟨rfl, rfl, rfl, by decide +kernel, rfl, by decide +kernel, by decide +kernel⟩
theorem ok_marked {f : Addr} {fd : FuncData} {dvs : List V} (F : FunD K "marked" "marked" (defArgs s_marked) (defBody s_marked) (defScope s_marked) dvs [] f fd) (T : Txt K mg)
     : FnOk P w K mg base (L2.CX P w) 1 f fd n_marked (sp_marked P w K) := by
  refine F.ok sc_marked len_marked (fun cdv A outer s H vs Q E hr h => ⟨t_marked P w K, PSs.nox ?_, pure_marked vs H Q E h⟩)
  have hu := hu_of hr
  have hu64 := hr.units
  have hu65 := hu65_of hr
  have hu8 := hu8_of hr
  have sc := sc_marked
  let N : List Str := ["words", "word"]
  let st : Stmt := s_marked
  exact (pss_one (ps_ret (pe_dc (own := [("word", 1)]) (g := (gName 1)) (tt := tYes) (tk := (tVar 1)) (tv := (tC (.bl true))) rfl sc.nd (pi_list (pv 0)) (blkOk_by (own := [("word", 1)]) (N := N) (sc := defScope st) (by decide +kernel)) (fun _ _ _ _ _ => (pg_name (i := 1) sc.nd rfl (Or.inl rfl))) (fun _ _ _ _ _ => pts_nil) (fun _ _ _ _ _ => (pv 1)) (fun _ _ _ _ _ => pe_bl))))
abbrev s_View_init : Stmt := inClass (top 33) 0
theorem sc_View_init : FnScope ["self", "sights", "holds"] n_View_init (defScope s_View_init) := ⟨rfl, rfl, rfl, by decide +kernel, rfl, by decide +kernel, by decide +kernel⟩
theorem ok_View_init {f : Addr} {fd : FuncData} {dvs : List V} (F : FunD K "__init__" "View.__init__" (defArgs s_View_init) (defBody s_View_init) (defScope s_View_init) dvs [] f fd) (T : Txt K mg)
    (h_checked_sights : Has P w K mg base 2 ("checked_sights", none) n_checked_sights (sp_checked_sights P w K) [])
    (h_checked_words : Has P w K mg base 3 ("checked_words", none) n_checked_words (sp_checked_words P w K) [])
    (h_marked : Has P w K mg base 1 ("marked", none) n_marked (sp_marked P w K) []) : FnOk P w K mg base (L2.CX P w) 4 f fd n_View_init (sp_View_init P w K) := by
  obtain ⟨mg_checked_sights, fd_checked_sights, ds_checked_sights, kp_checked_sights, G_checked_sights, v_checked_sights, b_checked_sights⟩ := h_checked_sights
  obtain ⟨mg_checked_words, fd_checked_words, ds_checked_words, kp_checked_words, G_checked_words, v_checked_words, b_checked_words⟩ := h_checked_words
  obtain ⟨mg_marked, fd_marked, ds_marked, kp_marked, G_marked, v_marked, b_marked⟩ := h_marked
  refine F.ok sc_View_init len_View_init (fun cdv A outer s H vs Q E hr h => ⟨t_View_init P w K, PSs.nox ?_, pure_View_init vs H Q E h⟩)
  have hu := hu_of hr
  have hu64 := hr.units
  have hu65 := hu65_of hr
  have hu8 := hu8_of hr
  have sc := sc_View_init
  let N : List Str := ["self", "sights", "holds"]
  let st : Stmt := s_View_init
  exact (pss_cons (ps_fldC (T.cl "View" (by decide)) (T.na "View" "table" (by decide)) (pv 0) pe_dnewK rfl) (pss_cons (ps_if (pt_cmpR op_notN1 (pv 1) pe_non (nomark _)) (pss_one (ps_fldC (T.cl "View" (by decide)) (T.na "View" "table" (by decide)) (pv 0) (pe_call G_checked_sights (hr.mono (by decide)) rfl mg_checked_sights kp_checked_sights b_checked_sights v_checked_sights passL (pa_cons (pv 1) pa_nil)) rfl)) pss_nil) (pss_one (ps_fldC (T.cl "View" (by decide)) (T.na "View" "can" (by decide)) (pv 0) (pe_call G_marked (hr.mono (by decide)) rfl mg_marked kp_marked b_marked v_marked passL (pa_cons (pe_call G_checked_words (hr.mono (by decide)) rfl mg_checked_words kp_checked_words b_checked_words v_checked_words passL (pa_cons (pv 2) pa_nil)) pa_nil)) rfl))))
abbrev s_View_copy : Stmt := inClass (top 33) 6
theorem sc_View_copy : FnScope ["self"] n_View_copy (defScope s_View_copy) := ⟨rfl, rfl, rfl, by decide +kernel, rfl, by decide +kernel, by decide +kernel⟩
theorem ok_View_copy {f : Addr} {fd : FuncData} {dvs : List V} (F : FunD K "copy" "View.copy" (defArgs s_View_copy) (defBody s_View_copy) (defScope s_View_copy) dvs [] f fd) (T : Txt K mg)
    (h_View : HasMk P w K mg base 4 "View" n_View_init (sp_View_init P w K) []) : FnOk P w K mg base (L2.CX P w) 6 f fd n_View_copy (sp_View_copy P w K) := by
  obtain ⟨mg_View, M_View, fd_View, ds_View, G_View, v_View, b_View⟩ := h_View
  refine F.ok sc_View_copy len_View_copy (fun cdv A outer s H vs Q E hr h => ⟨t_View_copy P w K, PSs.nox ?_, pure_View_copy vs H Q E h⟩)
  have hu := hu_of hr
  have hu64 := hr.units
  have hu65 := hu65_of hr
  have hu8 := hu8_of hr
  have sc := sc_View_copy
  let N : List Str := ["self"]
  let st : Stmt := s_View_copy
  exact (pss_one (ps_ret (pe_make M_View G_View (hr.mono (by decide)) rfl mg_View b_View v_View passL (pa_cons (pe_fldC (T.cl "View" (by decide)) (T.na "View" "table" (by decide)) (pv 0) rfl) (pa_cons (pe_callTy (call_list_dK rfl) (by rfl) (T.fr "list" (by decide)) (by decide +kernel) (pa_cons (pe_fldC (T.cl "View" (by decide)) (T.na "View" "can" (by decide)) (pv 0) rfl) pa_nil)) pa_nil)))))
abbrev s_View_eq : Stmt := inClass (top 33) 7
theorem sc_View_eq : FnScope ["self", "other"] n_View_eq (defScope s_View_eq) := ⟨rfl, rfl, rfl, by decide +kernel, rfl, by decide +kernel, by decide +kernel⟩
theorem ok_View_eq {f : Addr} {fd : FuncData} {dvs : List V} (F : FunD K "__eq__" "View.__eq__" (defArgs s_View_eq) (defBody s_View_eq) (defScope s_View_eq) dvs [] f fd) (T : Txt K mg)
     : FnOk P w K mg base (L2.CX P w) 1 f fd n_View_eq (sp_View_eq P w K) := by
  refine F.ok sc_View_eq len_View_eq (fun cdv A outer s H vs Q E hr h => ⟨t_View_eq P w K, PSs.nox ?_, pure_View_eq vs H Q E h⟩)
  have hu := hu_of hr
  have hu64 := hr.units
  have hu65 := hu65_of hr
  have hu8 := hu8_of hr
  have sc := sc_View_eq
  let N : List Str := ["self", "other"]
  let st : Stmt := s_View_eq
  exact (pss_one (ps_ret (pe_and (pe_callB call_isi (by rfl) (T.fr "isinstance" (by decide)) (by decide +kernel) (pa_cons (pv 1) (pa_cons (pe_glob rfl (T.gl "View" (by decide)) rfl) pa_nil))) (pe_and (pe_cmpR (op_eqK hu8) (pe_fldC (T.cl "View" (by decide)) (T.na "View" "table" (by decide)) (pv 0) rfl) (pe_fldC (T.cl "View" (by decide)) (T.na "View" "table" (by decide)) (pv 1) rfl) (nomark _)) (pe_one (pe_cmpR (op_eqK hu8) (pe_fldC (T.cl "View" (by decide)) (T.na "View" "can" (by decide)) (pv 0) rfl) (pe_fldC (T.cl "View" (by decide)) (T.na "View" "can" (by decide)) (pv 1) rfl) (nomark _)))))))
abbrev s_seeing : Stmt := top 34
theorem sc_seeing : FnScope ["words", "holds", "word"] n_seeing (defScope s_seeing) := ⟨rfl, rfl, rfl, by decide +kernel, rfl, by decide +kernel, by decide +kernel⟩
theorem ok_seeing {f : Addr} {fd : FuncData} {dvs : List V} (F : FunD K "seeing" "seeing" (defArgs s_seeing) (defBody s_seeing) (defScope s_seeing) dvs [] f fd) (T : Txt K mg)
    (h_checked_words : Has P w K mg base 3 ("checked_words", none) n_checked_words (sp_checked_words P w K) [])
    (h_View : HasMk P w K mg base 4 "View" n_View_init (sp_View_init P w K) []) : FnOk P w K mg base (L2.CX P w) 6 f fd n_seeing (sp_seeing P w K) := by
  obtain ⟨mg_checked_words, fd_checked_words, ds_checked_words, kp_checked_words, G_checked_words, v_checked_words, b_checked_words⟩ := h_checked_words
  obtain ⟨mg_View, M_View, fd_View, ds_View, G_View, v_View, b_View⟩ := h_View
  refine F.ok sc_seeing len_seeing (fun cdv A outer s H vs Q E hr h => ⟨t_seeing P w K, PSs.nox ?_, pure_seeing vs H Q E h⟩)
  have hu := hu_of hr
  have hu64 := hr.units
  have hu65 := hu65_of hr
  have hu8 := hu8_of hr
  have sc := sc_seeing
  let N : List Str := ["words", "holds", "word"]
  let st : Stmt := s_seeing
  exact (pss_one (ps_ret (pe_make M_View G_View (hr.mono (by decide)) rfl mg_View b_View v_View passL (pa_cons (pe_dc (own := [("word", 2)]) (g := (gName 2)) (tt := tYes) (tk := (tVar 2)) (tv := (tVar 2)) rfl sc.nd (pi_list (pe_call G_checked_words (hr.mono (by decide)) rfl mg_checked_words kp_checked_words b_checked_words v_checked_words passL (pa_cons (pv 0) pa_nil))) (blkOk_by (own := [("word", 2)]) (N := N) (sc := defScope st) (by decide +kernel)) (fun _ _ _ _ _ => (pg_name (i := 2) sc.nd rfl (Or.inl rfl))) (fun _ _ _ _ _ => pts_nil) (fun _ _ _ _ _ => (pv 2)) (fun _ _ _ _ _ => (pv 2))) (pa_cons (pv 1) pa_nil)))))
abbrev s_sights_told : Stmt := top 37
theorem sc_sights_told : FnScope ["view"] n_sights_told (defScope s_sights_told) := ⟨rfl, rfl, rfl, by decide +kernel, rfl, by decide +kernel, by decide +kernel⟩
theorem ok_sights_told {f : Addr} {fd : FuncData} {dvs : List V} (F : FunD K "sights_told" "sights_told" (defArgs s_sights_told) (defBody s_sights_told) (defScope s_sights_told) dvs [] f fd) (T : Txt K mg)
     : FnOk P w K mg base (L2.CX P w) 1 f fd n_sights_told (sp_sights_told P w K) := by
  refine F.ok sc_sights_told len_sights_told (fun cdv A outer s H vs Q E hr h => ⟨t_sights_told P w K, PSs.nox ?_, pure_sights_told vs H Q E h⟩)
  have hu := hu_of hr
  have hu64 := hr.units
  have hu65 := hu65_of hr
  have hu8 := hu8_of hr
  have sc := sc_sights_told
  let N : List Str := ["view"]
  let st : Stmt := s_sights_told
  exact (pss_one (ps_ret (pe_callB (cr_sortedM rfl) (by rfl) (T.fr "sorted" (by decide)) (by decide +kernel) (pa_cons (pe_callTy (cr_setOfK rfl) (by rfl) (T.fr "set" (by decide)) (by decide +kernel) (pa_cons (pe_callTy (call_listVals rfl) (by rfl) (T.fr "list" (by decide)) (by decide +kernel) (pa_cons (pe_bm0 PySem.F.plainAttrs_dict PySem.F.slot_dict_values PySem.F.type_dict_values mt_values (pe_fldC (T.cl "View" (by decide)) (T.na "View" "table" (by decide)) (pv 0) rfl)) pa_nil)) pa_nil)) pa_nil))))
abbrev s_checked_lines : Stmt := top 38
theorem sc_checked_lines : FnScope ["view", "held", "lines", "item", "word"] n_checked_lines (defScope s_checked_lines) := ⟨rfl, rfl, rfl, by decide +kernel, rfl, by decide +kernel, by decide +kernel⟩
theorem ok_checked_lines {f : Addr} {fd : FuncData} {dvs : List V} (F : FunD K "checked_lines" "checked_lines" (defArgs s_checked_lines) (defBody s_checked_lines) (defScope s_checked_lines) dvs [] f fd) (T : Txt K mg)
    (h_is_row : Has P w K mg base 1 ("is_row", none) n_is_row (sp_is_row P w K) [])
    (h_is_name : Has P w K mg base 1 ("is_name", none) n_is_name (sp_is_name P w K) []) : FnOk P w K mg base (L2.CX P w) 2 f fd n_checked_lines (sp_checked_lines P w K) := by
  obtain ⟨mg_is_row, fd_is_row, ds_is_row, kp_is_row, G_is_row, v_is_row, b_is_row⟩ := h_is_row
  obtain ⟨mg_is_name, fd_is_name, ds_is_name, kp_is_name, G_is_name, v_is_name, b_is_name⟩ := h_is_name
  refine F.ok sc_checked_lines len_checked_lines (fun cdv A outer s H vs Q E hr h => ⟨t_checked_lines P w K, PSs.nox ?_, pure_checked_lines vs H Q E h⟩)
  have hu := hu_of hr
  have hu64 := hr.units
  have hu65 := hu65_of hr
  have hu8 := hu8_of hr
  have sc := sc_checked_lines
  let N : List Str := ["view", "held", "lines", "item", "word"]
  let st : Stmt := s_checked_lines
  exact (pss_cons (ps_if (PW.pt (pw_or (pt_not (pt_val (pe_call G_is_row (hr.mono (by decide)) rfl mg_is_row kp_is_row b_is_row v_is_row passL (pa_cons (pv 1) pa_nil)))) (pw_or1 (pt_not (pt_chain op_le op_le pe_int (pe_callB call_len (by rfl) (T.fr "len" (by decide)) (by decide +kernel) (pa_cons (pv 1) pa_nil)) (pe_glob rfl (T.int "MOST_NODES" 200 (by decide)).choose_spec ⟨_, rfl⟩)))))) (pss_one ps_never) pss_nil) (pss_cons (ps_set (i := 2) sc.nd rfl (Or.inl rfl) (pe_lst pa_nil)) (pss_cons (ps_for PassesOwn.never rfl (pi_row (pv 1)) (pg_name (i := 3) sc.nd rfl (Or.inl rfl)) (pss_cons (ps_if (PW.pt (pw_or (pt_not (pt_val (pe_call G_is_row (hr.mono (by decide)) rfl mg_is_row kp_is_row b_is_row v_is_row passL (pa_cons (pv 3) pa_nil)))) (pw_or1 (pt_not (pt_val (pe_callB (cr_all rfl) (by rfl) (T.fr "all" (by decide)) (by decide +kernel) (pa_cons (pe_lc (own := [("word", 4)]) (g := (gName 4)) (tt := tYes) (te := (tAndV (tCall (sp_is_name P w K) [] E0 (tCons (tVar 4) tNil)) (tDIn (tVar 4) (tFldC (He.ga K "View") (tVar 0) "can")))) rfl sc.nd (pi_row (pv 3)) (blkOk_by (own := [("word", 4)]) (N := N) (sc := defScope st) (by decide +kernel)) (fun _ _ _ _ _ => (pg_name (i := 4) sc.nd rfl (Or.inl rfl))) (fun _ _ _ _ _ => pts_nil) (fun _ _ _ _ _ => (pe_and (pe_call G_is_name (hr.mono (by decide)) rfl mg_is_name kp_is_name b_is_name v_is_name passL (pa_cons (pv 4) pa_nil)) (pe_one (pe_cmp (pc_din hu (pv 4) (pe_fldC (T.cl "View" (by decide)) (T.na "View" "can" (by decide)) (pv 0) rfl))))))) pa_nil))))))) (pss_one ps_never) pss_nil) (pss_one (ps_expr (pe_bm PySem.F.plainAttrs_list PySem.F.slot_list_append PySem.F.type_list_append mt_append (pv 2) (pa_cons (pe_callTy call_tuple_of (by rfl) (T.fr "tuple" (by decide)) (by decide +kernel) (pa_cons (pe_callB (cr_sortedM rfl) (by rfl) (T.fr "sorted" (by decide)) (by decide +kernel) (pa_cons (pe_callTy (cr_setOfK rfl) (by rfl) (T.fr "set" (by decide)) (by decide +kernel) (pa_cons (pv 3) pa_nil)) pa_nil)) pa_nil)) pa_nil)))))) (pss_one (ps_ret (pv 2))))))
abbrev s_is_place : Stmt := top 39
theorem sc_is_place : FnScope ["key", "size", "sights"] n_is_place (defScope s_is_place) := ⟨rfl, rfl, rfl, by decide +kernel, rfl, by decide +kernel, by decide +kernel⟩
theorem ok_is_place {f : Addr} {fd : FuncData} {dvs : List V} (F : FunD K "is_place" "is_place" (defArgs s_is_place) (defBody s_is_place) (defScope s_is_place) dvs [] f fd) (T : Txt K mg)
    (h_is_number_below : Has P w K mg base 2 ("is_number_below", none) n_is_number_below (sp_is_number_below P w K) [])
    (h_is_name : Has P w K mg base 1 ("is_name", none) n_is_name (sp_is_name P w K) []) : FnOk P w K mg base (L2.CX P w) 3 f fd n_is_place (sp_is_place P w K) := by
  obtain ⟨mg_is_number_below, fd_is_number_below, ds_is_number_below, kp_is_number_below, G_is_number_below, v_is_number_below, b_is_number_below⟩ := h_is_number_below
  obtain ⟨mg_is_name, fd_is_name, ds_is_name, kp_is_name, G_is_name, v_is_name, b_is_name⟩ := h_is_name
  refine F.ok sc_is_place len_is_place (fun cdv A outer s H vs Q E hr h => ⟨t_is_place P w K, PSs.nox ?_, pure_is_place vs H Q E h⟩)
  have hu := hu_of hr
  have hu64 := hr.units
  have hu65 := hu65_of hr
  have hu8 := hu8_of hr
  have sc := sc_is_place
  let N : List Str := ["key", "size", "sights"]
  let st : Stmt := s_is_place
  exact (pss_cons (ps_if (PW.pt (pw_or (pt_not (pt_val (pe_callB call_isi (by rfl) (T.fr "isinstance" (by decide)) (by decide +kernel) (pa_cons (pv 0) (pa_cons (pe_bltn (v := .ty "tuple") (by rfl) (T.fr "tuple" (by decide)) (by decide +kernel) rfl) pa_nil))))) (pw_or (pt_cmpR op_ne (pe_callB call_len (by rfl) (T.fr "len" (by decide)) (by decide +kernel) (pa_cons (pv 0) pa_nil)) pe_int (nomark _)) (pw_or1 (pt_not (pt_val (pe_call G_is_number_below (hr.mono (by decide)) rfl mg_is_number_below kp_is_number_below b_is_number_below v_is_number_below passL (pa_cons (pe_ix ix_tup (pv 0) pe_int (fun _ _ => rfl)) (pa_cons (pv 1) pa_nil))))))))) (pss_one (ps_ret pe_bl)) pss_nil) (pss_one (ps_ret (pe_and (pe_call G_is_name (hr.mono (by decide)) rfl mg_is_name kp_is_name b_is_name v_is_name passL (pa_cons (pe_ix ix_tup (pv 0) pe_int (fun _ _ => rfl)) pa_nil)) (pe_one (pe_cmpR op_in_seq (pe_ix ix_tup (pv 0) pe_int (fun _ _ => rfl)) (pv 2) rfl))))))
abbrev s_checked_arrows : Stmt := top 40
theorem sc_checked_arrows : FnScope ["view", "size", "moves", "sights", "arrows", "key", "value"] n_checked_arrows (defScope s_checked_arrows) := ⟨rfl, rfl, rfl, by decide +kernel, rfl, by decide +kernel, by decide +kernel⟩
theorem ok_checked_arrows {f : Addr} {fd : FuncData} {dvs : List V} (F : FunD K "checked_arrows" "checked_arrows" (defArgs s_checked_arrows) (defBody s_checked_arrows) (defScope s_checked_arrows) dvs [] f fd) (T : Txt K mg)
    (h_sights_told : Has P w K mg base 1 ("sights_told", none) n_sights_told (sp_sights_told P w K) [])
    (h_is_place : Has P w K mg base 3 ("is_place", none) n_is_place (sp_is_place P w K) [])
    (h_is_number_below : Has P w K mg base 2 ("is_number_below", none) n_is_number_below (sp_is_number_below P w K) []) : FnOk P w K mg base (L2.CX P w) 4 f fd n_checked_arrows (sp_checked_arrows P w K) := by
  obtain ⟨mg_sights_told, fd_sights_told, ds_sights_told, kp_sights_told, G_sights_told, v_sights_told, b_sights_told⟩ := h_sights_told
  obtain ⟨mg_is_place, fd_is_place, ds_is_place, kp_is_place, G_is_place, v_is_place, b_is_place⟩ := h_is_place
  obtain ⟨mg_is_number_below, fd_is_number_below, ds_is_number_below, kp_is_number_below, G_is_number_below, v_is_number_below, b_is_number_below⟩ := h_is_number_below
  refine F.ok sc_checked_arrows len_checked_arrows (fun cdv A outer s H vs Q E hr h => ⟨t_checked_arrows P w K, PSs.nox ?_, pure_checked_arrows vs H Q E h⟩)
  have hu := hu_of hr
  have hu64 := hr.units
  have hu65 := hu65_of hr
  have hu8 := hu8_of hr
  have sc := sc_checked_arrows
  let N : List Str := ["view", "size", "moves", "sights", "arrows", "key", "value"]
  let st : Stmt := s_checked_arrows
  exact (pss_cons (ps_if (pt_not (pt_val (pe_callB call_isi (by rfl) (T.fr "isinstance" (by decide)) (by decide +kernel) (pa_cons (pv 2) (pa_cons (pe_bltn (v := .ty "dict") (by rfl) (T.fr "dict" (by decide)) (by decide +kernel) rfl) pa_nil))))) (pss_one ps_never) pss_nil) (pss_cons (ps_set (i := 3) sc.nd rfl (Or.inl rfl) (pe_call G_sights_told (hr.mono (by decide)) rfl mg_sights_told kp_sights_told b_sights_told v_sights_told passL (pa_cons (pv 0) pa_nil))) (pss_cons (ps_set (i := 4) sc.nd rfl (Or.inl rfl) pe_dnewT) (pss_cons (ps_lock (ps_for PassesOwn.never rfl (pi_itemsT (pv 2)) (pg_tup rfl (pgs_cons (pg_name (i := 5) sc.nd rfl (Or.inl rfl)) (pgs_cons (pg_name (i := 6) sc.nd rfl (Or.inl rfl)) pgs_nil))) (pss_cons (ps_if (pt_not (pt_val (pe_call G_is_place (hr.mono (by decide)) rfl mg_is_place kp_is_place b_is_place v_is_place passL (pa_cons (pv 5) (pa_cons (pv 1) (pa_cons (pv 3) pa_nil)))))) (pss_one ps_never) pss_nil) (pss_cons (ps_if (pt_not (pt_val (pe_call G_is_number_below (hr.mono (by decide)) rfl mg_is_number_below kp_is_number_below b_is_number_below v_is_number_below passL (pa_cons (pv 6) (pa_cons (pv 1) pa_nil))))) (pss_one ps_never) pss_nil) (pss_one (ps_dput hu (pv 4) (pv 5) (pv 6) rfl)))))) (pss_one (ps_ret (pv 4)))))))
abbrev s_Guard_init : Stmt := inClass (top 41) 0
theorem sc_Guard_init : FnScope ["self", "view", "moves", "held"] n_Guard_init (defScope s_Guard_init) := ⟨rfl, rfl, rfl, by decide +kernel, rfl, by decide +kernel, by decide +kernel⟩
theorem ok_Guard_init {f : Addr} {fd : FuncData} {dvs : List V} (F : FunD K "__init__" "Guard.__init__" (defArgs s_Guard_init) (defBody s_Guard_init) (defScope s_Guard_init) dvs [] f fd) (T : Txt K mg)
    (h_checked_lines : Has P w K mg base 2 ("checked_lines", none) n_checked_lines (sp_checked_lines P w K) [])
    (h_checked_arrows : Has P w K mg base 4 ("checked_arrows", none) n_checked_arrows (sp_checked_arrows P w K) [])
    (h_View_copy : HasMe P w K mg base 6 "View" "copy" n_View_copy (sp_View_copy P w K) []) : FnOk P w K mg base (L2.CX P w) 8 f fd n_Guard_init (sp_Guard_init P w K) := by
  obtain ⟨mg_checked_lines, fd_checked_lines, ds_checked_lines, kp_checked_lines, G_checked_lines, v_checked_lines, b_checked_lines⟩ := h_checked_lines
  obtain ⟨mg_checked_arrows, fd_checked_arrows, ds_checked_arrows, kp_checked_arrows, G_checked_arrows, v_checked_arrows, b_checked_arrows⟩ := h_checked_arrows
  obtain ⟨me_View_copy, fd_View_copy, ds_View_copy, G_View_copy, v_View_copy, b_View_copy⟩ := h_View_copy
  refine F.ok sc_Guard_init len_Guard_init (fun cdv A outer s H vs Q E hr h => ⟨t_Guard_init P w K, PSs.nox ?_, pure_Guard_init vs H Q E h⟩)
  have hu := hu_of hr
  have hu64 := hr.units
  have hu65 := hu65_of hr
  have hu8 := hu8_of hr
  have sc := sc_Guard_init
  let N : List Str := ["self", "view", "moves", "held"]
  let st : Stmt := s_Guard_init
  exact (pss_cons (ps_if (pt_not (pt_val (pe_callB call_isi (by rfl) (T.fr "isinstance" (by decide)) (by decide +kernel) (pa_cons (pv 1) (pa_cons (pe_glob rfl (T.gl "View" (by decide)) rfl) pa_nil))))) (pss_one ps_never) pss_nil) (pss_cons (ps_fldC (T.cl "Guard" (by decide)) (T.na "Guard" "own" (by decide)) (pv 0) (pe_meth0 (pv 1) (T.cl "View" (by decide)) me_View_copy G_View_copy (hr.mono (by decide)) b_View_copy v_View_copy passL) rfl) (pss_cons (ps_fldC (T.cl "Guard" (by decide)) (T.na "Guard" "lines" (by decide)) (pv 0) (pe_call G_checked_lines (hr.mono (by decide)) rfl mg_checked_lines kp_checked_lines b_checked_lines v_checked_lines passL (pa_cons (pe_fldC (T.cl "Guard" (by decide)) (T.na "Guard" "own" (by decide)) (pv 0) rfl) (pa_cons (pv 3) pa_nil))) rfl) (pss_one (ps_fldC (T.cl "Guard" (by decide)) (T.na "Guard" "arrows" (by decide)) (pv 0) (pe_call G_checked_arrows (hr.mono (by decide)) rfl mg_checked_arrows kp_checked_arrows b_checked_arrows v_checked_arrows passL (pa_cons (pe_fldC (T.cl "Guard" (by decide)) (T.na "Guard" "own" (by decide)) (pv 0) rfl) (pa_cons (pe_callB call_len (by rfl) (T.fr "len" (by decide)) (by decide +kernel) (pa_cons (pe_fldC (T.cl "Guard" (by decide)) (T.na "Guard" "lines" (by decide)) (pv 0) rfl) pa_nil)) (pa_cons (pv 2) pa_nil)))) rfl)))))
abbrev s_Guard_eq : Stmt := inClass (top 41) 5
theorem sc_Guard_eq : FnScope ["self", "other"] n_Guard_eq (defScope s_Guard_eq) := ⟨rfl, rfl, rfl, by decide +kernel, rfl, by decide +kernel, by decide +kernel⟩
theorem ok_Guard_eq {f : Addr} {fd : FuncData} {dvs : List V} (F : FunD K "__eq__" "Guard.__eq__" (defArgs s_Guard_eq) (defBody s_Guard_eq) (defScope s_Guard_eq) dvs [] f fd) (T : Txt K mg)
    (h_View_eq : HasMe P w K mg base 1 "View" "__eq__" n_View_eq (sp_View_eq P w K) []) : FnOk P w K mg base (L2.CX P w) 3 f fd n_Guard_eq (sp_Guard_eq P w K) := by
  obtain ⟨me_View_eq, fd_View_eq, ds_View_eq, G_View_eq, v_View_eq, b_View_eq⟩ := h_View_eq
  cases v_View_eq
  refine F.ok sc_Guard_eq len_Guard_eq (fun cdv A outer s H vs Q E hr h => ⟨t_Guard_eq P w K, PSs.nox ?_, pure_Guard_eq vs H Q E h⟩)
  have hu := hu_of hr
  have hu64 := hr.units
  have hu65 := hu65_of hr
  have hu8 := hu8_of hr
  have sc := sc_Guard_eq
  let N : List Str := ["self", "other"]
  let st : Stmt := s_Guard_eq
  exact (pss_one (ps_ret (pe_and (pe_callB call_isi (by rfl) (T.fr "isinstance" (by decide)) (by decide +kernel) (pa_cons (pv 1) (pa_cons (pe_glob rfl (T.gl "Guard" (by decide)) rfl) pa_nil))) (pe_and (pe_cmpR (op_ownEq me_View_eq G_View_eq (hr.mono (by decide)) b_View_eq passL) (pe_fldC (T.cl "Guard" (by decide)) (T.na "Guard" "own" (by decide)) (pv 0) rfl) (pe_fldC (T.cl "Guard" (by decide)) (T.na "Guard" "own" (by decide)) (pv 1) rfl) (nomark _)) (pe_and (pe_cmpR (op_eqD hu64) (pe_fldC (T.cl "Guard" (by decide)) (T.na "Guard" "lines" (by decide)) (pv 0) rfl) (pe_fldC (T.cl "Guard" (by decide)) (T.na "Guard" "lines" (by decide)) (pv 1) rfl) (nomark _)) (pe_one (pe_cmpR (op_eqT hu8) (pe_fldC (T.cl "Guard" (by decide)) (T.na "Guard" "arrows" (by decide)) (pv 0) rfl) (pe_fldC (T.cl "Guard" (by decide)) (T.na "Guard" "arrows" (by decide)) (pv 1) rfl) (nomark _))))))))
abbrev s__law_stream : Stmt := top 51
theorem sc__law_stream : FnScope ["_law_script", "_law_at", "_law_cell"] n__law_stream (defScope s__law_stream) := ⟨rfl, rfl, rfl, by decide +kernel, rfl, by decide +kernel, by decide +kernel⟩
theorem ok__law_stream {f : Addr} {fd : FuncData} {dvs : List V} (F : FunD K "_law_stream" "_law_stream" (defArgs s__law_stream) (defBody s__law_stream) (defScope s__law_stream) dvs [] f fd) (T : Txt K mg)
     : FnOk P w K mg base (L2.CX P w) 1 f fd n__law_stream (sp__law_stream P w K) := by
  refine F.ok sc__law_stream len__law_stream (fun cdv A outer s H vs Q E hr h => ⟨t__law_stream P w K, PSs.nox ?_, pure__law_stream vs H Q E h⟩)
  have hu := hu_of hr
  have hu64 := hr.units
  have hu65 := hu65_of hr
  have hu8 := hu8_of hr
  have sc := sc__law_stream
  let N : List Str := ["_law_script", "_law_at", "_law_cell"]
  let st : Stmt := s__law_stream
  exact (pss_cons (ps_set (i := 2) sc.nd rfl (Or.inl rfl) pe_int) (pss_cons (ps_if (pt_cmpR op_lt (pv 1) (pe_callB call_len (by rfl) (T.fr "len" (by decide)) (by decide +kernel) (pa_cons (pv 0) pa_nil)) (nomark _)) (pss_one (ps_set (i := 2) sc.nd rfl (Or.inl rfl) (pe_ix ix_list (pv 0) (pv 1) (fun _ _ => rfl)))) pss_nil) (pss_cons (ps_if (pt_cmpR op_ge (pv 2) (pe_op op_pow pe_int pe_int) (nomark _)) (pss_one (ps_ret (pe_lst (pa_cons (pv 2) (pa_cons pe_int (pa_cons (pv 1) pa_nil)))))) pss_nil) (pss_one (ps_ret (pe_lst (pa_cons pe_int (pa_cons pe_int (pa_cons (pe_op op_mod (pe_callTy call_int1 (by rfl) (T.fr "int" (by decide)) (by decide +kernel) (pa_cons (pe_op op_add (pe_op op_mul (pv 2) pe_int) (pe_op op_mul (pv 1) pe_int)) pa_nil)) pe_int) pa_nil)))))))))
abbrev s__law_draw : Stmt := top 52
theorem sc__law_draw : FnScope ["_law_stream_here", "_law_limit", "_law_number", "_law_rest"] n__law_draw (defScope s__law_draw) := ⟨rfl, rfl, rfl, by decide +kernel, rfl, by decide +kernel, by decide +kernel⟩
theorem ok__law_draw {f : Addr} {fd : FuncData} {dvs : List V} (F : FunD K "_law_draw" "_law_draw" (defArgs s__law_draw) (defBody s__law_draw) (defScope s__law_draw) dvs [] f fd) (T : Txt K mg)
     : FnOk P w K mg base (L2.CX P w) 1 f fd n__law_draw (sp__law_draw P w K) := by
  refine F.ok sc__law_draw len__law_draw (fun cdv A outer s H vs Q E hr h => ⟨t__law_draw P w K, PSs.nox ?_, pure__law_draw vs H Q E h⟩)
  have hu := hu_of hr
  have hu64 := hr.units
  have hu65 := hu65_of hr
  have hu8 := hu8_of hr
  have sc := sc__law_draw
  let N : List Str := ["_law_stream_here", "_law_limit", "_law_number", "_law_rest"]
  let st : Stmt := s__law_draw
  exact (pss_cons (ps_if (pt_cmpR op_gt (pe_ix ix_list (pv 0) pe_int (fun _ _ => rfl)) pe_int (nomark _)) (pss_cons (ps_set (i := 3) sc.nd rfl (Or.inl rfl) (pe_ix ix_list (pv 0) pe_int (fun _ _ => rfl))) (pss_cons (ps_asg (pe_op op_fdivW (pv 3) (pv 1)) (pg_sub (pv 0) pe_int set_list)) (pss_one (ps_ret (pe_op op_mod (pe_callTy call_int1 (by rfl) (T.fr "int" (by decide)) (by decide +kernel) (pa_cons (pv 3) pa_nil)) (pv 1)))))) pss_nil) (pss_cons (ps_asg (pe_op op_add (pe_ix ix_list (pv 0) pe_int (fun _ _ => rfl)) pe_int) (pg_sub (pv 0) pe_int set_list)) (pss_cons (ps_set (i := 2) sc.nd rfl (Or.inl rfl) (pe_op op_mod (pe_callTy call_int1 (by rfl) (T.fr "int" (by decide)) (by decide +kernel) (pa_cons (pe_op op_add (pe_op op_add (pe_op op_mul (pe_ix ix_list (pv 0) pe_int (fun _ _ => rfl)) pe_int) (pe_op op_mul (pe_ix ix_list (pv 0) pe_int (fun _ _ => rfl)) pe_int)) pe_int) pa_nil)) pe_int)) (pss_cons (ps_set (i := 2) sc.nd rfl (Or.inl rfl) (pe_op op_mod (pe_callTy call_int1 (by rfl) (T.fr "int" (by decide)) (by decide +kernel) (pa_cons (pe_op op_mul (pv 2) (pe_op op_add (pe_op op_fdivW (pv 2) pe_int) pe_int)) pa_nil)) pe_int)) (pss_cons (ps_asg (pv 2) (pg_sub (pv 0) pe_int set_list)) (pss_one (ps_ret (pe_op op_mod (pe_callTy call_int1 (by rfl) (T.fr "int" (by decide)) (by decide +kernel) (pa_cons (pe_op op_fdivW (pv 2) pe_int) pa_nil)) (pv 1)))))))))
abbrev s__law_rows : Stmt := top 53
theorem sc__law_rows : FnScope ["_law_stream_here", "_law_places", "_law_names", "_law_rows_here", "_law_turn", "_law_first", "_law_name", "_law_row"] n__law_rows (defScope s__law_rows) := ⟨rfl, rfl, rfl, by decide +kernel, rfl, by decide +kernel, by decide +kernel⟩
theorem ok__law_rows {f : Addr} {fd : FuncData} {dvs : List V} (F : FunD K "_law_rows" "_law_rows" (defArgs s__law_rows) (defBody s__law_rows) (defScope s__law_rows) dvs [] f fd) (T : Txt K mg)
    (h__law_draw : Has P w K mg base 1 ("_law_draw", none) n__law_draw (sp__law_draw P w K) []) : FnOk P w K mg base (L2.CX P w) 2 f fd n__law_rows (sp__law_rows P w K) := by
  obtain ⟨mg__law_draw, fd__law_draw, ds__law_draw, kp__law_draw, G__law_draw, v__law_draw, b__law_draw⟩ := h__law_draw
  refine F.ok sc__law_rows len__law_rows (fun cdv A outer s H vs Q E hr h => ⟨t__law_rows P w K, PSs.nox ?_, pure__law_rows vs H Q E h⟩)
  have hu := hu_of hr
  have hu64 := hr.units
  have hu65 := hu65_of hr
  have hu8 := hu8_of hr
  have sc := sc__law_rows
  let N : List Str := ["_law_stream_here", "_law_places", "_law_names", "_law_rows_here", "_law_turn", "_law_first", "_law_name", "_law_row"]
  let st : Stmt := s__law_rows
  exact (pss_cons (ps_set (i := 3) sc.nd rfl (Or.inl rfl) (pe_lst pa_nil)) (pss_cons (ps_for PassesOwn.never rfl (pi_range1 rfl (T.fr "range" (by decide)) (pa_cons (pe_op op_add pe_int (pe_call G__law_draw (hr.mono (by decide)) rfl mg__law_draw kp__law_draw b__law_draw v__law_draw passL (pa_cons (pv 0) (pa_cons pe_int pa_nil)))) pa_nil)) (pg_name (i := 4) sc.nd rfl (Or.inl rfl)) (pss_cons (ps_set (i := 5) sc.nd rfl (Or.inl rfl) (pe_ix ix_list (pv 1) (pe_call G__law_draw (hr.mono (by decide)) rfl mg__law_draw kp__law_draw b__law_draw v__law_draw passL (pa_cons (pv 0) (pa_cons (pe_callB call_len (by rfl) (T.fr "len" (by decide)) (by decide +kernel) (pa_cons (pv 1) pa_nil)) pa_nil))) (fun _ _ => rfl))) (pss_cons (ps_set (i := 6) sc.nd rfl (Or.inl rfl) (pe_ix ix_list (pv 2) (pe_call G__law_draw (hr.mono (by decide)) rfl mg__law_draw kp__law_draw b__law_draw v__law_draw passL (pa_cons (pv 0) (pa_cons (pe_callB call_len (by rfl) (T.fr "len" (by decide)) (by decide +kernel) (pa_cons (pv 2) pa_nil)) pa_nil))) (fun _ _ => rfl))) (pss_cons (ps_set (i := 7) sc.nd rfl (Or.inl rfl) (pe_tup (pa_cons (pv 5) (pa_cons (pv 6) (pa_cons (pe_ix ix_list (pv 1) (pe_call G__law_draw (hr.mono (by decide)) rfl mg__law_draw kp__law_draw b__law_draw v__law_draw passL (pa_cons (pv 0) (pa_cons (pe_callB call_len (by rfl) (T.fr "len" (by decide)) (by decide +kernel) (pa_cons (pv 1) pa_nil)) pa_nil))) (fun _ _ => rfl)) pa_nil))))) (pss_one (ps_if (pt_cmpR (op_notInD hu65) (pv 7) (pv 3) rfl) (pss_one (ps_expr (pe_bm PySem.F.plainAttrs_list PySem.F.slot_list_append PySem.F.type_list_append mt_append (pv 3) (pa_cons (pv 7) pa_nil)))) pss_nil)))))) (pss_one (ps_ret (pv 3)))))
abbrev s__law_table : Stmt := top 54
theorem sc__law_table : FnScope ["_law_stream_here", "_law_names", "_law_table_here", "_law_name", "_law_kind"] n__law_table (defScope s__law_table) := ⟨rfl, rfl, rfl, by decide +kernel, rfl, by decide +kernel, by decide +kernel⟩
theorem ok__law_table {f : Addr} {fd : FuncData} {dvs : List V} (F : FunD K "_law_table" "_law_table" (defArgs s__law_table) (defBody s__law_table) (defScope s__law_table) dvs [] f fd) (T : Txt K mg)
    (h__law_draw : Has P w K mg base 1 ("_law_draw", none) n__law_draw (sp__law_draw P w K) []) : FnOk P w K mg base (L2.CX P w) 2 f fd n__law_table (sp__law_table P w K) := by
  obtain ⟨mg__law_draw, fd__law_draw, ds__law_draw, kp__law_draw, G__law_draw, v__law_draw, b__law_draw⟩ := h__law_draw
  refine F.ok sc__law_table len__law_table (fun cdv A outer s H vs Q E hr h => ⟨t__law_table P w K, PSs.nox ?_, pure__law_table vs H Q E h⟩)
  have hu := hu_of hr
  have hu64 := hr.units
  have hu65 := hu65_of hr
  have hu8 := hu8_of hr
  have sc := sc__law_table
  let N : List Str := ["_law_stream_here", "_law_names", "_law_table_here", "_law_name", "_law_kind"]
  let st : Stmt := s__law_table
  exact (pss_cons (ps_set (i := 2) sc.nd rfl (Or.inl rfl) pe_dnewK) (pss_cons (ps_for PassesOwn.never rfl (pi_list (pv 1)) (pg_name (i := 3) sc.nd rfl (Or.inl rfl)) (pss_cons (ps_set (i := 4) sc.nd rfl (Or.inl rfl) (pe_call G__law_draw (hr.mono (by decide)) rfl mg__law_draw kp__law_draw b__law_draw v__law_draw passL (pa_cons (pv 0) (pa_cons pe_int pa_nil)))) (pss_one (ps_if (pt_cmpR op_gt (pv 4) pe_int (nomark _)) (pss_one (ps_dput hu (pv 2) (pv 3) (pe_ix ix_list (pv 1) (pe_op op_sub (pv 4) pe_int) (fun _ _ => rfl)) rfl)) pss_nil)))) (pss_one (ps_ret (pv 2)))))
abbrev s__law_arrows : Stmt := top 55
theorem sc__law_arrows : FnScope ["_law_stream_here", "_law_table_here", "_law_many", "_law_arrows_here", "_law_mark", "_law_node", "_law_end"] n__law_arrows (defScope s__law_arrows) := ⟨rfl, rfl, rfl, by decide +kernel, rfl, by decide +kernel, by decide +kernel⟩
theorem ok__law_arrows {f : Addr} {fd : FuncData} {dvs : List V} (F : FunD K "_law_arrows" "_law_arrows" (defArgs s__law_arrows) (defBody s__law_arrows) (defScope s__law_arrows) dvs [] f fd) (T : Txt K mg)
    (h__law_draw : Has P w K mg base 1 ("_law_draw", none) n__law_draw (sp__law_draw P w K) []) : FnOk P w K mg base (L2.CX P w) 2 f fd n__law_arrows (sp__law_arrows P w K) := by
  obtain ⟨mg__law_draw, fd__law_draw, ds__law_draw, kp__law_draw, G__law_draw, v__law_draw, b__law_draw⟩ := h__law_draw
  refine F.ok sc__law_arrows len__law_arrows (fun cdv A outer s H vs Q E hr h => ⟨t__law_arrows P w K, PSs.nox ?_, pure__law_arrows vs H Q E h⟩)
  have hu := hu_of hr
  have hu64 := hr.units
  have hu65 := hu65_of hr
  have hu8 := hu8_of hr
  have sc := sc__law_arrows
  let N : List Str := ["_law_stream_here", "_law_table_here", "_law_many", "_law_arrows_here", "_law_mark", "_law_node", "_law_end"]
  let st : Stmt := s__law_arrows
  exact (pss_cons (ps_set (i := 3) sc.nd rfl (Or.inl rfl) pe_dnewT) (pss_cons (ps_for PassesOwn.never rfl (pi_list (pe_callB (cr_sortedM rfl) (by rfl) (T.fr "sorted" (by decide)) (by decide +kernel) (pa_cons (pe_callTy (cr_setOfK rfl) (by rfl) (T.fr "set" (by decide)) (by decide +kernel) (pa_cons (pe_callTy (call_listVals rfl) (by rfl) (T.fr "list" (by decide)) (by decide +kernel) (pa_cons (pe_bm0 PySem.F.plainAttrs_dict PySem.F.slot_dict_values PySem.F.type_dict_values mt_values (pv 1)) pa_nil)) pa_nil)) pa_nil))) (pg_name (i := 4) sc.nd rfl (Or.inl rfl)) (pss_one (ps_for PassesOwn.never rfl (pi_range1 rfl (T.fr "range" (by decide)) (pa_cons (pv 2) pa_nil)) (pg_name (i := 5) sc.nd rfl (Or.inl rfl)) (pss_cons (ps_set (i := 6) sc.nd rfl (Or.inl rfl) (pe_call G__law_draw (hr.mono (by decide)) rfl mg__law_draw kp__law_draw b__law_draw v__law_draw passL (pa_cons (pv 0) (pa_cons (pe_op op_add (pv 2) pe_int) pa_nil)))) (pss_one (ps_if (pt_cmpR op_lt (pv 6) (pv 2) (nomark _)) (pss_one (ps_dput hu (pv 3) (pe_tup (pa_cons (pv 5) (pa_cons (pv 4) pa_nil))) (pv 6) rfl)) pss_nil)))))) (pss_one (ps_ret (pv 3)))))

end
end LG
end

section
set_option maxHeartbeats 4000000
namespace LG
open PySem PySem.Spec PyProof.Rows L2
section
variable {P : Program} {w : World} {K : PySem.W.Frag} {mg : Str → Option Value} {base : Heap}
abbrev s_law : Stmt := top 56
theorem sc_law : FnScope ["_law_script", "_law_stream_here", "_law_base", "_law_names", "_law_rows_here", "_law_kinds", "_law_good", "_law_bad", "_law_one", "_law_table_here", "_law_grips", "_law_eye", "_law_lines", "_law_arrows_here", "_law_row", "_law_at", "_law_name", "_law_k"] n_law (defScope s_law) := ⟨rfl, rfl, rfl, by decide +kernel, rfl, by decide +kernel, by decide +kernel⟩
theorem ok_law {f : Addr} {fd : FuncData} {dvs : List V} (F : FunD K "law" "law" (defArgs s_law) (defBody s_law) (defScope s_law) dvs [] f fd) (T : Txt K mg)
    (h__law_stream : Has P w K mg base 1 ("_law_stream", none) n__law_stream (sp__law_stream P w K) [])
    (h__law_draw : Has P w K mg base 1 ("_law_draw", none) n__law_draw (sp__law_draw P w K) [])
    (h__law_rows : Has P w K mg base 2 ("_law_rows", none) n__law_rows (sp__law_rows P w K) [])
    (h__law_table : Has P w K mg base 2 ("_law_table", none) n__law_table (sp__law_table P w K) [])
    (h_seeing : Has P w K mg base 6 ("seeing", none) n_seeing (sp_seeing P w K) [])
    (h__law_arrows : Has P w K mg base 2 ("_law_arrows", none) n__law_arrows (sp__law_arrows P w K) [])
    (h_Plant : HasMk P w K mg base 5 "Plant" n_Plant_init (sp_Plant_init P w K) [])
    (h_Plant_d1 : HasMk P w K mg base 5 "Plant" n_Plant_init (sp_Plant_init P w K) (d_Plant_d1 K))
    (h_View : HasMk P w K mg base 4 "View" n_View_init (sp_View_init P w K) [])
    (h_Guard : HasMk P w K mg base 8 "Guard" n_Guard_init (sp_Guard_init P w K) [])
    (h_Plant_eq : HasMe P w K mg base 1 "Plant" "__eq__" n_Plant_eq (sp_Plant_eq P w K) [])
    (h_View_eq : HasMe P w K mg base 1 "View" "__eq__" n_View_eq (sp_View_eq P w K) [])
    (h_Guard_eq : HasMe P w K mg base 3 "Guard" "__eq__" n_Guard_eq (sp_Guard_eq P w K) [])
    (h_Plant_k0_barred_wanted_steps_start : HasMkK P w K mg base 5 "Plant" n_Plant_init (sp_Plant_init P w K) 1 ["barred", "wanted", "steps", "start"] (gv_Plant_k0_barred_wanted_steps_start K))
    (h_Plant_k2_wanted : HasMkK P w K mg base 5 "Plant" n_Plant_init (sp_Plant_init P w K) 3 ["wanted"] (gv_Plant_k2_wanted K))
    (h_View_k0_holds_sights : HasMkK P w K mg base 4 "View" n_View_init (sp_View_init P w K) 1 ["holds", "sights"] (gv_View_k0_holds_sights K))
    (h_View_k0_holds : HasMkK P w K mg base 4 "View" n_View_init (sp_View_init P w K) 1 ["holds"] (gv_View_k0_holds K))
    (h_View_k0_sights : HasMkK P w K mg base 4 "View" n_View_init (sp_View_init P w K) 1 ["sights"] (gv_View_k0_sights K))
    (h_seeing_k0_holds_words : HasK P w K mg base 6 ("seeing", none) n_seeing (sp_seeing P w K) 0 ["holds", "words"] (gv_seeing_k0_holds_words K))
    (h_seeing_k0_words : HasK P w K mg base 6 ("seeing", none) n_seeing (sp_seeing P w K) 0 ["words"] (gv_seeing_k0_words K))
    (h_Guard_k0_held_moves_view : HasMkK P w K mg base 8 "Guard" n_Guard_init (sp_Guard_init P w K) 1 ["held", "moves", "view"] (gv_Guard_k0_held_moves_view K))
    (ne_Plant : NeOwn K (He.ga K "Plant"))
    (ne_View : NeOwn K (He.ga K "View")) : FnOk P w K mg base (L2.CX P w) 10 f fd n_law (sp_law P w K) := by
  obtain ⟨mg__law_stream, fd__law_stream, ds__law_stream, kp__law_stream, G__law_stream, v__law_stream, b__law_stream⟩ := h__law_stream
  obtain ⟨mg__law_draw, fd__law_draw, ds__law_draw, kp__law_draw, G__law_draw, v__law_draw, b__law_draw⟩ := h__law_draw
  obtain ⟨mg__law_rows, fd__law_rows, ds__law_rows, kp__law_rows, G__law_rows, v__law_rows, b__law_rows⟩ := h__law_rows
  obtain ⟨mg__law_table, fd__law_table, ds__law_table, kp__law_table, G__law_table, v__law_table, b__law_table⟩ := h__law_table
  obtain ⟨mg_seeing, fd_seeing, ds_seeing, kp_seeing, G_seeing, v_seeing, b_seeing⟩ := h_seeing
  obtain ⟨mg__law_arrows, fd__law_arrows, ds__law_arrows, kp__law_arrows, G__law_arrows, v__law_arrows, b__law_arrows⟩ := h__law_arrows
  obtain ⟨mg_Plant, M_Plant, fd_Plant, ds_Plant, G_Plant, v_Plant, b_Plant⟩ := h_Plant
  obtain ⟨mg_Plant_d1, M_Plant_d1, fd_Plant_d1, ds_Plant_d1, G_Plant_d1, v_Plant_d1, b_Plant_d1⟩ := h_Plant_d1
  obtain ⟨mg_View, M_View, fd_View, ds_View, G_View, v_View, b_View⟩ := h_View
  obtain ⟨mg_Guard, M_Guard, fd_Guard, ds_Guard, G_Guard, v_Guard, b_Guard⟩ := h_Guard
  obtain ⟨me_Plant_eq, fd_Plant_eq, ds_Plant_eq, G_Plant_eq, v_Plant_eq, b_Plant_eq⟩ := h_Plant_eq
  cases v_Plant_eq
  obtain ⟨me_View_eq, fd_View_eq, ds_View_eq, G_View_eq, v_View_eq, b_View_eq⟩ := h_View_eq
  cases v_View_eq
  obtain ⟨me_Guard_eq, fd_Guard_eq, ds_Guard_eq, G_Guard_eq, v_Guard_eq, b_Guard_eq⟩ := h_Guard_eq
  cases v_Guard_eq
  obtain ⟨mg_Plant_k0_barred_wanted_steps_start, M_Plant_k0_barred_wanted_steps_start, fd_Plant_k0_barred_wanted_steps_start, g_Plant_k0_barred_wanted_steps_start, G_Plant_k0_barred_wanted_steps_start, b_Plant_k0_barred_wanted_steps_start⟩ := h_Plant_k0_barred_wanted_steps_start
  obtain ⟨mg_Plant_k2_wanted, M_Plant_k2_wanted, fd_Plant_k2_wanted, g_Plant_k2_wanted, G_Plant_k2_wanted, b_Plant_k2_wanted⟩ := h_Plant_k2_wanted
  obtain ⟨mg_View_k0_holds_sights, M_View_k0_holds_sights, fd_View_k0_holds_sights, g_View_k0_holds_sights, G_View_k0_holds_sights, b_View_k0_holds_sights⟩ := h_View_k0_holds_sights
  obtain ⟨mg_View_k0_holds, M_View_k0_holds, fd_View_k0_holds, g_View_k0_holds, G_View_k0_holds, b_View_k0_holds⟩ := h_View_k0_holds
  obtain ⟨mg_View_k0_sights, M_View_k0_sights, fd_View_k0_sights, g_View_k0_sights, G_View_k0_sights, b_View_k0_sights⟩ := h_View_k0_sights
  obtain ⟨mg_seeing_k0_holds_words, fd_seeing_k0_holds_words, g_seeing_k0_holds_words, kp_seeing_k0_holds_words, G_seeing_k0_holds_words, b_seeing_k0_holds_words⟩ := h_seeing_k0_holds_words
  obtain ⟨mg_seeing_k0_words, fd_seeing_k0_words, g_seeing_k0_words, kp_seeing_k0_words, G_seeing_k0_words, b_seeing_k0_words⟩ := h_seeing_k0_words
  obtain ⟨mg_Guard_k0_held_moves_view, M_Guard_k0_held_moves_view, fd_Guard_k0_held_moves_view, g_Guard_k0_held_moves_view, G_Guard_k0_held_moves_view, b_Guard_k0_held_moves_view⟩ := h_Guard_k0_held_moves_view
  refine F.ok sc_law len_law (fun cdv A outer s H vs Q E hr h => ⟨t_law P w K, PSs.nox ?_, pure_law vs H Q E h⟩)
  have hu := hu_of hr
  have hu64 := hr.units
  have hu65 := hu65_of hr
  have hu8 := hu8_of hr
  have sc := sc_law
  let N : List Str := ["_law_script", "_law_stream_here", "_law_base", "_law_names", "_law_rows_here", "_law_kinds", "_law_good", "_law_bad", "_law_one", "_law_table_here", "_law_grips", "_law_eye", "_law_lines", "_law_arrows_here", "_law_row", "_law_at", "_law_name", "_law_k"]
  let st : Stmt := s_law
  unfold t_law
  unfold t_law_0
  refine pss_cons (ps_set (i := 1) sc.nd rfl (Or.inr rfl) (pe_call G__law_stream (hr.mono (by decide)) rfl mg__law_stream kp__law_stream b__law_stream v__law_stream passL (pa_cons (pv 0) (pa_cons pe_int pa_nil)))) ?_
  unfold t_law_1
  refine pss_cons (ps_set (i := 2) sc.nd rfl (Or.inr rfl) (pe_call G__law_draw (hr.mono (by decide)) rfl mg__law_draw kp__law_draw b__law_draw v__law_draw passL (pa_cons (pv 1) (pa_cons pe_int pa_nil)))) ?_
  unfold t_law_2
  refine pss_cons (ps_set (i := 3) sc.nd rfl (Or.inl rfl) (pe_ix ix_list (pe_lst (pa_cons (pe_lst (pa_cons pe_str (pa_cons pe_str (pa_cons pe_str pa_nil)))) (pa_cons (pe_lst (pa_cons pe_str (pa_cons pe_str (pa_cons pe_str pa_nil)))) pa_nil))) (pe_call G__law_draw (hr.mono (by decide)) rfl mg__law_draw kp__law_draw b__law_draw v__law_draw passL (pa_cons (pv 1) (pa_cons pe_int pa_nil))) (fun _ _ => rfl))) ?_
  unfold t_law_3
  refine pss_cons (ps_set (i := 4) sc.nd rfl (Or.inl rfl) (pe_call G__law_rows (hr.mono (by decide)) rfl mg__law_rows kp__law_rows b__law_rows v__law_rows passL (pa_cons (pv 1) (pa_cons (pe_lc (own := [("_law_k", 17)]) (g := (gName 17)) (tt := tYes) (te := (tOp gAdd (tVar 2) (tVar 17))) rfl sc.nd (pi_range1 rfl (T.fr "range" (by decide)) (pa_cons (pe_op op_add pe_int (pe_call G__law_draw (hr.mono (by decide)) rfl mg__law_draw kp__law_draw b__law_draw v__law_draw passL (pa_cons (pv 1) (pa_cons pe_int pa_nil)))) pa_nil)) (blkOk_by (own := [("_law_k", 17)]) (N := N) (sc := defScope st) (by decide +kernel)) (fun _ _ _ _ _ => (pg_name (i := 17) sc.nd rfl (Or.inl rfl))) (fun _ _ _ _ _ => pts_nil) (fun _ _ _ _ _ => (pe_op op_add (pv 2) (pv 17)))) (pa_cons (pv 3) pa_nil))))) ?_
  unfold t_law_4
  refine pss_cons (ps_set (i := 5) sc.nd rfl (Or.inr rfl) (pe_lc (own := [("_law_row", 14)]) (g := (gName 14)) (tt := tYes) (te := (tCall (sp__law_draw P w K) [] E0 (tCons (tVar 1) (tCons (tC (.int 3)) tNil)))) rfl sc.nd (pi_list (pv 4)) (blkOk_by (own := [("_law_row", 14)]) (N := N) (sc := defScope st) (by decide +kernel)) (fun _ _ _ _ _ => (pg_name (i := 14) sc.nd rfl (Or.inl rfl))) (fun _ _ _ _ _ => pts_nil) (fun _ _ _ _ _ => (pe_call G__law_draw (hr.mono (by decide)) rfl mg__law_draw kp__law_draw b__law_draw v__law_draw passL (pa_cons (pv 1) (pa_cons pe_int pa_nil)))))) ?_
  unfold t_law_5
  refine pss_cons (ps_setLc (i := 6) (own := [("_law_at", 15)]) (g := (gName 15)) (tt := (tTest (tOp rEq (tOp (rIxL K) (tVar 5) (tVar 15)) (tC (.int 0))))) (te := (tVar 15)) rfl sc.nd rfl rfl (sw_true rfl rfl rfl (by decide +kernel)) (pi_range1 rfl (T.fr "range" (by decide)) (pa_cons (pe_callB call_len (by rfl) (T.fr "len" (by decide)) (by decide +kernel) (pa_cons (pv 4) pa_nil)) pa_nil)) (blkOk_by (own := [("_law_at", 15)]) (N := N) (sc := defScope st) (by decide +kernel)) (fun _ _ _ _ _ => (pg_name (i := 15) sc.nd rfl (Or.inl rfl))) (fun _ _ _ _ _ => pts_one (pt_cmpR op_eq (pe_ix ix_list (pv 5) (pv 15) (fun _ _ => rfl)) pe_int (nomark _))) (fun _ _ _ _ _ => (pv 15))) ?_
  unfold t_law_6
  refine pss_cons (ps_setLc (i := 7) (own := [("_law_at", 15)]) (g := (gName 15)) (tt := (tTest (tOp rEq (tOp (rIxL K) (tVar 5) (tVar 15)) (tC (.int 1))))) (te := (tVar 15)) rfl sc.nd rfl rfl (sw_true rfl rfl rfl (by decide +kernel)) (pi_range1 rfl (T.fr "range" (by decide)) (pa_cons (pe_callB call_len (by rfl) (T.fr "len" (by decide)) (by decide +kernel) (pa_cons (pv 4) pa_nil)) pa_nil)) (blkOk_by (own := [("_law_at", 15)]) (N := N) (sc := defScope st) (by decide +kernel)) (fun _ _ _ _ _ => (pg_name (i := 15) sc.nd rfl (Or.inl rfl))) (fun _ _ _ _ _ => pts_one (pt_cmpR op_eq (pe_ix ix_list (pv 5) (pv 15) (fun _ _ => rfl)) pe_int (nomark _))) (fun _ _ _ _ _ => (pv 15))) ?_
  unfold t_law_7
  refine pss_cons (ps_set (i := 8) sc.nd rfl (Or.inl rfl) (pe_make M_Plant G_Plant (hr.mono (by decide)) rfl mg_Plant b_Plant v_Plant passL (pa_cons (pv 2) (pa_cons (pv 4) (pa_cons (pv 6) (pa_cons (pv 7) pa_nil)))))) ?_
  unfold t_law_8
  refine pss_cons (ps_if (pt_cmpR (op_ownNe me_Plant_eq ne_Plant G_Plant_eq (hr.mono (by decide)) b_Plant_eq passL) (pe_makeK0 (ks := ["barred", "wanted", "steps", "start"]) M_Plant_k0_barred_wanted_steps_start G_Plant_k0_barred_wanted_steps_start (hr.mono (by decide)) rfl mg_Plant_k0_barred_wanted_steps_start b_Plant_k0_barred_wanted_steps_start passL (pk_cons (pv 7) (pk_cons (pv 6) (pk_cons (pv 4) (pk_cons (pv 2) pk_nil))))) (pv 8) (nomark _)) (pss_one (ps_ret pe_bl)) pss_nil) ?_
  unfold t_law_9
  refine pss_cons (ps_if (PW.pt (pw_or (pt_cmpR (op_ownNe me_Plant_eq ne_Plant G_Plant_eq (hr.mono (by decide)) b_Plant_eq passL) (pe_makeK (ks := ["wanted"]) M_Plant_k2_wanted G_Plant_k2_wanted (hr.mono (by decide)) rfl mg_Plant_k2_wanted b_Plant_k2_wanted passL (pa_cons (pv 2) (pa_cons (pv 4) pa_nil)) (pk_cons (pv 6) pk_nil)) (pe_make M_Plant G_Plant (hr.mono (by decide)) rfl mg_Plant b_Plant v_Plant passL (pa_cons (pv 2) (pa_cons (pv 4) (pa_cons (pv 6) (pa_cons (pe_tup pa_nil) pa_nil))))) (nomark _)) (pw_or1 (pt_cmpR op_ne (pe_cmpR (op_ownEq me_Plant_eq G_Plant_eq (hr.mono (by decide)) b_Plant_eq passL) (pv 8) (pe_make M_Plant_d1 G_Plant_d1 (hr.mono (by decide)) rfl mg_Plant_d1 b_Plant_d1 v_Plant_d1 passL (pa_cons (pv 2) (pa_cons (pv 4) (pa_cons (pv 6) pa_nil)))) (nomark _)) (pe_cmpR (op_eqD hu64) (pv 7) (pe_lst pa_nil) (nomark _)) (nomark _))))) (pss_one (ps_ret pe_bl)) pss_nil) ?_
  unfold t_law_10
  refine pss_cons (ps_set (i := 9) sc.nd rfl (Or.inl rfl) (pe_call G__law_table (hr.mono (by decide)) rfl mg__law_table kp__law_table b__law_table v__law_table passL (pa_cons (pv 1) (pa_cons (pv 3) pa_nil)))) ?_
  unfold t_law_11
  refine pss_cons (ps_setLc (i := 10) (own := [("_law_name", 16)]) (g := (gName 16)) (tt := (tTest (tOp rEq (tCall (sp__law_draw P w K) [] E0 (tCons (tVar 1) (tCons (tC (.int 2)) tNil))) (tC (.int 1))))) (te := (tVar 16)) rfl sc.nd rfl rfl (sw_true rfl rfl rfl (by decide +kernel)) (pi_list (pv 3)) (blkOk_by (own := [("_law_name", 16)]) (N := N) (sc := defScope st) (by decide +kernel)) (fun _ _ _ _ _ => (pg_name (i := 16) sc.nd rfl (Or.inl rfl))) (fun _ _ _ _ _ => pts_one (pt_cmpR op_eq (pe_call G__law_draw (hr.mono (by decide)) rfl mg__law_draw kp__law_draw b__law_draw v__law_draw passL (pa_cons (pv 1) (pa_cons pe_int pa_nil))) pe_int (nomark _))) (fun _ _ _ _ _ => (pv 16))) ?_
  unfold t_law_12
  refine pss_cons (ps_set (i := 11) sc.nd rfl (Or.inl rfl) (pe_make M_View G_View (hr.mono (by decide)) rfl mg_View b_View v_View passL (pa_cons (pv 9) (pa_cons (pv 10) pa_nil)))) ?_
  unfold t_law_13
  refine pss_cons (ps_if (PW.pt (pw_or (pt_cmpR (op_ownNe me_View_eq ne_View G_View_eq (hr.mono (by decide)) b_View_eq passL) (pe_makeK0 (ks := ["holds", "sights"]) M_View_k0_holds_sights G_View_k0_holds_sights (hr.mono (by decide)) rfl mg_View_k0_holds_sights b_View_k0_holds_sights passL (pk_cons (pv 10) (pk_cons (pv 9) pk_nil))) (pv 11) (nomark _)) (pw_or1 (pt_cmpR (op_ownNe me_View_eq ne_View G_View_eq (hr.mono (by decide)) b_View_eq passL) (pe_makeK0 (ks := ["holds"]) M_View_k0_holds G_View_k0_holds (hr.mono (by decide)) rfl mg_View_k0_holds b_View_k0_holds passL (pk_cons (pv 10) pk_nil)) (pe_make M_View G_View (hr.mono (by decide)) rfl mg_View b_View v_View passL (pa_cons pe_dnewK (pa_cons (pv 10) pa_nil))) (nomark _))))) (pss_one (ps_ret pe_bl)) pss_nil) ?_
  unfold t_law_14
  refine pss_cons (ps_if (PW.pt (pw_or (pt_cmpR (op_ownNe me_View_eq ne_View G_View_eq (hr.mono (by decide)) b_View_eq passL) (pe_makeK0 (ks := ["sights"]) M_View_k0_sights G_View_k0_sights (hr.mono (by decide)) rfl mg_View_k0_sights b_View_k0_sights passL (pk_cons (pv 9) pk_nil)) (pe_make M_View G_View (hr.mono (by decide)) rfl mg_View b_View v_View passL (pa_cons (pv 9) (pa_cons (pe_lst pa_nil) pa_nil))) (nomark _)) (pw_or1 (pt_cmpR (op_ownNe me_View_eq ne_View G_View_eq (hr.mono (by decide)) b_View_eq passL) (pe_callN0 (ks := ["holds", "words"]) G_seeing_k0_holds_words (hr.mono (by decide)) rfl mg_seeing_k0_holds_words kp_seeing_k0_holds_words b_seeing_k0_holds_words passL (pk_cons (pv 10) (pk_cons (pv 3) pk_nil))) (pe_call G_seeing (hr.mono (by decide)) rfl mg_seeing kp_seeing b_seeing v_seeing passL (pa_cons (pv 3) (pa_cons (pv 10) pa_nil))) (nomark _))))) (pss_one (ps_ret pe_bl)) pss_nil) ?_
  unfold t_law_15
  refine pss_cons (ps_if (pt_cmpR (op_ownNe me_View_eq ne_View G_View_eq (hr.mono (by decide)) b_View_eq passL) (pe_callN0 (ks := ["words"]) G_seeing_k0_words (hr.mono (by decide)) rfl mg_seeing_k0_words kp_seeing_k0_words b_seeing_k0_words passL (pk_cons (pv 3) pk_nil)) (pe_call G_seeing (hr.mono (by decide)) rfl mg_seeing kp_seeing b_seeing v_seeing passL (pa_cons (pv 3) (pa_cons (pe_tup pa_nil) pa_nil))) (nomark _)) (pss_one (ps_ret pe_bl)) pss_nil) ?_
  unfold t_law_16
  refine pss_cons (ps_set (i := 12) sc.nd rfl (Or.inl rfl) (pe_slice sl_list (pe_lst (pa_cons (pv 10) (pa_cons (pe_slice sl_list (pv 10) po_none (po_some pe_int)) pa_nil))) po_none (po_some (pe_op op_add pe_int (pe_call G__law_draw (hr.mono (by decide)) rfl mg__law_draw kp__law_draw b__law_draw v__law_draw passL (pa_cons (pv 1) (pa_cons pe_int pa_nil))))))) ?_
  unfold t_law_17
  refine pss_cons (ps_set (i := 13) sc.nd rfl (Or.inl rfl) (pe_call G__law_arrows (hr.mono (by decide)) rfl mg__law_arrows kp__law_arrows b__law_arrows v__law_arrows passL (pa_cons (pv 1) (pa_cons (pv 9) (pa_cons (pe_callB call_len (by rfl) (T.fr "len" (by decide)) (by decide +kernel) (pa_cons (pv 12) pa_nil)) pa_nil))))) ?_
  unfold t_law_18
  exact (pss_one (ps_ret (pe_cmpR (op_ownEq me_Guard_eq G_Guard_eq (hr.mono (by decide)) b_Guard_eq passL) (pe_makeK0 (ks := ["held", "moves", "view"]) M_Guard_k0_held_moves_view G_Guard_k0_held_moves_view (hr.mono (by decide)) rfl mg_Guard_k0_held_moves_view b_Guard_k0_held_moves_view passL (pk_cons (pv 12) (pk_cons (pv 13) (pk_cons (pv 11) pk_nil)))) (pe_make M_Guard G_Guard (hr.mono (by decide)) rfl mg_Guard b_Guard v_Guard passL (pa_cons (pv 11) (pa_cons (pv 13) (pa_cons (pv 12) pa_nil)))) (nomark _))))
end
end LG
end

section
set_option maxHeartbeats 0
namespace HL
open PySem PySem.Spec PyProof.Rows L2 LG
def d_is_integer : He.DefD := ⟨("is_integer", none), "is_integer", "is_integer", defArgs s_is_integer, defBody s_is_integer, defScope s_is_integer, [], []⟩
def d_is_row : He.DefD := ⟨("is_row", none), "is_row", "is_row", defArgs s_is_row, defBody s_is_row, defScope s_is_row, [], []⟩
def d_is_name : He.DefD := ⟨("is_name", none), "is_name", "is_name", defArgs s_is_name, defBody s_is_name, defScope s_is_name, [], []⟩
def d_is_state : He.DefD := ⟨("is_state", none), "is_state", "is_state", defArgs s_is_state, defBody s_is_state, defScope s_is_state, [], []⟩
def d_is_number_below : He.DefD := ⟨("is_number_below", none), "is_number_below", "is_number_below", defArgs s_is_number_below, defBody s_is_number_below, defScope s_is_number_below, [], []⟩
def d_first_other : He.DefD := ⟨("first_other", none), "first_other", "first_other", defArgs s_first_other, defBody s_first_other, defScope s_first_other, [], []⟩
def d_is_step : He.DefD := ⟨("is_step", none), "is_step", "is_step", defArgs s_is_step, defBody s_is_step, defScope s_is_step, [], []⟩
def d_checked_steps : He.DefD := ⟨("checked_steps", none), "checked_steps", "checked_steps", defArgs s_checked_steps, defBody s_checked_steps, defScope s_checked_steps, [], []⟩
def d_checked_marks : He.DefD := ⟨("checked_marks", none), "checked_marks", "checked_marks", defArgs s_checked_marks, defBody s_checked_marks, defScope s_checked_marks, [], []⟩
def d_reached_states : He.DefD := ⟨("reached_states", none), "reached_states", "reached_states", defArgs s_reached_states, defBody s_reached_states, defScope s_reached_states, [], []⟩
def d_Plant_init : He.DefD := ⟨("Plant", some "__init__"), "__init__", "Plant.__init__", defArgs s_Plant_init, defBody s_Plant_init, defScope s_Plant_init, [.adr (He.dflAt ("Plant", some "__init__") 0)], []⟩
def d_Plant_eq : He.DefD := ⟨("Plant", some "__eq__"), "__eq__", "Plant.__eq__", defArgs s_Plant_eq, defBody s_Plant_eq, defScope s_Plant_eq, [], []⟩
def d_checked_sights : He.DefD := ⟨("checked_sights", none), "checked_sights", "checked_sights", defArgs s_checked_sights, defBody s_checked_sights, defScope s_checked_sights, [], []⟩
def d_checked_words : He.DefD := ⟨("checked_words", none), "checked_words", "checked_words", defArgs s_checked_words, defBody s_checked_words, defScope s_checked_words, [], []⟩
def d_marked : He.DefD := ⟨("marked", none), "marked", "marked", defArgs s_marked, defBody s_marked, defScope s_marked, [], []⟩
def d_View_init : He.DefD := ⟨("View", some "__init__"), "__init__", "View.__init__", defArgs s_View_init, defBody s_View_init, defScope s_View_init, [.non, .adr (He.dflAt ("View", some "__init__") 1)], []⟩
def d_View_copy : He.DefD := ⟨("View", some "copy"), "copy", "View.copy", defArgs s_View_copy, defBody s_View_copy, defScope s_View_copy, [], []⟩
def d_View_eq : He.DefD := ⟨("View", some "__eq__"), "__eq__", "View.__eq__", defArgs s_View_eq, defBody s_View_eq, defScope s_View_eq, [], []⟩
def d_seeing : He.DefD := ⟨("seeing", none), "seeing", "seeing", defArgs s_seeing, defBody s_seeing, defScope s_seeing, [.adr (He.dflAt ("seeing", none) 0)], []⟩
def d_sights_told : He.DefD := ⟨("sights_told", none), "sights_told", "sights_told", defArgs s_sights_told, defBody s_sights_told, defScope s_sights_told, [], []⟩
def d_checked_lines : He.DefD := ⟨("checked_lines", none), "checked_lines", "checked_lines", defArgs s_checked_lines, defBody s_checked_lines, defScope s_checked_lines, [], []⟩
def d_is_place : He.DefD := ⟨("is_place", none), "is_place", "is_place", defArgs s_is_place, defBody s_is_place, defScope s_is_place, [], []⟩
def d_checked_arrows : He.DefD := ⟨("checked_arrows", none), "checked_arrows", "checked_arrows", defArgs s_checked_arrows, defBody s_checked_arrows, defScope s_checked_arrows, [], []⟩
def d_Guard_init : He.DefD := ⟨("Guard", some "__init__"), "__init__", "Guard.__init__", defArgs s_Guard_init, defBody s_Guard_init, defScope s_Guard_init, [], []⟩
def d_Guard_eq : He.DefD := ⟨("Guard", some "__eq__"), "__eq__", "Guard.__eq__", defArgs s_Guard_eq, defBody s_Guard_eq, defScope s_Guard_eq, [], []⟩
def d__law_stream : He.DefD := ⟨("_law_stream", none), "_law_stream", "_law_stream", defArgs s__law_stream, defBody s__law_stream, defScope s__law_stream, [], []⟩
def d__law_draw : He.DefD := ⟨("_law_draw", none), "_law_draw", "_law_draw", defArgs s__law_draw, defBody s__law_draw, defScope s__law_draw, [], []⟩
def d__law_rows : He.DefD := ⟨("_law_rows", none), "_law_rows", "_law_rows", defArgs s__law_rows, defBody s__law_rows, defScope s__law_rows, [], []⟩
def d__law_table : He.DefD := ⟨("_law_table", none), "_law_table", "_law_table", defArgs s__law_table, defBody s__law_table, defScope s__law_table, [], []⟩
def d__law_arrows : He.DefD := ⟨("_law_arrows", none), "_law_arrows", "_law_arrows", defArgs s__law_arrows, defBody s__law_arrows, defScope s__law_arrows, [], []⟩
def d_law : He.DefD := ⟨("law", none), "law", "law", defArgs s_law, defBody s_law, defScope s_law, [], []⟩
def fn : List He.DefD := [d_is_integer, d_is_row, d_is_name, d_is_state, d_is_number_below, d_first_other, d_is_step, d_checked_steps, d_checked_marks, d_reached_states, d_Plant_init, d_Plant_eq, d_checked_sights, d_checked_words, d_marked, d_View_init, d_View_copy, d_View_eq, d_seeing, d_sights_told, d_checked_lines, d_is_place, d_checked_arrows, d_Guard_init, d_Guard_eq, d__law_stream, d__law_draw, d__law_rows, d__law_table, d__law_arrows, d_law]
def l_me : List (Str × Str) := [("Guard", "__eq__"), ("Plant", "__eq__"), ("View", "__eq__"), ("View", "copy")]
def l_ca : List Str := ["_law_arrows", "_law_draw", "_law_rows", "_law_stream", "_law_table", "checked_arrows", "checked_lines", "checked_marks", "checked_sights", "checked_steps", "checked_words", "first_other", "is_integer", "is_name", "is_number_below", "is_place", "is_row", "is_state", "is_step", "law", "marked", "reached_states", "seeing", "sights_told"]
def fa : List He.Fa := frees.map .free ++ (l_int.map (fun z => .int z.1 z.2) ++ (l_gl.map .glo ++ (l_cl.map .cls ++ (l_na.map (fun z => .noat z.1 z.2) ++ (l_ca.map .glo ++ (l_gl.map .mkr ++ l_me.map fun z => .meth z.1 z.2))))))
def xf : XF := ⟨["Plant", "View", "Guard"], ["Plant", "View"], [He.dflAt ("Plant", some "__init__") 0, He.dflAt ("View", some "__init__") 1, He.dflAt ("seeing", none) 0]⟩
abbrev R : PySem.W.OpenRow := PySem.W.OpenLaw.row PySem.Challenge.rw_leastguards_k88_arguments_by_name
abbrev hk : PySem.W.Hook := hookX 5 xf fa fn
def ob (s : PySem.W.SharedT) : AlX := obsXG 5 xf fa fn (HandSHeadRun.getT s)
theorem ob_eq (s : PySem.W.SharedT) : ob s = hk.obs s.abs := obsXG_eq (HandSHeadRun.getT_eq s)
def loose1 : List Str := ["_wall", "__name__", "MOST_LETTERS", "MOST_STATE", "is_integer", "is_row", "is_name", "is_state", "is_number_below", "first_other", "GuardError", "BadState", "BadSteps", "BadMarks", "BadWord", "BadView", "BadSights", "BadGuard", "TooMany", "MOST_STEPS", "MOST_LEAVING", "MOST_WORDS", "is_step", "checked_steps", "checked_marks", "reached_states", "Plant"]
def loose2 : List Str := ["checked_sights", "checked_words", "marked", "View", "seeing", "MOST_NODES", "sights_told", "checked_lines", "is_place", "checked_arrows", "Guard", "words_at", "check_partner", "pair_line", "is_shut", "combined", "numbered", "blocks", "reduced", "_law_stream", "_law_draw", "_law_rows", "_law_table", "_law_arrows"]
def loose : List Str := loose1 ++ loose2
theorem run (w : World) : HandSHeadRun.RunEq R (PySem.W.view R.prog [56]) hk ob 8000 loose w := by
  intro os
  kernel_rfl
theorem fact_mem {K : PySem.W.Frag} (c : SaysX xf fa fn K) {f : He.Fa} (h : f ∈ fa) : f.ok K = true :=
  List.all_eq_true.mp (He.ba (show ((fa.all fun f => f.ok K) && fn.all fun d => d.ok K) = true from congrArg (fun z : He.AlD => z.1) c.2)).1 f h
section
variable {K : PySem.W.Frag} {h : Heap} {mg : Str → Option Value}
theorem g_fr (X : K.In h) (G : h.Ns mainGlobals mg) (c : SaysX xf fa fn K) (x : Str) (m : x ∈ frees) : mg x = none := He.free_ok X G (fact_mem c (List.mem_append_left _ (List.mem_map.mpr ⟨x, m, rfl⟩)))
theorem g_int (X : K.In h) (G : h.Ns mainGlobals mg) (c : SaysX xf fa fn K) (x : Str) (i : Int) (m : (x, i) ∈ l_int) : ∃ t, mg x = some (.int i t) := He.int_ok X G (fact_mem c (List.mem_append_right _ (List.mem_append_left _ (List.mem_map.mpr ⟨(x, i), m, rfl⟩))))
theorem g_gl (X : K.In h) (G : h.Ns mainGlobals mg) (c : SaysX xf fa fn K) (x : Str) (m : x ∈ l_gl) : mg x = some (.ref (He.ga K x)) := He.glo_ok X G (fact_mem c (List.mem_append_right _ (List.mem_append_right _ (List.mem_append_left _ (List.mem_map.mpr ⟨x, m, rfl⟩)))))
theorem g_cl (c : SaysX xf fa fn K) (x : Str) (m : x ∈ l_cl) : Cls K (He.ga K x) := He.cls_ok (fact_mem c (List.mem_append_right _ (List.mem_append_right _ (List.mem_append_right _ (List.mem_append_left _ (List.mem_map.mpr ⟨x, m, rfl⟩))))))
theorem g_na (c : SaysX xf fa fn K) (x f : Str) (m : (x, f) ∈ l_na) : NoAttr K (He.ga K x) f := He.noat_ok (fact_mem c (List.mem_append_right _ (List.mem_append_right _ (List.mem_append_right _ (List.mem_append_right _ (List.mem_append_left _ (List.mem_map.mpr ⟨(x, f), m, rfl⟩)))))))
theorem g_ca (X : K.In h) (G : h.Ns mainGlobals mg) (c : SaysX xf fa fn K) (x : Str) (m : x ∈ l_ca) : mg x = some (.ref (He.ga K x)) := He.glo_ok X G (fact_mem c (List.mem_append_right _ (List.mem_append_right _ (List.mem_append_right _ (List.mem_append_right _ (List.mem_append_right _ (List.mem_append_left _ (List.mem_map.mpr ⟨x, m, rfl⟩))))))))
theorem g_mk (c : SaysX xf fa fn K) (x : Str) (m : x ∈ l_gl) : Mk K (He.ga K x) (He.ma K (He.ga K x) "__init__") := He.mkr_ok (fact_mem c (List.mem_append_right _ (List.mem_append_right _ (List.mem_append_right _ (List.mem_append_right _ (List.mem_append_right _ (List.mem_append_right _ (List.mem_append_left _ (List.mem_map.mpr ⟨x, m, rfl⟩)))))))))
theorem g_me (c : SaysX xf fa fn K) (x f : Str) (m : (x, f) ∈ l_me) : Meth K (He.ga K x) f (He.ma K (He.ga K x) f) := He.meth_ok (fact_mem c (List.mem_append_right _ (List.mem_append_right _ (List.mem_append_right _ (List.mem_append_right _ (List.mem_append_right _ (List.mem_append_right _ (List.mem_append_right _ (List.mem_map.mpr ⟨(x, f), m, rfl⟩)))))))))
theorem g_txt (X : K.In h) (G : h.Ns mainGlobals mg) (c : SaysX xf fa fn K) : Txt K mg := ⟨g_fr X G c, g_int X G c, g_gl X G c, g_cl c, g_na c⟩
theorem g_own (c : SaysX xf fa fn K) (x : Str) (m : x ∈ l_cl) (m2 : x ∈ xf.own) : OwnC K (He.ga K x) := let ⟨h1, h2, h3, h4⟩ := XF.ownC c.1 m2; ⟨g_cl c x m, h1, h2, h3, h4⟩
end
theorem facts {P : Program} {w : World} {K : PySem.W.Frag} {h : Heap} {mg : Str → Option Value} {f : Addr} (X : K.In h) (G : h.Ns mainGlobals mg) (hfa : mg ("law" : Str) = some (.ref f)) (c : SaysX xf fa fn K) :
    ∃ fd : FuncData, (∀ (s : Shared) (v : Value), BindsTo s fd ⟨[v], []⟩ [("_law_script", v)]) ∧ LawK K ∧ ∀ base : Heap, K.In base → base.Ns mainGlobals mg → FnOk P w K mg base (L2.CX P w) 10 f fd n_law (sp_law P w K) := by
  obtain ⟨fd_is_integer, F_is_integer⟩ := c.2.def_ 0 (d := d_is_integer) rfl
  obtain ⟨fd_is_row, F_is_row⟩ := c.2.def_ 1 (d := d_is_row) rfl
  obtain ⟨fd_is_name, F_is_name⟩ := c.2.def_ 2 (d := d_is_name) rfl
  obtain ⟨fd_is_state, F_is_state⟩ := c.2.def_ 3 (d := d_is_state) rfl
  obtain ⟨fd_is_number_below, F_is_number_below⟩ := c.2.def_ 4 (d := d_is_number_below) rfl
  obtain ⟨fd_first_other, F_first_other⟩ := c.2.def_ 5 (d := d_first_other) rfl
  obtain ⟨fd_is_step, F_is_step⟩ := c.2.def_ 6 (d := d_is_step) rfl
  obtain ⟨fd_checked_steps, F_checked_steps⟩ := c.2.def_ 7 (d := d_checked_steps) rfl
  obtain ⟨fd_checked_marks, F_checked_marks⟩ := c.2.def_ 8 (d := d_checked_marks) rfl
  obtain ⟨fd_reached_states, F_reached_states⟩ := c.2.def_ 9 (d := d_reached_states) rfl
  obtain ⟨fd_Plant_init, F_Plant_init⟩ := c.2.def_ 10 (d := d_Plant_init) rfl
  obtain ⟨fd_Plant_eq, F_Plant_eq⟩ := c.2.def_ 11 (d := d_Plant_eq) rfl
  obtain ⟨fd_checked_sights, F_checked_sights⟩ := c.2.def_ 12 (d := d_checked_sights) rfl
  obtain ⟨fd_checked_words, F_checked_words⟩ := c.2.def_ 13 (d := d_checked_words) rfl
  obtain ⟨fd_marked, F_marked⟩ := c.2.def_ 14 (d := d_marked) rfl
  obtain ⟨fd_View_init, F_View_init⟩ := c.2.def_ 15 (d := d_View_init) rfl
  obtain ⟨fd_View_copy, F_View_copy⟩ := c.2.def_ 16 (d := d_View_copy) rfl
  obtain ⟨fd_View_eq, F_View_eq⟩ := c.2.def_ 17 (d := d_View_eq) rfl
  obtain ⟨fd_seeing, F_seeing⟩ := c.2.def_ 18 (d := d_seeing) rfl
  obtain ⟨fd_sights_told, F_sights_told⟩ := c.2.def_ 19 (d := d_sights_told) rfl
  obtain ⟨fd_checked_lines, F_checked_lines⟩ := c.2.def_ 20 (d := d_checked_lines) rfl
  obtain ⟨fd_is_place, F_is_place⟩ := c.2.def_ 21 (d := d_is_place) rfl
  obtain ⟨fd_checked_arrows, F_checked_arrows⟩ := c.2.def_ 22 (d := d_checked_arrows) rfl
  obtain ⟨fd_Guard_init, F_Guard_init⟩ := c.2.def_ 23 (d := d_Guard_init) rfl
  obtain ⟨fd_Guard_eq, F_Guard_eq⟩ := c.2.def_ 24 (d := d_Guard_eq) rfl
  obtain ⟨fd__law_stream, F__law_stream⟩ := c.2.def_ 25 (d := d__law_stream) rfl
  obtain ⟨fd__law_draw, F__law_draw⟩ := c.2.def_ 26 (d := d__law_draw) rfl
  obtain ⟨fd__law_rows, F__law_rows⟩ := c.2.def_ 27 (d := d__law_rows) rfl
  obtain ⟨fd__law_table, F__law_table⟩ := c.2.def_ 28 (d := d__law_table) rfl
  obtain ⟨fd__law_arrows, F__law_arrows⟩ := c.2.def_ 29 (d := d__law_arrows) rfl
  obtain ⟨fd_law, F_law⟩ := c.2.def_ 30 (d := d_law) rfl
  have e := hfa.symm.trans (g_ca X G c "law" (by decide))
  cases e
  have b := FunD.bindsA (ps := ["_law_script"]) F_law fun _ _ _ _ _ _ us hl => match us, hl with | [_], _ => rfl
  have lk : LawK K := ⟨g_own c "Plant" (by decide) (by decide), g_own c "View" (by decide) (by decide), g_own c "Guard" (by decide) (by decide), XF.empty c.1 (List.mem_cons_self), XF.empty c.1 (List.mem_cons_of_mem _ List.mem_cons_self), XF.empty c.1 (List.mem_cons_of_mem _ (List.mem_cons_of_mem _ List.mem_cons_self))⟩
  refine ⟨fd_law, fun s v => b s [v] rfl, lk, fun base _ _ => ?_⟩
  have T := g_txt X G c
  have G_is_integer := ok_is_integer (P := P) (w := w) (mg := mg) (base := base) F_is_integer T 
  have G_is_row := ok_is_row (P := P) (w := w) (mg := mg) (base := base) F_is_row T 
  have G_is_name := ok_is_name (P := P) (w := w) (mg := mg) (base := base) F_is_name T 
  obtain ⟨ds_is_state__is_integer, v_is_state__is_integer, b_is_state__is_integer⟩ : ∃ ds, Vals [] ds ∧ Binds K fd_is_integer n_is_integer ds := ⟨[], .nil, F_is_integer.bindsN fun _ _ _ _ _ _ us hl => match us, hl with | [_], _ => rfl⟩
  have G_is_state := ok_is_state (P := P) (w := w) (mg := mg) (base := base) F_is_state T ⟨g_ca X G c "is_integer" (by decide), fd_is_integer, ds_is_state__is_integer, F_is_integer.kp, G_is_integer, v_is_state__is_integer, b_is_state__is_integer⟩
  obtain ⟨ds_is_number_below__is_integer, v_is_number_below__is_integer, b_is_number_below__is_integer⟩ : ∃ ds, Vals [] ds ∧ Binds K fd_is_integer n_is_integer ds := ⟨[], .nil, F_is_integer.bindsN fun _ _ _ _ _ _ us hl => match us, hl with | [_], _ => rfl⟩
  have G_is_number_below := ok_is_number_below (P := P) (w := w) (mg := mg) (base := base) F_is_number_below T ⟨g_ca X G c "is_integer" (by decide), fd_is_integer, ds_is_number_below__is_integer, F_is_integer.kp, G_is_integer, v_is_number_below__is_integer, b_is_number_below__is_integer⟩
  obtain ⟨ds_first_other__is_name, v_first_other__is_name, b_first_other__is_name⟩ : ∃ ds, Vals [] ds ∧ Binds K fd_is_name n_is_name ds := ⟨[], .nil, F_is_name.bindsN fun _ _ _ _ _ _ us hl => match us, hl with | [_], _ => rfl⟩
  have G_first_other := ok_first_other (P := P) (w := w) (mg := mg) (base := base) F_first_other T ⟨g_ca X G c "is_name" (by decide), fd_is_name, ds_first_other__is_name, F_is_name.kp, G_is_name, v_first_other__is_name, b_first_other__is_name⟩
  obtain ⟨ds_is_step__is_state, v_is_step__is_state, b_is_step__is_state⟩ : ∃ ds, Vals [] ds ∧ Binds K fd_is_state n_is_state ds := ⟨[], .nil, F_is_state.bindsN fun _ _ _ _ _ _ us hl => match us, hl with | [_], _ => rfl⟩
  obtain ⟨ds_is_step__is_name, v_is_step__is_name, b_is_step__is_name⟩ : ∃ ds, Vals [] ds ∧ Binds K fd_is_name n_is_name ds := ⟨[], .nil, F_is_name.bindsN fun _ _ _ _ _ _ us hl => match us, hl with | [_], _ => rfl⟩
  have G_is_step := ok_is_step (P := P) (w := w) (mg := mg) (base := base) F_is_step T ⟨g_ca X G c "is_state" (by decide), fd_is_state, ds_is_step__is_state, F_is_state.kp, G_is_state, v_is_step__is_state, b_is_step__is_state⟩ ⟨g_ca X G c "is_name" (by decide), fd_is_name, ds_is_step__is_name, F_is_name.kp, G_is_name, v_is_step__is_name, b_is_step__is_name⟩
  obtain ⟨ds_checked_steps__is_row, v_checked_steps__is_row, b_checked_steps__is_row⟩ : ∃ ds, Vals [] ds ∧ Binds K fd_is_row n_is_row ds := ⟨[], .nil, F_is_row.bindsN fun _ _ _ _ _ _ us hl => match us, hl with | [_], _ => rfl⟩
  obtain ⟨ds_checked_steps__is_step, v_checked_steps__is_step, b_checked_steps__is_step⟩ : ∃ ds, Vals [] ds ∧ Binds K fd_is_step n_is_step ds := ⟨[], .nil, F_is_step.bindsN fun _ _ _ _ _ _ us hl => match us, hl with | [_], _ => rfl⟩
  have G_checked_steps := ok_checked_steps (P := P) (w := w) (mg := mg) (base := base) F_checked_steps T ⟨g_ca X G c "is_row" (by decide), fd_is_row, ds_checked_steps__is_row, F_is_row.kp, G_is_row, v_checked_steps__is_row, b_checked_steps__is_row⟩ ⟨g_ca X G c "is_step" (by decide), fd_is_step, ds_checked_steps__is_step, F_is_step.kp, G_is_step, v_checked_steps__is_step, b_checked_steps__is_step⟩
  obtain ⟨ds_checked_marks__is_row, v_checked_marks__is_row, b_checked_marks__is_row⟩ : ∃ ds, Vals [] ds ∧ Binds K fd_is_row n_is_row ds := ⟨[], .nil, F_is_row.bindsN fun _ _ _ _ _ _ us hl => match us, hl with | [_], _ => rfl⟩
  obtain ⟨ds_checked_marks__is_number_below, v_checked_marks__is_number_below, b_checked_marks__is_number_below⟩ : ∃ ds, Vals [] ds ∧ Binds K fd_is_number_below n_is_number_below ds := ⟨[], .nil, F_is_number_below.bindsN fun _ _ _ _ _ _ us hl => match us, hl with | [_, _], _ => rfl⟩
  have G_checked_marks := ok_checked_marks (P := P) (w := w) (mg := mg) (base := base) F_checked_marks T ⟨g_ca X G c "is_row" (by decide), fd_is_row, ds_checked_marks__is_row, F_is_row.kp, G_is_row, v_checked_marks__is_row, b_checked_marks__is_row⟩ ⟨g_ca X G c "is_number_below" (by decide), fd_is_number_below, ds_checked_marks__is_number_below, F_is_number_below.kp, G_is_number_below, v_checked_marks__is_number_below, b_checked_marks__is_number_below⟩
  have G_reached_states := ok_reached_states (P := P) (w := w) (mg := mg) (base := base) F_reached_states T 
  obtain ⟨ds_Plant_init__is_state, v_Plant_init__is_state, b_Plant_init__is_state⟩ : ∃ ds, Vals [] ds ∧ Binds K fd_is_state n_is_state ds := ⟨[], .nil, F_is_state.bindsN fun _ _ _ _ _ _ us hl => match us, hl with | [_], _ => rfl⟩
  obtain ⟨ds_Plant_init__checked_steps, v_Plant_init__checked_steps, b_Plant_init__checked_steps⟩ : ∃ ds, Vals [] ds ∧ Binds K fd_checked_steps n_checked_steps ds := ⟨[], .nil, F_checked_steps.bindsN fun _ _ _ _ _ _ us hl => match us, hl with | [_], _ => rfl⟩
  obtain ⟨ds_Plant_init__checked_marks, v_Plant_init__checked_marks, b_Plant_init__checked_marks⟩ : ∃ ds, Vals [] ds ∧ Binds K fd_checked_marks n_checked_marks ds := ⟨[], .nil, F_checked_marks.bindsN fun _ _ _ _ _ _ us hl => match us, hl with | [_, _, _], _ => rfl⟩
  obtain ⟨ds_Plant_init__reached_states, v_Plant_init__reached_states, b_Plant_init__reached_states⟩ : ∃ ds, Vals [] ds ∧ Binds K fd_reached_states n_reached_states ds := ⟨[], .nil, F_reached_states.bindsN fun _ _ _ _ _ _ us hl => match us, hl with | [_, _, _], _ => rfl⟩
  have G_Plant_init := ok_Plant_init (P := P) (w := w) (mg := mg) (base := base) F_Plant_init T ⟨g_ca X G c "is_state" (by decide), fd_is_state, ds_Plant_init__is_state, F_is_state.kp, G_is_state, v_Plant_init__is_state, b_Plant_init__is_state⟩ ⟨g_ca X G c "checked_steps" (by decide), fd_checked_steps, ds_Plant_init__checked_steps, F_checked_steps.kp, G_checked_steps, v_Plant_init__checked_steps, b_Plant_init__checked_steps⟩ ⟨g_ca X G c "checked_marks" (by decide), fd_checked_marks, ds_Plant_init__checked_marks, F_checked_marks.kp, G_checked_marks, v_Plant_init__checked_marks, b_Plant_init__checked_marks⟩ ⟨g_ca X G c "reached_states" (by decide), fd_reached_states, ds_Plant_init__reached_states, F_reached_states.kp, G_reached_states, v_Plant_init__reached_states, b_Plant_init__reached_states⟩
  have G_Plant_eq := ok_Plant_eq (P := P) (w := w) (mg := mg) (base := base) F_Plant_eq T 
  obtain ⟨ds_checked_sights__is_name, v_checked_sights__is_name, b_checked_sights__is_name⟩ : ∃ ds, Vals [] ds ∧ Binds K fd_is_name n_is_name ds := ⟨[], .nil, F_is_name.bindsN fun _ _ _ _ _ _ us hl => match us, hl with | [_], _ => rfl⟩
  have G_checked_sights := ok_checked_sights (P := P) (w := w) (mg := mg) (base := base) F_checked_sights T ⟨g_ca X G c "is_name" (by decide), fd_is_name, ds_checked_sights__is_name, F_is_name.kp, G_is_name, v_checked_sights__is_name, b_checked_sights__is_name⟩
  obtain ⟨ds_checked_words__is_row, v_checked_words__is_row, b_checked_words__is_row⟩ : ∃ ds, Vals [] ds ∧ Binds K fd_is_row n_is_row ds := ⟨[], .nil, F_is_row.bindsN fun _ _ _ _ _ _ us hl => match us, hl with | [_], _ => rfl⟩
  obtain ⟨ds_checked_words__first_other, v_checked_words__first_other, b_checked_words__first_other⟩ : ∃ ds, Vals [] ds ∧ Binds K fd_first_other n_first_other ds := ⟨[], .nil, F_first_other.bindsN fun _ _ _ _ _ _ us hl => match us, hl with | [_], _ => rfl⟩
  have G_checked_words := ok_checked_words (P := P) (w := w) (mg := mg) (base := base) F_checked_words T ⟨g_ca X G c "is_row" (by decide), fd_is_row, ds_checked_words__is_row, F_is_row.kp, G_is_row, v_checked_words__is_row, b_checked_words__is_row⟩ ⟨g_ca X G c "first_other" (by decide), fd_first_other, ds_checked_words__first_other, F_first_other.kp, G_first_other, v_checked_words__first_other, b_checked_words__first_other⟩
  have G_marked := ok_marked (P := P) (w := w) (mg := mg) (base := base) F_marked T 
  obtain ⟨ds_View_init__checked_sights, v_View_init__checked_sights, b_View_init__checked_sights⟩ : ∃ ds, Vals [] ds ∧ Binds K fd_checked_sights n_checked_sights ds := ⟨[], .nil, F_checked_sights.bindsN fun _ _ _ _ _ _ us hl => match us, hl with | [_], _ => rfl⟩
  obtain ⟨ds_View_init__checked_words, v_View_init__checked_words, b_View_init__checked_words⟩ : ∃ ds, Vals [] ds ∧ Binds K fd_checked_words n_checked_words ds := ⟨[], .nil, F_checked_words.bindsN fun _ _ _ _ _ _ us hl => match us, hl with | [_], _ => rfl⟩
  obtain ⟨ds_View_init__marked, v_View_init__marked, b_View_init__marked⟩ : ∃ ds, Vals [] ds ∧ Binds K fd_marked n_marked ds := ⟨[], .nil, F_marked.bindsN fun _ _ _ _ _ _ us hl => match us, hl with | [_], _ => rfl⟩
  have G_View_init := ok_View_init (P := P) (w := w) (mg := mg) (base := base) F_View_init T ⟨g_ca X G c "checked_sights" (by decide), fd_checked_sights, ds_View_init__checked_sights, F_checked_sights.kp, G_checked_sights, v_View_init__checked_sights, b_View_init__checked_sights⟩ ⟨g_ca X G c "checked_words" (by decide), fd_checked_words, ds_View_init__checked_words, F_checked_words.kp, G_checked_words, v_View_init__checked_words, b_View_init__checked_words⟩ ⟨g_ca X G c "marked" (by decide), fd_marked, ds_View_init__marked, F_marked.kp, G_marked, v_View_init__marked, b_View_init__marked⟩
  obtain ⟨ds_View_copy__View, v_View_copy__View, b_View_copy__View⟩ : ∃ ds, Vals [] ds ∧ Binds K fd_View_init n_View_init ds := F_View_init.binds1 3 2 (by simp [d_View_init, He.DefD.dvs]) rfl fun T kV doc pm an cdv ct us its h1 h2 => match us, its, h1, h2 with | [_, _, _], [_, _], _, _ => ⟨_, rfl, rfl⟩
  have G_View_copy := ok_View_copy (P := P) (w := w) (mg := mg) (base := base) F_View_copy T ⟨g_gl X G c "View" (by decide), g_mk c "View" (by decide), fd_View_init, ds_View_copy__View, G_View_init, v_View_copy__View, b_View_copy__View⟩
  have G_View_eq := ok_View_eq (P := P) (w := w) (mg := mg) (base := base) F_View_eq T 
  obtain ⟨ds_seeing__checked_words, v_seeing__checked_words, b_seeing__checked_words⟩ : ∃ ds, Vals [] ds ∧ Binds K fd_checked_words n_checked_words ds := ⟨[], .nil, F_checked_words.bindsN fun _ _ _ _ _ _ us hl => match us, hl with | [_], _ => rfl⟩
  obtain ⟨ds_seeing__View, v_seeing__View, b_seeing__View⟩ : ∃ ds, Vals [] ds ∧ Binds K fd_View_init n_View_init ds := F_View_init.binds1 3 2 (by simp [d_View_init, He.DefD.dvs]) rfl fun T kV doc pm an cdv ct us its h1 h2 => match us, its, h1, h2 with | [_, _, _], [_, _], _, _ => ⟨_, rfl, rfl⟩
  have G_seeing := ok_seeing (P := P) (w := w) (mg := mg) (base := base) F_seeing T ⟨g_ca X G c "checked_words" (by decide), fd_checked_words, ds_seeing__checked_words, F_checked_words.kp, G_checked_words, v_seeing__checked_words, b_seeing__checked_words⟩ ⟨g_gl X G c "View" (by decide), g_mk c "View" (by decide), fd_View_init, ds_seeing__View, G_View_init, v_seeing__View, b_seeing__View⟩
  have G_sights_told := ok_sights_told (P := P) (w := w) (mg := mg) (base := base) F_sights_told T 
  obtain ⟨ds_checked_lines__is_row, v_checked_lines__is_row, b_checked_lines__is_row⟩ : ∃ ds, Vals [] ds ∧ Binds K fd_is_row n_is_row ds := ⟨[], .nil, F_is_row.bindsN fun _ _ _ _ _ _ us hl => match us, hl with | [_], _ => rfl⟩
  obtain ⟨ds_checked_lines__is_name, v_checked_lines__is_name, b_checked_lines__is_name⟩ : ∃ ds, Vals [] ds ∧ Binds K fd_is_name n_is_name ds := ⟨[], .nil, F_is_name.bindsN fun _ _ _ _ _ _ us hl => match us, hl with | [_], _ => rfl⟩
  have G_checked_lines := ok_checked_lines (P := P) (w := w) (mg := mg) (base := base) F_checked_lines T ⟨g_ca X G c "is_row" (by decide), fd_is_row, ds_checked_lines__is_row, F_is_row.kp, G_is_row, v_checked_lines__is_row, b_checked_lines__is_row⟩ ⟨g_ca X G c "is_name" (by decide), fd_is_name, ds_checked_lines__is_name, F_is_name.kp, G_is_name, v_checked_lines__is_name, b_checked_lines__is_name⟩
  obtain ⟨ds_is_place__is_number_below, v_is_place__is_number_below, b_is_place__is_number_below⟩ : ∃ ds, Vals [] ds ∧ Binds K fd_is_number_below n_is_number_below ds := ⟨[], .nil, F_is_number_below.bindsN fun _ _ _ _ _ _ us hl => match us, hl with | [_, _], _ => rfl⟩
  obtain ⟨ds_is_place__is_name, v_is_place__is_name, b_is_place__is_name⟩ : ∃ ds, Vals [] ds ∧ Binds K fd_is_name n_is_name ds := ⟨[], .nil, F_is_name.bindsN fun _ _ _ _ _ _ us hl => match us, hl with | [_], _ => rfl⟩
  have G_is_place := ok_is_place (P := P) (w := w) (mg := mg) (base := base) F_is_place T ⟨g_ca X G c "is_number_below" (by decide), fd_is_number_below, ds_is_place__is_number_below, F_is_number_below.kp, G_is_number_below, v_is_place__is_number_below, b_is_place__is_number_below⟩ ⟨g_ca X G c "is_name" (by decide), fd_is_name, ds_is_place__is_name, F_is_name.kp, G_is_name, v_is_place__is_name, b_is_place__is_name⟩
  obtain ⟨ds_checked_arrows__sights_told, v_checked_arrows__sights_told, b_checked_arrows__sights_told⟩ : ∃ ds, Vals [] ds ∧ Binds K fd_sights_told n_sights_told ds := ⟨[], .nil, F_sights_told.bindsN fun _ _ _ _ _ _ us hl => match us, hl with | [_], _ => rfl⟩
  obtain ⟨ds_checked_arrows__is_place, v_checked_arrows__is_place, b_checked_arrows__is_place⟩ : ∃ ds, Vals [] ds ∧ Binds K fd_is_place n_is_place ds := ⟨[], .nil, F_is_place.bindsN fun _ _ _ _ _ _ us hl => match us, hl with | [_, _, _], _ => rfl⟩
  obtain ⟨ds_checked_arrows__is_number_below, v_checked_arrows__is_number_below, b_checked_arrows__is_number_below⟩ : ∃ ds, Vals [] ds ∧ Binds K fd_is_number_below n_is_number_below ds := ⟨[], .nil, F_is_number_below.bindsN fun _ _ _ _ _ _ us hl => match us, hl with | [_, _], _ => rfl⟩
  have G_checked_arrows := ok_checked_arrows (P := P) (w := w) (mg := mg) (base := base) F_checked_arrows T ⟨g_ca X G c "sights_told" (by decide), fd_sights_told, ds_checked_arrows__sights_told, F_sights_told.kp, G_sights_told, v_checked_arrows__sights_told, b_checked_arrows__sights_told⟩ ⟨g_ca X G c "is_place" (by decide), fd_is_place, ds_checked_arrows__is_place, F_is_place.kp, G_is_place, v_checked_arrows__is_place, b_checked_arrows__is_place⟩ ⟨g_ca X G c "is_number_below" (by decide), fd_is_number_below, ds_checked_arrows__is_number_below, F_is_number_below.kp, G_is_number_below, v_checked_arrows__is_number_below, b_checked_arrows__is_number_below⟩
  obtain ⟨ds_Guard_init__checked_lines, v_Guard_init__checked_lines, b_Guard_init__checked_lines⟩ : ∃ ds, Vals [] ds ∧ Binds K fd_checked_lines n_checked_lines ds := ⟨[], .nil, F_checked_lines.bindsN fun _ _ _ _ _ _ us hl => match us, hl with | [_, _], _ => rfl⟩
  obtain ⟨ds_Guard_init__checked_arrows, v_Guard_init__checked_arrows, b_Guard_init__checked_arrows⟩ : ∃ ds, Vals [] ds ∧ Binds K fd_checked_arrows n_checked_arrows ds := ⟨[], .nil, F_checked_arrows.bindsN fun _ _ _ _ _ _ us hl => match us, hl with | [_, _, _], _ => rfl⟩
  obtain ⟨ds_Guard_init__View_copy, v_Guard_init__View_copy, b_Guard_init__View_copy⟩ : ∃ ds, Vals [] ds ∧ Binds K fd_View_copy n_View_copy ds := ⟨[], .nil, F_View_copy.bindsN fun _ _ _ _ _ _ us hl => match us, hl with | [_], _ => rfl⟩
  have G_Guard_init := ok_Guard_init (P := P) (w := w) (mg := mg) (base := base) F_Guard_init T ⟨g_ca X G c "checked_lines" (by decide), fd_checked_lines, ds_Guard_init__checked_lines, F_checked_lines.kp, G_checked_lines, v_Guard_init__checked_lines, b_Guard_init__checked_lines⟩ ⟨g_ca X G c "checked_arrows" (by decide), fd_checked_arrows, ds_Guard_init__checked_arrows, F_checked_arrows.kp, G_checked_arrows, v_Guard_init__checked_arrows, b_Guard_init__checked_arrows⟩ ⟨g_me c "View" "copy" (by decide), fd_View_copy, ds_Guard_init__View_copy, G_View_copy, v_Guard_init__View_copy, b_Guard_init__View_copy⟩
  obtain ⟨ds_Guard_eq__View_eq, v_Guard_eq__View_eq, b_Guard_eq__View_eq⟩ : ∃ ds, Vals [] ds ∧ Binds K fd_View_eq n_View_eq ds := ⟨[], .nil, F_View_eq.bindsN fun _ _ _ _ _ _ us hl => match us, hl with | [_, _], _ => rfl⟩
  have G_Guard_eq := ok_Guard_eq (P := P) (w := w) (mg := mg) (base := base) F_Guard_eq T ⟨g_me c "View" "__eq__" (by decide), fd_View_eq, ds_Guard_eq__View_eq, G_View_eq, v_Guard_eq__View_eq, b_Guard_eq__View_eq⟩
  have G__law_stream := ok__law_stream (P := P) (w := w) (mg := mg) (base := base) F__law_stream T 
  have G__law_draw := ok__law_draw (P := P) (w := w) (mg := mg) (base := base) F__law_draw T 
  obtain ⟨ds__law_rows___law_draw, v__law_rows___law_draw, b__law_rows___law_draw⟩ : ∃ ds, Vals [] ds ∧ Binds K fd__law_draw n__law_draw ds := ⟨[], .nil, F__law_draw.bindsN fun _ _ _ _ _ _ us hl => match us, hl with | [_, _], _ => rfl⟩
  have G__law_rows := ok__law_rows (P := P) (w := w) (mg := mg) (base := base) F__law_rows T ⟨g_ca X G c "_law_draw" (by decide), fd__law_draw, ds__law_rows___law_draw, F__law_draw.kp, G__law_draw, v__law_rows___law_draw, b__law_rows___law_draw⟩
  obtain ⟨ds__law_table___law_draw, v__law_table___law_draw, b__law_table___law_draw⟩ : ∃ ds, Vals [] ds ∧ Binds K fd__law_draw n__law_draw ds := ⟨[], .nil, F__law_draw.bindsN fun _ _ _ _ _ _ us hl => match us, hl with | [_, _], _ => rfl⟩
  have G__law_table := ok__law_table (P := P) (w := w) (mg := mg) (base := base) F__law_table T ⟨g_ca X G c "_law_draw" (by decide), fd__law_draw, ds__law_table___law_draw, F__law_draw.kp, G__law_draw, v__law_table___law_draw, b__law_table___law_draw⟩
  obtain ⟨ds__law_arrows___law_draw, v__law_arrows___law_draw, b__law_arrows___law_draw⟩ : ∃ ds, Vals [] ds ∧ Binds K fd__law_draw n__law_draw ds := ⟨[], .nil, F__law_draw.bindsN fun _ _ _ _ _ _ us hl => match us, hl with | [_, _], _ => rfl⟩
  have G__law_arrows := ok__law_arrows (P := P) (w := w) (mg := mg) (base := base) F__law_arrows T ⟨g_ca X G c "_law_draw" (by decide), fd__law_draw, ds__law_arrows___law_draw, F__law_draw.kp, G__law_draw, v__law_arrows___law_draw, b__law_arrows___law_draw⟩
  obtain ⟨ds_law___law_stream, v_law___law_stream, b_law___law_stream⟩ : ∃ ds, Vals [] ds ∧ Binds K fd__law_stream n__law_stream ds := ⟨[], .nil, F__law_stream.bindsN fun _ _ _ _ _ _ us hl => match us, hl with | [_, _], _ => rfl⟩
  obtain ⟨ds_law___law_draw, v_law___law_draw, b_law___law_draw⟩ : ∃ ds, Vals [] ds ∧ Binds K fd__law_draw n__law_draw ds := ⟨[], .nil, F__law_draw.bindsN fun _ _ _ _ _ _ us hl => match us, hl with | [_, _], _ => rfl⟩
  obtain ⟨ds_law___law_rows, v_law___law_rows, b_law___law_rows⟩ : ∃ ds, Vals [] ds ∧ Binds K fd__law_rows n__law_rows ds := ⟨[], .nil, F__law_rows.bindsN fun _ _ _ _ _ _ us hl => match us, hl with | [_, _, _], _ => rfl⟩
  obtain ⟨ds_law___law_table, v_law___law_table, b_law___law_table⟩ : ∃ ds, Vals [] ds ∧ Binds K fd__law_table n__law_table ds := ⟨[], .nil, F__law_table.bindsN fun _ _ _ _ _ _ us hl => match us, hl with | [_, _], _ => rfl⟩
  obtain ⟨ds_law__seeing, v_law__seeing, b_law__seeing⟩ : ∃ ds, Vals [] ds ∧ Binds K fd_seeing n_seeing ds := F_seeing.binds1 2 1 (by simp [d_seeing, He.DefD.dvs]) rfl fun T kV doc pm an cdv ct us its h1 h2 => match us, its, h1, h2 with | [_, _], [_], _, _ => ⟨_, rfl, rfl⟩
  obtain ⟨ds_law___law_arrows, v_law___law_arrows, b_law___law_arrows⟩ : ∃ ds, Vals [] ds ∧ Binds K fd__law_arrows n__law_arrows ds := ⟨[], .nil, F__law_arrows.bindsN fun _ _ _ _ _ _ us hl => match us, hl with | [_, _, _], _ => rfl⟩
  obtain ⟨ds_law__Plant, v_law__Plant, b_law__Plant⟩ : ∃ ds, Vals [] ds ∧ Binds K fd_Plant_init n_Plant_init ds := F_Plant_init.binds1 5 1 (by simp [d_Plant_init, He.DefD.dvs]) rfl fun T kV doc pm an cdv ct us its h1 h2 => match us, its, h1, h2 with | [_, _, _, _, _], [_], _, _ => ⟨_, rfl, rfl⟩
  obtain ⟨ds_law__Plant_d1, v_law__Plant_d1, b_law__Plant_d1⟩ : ∃ ds, Vals (LG.d_Plant_d1 K) ds ∧ Binds K fd_Plant_init n_Plant_init ds := F_Plant_init.binds1 4 0 (by simp [d_Plant_init, He.DefD.dvs]) rfl fun T kV doc pm an cdv ct us its h1 h2 => match us, its, h1, h2 with | [_, _, _, _], [_], _, _ => ⟨_, rfl, rfl⟩
  obtain ⟨ds_law__View, v_law__View, b_law__View⟩ : ∃ ds, Vals [] ds ∧ Binds K fd_View_init n_View_init ds := F_View_init.binds1 3 2 (by simp [d_View_init, He.DefD.dvs]) rfl fun T kV doc pm an cdv ct us its h1 h2 => match us, its, h1, h2 with | [_, _, _], [_, _], _, _ => ⟨_, rfl, rfl⟩
  obtain ⟨ds_law__Guard, v_law__Guard, b_law__Guard⟩ : ∃ ds, Vals [] ds ∧ Binds K fd_Guard_init n_Guard_init ds := ⟨[], .nil, F_Guard_init.bindsN fun _ _ _ _ _ _ us hl => match us, hl with | [_, _, _, _], _ => rfl⟩
  obtain ⟨ds_law__Plant_eq, v_law__Plant_eq, b_law__Plant_eq⟩ : ∃ ds, Vals [] ds ∧ Binds K fd_Plant_eq n_Plant_eq ds := ⟨[], .nil, F_Plant_eq.bindsN fun _ _ _ _ _ _ us hl => match us, hl with | [_, _], _ => rfl⟩
  obtain ⟨ds_law__View_eq, v_law__View_eq, b_law__View_eq⟩ : ∃ ds, Vals [] ds ∧ Binds K fd_View_eq n_View_eq ds := ⟨[], .nil, F_View_eq.bindsN fun _ _ _ _ _ _ us hl => match us, hl with | [_, _], _ => rfl⟩
  obtain ⟨ds_law__Guard_eq, v_law__Guard_eq, b_law__Guard_eq⟩ : ∃ ds, Vals [] ds ∧ Binds K fd_Guard_eq n_Guard_eq ds := ⟨[], .nil, F_Guard_eq.bindsN fun _ _ _ _ _ _ us hl => match us, hl with | [_, _], _ => rfl⟩
  obtain ⟨g_law__Plant_k0_barred_wanted_steps_start, kb_law__Plant_k0_barred_wanted_steps_start⟩ : ∃ g, KBn K fd_Plant_init n_Plant_init 1 ["barred", "wanted", "steps", "start"] g (gv_Plant_k0_barred_wanted_steps_start K) := kbD [.pos 0, .kw 3, .kw 2, .kw 1, .kw 0] F_Plant_init 1 ["barred", "wanted", "steps", "start"] (by simp [d_Plant_init, He.DefD.dvs]) fun T kV doc pm an cdv ct us its ws h1 h2 h3 => match us, its, ws, h1, h2, h3 with | [_], [_], [_, _, _, _], _, _, _ => ⟨_, rfl, rfl⟩
  obtain ⟨g_law__Plant_k2_wanted, kb_law__Plant_k2_wanted⟩ : ∃ g, KBn K fd_Plant_init n_Plant_init 3 ["wanted"] g (gv_Plant_k2_wanted K) := kbD [.pos 0, .pos 1, .pos 2, .kw 0, .dfl 0] F_Plant_init 3 ["wanted"] (by simp [d_Plant_init, He.DefD.dvs]) fun T kV doc pm an cdv ct us its ws h1 h2 h3 => match us, its, ws, h1, h2, h3 with | [_, _, _], [_], [_], _, _, _ => ⟨_, rfl, rfl⟩
  obtain ⟨g_law__View_k0_holds_sights, kb_law__View_k0_holds_sights⟩ : ∃ g, KBn K fd_View_init n_View_init 1 ["holds", "sights"] g (gv_View_k0_holds_sights K) := kbD [.pos 0, .kw 1, .kw 0] F_View_init 1 ["holds", "sights"] (by simp [d_View_init, He.DefD.dvs]) fun T kV doc pm an cdv ct us its ws h1 h2 h3 => match us, its, ws, h1, h2, h3 with | [_], [_, _], [_, _], _, _, _ => ⟨_, rfl, rfl⟩
  obtain ⟨g_law__View_k0_holds, kb_law__View_k0_holds⟩ : ∃ g, KBn K fd_View_init n_View_init 1 ["holds"] g (gv_View_k0_holds K) := kbD [.pos 0, .dfl 0, .kw 0] F_View_init 1 ["holds"] (by simp [d_View_init, He.DefD.dvs]) fun T kV doc pm an cdv ct us its ws h1 h2 h3 => match us, its, ws, h1, h2, h3 with | [_], [_, _], [_], _, _, _ => ⟨_, rfl, rfl⟩
  obtain ⟨g_law__View_k0_sights, kb_law__View_k0_sights⟩ : ∃ g, KBn K fd_View_init n_View_init 1 ["sights"] g (gv_View_k0_sights K) := kbD [.pos 0, .kw 0, .dfl 1] F_View_init 1 ["sights"] (by simp [d_View_init, He.DefD.dvs]) fun T kV doc pm an cdv ct us its ws h1 h2 h3 => match us, its, ws, h1, h2, h3 with | [_], [_, _], [_], _, _, _ => ⟨_, rfl, rfl⟩
  obtain ⟨g_law__seeing_k0_holds_words, kb_law__seeing_k0_holds_words⟩ : ∃ g, KBn K fd_seeing n_seeing 0 ["holds", "words"] g (gv_seeing_k0_holds_words K) := kbD [.kw 1, .kw 0] F_seeing 0 ["holds", "words"] (by simp [d_seeing, He.DefD.dvs]) fun T kV doc pm an cdv ct us its ws h1 h2 h3 => match us, its, ws, h1, h2, h3 with | [], [_], [_, _], _, _, _ => ⟨_, rfl, rfl⟩
  obtain ⟨g_law__seeing_k0_words, kb_law__seeing_k0_words⟩ : ∃ g, KBn K fd_seeing n_seeing 0 ["words"] g (gv_seeing_k0_words K) := kbD [.kw 0, .dfl 0] F_seeing 0 ["words"] (by simp [d_seeing, He.DefD.dvs]) fun T kV doc pm an cdv ct us its ws h1 h2 h3 => match us, its, ws, h1, h2, h3 with | [], [_], [_], _, _, _ => ⟨_, rfl, rfl⟩
  obtain ⟨g_law__Guard_k0_held_moves_view, kb_law__Guard_k0_held_moves_view⟩ : ∃ g, KBn K fd_Guard_init n_Guard_init 1 ["held", "moves", "view"] g (gv_Guard_k0_held_moves_view K) := kb0 [.pos 0, .kw 2, .kw 1, .kw 0] F_Guard_init 1 ["held", "moves", "view"] fun kV doc pm an cdv ct us ws h1 h3 => match us, ws, h1, h3 with | [_], [_, _, _], _, _ => rfl
  have G_law := ok_law (P := P) (w := w) (mg := mg) (base := base) F_law T ⟨g_ca X G c "_law_stream" (by decide), fd__law_stream, ds_law___law_stream, F__law_stream.kp, G__law_stream, v_law___law_stream, b_law___law_stream⟩ ⟨g_ca X G c "_law_draw" (by decide), fd__law_draw, ds_law___law_draw, F__law_draw.kp, G__law_draw, v_law___law_draw, b_law___law_draw⟩ ⟨g_ca X G c "_law_rows" (by decide), fd__law_rows, ds_law___law_rows, F__law_rows.kp, G__law_rows, v_law___law_rows, b_law___law_rows⟩ ⟨g_ca X G c "_law_table" (by decide), fd__law_table, ds_law___law_table, F__law_table.kp, G__law_table, v_law___law_table, b_law___law_table⟩ ⟨g_ca X G c "seeing" (by decide), fd_seeing, ds_law__seeing, F_seeing.kp, G_seeing, v_law__seeing, b_law__seeing⟩ ⟨g_ca X G c "_law_arrows" (by decide), fd__law_arrows, ds_law___law_arrows, F__law_arrows.kp, G__law_arrows, v_law___law_arrows, b_law___law_arrows⟩ ⟨g_gl X G c "Plant" (by decide), g_mk c "Plant" (by decide), fd_Plant_init, ds_law__Plant, G_Plant_init, v_law__Plant, b_law__Plant⟩ ⟨g_gl X G c "Plant" (by decide), g_mk c "Plant" (by decide), fd_Plant_init, ds_law__Plant_d1, G_Plant_init, v_law__Plant_d1, b_law__Plant_d1⟩ ⟨g_gl X G c "View" (by decide), g_mk c "View" (by decide), fd_View_init, ds_law__View, G_View_init, v_law__View, b_law__View⟩ ⟨g_gl X G c "Guard" (by decide), g_mk c "Guard" (by decide), fd_Guard_init, ds_law__Guard, G_Guard_init, v_law__Guard, b_law__Guard⟩ ⟨g_me c "Plant" "__eq__" (by decide), fd_Plant_eq, ds_law__Plant_eq, G_Plant_eq, v_law__Plant_eq, b_law__Plant_eq⟩ ⟨g_me c "View" "__eq__" (by decide), fd_View_eq, ds_law__View_eq, G_View_eq, v_law__View_eq, b_law__View_eq⟩ ⟨g_me c "Guard" "__eq__" (by decide), fd_Guard_eq, ds_law__Guard_eq, G_Guard_eq, v_law__Guard_eq, b_law__Guard_eq⟩ ⟨g_gl X G c "Plant" (by decide), g_mk c "Plant" (by decide), fd_Plant_init, g_law__Plant_k0_barred_wanted_steps_start, G_Plant_init, kb_law__Plant_k0_barred_wanted_steps_start⟩ ⟨g_gl X G c "Plant" (by decide), g_mk c "Plant" (by decide), fd_Plant_init, g_law__Plant_k2_wanted, G_Plant_init, kb_law__Plant_k2_wanted⟩ ⟨g_gl X G c "View" (by decide), g_mk c "View" (by decide), fd_View_init, g_law__View_k0_holds_sights, G_View_init, kb_law__View_k0_holds_sights⟩ ⟨g_gl X G c "View" (by decide), g_mk c "View" (by decide), fd_View_init, g_law__View_k0_holds, G_View_init, kb_law__View_k0_holds⟩ ⟨g_gl X G c "View" (by decide), g_mk c "View" (by decide), fd_View_init, g_law__View_k0_sights, G_View_init, kb_law__View_k0_sights⟩ ⟨g_ca X G c "seeing" (by decide), fd_seeing, g_law__seeing_k0_holds_words, F_seeing.kp, G_seeing, kb_law__seeing_k0_holds_words⟩ ⟨g_ca X G c "seeing" (by decide), fd_seeing, g_law__seeing_k0_words, F_seeing.kp, G_seeing, kb_law__seeing_k0_words⟩ ⟨g_gl X G c "Guard" (by decide), g_mk c "Guard" (by decide), fd_Guard_init, g_law__Guard_k0_held_moves_view, G_Guard_init, kb_law__Guard_k0_held_moves_view⟩ (XF.neOwn c.1 (c := "Plant") (by decide)) (XF.neOwn c.1 (c := "View") (by decide))
  exact G_law
end HL
end

section
set_option maxHeartbeats 0
namespace HL
open PySem PySem.Spec PyProof.Rows L2 LG
/-- the end of a law, the context of errors by the world -/
theorem endW {l : PySem.W.OpenLaw} {n k : Nat} {q : Program} {far : List Str} {XP : (Str → Option Value) → Heap → Prop} {YP : World → Heap → Prop} {d : DefRec} {x : Str} (m1 : l.most = some n) (m2 : n ≤ sizeLine) (m3 : d.params.defaults = []) (m4 : Room k callerA)
    (F : ∀ (w : World) (mg : Str → Option Value) (fa : Addr) (h : Heap), YP w h → h.Ns mainGlobals mg → mg d.name = some (.ref fa) → ∃ (K : PySem.W.Frag) (fd : FuncData) (sp : Sp), K.In h ∧
      (∀ (s : Shared) (u : Value), BindsTo s fd ⟨[u], []⟩ [(x, u)]) ∧ (∀ (H : Hp) (a : Addr) (ns : List Int), SqL K H a (ns.map V.int) → sp [.ref a] H (fun v _ => v = .bl true) fun _ _ _ => False) ∧
      ∀ base : Heap, K.In base → base.Ns mainGlobals mg → FnOk l.prog w K mg base (L2.CX l.prog w) k fa fd [x] sp) : PySem.W.WalkO q far XP YP l.row.toRowW d [] (fun f vs => PySem.call f vs) := by
  refine Att.attach_call m1 m3 ?_
  intro w t0 t1 mg mb fa o pm cd doc a vs ns G Y b1 b2 b3 b4 b5 b6 b7 b8
  obtain ⟨K, fd, sp, KX, c1, c2, c3⟩ := F w mg fa _ Y G.T.g b4
  refine law_call KX G.T.g G.T.b G.T.builtins G.T.nolimit b8 b5 b6 (Nat.le_trans b7 m2) m4 c3 c1 (fun H _ z => c2 H a ns z) ?_
  intro H e t z
  obtain ⟨_, _, _, _, _, _, _, _, _, _, _, _, z⟩ := z
  exact z.elim
end HL
open PySem PySem.W PySem.Calls PyProof.Rows
theorem PySem.Challenge.cw_leastguards_k88_arguments_by_name_holds : PySem.Challenge.rw_leastguards_k88_arguments_by_name.Holds := by
  w_on; o_law
  refine HandSHeadRun.head_any (r := OpenLaw.row PySem.Challenge.rw_leastguards_k88_arguments_by_name) (q := view (OpenLaw.row PySem.Challenge.rw_leastguards_k88_arguments_by_name).prog [56]) (H := HL.hk) (ob := HL.ob) (M := 8000) (loose := HL.loose) (d := HandSHeadRun.topDef (OpenLaw.row PySem.Challenge.rw_leastguards_k88_arguments_by_name).prog 56) (kwd := []) HL.ob_eq
    (by kernel_rfl) (fun s => by kernel_rfl) HL.run (by kernel_rfl) (by kernel_rfl) (by kernel_rfl) (by rfl) (by first | assumption | decide +kernel) (by decide +kernel) ⟨rfl, rfl, rfl, rfl, rfl, by decide +kernel⟩ ?hw ?hc
  case hw => w_witness2
  case hc =>
    refine HL.endW (l := PySem.Challenge.rw_leastguards_k88_arguments_by_name) (n := 63) (k := 10) (x := "_law_script") rfl (by decide) (by kernel_rfl) ⟨rfl, by decide, by decide⟩ ?F
    intro w mg fa h Y G at_
    obtain ⟨K, KX, c⟩ := Y
    have nm : (HandSHeadRun.topDef (OpenLaw.row PySem.Challenge.rw_leastguards_k88_arguments_by_name).prog 56).name = ("law" : PySem.Str) := by kernel_rfl
    rw [nm] at at_
    obtain ⟨fd, hb, lk, hF⟩ := HL.facts (P := (PySem.Challenge.rw_leastguards_k88_arguments_by_name).prog) (w := w) KX G at_ c
    exact ⟨K, fd, LG.sp_law _ w K, KX, hb, fun H a ns hS => ⟨a, ns, rfl, hS, lk, fun _ => rfl⟩, hF⟩
end
