import PyProof.Rows.All
import Wide.All
import OpenK.AllK
import Wide.FinOn
import HandS.ForMost
import HandS.Walk
import HandS.IsInst
import HandS.Flow
import HandS.Wide
import HandS.Conv
import PyProof.ListStr
import PyProof.StrOps2
import KE.GoesEnum
import HandS.Exc
import HandS.ExcInit
import HandS.ExcOwn
import HandS.TryMany
import KE.KExcSuper
import KE.KExcMake
import KE.KSuper
import HandS.Style
import KE.KDictSum
import HandS.WordsExc
import KE.RegKSuper
import HandS.ExcIs
import KE.KExcIs
import PyProof.ReprRoads
import PyProof.CallFns
import HandS.OwnEq
import HandS.TupAny
import HandS.Zip
import PyProof.InstNe
import PyProof.EqKinds
import KE.GoesMore
import PyProof.EnumMake
import HandS.Lambda
import PyProof.NeKinds
import KE.IntTextText
import PySem.Challenge.RW_namedmeets_k04_texts_of_values_refused
import HandS.EndTab
import KE.KNestM
import KE.KLam
set_option Elab.async false
set_option linter.all false
set_option maxRecDepth 100000
set_option maxHeartbeats 4000000
/-! The own layer: heaps that only grow but for dicts, readings by names, steps. -/
namespace Nm
open PySem PySem.Spec PyProof.Rows L2

/-! ### heaps -/
def isD : HO → Bool
  | .dK _ => true
  | .dT _ => true
  | .tbl _ => true
  | _ => false
/-- all that is tracked stands, but dicts (and tables of code objects) may change -/
def Keep (H H' : Hp) : Prop := ∀ a o, H a = some o → isD o = false → H' a = some o
theorem Keep.refl (H : Hp) : Keep H H := fun _ _ h _ => h
theorem Keep.trans {H H1 H2 : Hp} (a : Keep H H1) (b : Keep H1 H2) : Keep H H2 := fun x o h z => b x o (a x o h z) z
theorem same_keep {H H' : Hp} (a : Same H H') : Keep H H' := fun x o h _ => a x o h
theorem Keep.rdL {H H' : Hp} {a : Addr} {xs : List V} (k : Keep H H') (h : Rd H a (.lst xs)) : Rd H' a (.lst xs) := by
  rcases h with h | ⟨o, h⟩
  · exact .inl (k _ _ h rfl)
  · exact .inr ⟨o, k _ _ h rfl⟩
theorem Keep.rdT {H H' : Hp} {a : Addr} {xs : List V} (k : Keep H H') (h : Rd H a (.tup xs)) : Rd H' a (.tup xs) := by
  rcases h with h | ⟨o, h⟩
  · exact .inl (k _ _ h rfl)
  · exact .inr ⟨o, k _ _ h rfl⟩
theorem Keep.l {K : PySem.W.Frag} {H H' : Hp} {a : Addr} {xs : List V} (k : Keep H H') (h : SqL K H a xs) : SqL K H' a xs := by
  rcases h with h | h
  · exact .inl (k.rdL h)
  · exact .inr h
theorem Keep.t {K : PySem.W.Frag} {H H' : Hp} {a : Addr} {xs : List V} (k : Keep H H') (h : SqT K H a xs) : SqT K H' a xs := by
  rcases h with h | h
  · exact .inl (k.rdT h)
  · exact .inr h
mutual
theorem dp_keep {K : PySem.W.Frag} {H H' : Hp} (k : Keep H H') : ∀ {v : V} {d : PyData}, Dp K H v d → Dp K H' v d
  | _, _, .non => .non
  | _, _, .bl b => .bl b
  | _, _, .int i => .int i
  | _, _, .str x => .str x
  | _, _, .lst h l => .lst (k.l h) (dps_keep k l)
  | _, _, .tup h l => .tup (k.t h) (dps_keep k l)
theorem dps_keep {K : PySem.W.Frag} {H H' : Hp} (k : Keep H H') : ∀ {v : List V} {d : List PyData}, DpAll K H v d → DpAll K H' v d
  | _, _, .nil => .nil
  | _, _, .cons h l => .cons (dp_keep k h) (dps_keep k l)
end
theorem Same.new {H : Hp} {p : Addr} {o : HO} (h : H p = none) : Same H (upd H p o) := fun b u e => by
  rw [upd_ne (ne_of_none e h)]
  exact e
/-- an object that H does not know may change -/
theorem Same.mut {H H' : Hp} {p : Addr} {o : HO} (e : Same H H') (h : H p = none) : Same H (upd H' p o) := fun b u q => by
  rw [upd_ne (ne_of_none q h)]
  exact e b u q
theorem Keep.mut {H H' : Hp} {p : Addr} {o : HO} (e : Keep H H') (h : H p = none) : Keep H (upd H' p o) := fun b u q z => by
  rw [upd_ne (ne_of_none q h)]
  exact e b u q z
/-- all but the object at d stands -/
def But (d : Addr) (H H' : Hp) : Prop := ∀ a o, a ≠ d → H a = some o → H' a = some o
theorem But.refl (d : Addr) (H : Hp) : But d H H := fun _ _ _ h => h
theorem But.trans {d : Addr} {H H1 H2 : Hp} (a : But d H H1) (b : But d H1 H2) : But d H H2 := fun x o n h => b x o n (a x o n h)
theorem But.keep {d : Addr} {H H' : Hp} {kvs : List (Key × V)} (b : But d H H') (h : H d = some (.dK kvs)) : Keep H H' := fun a o e z => by
  refine b a o (fun q => ?_) e
  rw [q, h] at e
  cases e
  cases z
theorem But.upd {d : Addr} {H : Hp} {o : HO} : But d H (upd H d o) := fun a u n e => by
  rw [upd_ne n]
  exact e
end Nm

/-! Rules of the own layer: text * int, list(text), enumerate(text). -/
namespace Nm
open PySem PySem.Spec PyProof.Rows L2
/-- z, n times -/
def mulS (z : Str) (n : Nat) : Str := ⟨(List.replicate n z.cps.toList).flatten.toArray⟩
theorem foldl_rep (x : Array Nat) : ∀ (n : Nat) (acc : Array Nat), ((List.replicate n x).foldl (· ++ ·) acc).toList = acc.toList ++ (List.replicate n x.toList).flatten
  | 0, acc => by simp
  | n + 1, acc => by
    rw [List.replicate_succ, List.foldl_cons, foldl_rep x n, List.replicate_succ, List.flatten_cons, Array.toList_append, List.append_assoc]
theorem rep_mulS (x : Str) (n : Nat) : (⟨(List.replicate n x.cps).foldl (· ++ ·) #[]⟩ : Str) = mulS x n := by
  unfold mulS
  congr 1
  apply Array.toList_inj.mp
  rw [foldl_rep]
  simp
theorem mulS_len (x : Str) (n : Nat) : (mulS x n).length = x.length * n := by
  show ((List.replicate n x.cps.toList).flatten.toArray).size = x.cps.size * n
  simp [Nat.mul_comm]
def rMulS : R2 := fun x y H Q => ∃ z n, x = .str z ∧ y = .int n ∧ 0 ≤ n ∧ n ≤ 100000 ∧ z.length ≤ 100 ∧ Q (.str (mulS z n.toNat)) H
theorem op_mulS {X : Cx} : OpR X (binaryOp .Mult) rMulS := by
  intro pins s σ H x y v u Q I rx ry h
  obtain ⟨z, n, rfl, rfl, h0, h1, hz, q⟩ := h
  obtain ⟨t, rfl⟩ := rx
  obtain ⟨t', rfl⟩ := ry
  have hle : z.length * n.toNat ≤ 10000000 := Nat.le_trans (Nat.mul_le_mul hz (show n.toNat ≤ 100000 by omega)) (by decide)
  have hsl : (sizeLine : Nat) = 16777216 := sizeLine_eq
  refine PySem.P.mul_str ?_ ?_ ?_ ?_
  · rw [Bool.or_eq_false_iff]
    exact ⟨decide_eq_false (by omega), decide_eq_false (by omega)⟩
  · intro hn _ hc
    have e1 : (2 ^ 63 - 1 : Int) / n ≥ 100 := by
      rw [ge_iff_le, Int.le_ediv_iff_mul_le (by omega)]
      omega
    omega
  · intro _ _
    unfold Builtin.Str.tooLong
    refine decide_eq_false ?_
    omega
  · by_cases c1 : n < 1
    · rw [if_pos c1]
      have e0 : n.toNat = 0 := by omega
      rw [e0] at q
      exact ⟨by decide, .str _, H, I.tok _, ⟨_, rfl⟩, q⟩
    · rw [if_neg c1]
      by_cases c2 : (n == 1 || z.length == 0) = true
      · rw [if_pos c2]
        have e : mulS z n.toNat = z := by
          rw [Bool.or_eq_true] at c2
          rcases c2 with c | c
          · have e1 : n.toNat = 1 := by
              have := eq_of_beq c
              omega
            rw [e1]
            unfold mulS
            simp
          · have e1 : z.cps.size = 0 := eq_of_beq c
            have e2 : z.cps = #[] := Array.eq_empty_of_size_eq_zero e1
            obtain ⟨cps⟩ := z
            simp only at e2
            subst e2
            unfold mulS
            simp
        rw [e] at q
        exact ⟨.str z, H, I, ⟨t, rfl⟩, q⟩
      · rw [if_neg c2, rep_mulS]
        refine ⟨?_, .str _, H, I.tok _, ⟨_, rfl⟩, q⟩
        rw [mulS_len]
        omega

/-- list(text) -/
def signsV (z : Str) : List V := z.cps.toList.map fun c => V.str ⟨#[c]⟩
def rListS : List V → Hp → VK → Prop := fun xs H Q => ∃ z, xs = [.str z] ∧ z.length ≤ sizeLine ∧ ∀ l, H l = none → Q (.ref l) (upd H l (.lst (signsV z)))
theorem vals_signs {x : Str} {acc : Array Value} (h : ItemsOf (SignAt x) acc x.cps.size) : Vals (signsV x) acc.toList := by
  refine vals_of_at ?_ ?_
  · unfold signsV
    rw [List.length_map]
    simpa using h.1.symm
  · intro j a u ha hu
    unfold signsV at ha
    rw [List.getElem?_map] at ha
    cases e : x.cps.toList[j]? with
    | none => rw [e] at ha; cases ha
    | some c =>
      rw [e] at ha
      have ha' : V.str ⟨#[c]⟩ = a := Option.some.inj ha
      subst ha'
      obtain ⟨c', t, hc, rfl⟩ := h.2 j u (by simpa using hu)
      have e2 : x.cps[j]? = some c := by simpa using e
      rw [e2] at hc
      cases hc
      exact ⟨t, rfl⟩
theorem call_list_str' {X : Cx} (hc : X.calm = true) : CallR X (.type "list") rListS := by
  intro pins s σ H xs us Q I r h
  obtain ⟨z, rfl, hz, q⟩ := h
  obtain ⟨u, rfl, ru⟩ := vals1 r
  obtain ⟨t, rfl⟩ := ru
  refine PySem.call_list_str (I.ok.hd hc) z t (fun h' tk acc' c' hk hS hacc => ?_) hz
  refine ⟨.ref s.heap.objs.size, _, I.laid (t' := tk) (o := .lst (signsV z)) hk (Nat.le_refl _) ⟨?_, acc'.toList, c', vals_signs hacc, by simpa using hS⟩, rfl, q _ (I.hok.fresh (Nat.le_refl _))⟩
  unfold signsV
  rw [List.length_map]
  exact hz
/-! ### enumerate(text) -/
def ItE (z : Str) : It :=
  ⟨fun i _ => i < z.cps.size, fun i H v H' => ∃ T c, v = .ref T ∧ H T = none ∧ z.cps[i]? = some c ∧ H' = upd H T (.tup [.int (i : Nat), .str ⟨#[c]⟩]), fun i _ => i = z.cps.size⟩
theorem turn_enumS {P : Program} {w : World} {K : PySem.W.Frag} {elts : List Expr} {kk : Nat} {tpos : Pos} (x : Str) (t : Tok) (e it : Addr) :
    Turn P w K (.Tuple elts kk tpos) (ItE x) [e, it] e (fun i h => (∃ old, IsEnum h e it ((i : Nat) : Int) old) ∧ h.IsStrIter it (strIterType x) x t i ∧ e ≠ it) where
  mem := by simp
  obj := fun i h st b hb => by
    obtain ⟨⟨old, he⟩, ⟨o, ho, hc, hd⟩, _⟩ := st
    have e' : b = e ∨ b = it := by simpa using hb
    rcases e' with z | z
    · rw [z]; exact ⟨_, he, fun v q => nomatch q⟩
    · rw [z]; exact ⟨o, ho, fun v q => by rw [hd] at q; cases q⟩
  keep := fun i h h' st k => let ⟨⟨old, he⟩, ⟨o, ho, r⟩, hne⟩ := st; ⟨⟨old, k e (by simp) _ he⟩, ⟨o, k it (by simp) o ho, r⟩, hne⟩
  item := by
    intro X hP hw hK hc i pins s σ H E I hf st hg
    subst hP hw hK
    obtain ⟨⟨old, he⟩, hit, hne⟩ := st
    have hel : e < s.heap.objs.size := Heap.lt_size he
    have hil : it < s.heap.objs.size := by obtain ⟨_, q, _⟩ := hit; exact Heap.lt_size q
    have D := Draws.text (prog := X.prog) (w := X.w) (A := X.A.in1) (by show X.A.handled = none; exact I.ok.hd hc) it x t
    have hef : e ∉ [it] := by simpa using hne
    refine wpAny_pyNext_enum_itemC D he hit hg hne hef fun v h' tk hP ho hit' hT hsz hk => ?_
    obtain ⟨c, u, hcx, rfl⟩ := hP
    refine ⟨_, rfl, wpAny_letOwnedTupleGo_enum (s := { s with heap := h', toks := tk + 1 }) ho fun h'' he' sb => ?_⟩
    have hT2 : h''.get? s.heap.objs.size = some { cls := .type "tuple", data := .seq #[.int i tk, .str ⟨#[c]⟩ u] } := (sb.2 _ (Nat.ne_of_gt hel)).trans hT
    have new : ObjOk X.prog X.w (upd H s.heap.objs.size (.tup [.int (i : Nat), .str ⟨#[c]⟩])) h'' s.heap.objs.size (.tup [.int (i : Nat), .str ⟨#[c]⟩]) :=
      ⟨by show 2 ≤ sizeLine; decide, [.int i tk, .str ⟨#[c]⟩ u], .cons ⟨_, rfl⟩ (.cons ⟨_, rfl⟩ .nil), ⟨_, hT2, rfl, _, rfl⟩⟩
    have I1 : Inv X pins σ (upd H s.heap.objs.size (.tup [.int (i : Nat), .str ⟨#[c]⟩])) { s with heap := h'', toks := tk + 1 } :=
      I.turnedNew (ch := [e, it]) (fun b ob hb q => (sb.2 b (fun z => hb (by simp [z]))).trans (hk b ob (fun z => hb (by simp [z])) (fun z => hb (by simp [z])) q)) hf (Nat.le_refl _) new
    refine ⟨.ref s.heap.objs.size, _, I1, rfl, ⟨_, c, rfl, I.hok.fresh (Nat.le_refl _), hcx, rfl⟩, ⟨⟨.str ⟨#[c]⟩ u, ?_⟩, ?_, hne⟩, fun b hb => ?_⟩
    · have e1 : ((i + 1 : Nat) : Int) = (i : Int) + 1 := by omega
      rw [e1]; exact he'
    · obtain ⟨o, ho', r⟩ := hit'
      exact ⟨o, (sb.2 it (Ne.symm hne)).trans ho', r⟩
    · have hb' : b < s.heap.objs.size := by
        have e' : b = e ∨ b = it := by simpa using hb
        rcases e' with z | z
        · rw [z]; exact hel
        · rw [z]; exact hil
      rw [upd_ne (Nat.ne_of_lt hb')]
      exact (hf b hb).1
  done := by
    intro X hP hw hK hc i pins s σ H E I hf st hg
    subst hP hw hK
    obtain ⟨⟨old, he⟩, hit, hne⟩ := st
    have hst : s.heap.IsStrIter it (strIterType x) x t i := hit
    have hg' : i = x.cps.size := hg
    subst hg'
    have D := Draws.text (prog := X.prog) (w := X.w) (A := X.A.in1) (by show X.A.handled = none; exact I.ok.hd hc) it x t
    obtain ⟨f0, f1, f2, f3, f4, f5⟩ := hf it (by simp)
    exact wpAny_pyNext_enum_endD D he hst fun h' eb => ⟨rfl, I.turned (t' := s.toks) (fun b o hb q => eb b o hb q) f0 f1 f3 f4 f5⟩
  self := fun A i s Q E st h => let ⟨⟨_, he⟩, _⟩ := st; wpAny_pyIter_enum he h
def iEnumS (ta : TA) : TI := fun σ H R => ta σ H fun vs H1 => ∃ z, vs = [.str z] ∧ R (ItE z) H1
theorem pi_enumS {X : Cx} {e : Expr} {ta : TA} {p pos tpos : Pos} {elts : List Expr} {kk : Nat} (hg : Gl X "enumerate") (hm : X.mg "enumerate" = none) (ha : PA X [e] ta) (hs : starEach [e] X.env = [(false, eval e X.env)] := by rfl) :
    PI X (.Tuple elts kk tpos) (.Call (.Name "enumerate" p) [e] [] pos) (iEnumS ta) := by
  refine ⟨fun pins s σ H R I h => ?_⟩
  refine Call_ (ld_blt I hg hm boot_enumerate (PyProof.Rows.callWith_type1 (thn (ha.run pos pins s σ H _ I h) fun us s1 ⟨vs, H1, I1, r1, q1⟩ => ?_) hs rfl))
  obtain ⟨z, ex, q⟩ := q1
  subst ex
  obtain ⟨u, rfl, ru⟩ := vals1 r1
  obtain ⟨t, rfl⟩ := ru
  refine PySem.call_enumerate_str fun h' he hit hsz hk => wpAny_pyIter_enum he ?_
  have I2 : Inv X pins σ H1 { s1 with heap := h' } := I1.kept (t' := s1.toks) hk
  refine ⟨s1.heap.objs.size + 1, [s1.heap.objs.size + 1, s1.heap.objs.size], _, _, H1, rfl, I2, turn_enumS z t (s1.heap.objs.size + 1) s1.heap.objs.size, ⟨⟨.none, he⟩, hit, Nat.succ_ne_self _⟩, fun b hb => ?_, q⟩
  have e' : b = s1.heap.objs.size + 1 ∨ b = s1.heap.objs.size := by simpa using hb
  have hle : s1.heap.objs.size ≤ b := by
    rcases e' with z | z
    · rw [z]; exact Nat.le_add_right _ _
    · rw [z]; exact Nat.le_refl _
  exact I1.fpOk hle (I1.hok.fresh hle)
theorem walk_enumS {z : Str} : Walk (ItE z) z.cps.size (fun _ => True) (fun i H v H' => ∃ T c, v = .ref T ∧ H T = none ∧ z.cps[i]? = some c ∧ H' = upd H T (.tup [.int (i : Nat), .str ⟨#[c]⟩])) :=
  ⟨fun _ _ hi _ => hi, fun _ _ => rfl, fun _ _ _ _ _ _ y => y⟩
end Nm

/-! The own layer: readings by names, their steps (z_..). -/
namespace Nm
open PySem PySem.Spec PyProof.Rows L2
/-! ### readings that the layer has without a name -/
def nAddS : R2 := fun x y H Q => ∃ i j, x = .str i ∧ y = .str j ∧ i.length + j.length ≤ sizeLine ∧ Q (.str (i ++ j)) H
def nInC : R2 := fun x y H Q => ∃ (c : Nat) (z : Str), x = .str ⟨#[c]⟩ ∧ y = .str z ∧ Q (.bl (decide (c ∈ z.cps.toList))) H
def nNotInC : R2 := fun x y H Q => ∃ (c : Nat) (z : Str), x = .str ⟨#[c]⟩ ∧ y = .str z ∧ Q (.bl (!decide (c ∈ z.cps.toList))) H
def nIsN : R2 := fun x y H Q => y = .non ∧ Q (.bl (decide (x = .non))) H
def nNotN : R2 := fun x y H Q => y = .non ∧ Q (.bl (!decide (x = .non))) H
def nLenS : List V → Hp → VK → Prop := fun xs H Q => ∃ z, xs = [.str z] ∧ z.length ≤ sizeLine ∧ Q (.int z.length) H
def nLenL (K : PySem.W.Frag) : List V → Hp → VK → Prop := fun xs H Q => ∃ p ys, xs = [.ref p] ∧ (SqL K H p ys ∨ SqT K H p ys) ∧ Q (.int ys.length) H
def nListOf (K : PySem.W.Frag) : List V → Hp → VK → Prop := fun xs H Q => ∃ p ys, xs = [.ref p] ∧ (SqL K H p ys ∨ SqT K H p ys) ∧ ∀ l, H l = none → Q (.ref l) (upd H l (.lst ys))
def nTupleOf (K : PySem.W.Frag) : List V → Hp → VK → Prop := fun xs H Q => ∃ p ys, xs = [.ref p] ∧ ((SqL K H p ys ∧ ∀ l, H l = none → Q (.ref l) (upd H l (.tup ys))) ∨ (SqT K H p ys ∧ Q (.ref p) H))
def nInt1 : List V → Hp → VK → Prop := fun xs H Q => (∃ i, xs = [.int i] ∧ Q (.int i) H) ∨ ∃ k, xs = [.bl k] ∧ Q (.int (if k then 1 else 0)) H
section
variable {X : Cx}
theorem op_addS : OpR X (binaryOp .Add) nAddS := op_add_str
theorem op_inC : OpR X (compareOp .In) nInC := op_in_sign
theorem op_notInC : OpR X (compareOp .NotIn) nNotInC := op_notIn_sign
theorem op_isNn : OpR X (compareOp .Is) nIsN := op_isN
theorem op_notNn : OpR X (compareOp .IsNot) nNotN := op_notN
theorem call_lenS : CallR X (.builtin "len") nLenS := call_len_str
theorem call_lenL : CallR X (.builtin "len") (nLenL X.K) := call_len_seq
theorem call_listOf : CallR X (.type "list") (nListOf X.K) := call_list_of
theorem call_tupleOf : CallR X (.type "tuple") (nTupleOf X.K) := call_tuple_of
theorem call_int1n : CallR X (.type "int") nInt1 := call_int1
end

theorem rel_str {x : Str} {t : Tok} : RelV (.str x) (.str x t) := ⟨t, rfl⟩
theorem rel_int {x : Int} {t : Tok} : RelV (.int x) (.int x t) := ⟨t, rfl⟩
theorem rel_ref {a : Addr} : RelV (.ref a) (.ref a) := rfl

/-! ### a call of an own def, nothing left to defaults -/
def tCallN (sp : Sp) (E : XK) (t : TA) : TE := fun σ H Q => t σ H fun vs H1 => sp vs H1 Q E
section
variable {X : Cx} {CX : CXT} {k : Nat} {f : Addr} {fd : FuncData} {ps : List Str} {sp : Sp} {E : XK} {x : Str} {e : Expr} {es : List Expr} {t : TA} {p pos : Pos}
theorem tCallN_eq : tCallN sp E t = tCall sp [] E t := by
  funext σ H Q
  show t σ H (fun vs H1 => sp vs H1 Q E) = t σ H (fun vs H1 => sp (vs ++ []) H1 Q E)
  simp only [List.append_nil]
/-- where a def stands -/
structure Df (K : PySem.W.Frag) (mg : Str → Option Value) (x : Str) (st : Stmt) (ps : List Str) (f : Addr) (fd : FuncData) : Prop where
  F : Fun K x x st f fd
  g : mg x = some (.ref f)
  b : Binds K fd ps []
theorem pe_callN {st : Stmt} (D : Df X.K X.mg x st ps f fd) (F : FnOk X.prog X.w X.K X.mg X.base CX k f fd ps sp) (hr : Room k X.A) (hx : Passes CX X E) (ha : PA X (e :: es) t) (hg : Gl X x := by rfl)
    (hs : starEach (e :: es) X.env = (false, eval e X.env) :: starEach es X.env := by rfl) (hpl : (backTo pos (starEach es X.env)).any (·.1) = false := by rfl) (hdb : (x == ("__debug__" : Str)) = false := by decide) :
    PE X (.Call (.Name x p) (e :: es) [] pos) (tCallN sp E t) := by
  rw [tCallN_eq]
  exact pe_call F hr hg D.g D.F.kp D.b .nil hx ha (hdb := hdb) (he := hs) (hpl := hpl)
theorem pe_callN0 {st : Stmt} (D : Df X.K X.mg x st ps f fd) (F : FnOk X.prog X.w X.K X.mg X.base CX k f fd ps sp) (hr : Room k X.A) (hx : Passes CX X E) (hg : Gl X x := by rfl) (hdb : (x == ("__debug__" : Str)) = false := by decide) :
    PE X (.Call (.Name x p) [] [] pos) (tCallN sp E tNil) := by
  rw [tCallN_eq]
  exact pe_call0 F hr hg D.g D.F.kp D.b .nil hx (hdb := hdb)
end

/-! ### words between: an expression, a test -/
def tCutE (te : TE) : TE := fun σ H Q => ∃ W : V → Hp → Prop, te σ H W ∧ ∀ v H', W v H' → Q v H'
def tCutT (tt : TT) : TT := fun σ H Q => ∃ W : Bool → Hp → Prop, tt σ H W ∧ ∀ v H', W v H' → Q v H'
theorem pe_cut {X : Cx} {e : Expr} {te : TE} (h : PE X e te) : PE X e (tCutE te) := ⟨fun pins s σ H Q I ⟨W, h1, h2⟩ => thn (h.run pins s σ H W I h1) fun u s' ⟨v, H', I', r, q⟩ => ⟨v, H', I', r, h2 v H' q⟩⟩
theorem pt_cut {X : Cx} {e : Expr} {tt : TT} (h : PT X e tt) : PT X e (tCutT tt) := ⟨fun pins s σ H Q I ⟨W, h1, h2⟩ => thn (h.run pins s σ H W I h1) fun u s' ⟨H', I', q⟩ => ⟨H', I', h2 u H' q⟩⟩
theorem z_cutE {te : TE} {σ : L2.St} {H : Hp} {Q : VK} (W : V → Hp → Prop) (h1 : te σ H W) (h2 : ∀ v H', W v H' → Q v H') : tCutE te σ H Q := ⟨W, h1, h2⟩
theorem z_cutT {tt : TT} {σ : L2.St} {H : Hp} {Q : Bool → Hp → Prop} (W : Bool → Hp → Prop) (h1 : tt σ H W) (h2 : ∀ v H', W v H' → Q v H') : tCutT tt σ H Q := ⟨W, h1, h2⟩
/-- the value is known, what stood stands -/
theorem z_cutV {te : TE} {σ : L2.St} {H : Hp} {Q : VK} (v : V) (h1 : te σ H fun v' H' => v' = v ∧ Same H H') (h2 : ∀ H', Same H H' → Q v H') : tCutE te σ H Q := ⟨_, h1, fun v' H' ⟨e, s⟩ => e ▸ h2 H' s⟩
theorem z_cutB {tt : TT} {σ : L2.St} {H : Hp} {Q : Bool → Hp → Prop} (b : Bool) (h1 : tt σ H fun b' H' => b' = b ∧ Same H H') (h2 : ∀ H', Same H H' → Q b H') : tCutT tt σ H Q := ⟨_, h1, fun v' H' ⟨e, s⟩ => e ▸ h2 H' s⟩

theorem not_t {b : Bool} (h : (!b) = true) : b = false := by simpa using h
theorem not_f {b : Bool} (h : (!b) = false) : b = true := by simpa using h
theorem z_iteNT {A B : Prop} (h : B) : if (!true) = true then A else B := by simpa using h
theorem z_iteNF {A B : Prop} (h : A) : if (!false) = true then A else B := by simpa using h
/-! ### steps -/
section
variable {σ : L2.St} {H : Hp} {Q : VK} {QT : Bool → Hp → Prop} {QA : List V → Hp → Prop} {QO : Option Int → Hp → Prop} {ta tb tc te : TE} {r r' : R2} {x y v : V} {K : PySem.W.Frag} {D : Ends}
theorem z_var {i : Nat} (h : σ[i]? = some (some v)) (q : Q v H) : tVar i σ H Q := ⟨v, h, q⟩
theorem z_c (q : Q v H) : tC v σ H Q := q
theorem z_op (h : ta σ H fun x H1 => tb σ H1 fun y H2 => r x y H2 Q) : tOp r ta tb σ H Q := h
theorem z_un {r : V → Hp → VK → Prop} (h : ta σ H fun x H1 => r x H1 Q) : tUn r ta σ H Q := h
/-! two ints -/
theorem z_rI0 {g : Int → Int → V} {i j : Int} (q : Q (g i j) H) : rI0 g (.int i) (.int j) H Q := ⟨i, j, rfl, rfl, q⟩
theorem z_rI {C : Int → Int → Prop} {g : Int → Int → V} {i j : Int} (c : C i j) (q : Q (g i j) H) : rI C g (.int i) (.int j) H Q := ⟨i, j, rfl, rfl, c, q⟩
theorem z_rU {g : Int → V} {i : Int} (q : Q (g i) H) : rU g (.int i) H Q := ⟨i, rfl, q⟩
/-! == and != of plain things -/
theorem z_eqI {i j : Int} (q : Q (.bl (decide (i = j))) H) : rEq (.int i) (.int j) H Q := ⟨rfl, by
  have e : decide (V.int i = V.int j) = decide (i = j) := by simp
  rw [e]; exact q⟩
theorem z_neI {i j : Int} (q : Q (.bl (!decide (i = j))) H) : rNe (.int i) (.int j) H Q := ⟨rfl, by
  have e : decide (V.int i = V.int j) = decide (i = j) := by simp
  rw [e]; exact q⟩
theorem z_eqS {i j : Str} (q : Q (.bl (decide (i = j))) H) : rEq (.str i) (.str j) H Q := ⟨rfl, by
  have e : decide (V.str i = V.str j) = decide (i = j) := by simp
  rw [e]; exact q⟩
theorem z_neS {i j : Str} (q : Q (.bl (!decide (i = j))) H) : rNe (.str i) (.str j) H Q := ⟨rfl, by
  have e : decide (V.str i = V.str j) = decide (i = j) := by simp
  rw [e]; exact q⟩
theorem z_eq (h : scal x y = true) (q : Q (.bl (decide (x = y))) H) : rEq x y H Q := ⟨h, q⟩
theorem z_ne (h : scal x y = true) (q : Q (.bl (!decide (x = y))) H) : rNe x y H Q := ⟨h, q⟩
/-! texts -/
theorem z_addS {i j : Str} (hl : i.length + j.length ≤ sizeLine) (q : Q (.str (i ++ j)) H) : nAddS (.str i) (.str j) H Q := ⟨i, j, rfl, rfl, hl, q⟩
theorem z_inC {c : Nat} {z : Str} (q : Q (.bl (decide (c ∈ z.cps.toList))) H) : nInC (.str ⟨#[c]⟩) (.str z) H Q := ⟨c, z, rfl, rfl, q⟩
theorem z_notInC {c : Nat} {z : Str} (q : Q (.bl (!decide (c ∈ z.cps.toList))) H) : nNotInC (.str ⟨#[c]⟩) (.str z) H Q := ⟨c, z, rfl, rfl, q⟩
theorem z_mulS {z : Str} {n : Int} (h0 : 0 ≤ n) (h1 : n ≤ 100000) (hz : z.length ≤ 100) (q : Q (.str (mulS z n.toNat)) H) : rMulS (.str z) (.int n) H Q := ⟨z, n, rfl, rfl, h0, h1, hz, q⟩
theorem z_lenS {z : Str} (hz : z.length ≤ sizeLine) (q : Q (.int z.length) H) : nLenS [.str z] H Q := ⟨z, rfl, hz, q⟩
theorem z_ixS {z : Str} {i : Int} {c : Nat} (hz : z.length ≤ sizeLine) (h : atI z.cps.toList i = some c) (q : Q (.str ⟨#[c]⟩) H) : rIxS (.str z) (.int i) H Q := ⟨z, i, c, rfl, rfl, hz, h, q⟩
theorem z_slS {z : Str} {lo hi : Option Int} (hz : z.length ≤ sizeLine) (q : Q (.str (cutS z lo hi)) H) : rSlS (.str z) lo hi H Q := ⟨z, rfl, hz, q⟩
theorem z_isN (q : Q (.bl (decide (x = .non))) H) : nIsN x .non H Q := ⟨rfl, q⟩
theorem z_notN (q : Q (.bl (!decide (x = .non))) H) : nNotN x .non H Q := ⟨rfl, q⟩
/-! slices -/
theorem z_sl {rs : V → Option Int → Option Int → Hp → VK → Prop} {tl th : TO} (h : te σ H fun x H1 => tl σ H1 fun l H2 => th σ H2 fun u H3 => rs x l u H3 Q) : tSl rs te tl th σ H Q := h
theorem z_noPart (q : QO none H) : tNoPart σ H QO := q
def kPart (QO : Option Int → Hp → Prop) : VK := fun x H1 => ∃ i, x = .int i ∧ QO (some i) H1
theorem z_part (h : te σ H (kPart QO)) : tPart te σ H QO := h
theorem z_kPart {i : Int} (q : QO (some i) H) : kPart QO (.int i) H := ⟨i, rfl, q⟩
/-! arguments, displays -/
theorem z_nil (q : QA [] H) : tNil σ H QA := q
theorem z_cons {tr : TA} (h : ta σ H fun x H1 => tr σ H1 fun xs H2 => QA (x :: xs) H2) : tCons ta tr σ H QA := h
def kTup (Q : VK) : List V → Hp → Prop := fun xs H1 => xs.length ≤ sizeLine ∧ ∀ p, H1 p = none → Q (.ref p) (upd H1 p (.tup xs))
def kLst (Q : VK) : List V → Hp → Prop := fun xs H1 => xs.length ≤ sizeLine ∧ ∀ p, H1 p = none → Q (.ref p) (upd H1 p (.lst xs))
theorem z_tup {t : TA} (h : t σ H (kTup Q)) : tTup t σ H Q := h
theorem z_lst {t : TA} (h : t σ H (kLst Q)) : tLst t σ H Q := h
/-- a new object at p, the heap behind it by a letter -/
theorem new_by {H : Hp} {o : HO} {R : Addr → Hp → Prop} (k : ∀ p H', H p = none → Same H H' → H' p = some o → (∀ a, a ≠ p → H' a = H a) → R p H') : ∀ p, H p = none → R p (upd H p o) :=
  fun p hp => k p _ hp (Same.new hp) upd_same fun a ha => upd_ne ha
theorem z_kTup {xs : List V} (hl : xs.length ≤ sizeLine) (k : ∀ p H', H p = none → Same H H' → H' p = some (.tup xs) → Q (.ref p) H') : kTup Q xs H := ⟨hl, new_by (R := fun p H' => Q (.ref p) H') fun p H' a b c _ => k p H' a b c⟩
theorem z_kLst {xs : List V} (hl : xs.length ≤ sizeLine) (k : ∀ p H', H p = none → Same H H' → H' p = some (.lst xs) → Q (.ref p) H') : kLst Q xs H := ⟨hl, new_by (R := fun p H' => Q (.ref p) H') fun p H' a b c _ => k p H' a b c⟩
/-! calls -/
theorem z_cb {f : List V → Hp → VK → Prop} {t : TA} (h : t σ H fun vs H1 => f vs H1 Q) : tCB f t σ H Q := h
theorem z_call {sp : Sp} {E : XK} {t : TA} (h : t σ H fun vs H1 => sp vs H1 Q E) : tCallN sp E t σ H Q := h
theorem z_lenL {p : Addr} {ys : List V} (h : SqL K H p ys) (q : Q (.int ys.length) H) : nLenL K [.ref p] H Q := ⟨p, ys, rfl, .inl h, q⟩
theorem z_lenT {p : Addr} {ys : List V} (h : SqT K H p ys) (q : Q (.int ys.length) H) : nLenL K [.ref p] H Q := ⟨p, ys, rfl, .inr h, q⟩
theorem z_listOfL {p : Addr} {ys : List V} (h : SqL K H p ys) (k : ∀ p H', H p = none → Same H H' → H' p = some (.lst ys) → Q (.ref p) H') : nListOf K [.ref p] H Q := ⟨p, ys, rfl, .inl h, new_by (R := fun p H' => Q (.ref p) H') fun p H' a b c _ => k p H' a b c⟩
theorem z_listOfT {p : Addr} {ys : List V} (h : SqT K H p ys) (k : ∀ p H', H p = none → Same H H' → H' p = some (.lst ys) → Q (.ref p) H') : nListOf K [.ref p] H Q := ⟨p, ys, rfl, .inr h, new_by (R := fun p H' => Q (.ref p) H') fun p H' a b c _ => k p H' a b c⟩
theorem z_listS {z : Str} (hz : z.length ≤ sizeLine) (k : ∀ p H', H p = none → Same H H' → H' p = some (.lst (signsV z)) → Q (.ref p) H') : rListS [.str z] H Q := ⟨z, rfl, hz, new_by (R := fun p H' => Q (.ref p) H') fun p H' a b c _ => k p H' a b c⟩
theorem z_tupleOfL {p : Addr} {ys : List V} (h : SqL K H p ys) (k : ∀ p H', H p = none → Same H H' → H' p = some (.tup ys) → Q (.ref p) H') : nTupleOf K [.ref p] H Q := ⟨p, ys, rfl, .inl ⟨h, new_by (R := fun p H' => Q (.ref p) H') fun p H' a b c _ => k p H' a b c⟩⟩
theorem z_tupleOfT {p : Addr} {ys : List V} (h : SqT K H p ys) (q : Q (.ref p) H) : nTupleOf K [.ref p] H Q := ⟨p, ys, rfl, .inr ⟨h, q⟩⟩
theorem z_intI {i : Int} (q : Q (.int i) H) : nInt1 [.int i] H Q := .inl ⟨i, rfl, q⟩
theorem z_intB {b : Bool} (q : Q (.int (if b then 1 else 0)) H) : nInt1 [.bl b] H Q := .inr ⟨b, rfl, q⟩
/-! items -/
theorem z_ixL {p : Addr} {ys : List V} {i : Int} (h : SqL K H p ys) (e : atI ys i = some v) (q : Q v H) : rIxL K (.ref p) (.int i) H Q := ⟨p, ys, i, v, rfl, rfl, h, e, q⟩
theorem z_ixT {p : Addr} {ys : List V} {i : Int} (h : SqT K H p ys) (e : atI ys i = some v) (q : Q v H) : rIxT K (.ref p) (.int i) H Q := ⟨p, ys, i, v, rfl, rfl, h, e, q⟩
theorem z_slL {p : Addr} {ys : List V} {lo hi : Option Int} (h : SqL K H p ys) (k : ∀ p H', H p = none → Same H H' → H' p = some (.lst (cutV ys lo hi)) → Q (.ref p) H') : rSlL K (.ref p) lo hi H Q := ⟨p, ys, rfl, h, new_by (R := fun p H' => Q (.ref p) H') fun p H' a b c _ => k p H' a b c⟩
theorem z_inL {p : Addr} {ys : List V} {neg : Bool} (h : SqL K H p ys) (hx : flatV x = true) (ha : ys.all flatV = true) (q : Q (.bl (if neg then !inV x ys else inV x ys)) H) : rIn K neg x (.ref p) H Q := ⟨p, ys, rfl, .inl h, hx, ha, q⟩
theorem z_inT {p : Addr} {ys : List V} {neg : Bool} (h : SqT K H p ys) (hx : flatV x = true) (ha : ys.all flatV = true) (q : Q (.bl (if neg then !inV x ys else inV x ys)) H) : rIn K neg x (.ref p) H Q := ⟨p, ys, rfl, .inr h, hx, ha, q⟩
theorem z_eqD {d e : PyData} (h1 : Dp K H x d) (h2 : Dp K H y e) (s1 : SeqAt.shaped d = true) (s2 : SeqAt.shaped e = true) (q : Q (.bl (PyData.eqv d e)) H) : rEqD K x y H Q := ⟨d, e, h1, h2, s1, s2, q⟩
theorem z_neD {d e : PyData} (h1 : Dp K H x d) (h2 : Dp K H y e) (s1 : SeqAt.shaped d = true) (s2 : SeqAt.shaped e = true) (q : Q (.bl (!PyData.eqv d e)) H) : rNeD K x y H Q := ⟨d, e, h1, h2, s1, s2, q⟩
theorem z_all {p : Addr} {bs : List Bool} (h : SqL K H p (bs.map V.bl)) (q : Q (.bl (bs.all id)) H) : rAll K [.ref p] H Q := ⟨p, bs, rfl, h, q⟩
theorem z_isi {c : V} {t u : Value} {b : Bool} (hc : ClsV c u) (hx : TyX K H x t) (e : PySem.W.kitOne K t u = some b) (q : Q (.bl b) H) : rIsi K [x, c] H Q := ⟨x, c, t, u, b, rfl, hc, hx, e, q⟩
/-! tests -/
def kT (QT : Bool → Hp → Prop) : VK := fun x H' => ∃ k, x = .bl k ∧ QT k H'
theorem z_test (h : te σ H (kT QT)) : tTest te σ H QT := h
theorem z_tB (h : te σ H (kT QT)) : tB te σ H QT := h
theorem z_kT {b : Bool} (q : QT b H) : kT QT (.bl b) H := ⟨b, rfl, q⟩
def kCh (r' : R2) (tc : TE) (σ : L2.St) (y : V) (Q : VK) : VK := fun z H3 => ∃ k, z = .bl k ∧ (if k = true then tc σ H3 fun w' H4 => r' y w' H4 Q else Q (.bl false) H3)
theorem z_chain (h : ta σ H fun x H1 => tb σ H1 fun y H2 => r x y H2 (kCh r' tc σ y Q)) : tChain r r' ta tb tc σ H Q := h
theorem z_kCh {b : Bool} (q : if b = true then tc σ H fun w' H4 => r' y w' H4 Q else Q (.bl false) H) : kCh r' tc σ y Q (.bl b) H := ⟨b, rfl, q⟩
variable {t u : TT}
theorem z_andT (h : t σ H fun c H1 => if c = true then u σ H1 QT else QT false H1) : tAnd t u σ H QT := h
theorem z_orT (h : t σ H fun c H1 => if c = true then QT true H1 else u σ H1 QT) : tOr t u σ H QT := h
theorem z_notT (h : t σ H fun c H1 => QT (!c) H1) : tNot t σ H QT := h
def kAndV (tb : TE) (σ : L2.St) (Q : VK) : VK := fun x H1 => ∃ c, x = .bl c ∧ if c = true then tb σ H1 Q else Q (.bl false) H1
def kOrV (tb : TE) (σ : L2.St) (Q : VK) : VK := fun x H1 => ∃ c, x = .bl c ∧ if c = true then Q (.bl true) H1 else tb σ H1 Q
def kNotV (Q : VK) : VK := fun x H1 => ∃ c, x = .bl c ∧ Q (.bl (!c)) H1
theorem z_andV (h : ta σ H (kAndV tb σ Q)) : tAndV ta tb σ H Q := h
theorem z_orV (h : ta σ H (kOrV tb σ Q)) : tOrV ta tb σ H Q := h
theorem z_notV (h : ta σ H (kNotV Q)) : tNotV ta σ H Q := h
theorem z_kAndV {b : Bool} (q : if b = true then tb σ H Q else Q (.bl false) H) : kAndV tb σ Q (.bl b) H := ⟨b, rfl, q⟩
theorem z_kOrV {b : Bool} (q : if b = true then Q (.bl true) H else tb σ H Q) : kOrV tb σ Q (.bl b) H := ⟨b, rfl, q⟩
theorem z_kNotV {b : Bool} (q : Q (.bl (!b)) H) : kNotV Q (.bl b) H := ⟨b, rfl, q⟩
theorem z_ifE (h : t σ H fun c H1 => if c = true then ta σ H1 Q else tb σ H1 Q) : tIf t ta tb σ H Q := h
/-! statements -/
variable {ts us : TS}
theorem z_seq (h : ts { D with nx := us D } σ H) : tSeq ts us D σ H := h
theorem z_next (h : D.nx σ H) : tNext D σ H := h
theorem z_brk (h : D.bk σ H) : tBreak D σ H := h
theorem z_cnt (h : D.ct σ H) : tCont D σ H := h
theorem z_ret (h : te σ H D.rt) : tRet te D σ H := h
theorem z_retN (h : D.rt .non H) : tRetN D σ H := h
theorem z_ifS {c : TT} (h : c σ H fun b H1 => if b = true then ts D σ H1 else us D σ H1) : tIfS c ts us D σ H := h
theorem z_drop (h : te σ H fun _ H1 => D.nx σ H1) : tDrop te D σ H := h
theorem z_asg {g : TG} (h : te σ H fun x H1 => g x σ H1 D.nx) : tAsg te g D σ H := h
theorem z_gName {i : Nat} {QS : L2.St → Hp → Prop} (h : QS (σ.set i (some v)) H) : gName i v σ H QS := h
theorem z_gTup {n : Nat} {g : TGs} {QS : L2.St → Hp → Prop} {a : Addr} {xs : List V} (h : SqT K H a xs) (hn : xs.length = n) (q : g xs σ H QS) : gTup K n g (.ref a) σ H QS := ⟨a, xs, rfl, h, hn, q⟩
theorem z_gCons {g : TG} {gs : TGs} {QS : L2.St → Hp → Prop} {vs : List V} (q : g v σ H fun σ' H' => gs vs σ' H' QS) : gCons g gs (v :: vs) σ H QS := ⟨v, vs, rfl, q⟩
theorem z_gNil {QS : L2.St → Hp → Prop} (q : QS σ H) : gNil [] σ H QS := ⟨rfl, q⟩
def kPar (i j : Nat) (D : Ends) (σ : L2.St) : List V → Hp → Prop := fun vs H1 => ∃ v w, vs = [v, w] ∧ D.nx ((σ.set i (some v)).set j (some w)) H1
theorem z_par {i j : Nat} {t : TA} (h : t σ H (kPar i j D σ)) : tPar i j t D σ H := h
theorem z_kPar {i j : Nat} (h : D.nx ((σ.set i (some x)).set j (some y)) H) : kPar i j D σ [x, y] H := ⟨x, y, rfl, h⟩
/-! the ends -/
variable {n b c : L2.St → Hp → Prop} {rt : VK}
theorem z_nx (h : n σ H) : Ends.nx ⟨n, rt, b, c⟩ σ H := h
theorem z_rt (h : rt v H) : Ends.rt ⟨n, rt, b, c⟩ v H := h
theorem z_bk (h : b σ H) : Ends.bk ⟨n, rt, b, c⟩ σ H := h
theorem z_ct (h : c σ H) : Ends.ct ⟨n, rt, b, c⟩ σ H := h
/-! branches -/
theorem z_ite {b : Bool} {A B : Prop} (h1 : b = true → A) (h2 : b = false → B) : if b = true then A else B := by
  cases b with
  | true => exact iteT (h1 rfl)
  | false => exact iteF (h2 rfl)
/-! append -/
theorem z_bm {T : String} {f : V → List V → Hp → VK → Prop} {t : TA} (h : ta σ H fun x H1 => tyV K T x H1 ∧ t σ H1 fun xs H2 => f x xs H2 Q) : tBM K T f ta t σ H Q := h
end
end Nm

/-! The own layer: the pen of the laws (the source of all draws). -/
namespace Nm
open PySem PySem.Spec PyProof.Rows L2
def penKv (c : Addr) (a g n f : Int) : List (Key × V) :=
  [(.inr "cells", .ref c), (.inr "at", .int a), (.inr "digits", .int g), (.inr "count", .int n), (.inr "fold", .int f)]
section
variable (c : Addr) (a g n f z : Int)
theorem pen_cells : valV (penKv c a g n f) (.inr "cells") = some (.ref c) := by kernel_rfl
theorem pen_at : valV (penKv c a g n f) (.inr "at") = some (.int a) := by kernel_rfl
theorem pen_digits : valV (penKv c a g n f) (.inr "digits") = some (.int g) := by kernel_rfl
theorem pen_count : valV (penKv c a g n f) (.inr "count") = some (.int n) := by kernel_rfl
theorem pen_fold : valV (penKv c a g n f) (.inr "fold") = some (.int f) := by kernel_rfl
theorem put_at : putK (penKv c a g n f) (.inr "at") (.int z) = penKv c z g n f := by kernel_rfl
theorem put_digits : putK (penKv c a g n f) (.inr "digits") (.int z) = penKv c a z n f := by kernel_rfl
theorem put_count : putK (penKv c a g n f) (.inr "count") (.int z) = penKv c a g z f := by kernel_rfl
theorem put_fold : putK (penKv c a g n f) (.inr "fold") (.int z) = penKv c a g n z := by kernel_rfl
theorem pen_merge : mergeK [] (penKv c a g n f) = penKv c a g n f := by kernel_rfl
end
/-- a pen stands at d, its numbers in the list at c, m draws are still let -/
def Pen (K : PySem.W.Frag) (H : Hp) (d c : Addr) (m : Nat) : Prop :=
  ∃ (a g n f : Int) (ns : List Int), H d = some (.dK (penKv c a g n f)) ∧ H c = some (.lst (ns.map V.int)) ∧ 0 ≤ a ∧ 0 ≤ g ∧ 0 ≤ n ∧ n + m ≤ 1000000000 ∧ 0 ≤ f ∧ f < 2147483587
theorem Pen.less {K : PySem.W.Frag} {H : Hp} {d c : Addr} {m m' : Nat} (h : Pen K H d c m) (e : m' ≤ m) : Pen K H d c m' := by
  obtain ⟨a, g, n, f, ns, h1, h2, h3, h4, h5, h6, h7, h8⟩ := h
  exact ⟨a, g, n, f, ns, h1, h2, h3, h4, h5, by omega, h7, h8⟩
theorem Pen.same {K : PySem.W.Frag} {H H' : Hp} {d c : Addr} {m : Nat} (s : Same H H') (h : Pen K H d c m) : Pen K H' d c m := by
  obtain ⟨a, g, n, f, ns, h1, h2, h3⟩ := h
  exact ⟨a, g, n, f, ns, s _ _ h1, s _ _ h2, h3⟩
theorem Pen.keep {K : PySem.W.Frag} {H H' : Hp} {d c : Addr} {m : Nat} (b : But d H H') (h : Pen K H d c m) : Keep H H' := by
  obtain ⟨a, g, n, f, ns, h1, _⟩ := h
  exact b.keep h1
theorem Pen.ne {K : PySem.W.Frag} {H : Hp} {d c p : Addr} {m : Nat} (h : Pen K H d c m) (hp : H p = none) : p ≠ d := fun e => by
  obtain ⟨a, g, n, f, ns, h1, _⟩ := h
  rw [← e, hp] at h1
  cases h1
/-- an object that an earlier heap did not know may change -/
theorem Pen.mut {K : PySem.W.Frag} {H0 H : Hp} {d c D : Addr} {m0 m : Nat} {o : HO} (h0 : Pen K H0 d c m0) (hD : H0 D = none) (h : Pen K H d c m) : Pen K (upd H D o) d c m := by
  have nd := h0.ne hD
  obtain ⟨_, _, _, _, ns0, _, q0, _⟩ := h0
  obtain ⟨a, g, n, f, ns, h1, h2, h3⟩ := h
  exact ⟨a, g, n, f, ns, by rw [upd_ne (Ne.symm nd)]; exact h1, by rw [upd_ne (ne_of_none q0 hD)]; exact h2, h3⟩
/-- a pen that was changed -/
theorem pen_new {K : PySem.W.Frag} {H : Hp} {d c : Addr} {a g n f : Int} {kvs : List (Key × V)} {ns : List Int} {m : Nat} (h1 : H d = some (.dK kvs)) (h2 : H c = some (.lst (ns.map V.int))) (e : kvs = penKv c a g n f) (h : 0 ≤ a ∧ 0 ≤ g ∧ 0 ≤ n ∧ n + m ≤ 1000000000 ∧ 0 ≤ f ∧ f < 2147483587) : Pen K H d c m := by
  subst e
  exact ⟨a, g, n, f, ns, h1, h2, h⟩
/-- _law_draw -/
def spDraw (K : PySem.W.Frag) : Sp := fun vs H Q _ => ∃ (d c : Addr) (m : Nat) (many : Int), vs = [.ref d, .int many] ∧ Pen K H d c (m + 1) ∧ 0 < many ∧ many.natAbs.log2 < 9000 ∧
  ∀ (r : Int) H', 0 ≤ r → r < many → But d H H' → Pen K H' d c m → Q (.int r) H'
/-- _law_pen -/
def spPen (K : PySem.W.Frag) : Sp := fun vs H Q _ => ∃ (a : Addr) (ns : List Int), vs = [.ref a] ∧ SqL K H a (ns.map V.int) ∧ ∀ d c H', H d = none → Same H H' → Pen K H' d c 100000000 → Q (.ref d) H'
/-- _law_pick: the drawn item of a list -/
def spPick (K : PySem.W.Frag) : Sp := fun vs H Q _ => ∃ (d c p : Addr) (m : Nat) (ys : List V), vs = [.ref d, .ref p] ∧ Pen K H d c (m + 1) ∧ SqL K H p ys ∧ ys ≠ [] ∧ ys.length ≤ 100000 ∧
  ∀ (v : V) H', v ∈ ys → But d H H' → Pen K H' d c m → Q v H'
/-! dict steps of the pen -/
section
variable {σ : L2.St} {H : Hp} {Q : VK} {K : PySem.W.Frag} {D : Ends} {td ty tv : TE}
def kPut (D : Ends) (σ : L2.St) (v x y : V) (H3 : Hp) : Prop := ∃ a H4, x = .ref a ∧ DPut H3 a y v H4 ∧ D.nx σ H4
theorem z_dput (h : tv σ H fun v H1 => td σ H1 fun x H2 => ty σ H2 fun y H3 => kPut D σ v x y H3) : sDPut td ty tv D σ H := h
theorem z_kPutS {v : V} {d : Addr} {x : Str} {kvs : List (Key × V)} (h : H d = some (.dK kvs)) (hl : kvs.length ≤ 1000) (q : D.nx σ (upd H d (.dK (putK kvs (.inr x) v)))) : kPut D σ v (.ref d) (.str x) H :=
  ⟨d, _, rfl, DPut.k (k := Sum.inr x) h (small1000 hl), q⟩
theorem z_kPutI {v : V} {d : Addr} {x : Int} {kvs : List (Key × V)} (h : H d = some (.dK kvs)) (hl : kvs.length ≤ 1000) (q : D.nx σ (upd H d (.dK (putK kvs (.inl x) v)))) : kPut D σ v (.ref d) (.int x) H :=
  ⟨d, _, rfl, DPut.k (k := Sum.inl x) h (small1000 hl), q⟩
def kGet (Q : VK) (x y : V) (H2 : Hp) : Prop := ∃ a v, x = .ref a ∧ DGet H2 a y (some v) ∧ Q v H2
theorem z_dget (h : td σ H fun x H1 => ty σ H1 fun y H2 => kGet Q x y H2) : tDGet td ty σ H Q := h
theorem z_kGetS {v : V} {d : Addr} {x : Str} {kvs : List (Key × V)} (h : H d = some (.dK kvs)) (e : valV kvs (.inr x) = some v) (q : Q v H) : kGet Q (.ref d) (.str x) H :=
  ⟨d, v, rfl, by rw [← e]; exact DGet.k (k := Sum.inr x) h, q⟩
theorem z_kGetI {v : V} {d : Addr} {x : Int} {kvs : List (Key × V)} (h : H d = some (.dK kvs)) (e : valV kvs (.inl x) = some v) (q : Q v H) : kGet Q (.ref d) (.int x) H :=
  ⟨d, v, rfl, by rw [← e]; exact DGet.k (k := Sum.inl x) h, q⟩
end
theorem log2_small {n : Int} (h0 : 0 < n) (h : n ≤ 1000000000000000000) : n.natAbs.log2 < 9000 := by
  have : n.natAbs < 2 ^ 9000 := Nat.lt_of_le_of_lt (m := 1000000000000000000) (by omega) (by decide)
  exact (Nat.log2_lt (by omega)).mpr this
section
variable {σ : L2.St} {H : Hp} {Q : VK} {K : PySem.W.Frag} {D : Ends} {d c : Addr} {a g n f z : Int}
theorem put_gen {kvs kvs' : List (Key × V)} {x : Str} {v : V} (h : H d = some (.dK kvs)) (hl : kvs.length ≤ 1000) (e : putK kvs (.inr x) v = kvs') (k : ∀ H', But d H H' → H' d = some (.dK kvs') → D.nx σ H') : kPut D σ v (.ref d) (.str x) H :=
  z_kPutS h hl (k _ But.upd (by rw [upd_same, e]))
theorem z_put_at (h : H d = some (.dK (penKv c a g n f))) (k : ∀ H', But d H H' → H' d = some (.dK (penKv c z g n f)) → D.nx σ H') : kPut D σ (.int z) (.ref d) (.str "at") H := put_gen h (by show 5 ≤ 1000; decide) (put_at ..) k
theorem z_put_digits (h : H d = some (.dK (penKv c a g n f))) (k : ∀ H', But d H H' → H' d = some (.dK (penKv c a z n f)) → D.nx σ H') : kPut D σ (.int z) (.ref d) (.str "digits") H := put_gen h (by show 5 ≤ 1000; decide) (put_digits ..) k
theorem z_put_count (h : H d = some (.dK (penKv c a g n f))) (k : ∀ H', But d H H' → H' d = some (.dK (penKv c a g z f)) → D.nx σ H') : kPut D σ (.int z) (.ref d) (.str "count") H := put_gen h (by show 5 ≤ 1000; decide) (put_count ..) k
theorem z_put_fold (h : H d = some (.dK (penKv c a g n f))) (k : ∀ H', But d H H' → H' d = some (.dK (penKv c a g n z)) → D.nx σ H') : kPut D σ (.int z) (.ref d) (.str "fold") H := put_gen h (by show 5 ≤ 1000; decide) (put_fold ..) k
theorem z_get_cells (h : H d = some (.dK (penKv c a g n f))) (q : Q (.ref c) H) : kGet Q (.ref d) (.str "cells") H := z_kGetS h (pen_cells ..) q
theorem z_get_at (h : H d = some (.dK (penKv c a g n f))) (q : Q (.int a) H) : kGet Q (.ref d) (.str "at") H := z_kGetS h (pen_at ..) q
theorem z_get_digits (h : H d = some (.dK (penKv c a g n f))) (q : Q (.int g) H) : kGet Q (.ref d) (.str "digits") H := z_kGetS h (pen_digits ..) q
theorem z_get_count (h : H d = some (.dK (penKv c a g n f))) (q : Q (.int n) H) : kGet Q (.ref d) (.str "count") H := z_kGetS h (pen_count ..) q
theorem z_get_fold (h : H d = some (.dK (penKv c a g n f))) (q : Q (.int f) H) : kGet Q (.ref d) (.str "fold") H := z_kGetS h (pen_fold ..) q
end
/-! loops -/
section
variable {σ : L2.St} {H : Hp} {Q : VK} {K : PySem.W.Frag} {D : Ends} {g : TG} {tb : TS} {wi : TI} {ta : TA} {te : TE}
def kFor (g : TG) (tb : TS) (D : Ends) (σ : L2.St) : It → Hp → Prop := fun J H1 => ∃ W : Nat → Nat → L2.St → Hp → Prop, (∃ m, W 0 m σ H1) ∧ ∀ i m σ H, W i m σ H →
      (J.stop i H ∧ D.nx σ H) ∨ (J.go i H ∧ ∃ N : L2.St → Hp → Prop, (∀ σ' H', N σ' H' → ∃ m', m' < m ∧ W (i + 1) m' σ' H') ∧ ∀ x H', J.yld i H x H' → g x σ H' fun σ2 H2 => tb { D with nx := N, ct := N, bk := D.nx } σ2 H2)
theorem z_for (h : wi σ H (kFor g tb D σ)) : tFor wi g tb D σ H := h
def kIL (K : PySem.W.Frag) (R : It → Hp → Prop) : VK := fun x H1 => ∃ a, x = .ref a ∧ (∃ xs, SqL K H1 a xs) ∧ R (Itl K a) H1
def kIT (K : PySem.W.Frag) (R : It → Hp → Prop) : VK := fun x H1 => ∃ a, x = .ref a ∧ (∃ xs, SqT K H1 a xs) ∧ R (Itt K a) H1
def kIS (R : It → Hp → Prop) : VK := fun v H1 => ∃ x, v = .str x ∧ R (Its x) H1
def kIR1 (R : It → Hp → Prop) : List V → Hp → Prop := fun vs H1 => ∃ j : Int, vs = [.int j] ∧ -(2 ^ 62) ≤ j ∧ j < 2 ^ 62 ∧ R (Itr 0 j.toNat) H1
def kIE (R : It → Hp → Prop) : List V → Hp → Prop := fun vs H1 => ∃ z, vs = [.str z] ∧ R (ItE z) H1
variable {R : It → Hp → Prop}
theorem z_iList (h : te σ H (kIL K R)) : iList K te σ H R := h
theorem z_kIL {a : Addr} {xs : List V} (h : SqL K H a xs) (q : R (Itl K a) H) : kIL K R (.ref a) H := ⟨a, rfl, ⟨xs, h⟩, q⟩
theorem z_iTup (h : te σ H (kIT K R)) : iTup K te σ H R := h
theorem z_kIT {a : Addr} {xs : List V} (h : SqT K H a xs) (q : R (Itt K a) H) : kIT K R (.ref a) H := ⟨a, rfl, ⟨xs, h⟩, q⟩
theorem z_iStr (h : te σ H (kIS R)) : iStr te σ H R := h
theorem z_kIS {z : Str} (q : R (Its z) H) : kIS R (.str z) H := ⟨z, rfl, q⟩
theorem z_iRng1 (h : ta σ H (kIR1 R)) : iRng1 ta σ H R := h
theorem z_kIR1 {j : Int} (h0 : -(2 ^ 62) ≤ j) (h1 : j < 2 ^ 62) (q : R (Itr 0 j.toNat) H) : kIR1 R [.int j] H := ⟨j, rfl, h0, h1, q⟩
theorem z_iEnumS (h : ta σ H (kIE R)) : iEnumS ta σ H R := h
theorem z_kIE {z : Str} (q : R (ItE z) H) : kIE R [.str z] H := ⟨z, rfl, q⟩
/-- a loop over a list that stands still: Pv by the turn, the slots, the heap -/
theorem f_list {a : Addr} {xs : List V} (Pv : Nat → L2.St → Hp → Prop) (h0 : Pv 0 σ H) (hl : ∀ i σ H, Pv i σ H → SqL K H a xs)
    (hs : ∀ i x σ H, xs[i]? = some x → Pv i σ H → g x σ H fun σ2 H2 => tb { D with nx := Pv (i + 1), ct := Pv (i + 1), bk := D.nx } σ2 H2) (hd : ∀ σ H, Pv xs.length σ H → D.nx σ H) : kFor g tb D σ (Itl K a) H :=
  for_list (K := K) (a := a) (xs := xs) Pv h0 (fun i σ H _ => hl i σ H) hs hd
theorem f_tup {a : Addr} {xs : List V} (Pv : Nat → L2.St → Hp → Prop) (h0 : Pv 0 σ H) (hl : ∀ i σ H, Pv i σ H → SqT K H a xs)
    (hs : ∀ i x σ H, xs[i]? = some x → Pv i σ H → g x σ H fun σ2 H2 => tb { D with nx := Pv (i + 1), ct := Pv (i + 1), bk := D.nx } σ2 H2) (hd : ∀ σ H, Pv xs.length σ H → D.nx σ H) : kFor g tb D σ (Itt K a) H :=
  for_tup (K := K) (a := a) (xs := xs) Pv h0 (fun i σ H _ => hl i σ H) hs hd
theorem f_range {lo : Int} {n : Nat} (Pv : Nat → L2.St → Hp → Prop) (h0 : Pv 0 σ H)
    (hs : ∀ (i : Nat) σ H, i < n → Pv i σ H → g (.int (lo + i)) σ H fun σ2 H2 => tb { D with nx := Pv (i + 1), ct := Pv (i + 1), bk := D.nx } σ2 H2) (hd : ∀ σ H, Pv n σ H → D.nx σ H) : kFor g tb D σ (Itr lo n) H :=
  for_range Pv h0 hs hd
theorem f_str {z : Str} (Pv : Nat → L2.St → Hp → Prop) (h0 : Pv 0 σ H)
    (hs : ∀ i c σ H, z.cps[i]? = some c → Pv i σ H → g (.str ⟨#[c]⟩) σ H fun σ2 H2 => tb { D with nx := Pv (i + 1), ct := Pv (i + 1), bk := D.nx } σ2 H2) (hd : ∀ σ H, Pv z.cps.size σ H → D.nx σ H) : kFor g tb D σ (Its z) H :=
  for_it walk_str Pv h0 (fun _ _ _ _ _ => trivial) (fun i x σ H H' hi p ⟨e, c, hc, ev⟩ => by subst e ev; exact hs i c σ _ hc p) hd
/-- for at, sign in enumerate(text) -/
theorem f_enumS {z : Str} {i0 j0 : Nat} (Pv : Nat → L2.St → Hp → Prop) (h0 : Pv 0 σ H)
    (hs : ∀ (i : Nat) c σ H H', z.cps[i]? = some c → Pv i σ H → Same H H' → tb { D with nx := Pv (i + 1), ct := Pv (i + 1), bk := D.nx } ((σ.set i0 (some (.int (i : Nat)))).set j0 (some (.str ⟨#[c]⟩))) H') (hd : ∀ σ H, Pv z.cps.size σ H → D.nx σ H) :
    kFor (gTup K 2 (gCons (gName i0) (gCons (gName j0) gNil))) tb D σ (ItE z) H :=
  for_it walk_enumS Pv h0 (fun _ _ _ _ _ => trivial) (fun i x σ H H' hi p ⟨T, c, ev, hT, hc, eH⟩ => by
    subst ev eH
    exact ⟨T, _, rfl, SqT.of upd_same, rfl, _, _, rfl, _, _, rfl, rfl, hs i c σ H _ hc p (Same.new hT)⟩) hd
end
/-! dict displays -/
section
variable {σ : L2.St} {H : Hp} {Q : VK} {K : PySem.W.Frag}
def kDisp (Q : VK) (p : Addr) : List (V × V) → Hp → Prop := fun ps H2 => H2 p = some (.dK []) ∧ ∃ kvs : List (Key × V), ps = kvs.map (fun kv => (kV kv.1, kv.2)) ∧ kvs.length ≤ 15 ∧ Q (.ref p) (upd H2 p (.dK (mergeK [] kvs)))
theorem z_disp {trs : List (TE × TE)} (h : ∀ p H', H p = none → Same H H' → H' p = some (.dK []) → tPairs trs σ H' (kDisp Q p)) : tDisp trs σ H Q := fun p hp => h p _ hp (Same.new hp) upd_same
theorem z_pcons {tk tv : TE} {r : List (TE × TE)} {QP : List (V × V) → Hp → Prop} (h : tk σ H fun x H1 => tv σ H1 fun y H2 => tPairs r σ H2 fun ps H3 => QP ((x, y) :: ps) H3) : tPairs ((tk, tv) :: r) σ H QP := h
theorem z_pnil {QP : List (V × V) → Hp → Prop} (h : QP [] H) : tPairs [] σ H QP := h
theorem z_kDisp {p : Addr} {ps : List (V × V)} (kvs : List (Key × V)) (e : ps = kvs.map (fun kv => (kV kv.1, kv.2))) (h : H p = some (.dK [])) (hl : kvs.length ≤ 15) (k : ∀ H', But p H H' → H' p = some (.dK (mergeK [] kvs)) → Q (.ref p) H') : kDisp Q p ps H :=
  ⟨h, kvs, e, hl, k _ But.upd upd_same⟩
end
/-- a statement, then the rest, with a word between them (HandS.Codes) -/
def tCut (t u : TS) : TS := fun D σ H => ∃ Mid : L2.St → Hp → Prop, t { D with nx := Mid } σ H ∧ ∀ σ' H', Mid σ' H' → u D σ' H'
theorem pss_cut {X : Cx} {st : Stmt} {rest : List Stmt} {t u : TS} (h1 : PS X st t) (h2 : PSs X rest u) : PSs X (st :: rest) (tCut t u) := by
  refine ⟨fun pins s σ H D I h => ?_⟩
  obtain ⟨Mid, hm, hu⟩ := h
  refine wpAny_execs_cons (thn (h1.run pins s σ H { D with nx := Mid } I hm) fun f s1 q => ?_)
  cases f with
  | next =>
    obtain ⟨σ', H', I', q⟩ := q
    exact h2.run pins s1 σ' H' D I' (hu σ' H' q)
  | ret v => exact q
  | brk => exact q
  | cont => exact q
theorem z_cut {t u : TS} {D : Ends} {σ : L2.St} {H : Hp} (Mid : L2.St → Hp → Prop) (h1 : t { D with nx := Mid } σ H) (h2 : ∀ σ' H', Mid σ' H' → u D σ' H') : Nm.tCut t u D σ H := ⟨Mid, h1, h2⟩
theorem same_at {H H' : Hp} {a : Addr} {o : HO} (s : Same H H') (h : H a = some o) : H' a = some o := s a o h
theorem same_sq {K : PySem.W.Frag} {H H' : Hp} {a : Addr} {xs : List V} (s : Same H H') (h : SqL K H a xs) : SqL K H' a xs := s.seq h
theorem same_st {K : PySem.W.Frag} {H H' : Hp} {a : Addr} {xs : List V} (s : Same H H') (h : SqT K H a xs) : SqT K H' a xs := (same_keep s).t h
theorem But.same {p : Addr} {H H1 H2 : Hp} (s : Same H H1) (b : But p H1 H2) (hp : H p = none) : Same H H2 := fun a o e => b a o (ne_of_none e hp) (s a o e)
end Nm

/-! The own layer: comprehensions. -/
namespace Nm
open PySem PySem.Spec PyProof.Rows L2
def kLc (g : TG) (tt : TT) (te : TE) (vs : List Nat) (σ : L2.St) (Q : VK) : It → Hp → Prop := fun J H1 => ∀ D, H1 D = none → ∃ W : Nat → Nat → Hp → Prop, (∃ m, W 0 m (upd H1 D (.lst []))) ∧ ∀ i m H, W i m H →
  (J.stop i H ∧ Q (.ref D) H) ∨ (J.go i H ∧ ∃ Nx : Hp → Prop, (∀ H', Nx H' → ∃ m', m' < m ∧ W (i + 1) m' H') ∧ ∀ x H', J.yld i H x H' → g x (wipe σ vs) H' fun σ2 H2 => wipe σ2 vs = wipe σ vs ∧ tt σ2 H2 fun b H3 =>
    if b = true then te σ2 H3 fun y H4 => ∃ acc, H4 D = some (.lst acc) ∧ acc.length < sizeLine ∧ Nx (upd H4 D (.lst (acc ++ [y]))) else Nx H3)
section
variable {wi : TI} {g : TG} {tt : TT} {te : TE} {vs : List Nat} {σ : L2.St} {H : Hp} {Q : VK} {J : It} {K : PySem.W.Frag}
theorem z_lc (h : wi σ H (kLc g tt te vs σ Q)) : tLc wi g tt te vs σ H Q := h
theorem z_tYes {QT : Bool → Hp → Prop} (h : QT true H) : tYes σ H QT := h
def YEm {α : Type} (xs : List α) (e : α → V) : Nat → Hp → V → Hp → Prop := fun i H x H' => H' = H ∧ ∃ a, xs[i]? = some a ∧ x = e a
theorem filter_take {α : Type} (p : α → Bool) : ∀ (xs : List α) (i : Nat) (a : α), xs[i]? = some a → (xs.take (i + 1)).filter p = (xs.take i).filter p ++ (if p a = true then [a] else [])
  | [], i, a, h => by simp at h
  | x :: xs, 0, a, h => by
    have e : x = a := Option.some.inj h
    subst e
    cases q : p x <;> simp [q]
  | x :: xs, i + 1, a, h => by
    have ih := filter_take p xs i a h
    rw [List.take_succ_cons, List.take_succ_cons, List.filter_cons, List.filter_cons, ih]
    cases q : p x <;> simp
theorem set_none_twice {σ : L2.St} {i : Nat} {x : Option V} : ((σ.set i none).set i x).set i none = σ.set i none := by simp
/-- [f(x) for x in xs if p(x)], nothing of what stood changed -/
theorem l_pure {α : Type} {xs : List α} {e : α → V} {G : Hp → Prop} {i0 : Nat} (w : Walk J xs.length G (YEm xs e)) (p : α → Bool) (f : α → V) (hz : xs.length ≤ 1000000) (hG : ∀ H1, Same H H1 → G H1)
    (ht : ∀ (i : Nat) a H1, xs[i]? = some a → Same H H1 → ∀ QT : Bool → Hp → Prop, (∀ H2, Same H1 H2 → QT (p a) H2) → tt ((σ.set i0 none).set i0 (some (e a))) H1 QT)
    (he : ∀ (i : Nat) a H1, xs[i]? = some a → p a = true → Same H H1 → ∀ Q' : VK, (∀ H2, Same H1 H2 → Q' (f a) H2) → te ((σ.set i0 none).set i0 (some (e a))) H1 Q')
    (k : ∀ D H', H D = none → Same H H' → H' D = some (.lst ((xs.filter p).map f)) → Q (.ref D) H') : kLc (gName i0) tt te [i0] σ Q J H := fun D hD => by
  refine lc_it w (Pv := fun i H1 => Same H H1 ∧ H1 D = some (.lst (((xs.take i).filter p).map f))) ⟨Same.new hD, by rw [upd_same]; simp⟩ (fun i H1 _ ⟨s, _⟩ => hG H1 s) ?_ ?_
  · rintro i x H1 H1' hi ⟨s1, h1⟩ ⟨eH, a, ha, ex⟩
    subst eH ex
    refine ⟨set_none_twice, ?_⟩
    refine ht i a _ ha s1 _ fun H2 s2 => ?_
    have hf := filter_take p xs i a ha
    cases q : p a with
    | true =>
      refine iteT ?_
      refine he i a H2 ha q (s1.trans s2) _ fun H3 s3 => ?_
      refine ⟨_, s3 _ _ (s2 _ _ h1), ?_, Nm.Same.mut ((s1.trans s2).trans s3) hD, ?_⟩
      · have h2 : ((xs.take i).filter p).length ≤ i := Nat.le_trans (List.length_filter_le _ _) (by rw [List.length_take]; omega)
        rw [List.length_map, sizeLine_eq]
        omega
      · rw [upd_same, hf, q]
        simp
    | false =>
      refine iteF ?_
      refine ⟨s1.trans s2, ?_⟩
      rw [hf, q, s2 _ _ h1]
      simp
  · rintro H1 ⟨s1, h1⟩
    refine k D H1 hD s1 ?_
    rw [h1, List.take_length]
theorem walk_text {z : Str} : Walk (Its z) z.cps.toList.length (fun _ => True) (YEm z.cps.toList fun c => V.str ⟨#[c]⟩) where
  goes := fun i H hi _ => by
    have hi' : i < z.cps.size := by simpa using hi
    exact walk_str.goes i H hi' trivial
  stops := fun H _ => by
    have e : z.cps.toList.length = z.cps.size := by simp
    rw [e]
    exact walk_str.stops H trivial
  yields := fun i H x H' hi _ y => by
    have hi' : i < z.cps.size := by simpa using hi
    obtain ⟨e, c, hc, ev⟩ := walk_str.yields i H x H' hi' trivial y
    exact ⟨e, c, by simpa using hc, ev⟩
theorem walk_lst {a : Addr} {xs : List V} : Walk (Itl K a) xs.length (fun H => SqL K H a xs) (YEm xs id) where
  goes := walk_list.goes
  stops := walk_list.stops
  yields := fun i H x H' hi g y => by
    obtain ⟨e, h⟩ := walk_list.yields i H x H' hi g y
    exact ⟨e, x, h, rfl⟩
theorem walk_lstE {α : Type} {a : Addr} {xs : List α} {e : α → V} : Walk (Itl K a) xs.length (fun H => SqL K H a (xs.map e)) (YEm xs e) where
  goes := fun i H hi g => walk_list.goes i H (by rw [List.length_map]; exact hi) g
  stops := fun H g => by
    have q := walk_list.stops H g
    rw [List.length_map] at q
    exact q
  yields := fun i H x H' hi g y => by
    obtain ⟨e1, h⟩ := walk_list.yields i H x H' (by rw [List.length_map]; exact hi) g y
    rw [List.getElem?_map] at h
    cases q : xs[i]? with
    | none => rw [q] at h; cases h
    | some y => rw [q] at h; exact ⟨e1, y, q, (Option.some.inj h).symm⟩
theorem walk_tupE {α : Type} {a : Addr} {xs : List α} {e : α → V} : Walk (Itt K a) xs.length (fun H => SqT K H a (xs.map e)) (YEm xs e) where
  goes := fun i H hi g => walk_tup.goes i H (by rw [List.length_map]; exact hi) g
  stops := fun H g => by
    have q := walk_tup.stops H g
    rw [List.length_map] at q
    exact q
  yields := fun i H x H' hi g y => by
    obtain ⟨e1, h⟩ := walk_tup.yields i H x H' (by rw [List.length_map]; exact hi) g y
    rw [List.getElem?_map] at h
    cases q : xs[i]? with
    | none => rw [q] at h; cases h
    | some y => rw [q] at h; exact ⟨e1, y, q, (Option.some.inj h).symm⟩
theorem walk_rng {lo : Int} {n : Nat} : Walk (Itr lo n) (List.range n).length (fun _ => True) (YEm (List.range n) fun i => V.int (lo + (i : Nat))) where
  goes := fun i H hi g => by
    have hi' : i < n := by simpa using hi
    exact walk_range.goes i H hi' g
  stops := fun H g => by
    rw [List.length_range]
    exact walk_range.stops H g
  yields := fun i H x H' hi g y => by
    have hi' : i < n := by simpa using hi
    obtain ⟨e1, h⟩ := walk_range.yields i H x H' hi' g y
    exact ⟨e1, i, by rw [List.getElem?_range]; simpa using hi', h⟩
end
/-! texts by their signs -/
abbrev tl (z : Str) : List Nat := z.cps.toList
theorem str_ext {a b : Str} (h : tl a = tl b) : a = b := by
  obtain ⟨x⟩ := a
  obtain ⟨y⟩ := b
  congr 1
  exact Array.toList_inj.mp h
theorem str_eq {a b : Str} : (a = b) = (tl a = tl b) := propext ⟨fun h => by rw [h], str_ext⟩
theorem str_len (z : Str) : z.length = (tl z).length := by
  show z.cps.size = z.cps.toList.length
  simp
theorem tl_app (a b : Str) : tl (a ++ b) = tl a ++ tl b := by
  show (a.cps ++ b.cps).toList = _
  simp
theorem app_len (a b : Str) : (a ++ b).length = a.length + b.length := by
  rw [str_len, str_len, str_len, tl_app, List.length_append]
theorem tl_mk (l : List Nat) : tl ⟨l.toArray⟩ = l := by simp [tl]
theorem line_ge {n : Nat} (h : n ≤ 1000000) : n ≤ sizeLine := Nat.le_trans h (by decide)
theorem tl_cut (z : Str) (lo hi : Option Int) : tl (cutS z lo hi) = ((tl z).drop (HT.sIx z.length 0 lo)).take (HT.sIx z.length z.length hi - HT.sIx z.length 0 lo) := by
  unfold cutS
  exact tl_mk _
theorem cut_to (z : Str) (k : Nat) : tl (cutS z none (some (k : Int))) = (tl z).take k := by
  rw [tl_cut, HT.sIx_nat, HT.sIx_none, List.drop_zero, Nat.sub_zero, str_len, Nat.min_def]
  by_cases h : k ≤ (tl z).length
  · rw [if_pos h]
  · rw [if_neg h, List.take_length, List.take_of_length_le (by omega)]
theorem cut_from (z : Str) (k : Nat) : tl (cutS z (some (k : Int)) none) = (tl z).drop k := by
  rw [tl_cut, HT.sIx_nat, HT.sIx_none, str_len]
  by_cases h : k ≤ (tl z).length
  · rw [Nat.min_eq_left h, List.take_of_length_le (by rw [List.length_drop]; omega)]
  · rw [Nat.min_eq_right (by omega), List.drop_length, List.take_nil, List.drop_of_length_le (by omega)]
theorem cut_mid (z : Str) (a b : Nat) (h : b ≤ (tl z).length) : tl (cutS z (some (a : Int)) (some (b : Int))) = ((tl z).drop a).take (b - a) := by
  rw [tl_cut, HT.sIx_nat, HT.sIx_nat, str_len, Nat.min_eq_left h]
  by_cases q : a ≤ (tl z).length
  · rw [Nat.min_eq_left q]
  · have e : b - a = 0 := by omega
    have e2 : b - min a (tl z).length = 0 := by omega
    rw [e, e2, List.take_zero, List.take_zero]
/-- a text of one sign against a written one -/
theorem one_eq {c k : Nat} {x : Str} (e : tl x = [k]) : decide ((⟨#[c]⟩ : Str) = x) = decide (c = k) := by
  refine decide_eq_decide.mpr ?_
  rw [str_eq, e]
  refine ⟨fun h => ?_, fun h => ?_⟩
  · have h' : [c] = [k] := h
    exact (List.cons.inj h').1
  · show [c] = [k]
    rw [h]
theorem txt_eq {z x : Str} {k : List Nat} (e : tl x = k) : decide (z = x) = decide (tl z = k) := decide_eq_decide.mpr (by rw [str_eq, e])
theorem tl_mulS (z : Str) (n : Nat) : tl (mulS z n) = (List.replicate n (tl z)).flatten := by
  unfold mulS
  exact tl_mk _
end Nm

/-! The own layer: data without lists stands while a list changes; lists that grow. -/
namespace Nm
open PySem PySem.Spec PyProof.Rows L2
mutual
def noL : PyData → Bool
  | .list _ => false
  | .tuple ds => noLs ds
  | .dict _ => false
  | _ => true
def noLs : List PyData → Bool
  | [] => true
  | d :: ds => noL d && noLs ds
end
/-- tuples stand -/
def KT (K : PySem.W.Frag) (H H' : Hp) : Prop := ∀ a xs, SqT K H a xs → SqT K H' a xs
theorem KT.keep {K : PySem.W.Frag} {H H' : Hp} (k : Keep H H') : KT K H H' := fun _ _ h => k.t h
theorem KT.trans {K : PySem.W.Frag} {H H1 H2 : Hp} (a : KT K H H1) (b : KT K H1 H2) : KT K H H2 := fun x o h => b x o (a x o h)
theorem KT.upd {K : PySem.W.Frag} {H : Hp} {p : Addr} {xs : List V} {o : HO} (h : H p = some (.lst xs)) : KT K H (upd H p o) := fun a ys q => by
  rcases q with (q | ⟨u, q⟩) | q
  · exact .inl (.inl (by rw [upd_ne (ne_of q h (by intro z; cases z))]; exact q))
  · exact .inl (.inr ⟨u, by rw [upd_ne (ne_of q h (by intro z; cases z))]; exact q⟩)
  · exact .inr q
mutual
theorem dp_kt {K : PySem.W.Frag} {H H' : Hp} (k : KT K H H') : ∀ {v : V} {d : PyData}, noL d = true → Dp K H v d → Dp K H' v d
  | _, _, _, .non => .non
  | _, _, _, .bl b => .bl b
  | _, _, _, .int i => .int i
  | _, _, _, .str x => .str x
  | _, _, n, .lst h l => by simp [noL] at n
  | _, _, n, .tup h l => .tup (k _ _ h) (dps_kt k (by simpa [noL] using n) l)
theorem dps_kt {K : PySem.W.Frag} {H H' : Hp} (k : KT K H H') : ∀ {v : List V} {d : List PyData}, noLs d = true → DpAll K H v d → DpAll K H' v d
  | _, _, _, .nil => .nil
  | _, _, n, .cons h l => by
    simp only [noLs, Bool.and_eq_true] at n
    exact .cons (dp_kt k n.1 h) (dps_kt k n.2 l)
end
theorem dps_app {K : PySem.W.Frag} {H : Hp} : ∀ {vs ws : List V} {ds es : List PyData}, DpAll K H vs ds → DpAll K H ws es → DpAll K H (vs ++ ws) (ds ++ es)
  | _, _, _, _, .nil, h => h
  | _, _, _, _, .cons a l, h => .cons a (dps_app l h)
theorem dps_len {K : PySem.W.Frag} {H : Hp} : ∀ {vs : List V} {ds : List PyData}, DpAll K H vs ds → vs.length = ds.length
  | _, _, .nil => rfl
  | _, _, .cons _ l => by rw [List.length_cons, List.length_cons, dps_len l]
theorem noLs_app : ∀ (ds es : List PyData), noLs (ds ++ es) = (noLs ds && noLs es)
  | [], es => by simp [noLs]
  | d :: ds, es => by
    show (noL d && noLs (ds ++ es)) = _
    rw [noLs_app ds es]
    show _ = (noL d && noLs ds && noLs es)
    rw [Bool.and_assoc]
/-- a list at p that holds the data ds, none of them with a list in it -/
structure Grow (K : PySem.W.Frag) (H : Hp) (p : Addr) (ds : List PyData) : Prop where
  no : noLs ds = true
  ex : ∃ vs, H p = some (.lst vs) ∧ DpAll K H vs ds
theorem Grow.same {K : PySem.W.Frag} {H H' : Hp} {p : Addr} {ds : List PyData} (g : Grow K H p ds) (s : Same H H') : Grow K H' p ds := by
  obtain ⟨n, vs, h, l⟩ := g
  exact ⟨n, vs, s _ _ h, dps_keep (same_keep s) l⟩
theorem Grow.keep {K : PySem.W.Frag} {H H' : Hp} {p : Addr} {ds : List PyData} (g : Grow K H p ds) (s : Keep H H') : Grow K H' p ds := by
  obtain ⟨n, vs, h, l⟩ := g
  exact ⟨n, vs, s _ _ h rfl, dps_keep s l⟩
theorem grow_nil {K : PySem.W.Frag} {H : Hp} {p : Addr} (h : H p = some (.lst [])) : Grow K H p [] := ⟨rfl, [], h, .nil⟩
theorem Grow.sq {K : PySem.W.Frag} {H : Hp} {p : Addr} {ds : List PyData} (g : Grow K H p ds) : ∃ vs, SqL K H p vs ∧ DpAll K H vs ds ∧ vs.length = ds.length := by
  obtain ⟨n, vs, h, l⟩ := g
  exact ⟨vs, SqL.of h, l, dps_len l⟩
/-- xs.append(v) of a growing list -/
theorem z_append {K : PySem.W.Frag} {H : Hp} {p : Addr} {ds : List PyData} {v : V} {d : PyData} {Q : VK} (g : Grow K H p ds) (hv : Dp K H v d) (hn : noL d = true) (hl : ds.length ≤ 1000000) (k : ∀ H', Grow K H' p (ds ++ [d]) → (∀ H0, Same H0 H → H0 p = none → Same H0 H') → (∀ a, a ≠ p → H' a = H a) → Q .non H') :
    rAppend (.ref p) [v] H Q := by
  obtain ⟨n, vs, h, l⟩ := g
  have hlen := dps_len l
  refine ⟨p, vs, v, rfl, rfl, h, by rw [sizeLine_eq]; omega, k _ ⟨by rw [noLs_app, n]; simp [noLs, hn], _, upd_same, ?_⟩ (fun H0 s hp => Nm.Same.mut s hp) fun a ha => upd_ne ha⟩
  exact dps_app (dps_kt (KT.upd h) n l) (.cons (dp_kt (KT.upd h) hn hv) .nil)
theorem Grow.ty {K : PySem.W.Frag} {H : Hp} {p : Addr} {ds : List PyData} (g : Grow K H p ds) : tyV K "list" (.ref p) H := by
  obtain ⟨n, vs, h, l⟩ := g
  exact .inl ⟨rfl, _, SqL.of h⟩
end Nm

/-! The own layer: comprehensions over a text; == of data. -/
namespace Nm
open PySem PySem.Spec PyProof.Rows L2
section
variable {te : TE} {tt : TT} {σ : L2.St} {H : Hp} {Q : VK} {K : PySem.W.Frag}
/-- [g(c) for c in z], truth values -/
theorem l_textB {z : Str} {i0 : Nat} (g : Nat → Bool) (hz : z.length ≤ 1000000)
    (he : ∀ (c : Nat) H1, c ∈ tl z → Same H H1 → ∀ Q' : VK, Q' (.bl (g c)) H1 → te ((σ.set i0 none).set i0 (some (.str ⟨#[c]⟩))) H1 Q')
    (k : ∀ D H', H D = none → Same H H' → H' D = some (.lst (((tl z).map g).map V.bl)) → Q (.ref D) H') : kLc (gName i0) tYes te [i0] σ Q (Its z) H := by
  refine l_pure (p := fun _ => true) (f := fun c => V.bl (g c)) walk_text (by rw [← str_len]; exact hz) (fun _ _ => trivial) (fun i a H1 _ s QT q => q H1 (Same.refl _)) (fun i a H1 ha _ s Q' q => he a H1 (List.mem_of_getElem? ha) s Q' (q H1 (Same.refl _))) fun D H' hD s h => k D H' hD s ?_
  rw [h]
  have e : (z.cps.toList.filter fun _ => true) = z.cps.toList := List.filter_eq_self.mpr fun _ _ => rfl
  rw [e, List.map_map]
  rfl
/-- [1 for c in z if p(c)] -/
theorem l_textF {z : Str} {i0 : Nat} (p : Nat → Bool) (v : V) (hz : z.length ≤ 1000000)
    (ht : ∀ (c : Nat) H1, c ∈ tl z → Same H H1 → ∀ QT : Bool → Hp → Prop, QT (p c) H1 → tt ((σ.set i0 none).set i0 (some (.str ⟨#[c]⟩))) H1 QT)
    (he : ∀ (c : Nat) H1, Same H H1 → ∀ Q' : VK, Q' v H1 → te ((σ.set i0 none).set i0 (some (.str ⟨#[c]⟩))) H1 Q')
    (k : ∀ D H', H D = none → Same H H' → H' D = some (.lst (((tl z).filter p).map fun _ => v)) → Q (.ref D) H') : kLc (gName i0) tt te [i0] σ Q (Its z) H :=
  l_pure (p := p) (f := fun _ => v) walk_text (by rw [← str_len]; exact hz) (fun _ _ => trivial) (fun i a H1 ha s QT q => ht a H1 (List.mem_of_getElem? ha) s QT (q H1 (Same.refl _))) (fun i a H1 _ _ s Q' q => he a H1 s Q' (q H1 (Same.refl _))) k
end
theorem dps_ints {K : PySem.W.Frag} {H : Hp} {α : Type} (n : Int) : ∀ (l : List α), DpAll K H (l.map fun _ => V.int n) (l.map fun _ => PyData.int n)
  | [] => .nil
  | _ :: l => .cons (.int n) (dps_ints n l)
theorem dps_bls {K : PySem.W.Frag} {H : Hp} : ∀ (l : List Bool), DpAll K H (l.map V.bl) (l.map PyData.bool)
  | [] => .nil
  | b :: l => .cons (.bl b) (dps_bls l)
theorem eqvAll_nil {l : List PyData} : PyData.eqvAll l [] = decide (l = []) := by
  cases l with
  | nil => rfl
  | cons a l => rfl
theorem eqv_list_nil {l : List PyData} : PyData.eqv (.list l) (.list []) = decide (l = []) := eqvAll_nil
theorem canLayAll_iff : ∀ {l : List PyData}, PyData.canLayAll0 l = true ↔ ∀ d ∈ l, PyData.canLay0 d = true
  | [] => by simp [PyData.canLayAll0]
  | d :: l => by simp [PyData.canLayAll0, canLayAll_iff (l := l)]
theorem depthAll_le {n : Nat} : ∀ {l : List PyData}, (∀ d ∈ l, PyData.depth d ≤ n) → PyData.depthAll l ≤ n
  | [], _ => by simp [PyData.depthAll]
  | d :: l, h => by
    simp only [PyData.depthAll]
    exact Nat.max_le.mpr ⟨h d (by simp), depthAll_le fun e he => h e (by simp [he])⟩
/-- a list, a tuple, of things that are not deep -/
theorem shaped_list {n : Nat} {l : List PyData} (hn : n < 64) (h : ∀ d ∈ l, PyData.canLay0 d = true ∧ PyData.depth d ≤ n) : SeqAt.shaped (.list l) = true := by
  unfold SeqAt.shaped
  rw [Bool.and_eq_true]
  refine ⟨?_, decide_eq_true ?_⟩
  · simp only [PyData.canLay0]
    exact canLayAll_iff.mpr fun d hd => (h d hd).1
  · simp only [PyData.depth]
    have := depthAll_le (n := n) fun d hd => (h d hd).2
    omega
theorem shaped_tup {n : Nat} {l : List PyData} (hn : n < 64) (h : ∀ d ∈ l, PyData.canLay0 d = true ∧ PyData.depth d ≤ n) : SeqAt.shaped (.tuple l) = true := by
  unfold SeqAt.shaped
  rw [Bool.and_eq_true]
  refine ⟨?_, decide_eq_true ?_⟩
  · simp only [PyData.canLay0]
    exact canLayAll_iff.mpr fun d hd => (h d hd).1
  · simp only [PyData.depth]
    have := depthAll_le (n := n) fun d hd => (h d hd).2
    omega
theorem eqv_refl_shaped {d : PyData} (h : SeqAt.shaped d = true) : PyData.eqv d d = true := PySem.SeqAt.eqv_refl d (SeqAt.canLay_of_shaped h)
/-- [n for c in z if c not in x] == [] -/
theorem z_noneOf {tx ts : TE} {i : Nat} {n : Int} {z x : Str} {σ : L2.St} {H : Hp} {Q : VK} {K : PySem.W.Frag} (hz : z.length ≤ 100000) (h1 : ∀ R : VK, R (.str z) H → tx σ H R)
    (h2 : ∀ (c : Nat) H1, Same H H1 → ∀ R : VK, R (.str x) H1 → ts ((σ.set i none).set i (some (.str ⟨#[c]⟩))) H1 R) (hi : i < σ.length)
    (k : ∀ H', Same H H' → Q (.bl (decide ((tl z).filter (fun c => !decide (c ∈ tl x)) = []))) H') : tOp (rEqD K) (tLc (iStr tx) (gName i) (tTest (tOp nNotInC (tVar i) ts)) (tC (.int n)) [i]) (tLst tNil) σ H Q := by
  refine z_op (z_lc (z_iStr (h1 _ (z_kIS ?_))))
  refine l_textF (fun c => !decide (c ∈ tl x)) (.int n) (by omega) (fun c H1 _ s QT q => ?_) (fun c H1 s Q' q => q) fun D H' hD s hDl => ?_
  · refine z_test (z_op (z_var (v := .str ⟨#[c]⟩) (by simp [hi]) (h2 c H1 s _ (z_notInC (z_kT q)))))
  · refine z_lst (z_nil (z_kLst (Nat.zero_le _) fun p H2 hp s2 hp2 => ?_))
    refine z_eqD (d := .list (((tl z).filter (fun c => !decide (c ∈ tl x))).map fun _ => .int n)) (e := .list []) (.lst (SqL.of (s2 _ _ hDl)) (dps_ints n _)) (.lst (SqL.of hp2) .nil) (shaped_list (n := 0) (by decide) fun d hd => ?_) rfl ?_
    · obtain ⟨c, _, rfl⟩ := List.mem_map.mp hd
      exact ⟨rfl, Nat.le_refl _⟩
    · rw [eqv_list_nil]
      have e : decide ((((tl z).filter (fun c => !decide (c ∈ tl x))).map fun _ => PyData.int n) = []) = decide ((tl z).filter (fun c => !decide (c ∈ tl x)) = []) := decide_eq_decide.mpr List.map_eq_nil_iff
      rw [e]
      exact k H2 (s.trans s2)
/-- a text of at most n good signs -/
def okS (n : Nat) (x : Str) : Prop := x.length ≤ n ∧ PyData.strOk x = true
def okV (n : Nat) : V → Bool
  | .str x => decide (x.length ≤ n) && PyData.strOk x
  | _ => false
theorem okV_of {n : Nat} {ys : List V} {v : V} (h : ys.all (okV n) = true) (hv : v ∈ ys) : ∃ x, v = .str x ∧ okS n x := by
  have q := List.all_eq_true.mp h v hv
  cases v with
  | str x =>
    have q' : (decide (x.length ≤ n) && PyData.strOk x) = true := q
    rw [Bool.and_eq_true] at q'
    exact ⟨x, rfl, of_decide_eq_true q'.1, q'.2⟩
  | _ => cases q
theorem strOk_iff {x : Str} : PyData.strOk x = true ↔ ∀ c ∈ tl x, c < 0x110000 := by
  unfold PyData.strOk
  rw [← Array.all_toList, List.all_eq_true]
  simp
theorem okS_app {a b : Nat} {x y : Str} (hx : okS a x) (hy : okS b y) : okS (a + b) (x ++ y) := by
  refine ⟨by rw [app_len]; have := hx.1; have := hy.1; omega, ?_⟩
  rw [strOk_iff, tl_app]
  intro c hc
  rcases List.mem_append.mp hc with q | q
  · exact strOk_iff.mp hx.2 c q
  · exact strOk_iff.mp hy.2 c q
theorem okS.le {a b : Nat} {x : Str} (h : okS a x) (e : a ≤ b) : okS b x := ⟨Nat.le_trans h.1 e, h.2⟩
theorem signs_ok {z : Str} (h : PyData.strOk z = true) : (signsV z).all (okV 1) = true := by
  rw [List.all_eq_true]
  intro v hv
  obtain ⟨c, hc, rfl⟩ := List.mem_map.mp hv
  show (decide ((⟨#[c]⟩ : Str).length ≤ 1) && PyData.strOk ⟨#[c]⟩) = true
  rw [Bool.and_eq_true]
  refine ⟨rfl, strOk_iff.mpr fun c' hc' => ?_⟩
  have e : c' = c := by simpa [tl] using hc'
  rw [e]
  exact strOk_iff.mp h c hc
theorem signs_ne {z : Str} (h : 0 < z.length) : signsV z ≠ [] := by
  unfold signsV
  intro q
  have := List.map_eq_nil_iff.mp q
  rw [str_len] at h
  rw [show tl z = [] from this] at h
  exact absurd h (by decide)
theorem signs_len (z : Str) : (signsV z).length = z.length := by
  unfold signsV
  rw [List.length_map, str_len]
theorem same_but {d : Addr} {H H' : Hp} (s : Same H H') : But d H H' := fun a o _ h => s a o h
/-- a drawn text out of a list of texts -/
theorem use_pick {K : PySem.W.Frag} {H : Hp} {Q : VK} {E : XK} {d c p : Addr} {m : Nat} {ys : List V} (n : Nat) (hp : Pen K H d c (m + 1)) (h : H p = some (.lst ys)) (hok : ys.all (okV n) = true) (hne : ys ≠ []) (hl : ys.length ≤ 100000)
    (k : ∀ x H', okS n x → But d H H' → Pen K H' d c m → Q (.str x) H') : spPick K [.ref d, .ref p] H Q E :=
  ⟨d, c, p, m, ys, rfl, hp, SqL.of h, hne, hl, fun v H' hv b p' => by
    obtain ⟨x, rfl, ox⟩ := okV_of hok hv
    exact k x H' ox b p'⟩
theorem use_draw {K : PySem.W.Frag} {H : Hp} {Q : VK} {E : XK} {d c : Addr} {m : Nat} {many : Int} (hp : Pen K H d c (m + 1)) (h0 : 0 < many) (h1 : many ≤ 1000000000000000000) (k : ∀ (r : Int) H', 0 ≤ r → r < many → But d H H' → Pen K H' d c m → Q (.int r) H') : spDraw K [.ref d, .int many] H Q E :=
  ⟨d, c, m, many, rfl, hp, h0, log2_small h0 h1, k⟩
end Nm

/-! The own layer: the end. -/
namespace Nm
open PySem PySem.Spec PyProof.Rows L2
theorem walk_ofX {l : PySem.W.OpenLaw} {n k : Nat} {q : Program} {loose : List Str} {XP : (Str → Option Value) → Heap → Prop} {YP : World → Heap → Prop} {d : DefRec} {K : Params → PySem.W.Frag} {CX : CXT} {sp : PySem.W.Frag → Sp} {x : Str}
    (hn : l.most = some n) (hn2 : n ≤ sizeLine) (hdf : d.params.defaults = []) (hr : Room k callerA)
    (hY : ∀ (w : World) (h : Heap), YP w h → (K w.params).In h)
    (F : ∀ (w : World) (mg : Str → Option Value) (fa : Addr) (h : Heap), XP mg h → (K w.params).In h → h.Ns mainGlobals mg → mg d.name = some (.ref fa) →
      ∃ fd : FuncData, (∀ (s : Shared) (u : Value), BindsTo s fd ⟨[u], []⟩ [(x, u)]) ∧
        ∀ base : Heap, (K w.params).In base → base.Ns mainGlobals mg → FnOk l.prog w (K w.params) mg base CX k fa fd [x] (sp (K w.params)))
    (hsp : ∀ (K : PySem.W.Frag) (H : Hp) (a : Addr) (ns : List Int), ns.length ≤ n → SqL K H a (ns.map V.int) → sp K [.ref a] H (fun v _ => v = .bl true) fun _ _ _ => False)
    (hCX : ∀ (H : Hp) (s : Shared) (e : Value) (s' : Shared), CX [] H s (fun _ _ _ => False) e s' → False) :
    PySem.W.WalkO q loose XP YP l.row.toRowW d [] (fun f vs => PySem.call f vs) := by
  refine Att.attach_call hn hdf fun w s₀ s₁ mg mb fa o pm cd doc a vs ns G Y ho hd hcd hmg hobj hints hlen hg => ?_
  have KX := hY w _ Y
  obtain ⟨fd, hb, hF⟩ := F w mg fa _ G.X KX G.T.g hmg
  exact law_call KX G.T.g G.T.b G.T.builtins G.T.nolimit hg hobj hints (Nat.le_trans hlen hn2) hr hF hb (fun H hO hS => hsp (K w.params) H a ns hlen hS) fun H e s' => hCX H s₁ e s'
theorem df_mk {K : PySem.W.Frag} {mg : Str → Option Value} {h : Heap} {x : Str} {st : Stmt} {ps : List Str} {f : Addr} {oc : Value} {od an : Option Addr} {osl : Array (Option Value)} {kV doc pm cdv ct : Value} (X : K.In h) (G : h.Ns mainGlobals mg)
    (n : PySem.W.nsIn K mainGlobals x = some (some (.ref f)))
    (l : K.lookup f = some ⟨oc, od, .func (PySem.W.fnOf x x (defArgs st) (defBody st) (defScope st) .none kV doc pm an cdv ct), osl⟩) (c : PySem.W.codeIn K cdv x = true) (k : PySem.W.keepIn K (.ref f) = true)
    (hb : ∀ (kV doc pm : Value) (an : Option Addr) (cdv ct : Value) (us : List Value), us.length = ps.length → bindArgs (PySem.W.fnOf x x (defArgs st) (defBody st) (defScope st) .none kV doc pm an cdv ct) ⟨us, []⟩ = pure (ps.zip us)) :
    ∃ a fd, Df K mg x st ps a fd :=
  ⟨f, _, fun_mk (st := st) l c k, PySem.W.mg_of X G n, (fun_mk (st := st) l c k).binds hb⟩
theorem df_mkB {K : PySem.W.Frag} {mg : Str → Option Value} {h : Heap} {x : Str} {st : Stmt} {ps : List Str} {f : Addr} {oc : Value} {od an : Option Addr} {osl : Array (Option Value)} {kV doc pm cdv ct : Value} (X : K.In h) (G : h.Ns mainGlobals mg)
    (n : PySem.W.nsIn K mainGlobals x = some (some (.ref f)))
    (l : K.lookup f = some ⟨oc, od, .func (PySem.W.fnOf x x (defArgs st) (defBody st) (defScope st) .none kV doc pm an cdv ct), osl⟩) (c : PySem.W.codeIn K cdv x = true) (k : PySem.W.keepIn K (.ref f) = true)
    (hb : ∀ (kV doc pm : Value) (an : Option Addr) (cdv ct : Value) (us : List Value), us.length = ps.length → bindArgs (PySem.W.fnOf x x (defArgs st) (defBody st) (defScope st) .none kV doc pm an cdv ct) ⟨us, []⟩ = pure (ps.zip us)) :
    ∃ a fd, Df K mg x st ps a fd ∧ ∀ (s : Shared) (us : List Value), us.length = ps.length → BindsTo s fd ⟨us, []⟩ (ps.zip us) :=
  ⟨f, _, ⟨fun_mk (st := st) l c k, PySem.W.mg_of X G n, (fun_mk (st := st) l c k).binds hb⟩, fun s us hl => .of_eq (hb _ _ _ _ _ _ us hl)⟩
theorem str_mk {K : PySem.W.Frag} {mg : Str → Option Value} {h : Heap} {x z : Str} {t : Tok} (X : K.In h) (G : h.Ns mainGlobals mg) (n : PySem.W.nsIn K mainGlobals x = some (some (.str z t))) : ∃ t, mg x = some (.str z t) := ⟨t, PySem.W.mg_of X G n⟩
theorem loose_mk {q : Program} {lv : List (Str × PySem.W.WData)} {mg : Str → Option Value} {h : Heap} {x z : Str} (X : PySem.W.XL q lv mg h) (m : (x, PySem.W.WData.str z) ∈ lv) : ∃ t, mg x = some (.str z t) := by
  obtain ⟨v, e, r⟩ := X.2.val _ m
  obtain ⟨t, rfl, _⟩ := PySem.W.readsW_str_inv r
  exact ⟨t, e⟩
theorem tup_mk {K : PySem.W.Frag} {mg : Str → Option Value} {h : Heap} {x : Str} {a : Addr} {od : Option Addr} {its : Array Value} {n : Nat} {sl : Array (Option Value)} (xs : List V) (X : K.In h) (G : h.Ns mainGlobals mg) (e : PySem.W.nsIn K mainGlobals x = some (some (.ref a)))
    (l : K.lookup a = some ⟨.type "tuple", od, .seq its n, sl⟩) (hz : its.size ≤ sizeLine) (r : Vals xs its.toList) : ∃ a, mg x = some (.ref a) ∧ ∀ H, SqT K H a xs :=
  ⟨a, PySem.W.mg_of X G e, fun _ => .inr ⟨_, its, n, l, rfl, rfl, hz, r⟩⟩
end Nm

/-! The own layer: exception classes of the program over an own base over ValueError, whose __init__ says super().__init__(fields) and then stores each field. -/
namespace NmE
open PySem PySem.W PySem.Calls PyProof.Rows PySem.HandSPX
open L2 (defArgs defBody defScope)
/-- the stores of an __init__, field by field -/
inductive Sets : List Stmt → List Str → Prop
  | nil : Sets [] []
  | cons {f : Str} {q1 q2 q3 q4 : Pos} {r : List Stmt} {fs : List Str} (h : Sets r fs) : Sets (.Assign [.Attribute (.Name "self" q1) f q2] (.Name f q3) q4 :: r) (f :: fs)
/-- names as arguments -/
inductive Args1 : List Expr → List Str → Prop
  | nil : Args1 [] []
  | cons {f : Str} {q : Pos} {r : List Expr} {fs : List Str} (h : Args1 r fs) : Args1 (.Name f q :: r) (f :: fs)
/-- the text of such an __init__ -/
structure Ini (st : Stmt) (fs : List Str) : Prop where
  body : ∃ (p0 p1 p2 p3 p4 : Pos) (es : List Expr) (r : List Stmt), defBody st = .Expr (.Call (.Attribute (.Call (.Name "super" p0) [] [] p1) "__init__" p2) es [] p3) p4 :: r ∧ Args1 es fs ∧ Sets r fs ∧ (p2.endLine == p3.line) = true
  few : fs.length < 20
  head : ∃ ar : Arg, ((defArgs st).posonlyargs ++ (defArgs st).args).head? = some ar ∧ ar.arg = "self"
  locals : ∀ f ∈ ("self" : Str) :: fs, (defScope st).names.lookup f = some .local
  nodup : (("self" : Str) :: fs).Nodup
  nodbg : ∀ f ∈ fs, (f == ("__debug__" : Str)) = false
  sup : (defScope st).names.lookup ("super" : Str) = some .globalImplicit
  cls : (defScope st).names.lookup ("__class__" : Str) = some .free
  cells : ∀ x ∈ (defScope st).names, x.2 ≠ .cell
  co : (defScope st).isCoroutine = false
  gen : (defScope st).isGenerator = false
  kind : (defScope st).kind = .function
/-- what the written part says of the class at C -/
structure Err (P : Program) (K : Frag) (mg : Str → Option Value) (x : Str) (C : Addr) (fs : List Str) : Prop where
  gC : mg x = some (.ref C)
  cls : ∃ nm q N bs bm sn sub ab col dd k0 k1 k2 k3 k5, K.lookup C = some (excClassObj nm q C N bs bm true sn sub ab col dd k0 k1 k2 k3 k5 "ValueError.__new__") ∧ refsVE bm = true
  sa : findIn K (.ref C) "__setattr__" = some (some (.builtin "object.__setattr__"))
  ga : findIn K (.ref C) "__getattribute__" = some (some (.builtin "BaseException.__getattribute__"))
  gg : findIn K (.ref C) "__getattr__" = some none
  noN : ∀ f ∈ fs, findIn K (.ref C) f = some none
  kC : keepIn K (.ref C) = true
  exC : subIn K (.ref C) (.type "BaseException") = some true
  veC : subIn K (.ref C) (.type "ValueError") = some true
  tyC : typeIn K (.ref C) = some (.type "type")
  hdC : hasDictIn K C = true
  opq : nsIn K cStatics "thirdparty.any" = some none
  sup : ks_superIn K C C "__init__" = some (some (.builtin "ValueError.__init__"))
  own : mroIn K C (.ref C) = some true
  top : (P.main.scope.names.lookup ("super" : Str)).isSome = false
  nsp : mg "super" = none
  init : ∃ (fI cc cda : Addr) (st : Stmt) (qual : Str) (oc dV kV doc pm ct cl ccl : Value) (od an cld cdd : Option Addr) (osl csl ccs : Array (Option Value)) (vs : Array Value) (file : Str) (tf : Tok),
    findIn K (.ref C) "__init__" = some (some (.ref fI)) ∧ typeIn K (.ref fI) = some (.type "function") ∧
    K.lookup fI = some ⟨oc, od, .func (ksFn "__init__" qual (defArgs st) (defBody st) (defScope st) dV kV doc pm an (.ref cda) ct cc), osl⟩ ∧ codeIn K (.ref cda) qual = true ∧ Ini st fs ∧
    K.lookup cc = some ⟨cl, cld, .cell (some (.ref C)), csl⟩ ∧ K.lookup cda = some ⟨ccl, cdd, .fields vs, ccs⟩ ∧ vs[2]? = some (.str file tf) ∧ ((P.main.file : Str) == file) = true ∧
    ∀ us : List Value, us.length = (("self" : Str) :: fs).length → bindArgs (ksFn "__init__" qual (defArgs st) (defBody st) (defScope st) dV kV doc pm an (.ref cda) ct cc) ⟨us, []⟩ = pure ((("self" : Str) :: fs).zip us)
theorem zip_rev {v : Value} : ∀ {ns : List Str} {vs : List Value}, ns.Nodup → ∀ f : Str, (f, v) ∈ ns.zip vs → (ns.zip vs).reverse.lookup f = some v
  | [], vs, _, f, h => by simp at h
  | n :: ns, [], _, f, h => by simp at h
  | n :: ns, u :: vs, d, f, h => by
    rw [List.zip_cons_cons, List.reverse_cons, List.lookup_append]
    rw [List.zip_cons_cons] at h
    rcases List.mem_cons.mp h with q | q
    · obtain ⟨rfl, rfl⟩ := Prod.mk.inj q
      have hn : (ns.zip vs).reverse.lookup f = none := by
        cases e : (ns.zip vs).reverse.lookup f with
        | none => rfl
        | some z =>
          have m : (f, z) ∈ (ns.zip vs).reverse := by
            obtain ⟨l1, l2, e2, _⟩ := List.lookup_eq_some_iff.mp e
            rw [e2]
            simp
          exact absurd (List.of_mem_zip (List.mem_reverse.mp m)).1 (List.nodup_cons.mp d).1
      rw [hn]
      simp [List.lookup]
    · rw [zip_rev (List.nodup_cons.mp d).2 f q]
      rfl
/-- the fields as they were stored, the last one first -/
def puts {α : Type} : List Str → List α → List (Str × α) → List (Str × α)
  | f :: fs, x :: xs, acc => puts fs xs ((f, x) :: acc)
  | _, _, acc => acc
abbrev excD (C t : Addr) (d : Option Addr) : Obj := { cls := .ref C, dict := d, data := .fields #[.ref t, .none, .none, .none, .bool false, .none] }
section
variable {prog : Program} {w : World} {A : Around} {E : Value → Shared → Prop} {K : Frag} {mg : Str → Option Value} {xn : Str} {C : Addr} {gs : List Str} {h : Heap} {g : Array GenState} {d : Drawn} {t : Nat} {os : OsState} {env : Env}
theorem ldS {m : Str → Option Value} {x : Str} {pos : Pos} {v : Value} {Q : Value → Shared → Prop} {s : Shared} (hk : env.scope.kind = .function) (hl : env.scope.names.lookup x = some .local) (hn : s.heap.Ns env.locals m) (hv : m x = some v) (hd : (x == ("__debug__" : Str)) = false) (hq : Q v s) :
    wpAny (model prog w) A (eval (.Name x pos) env) Q E s := wpAny_Name (wpAny_loadName_local hk hl hn hv hq) hd
theorem ns_keep {h h' : Heap} {L : Addr} {m : Str → Option Value} (hn : h.Ns L m) (k : ∀ o, h.get? L = some o → h'.get? L = some o) : h'.Ns L m := by
  obtain ⟨o, es, ep, e, r⟩ := hn
  exact ⟨o, es, ep, k o e, r⟩
/-- the stores behind the first one -/
theorem sets_on (T : Err prog K mg xn C gs) {m : Str → Option Value} {x dx t1 : Addr} (hk : env.scope.kind = .function) (hself : m ("self" : Str) = some (.ref x)) (hsl : env.scope.names.lookup ("self" : Str) = some .local) (hdL : dx ≠ env.locals) (hdx : dx ≠ x) (hdK : K.lookup dx = none) :
    ∀ {r : List Stmt} {fs : List Str}, Sets r fs → ∀ {xs : List L2.V} {vs : List Value}, L2.Vals xs vs → xs.length = fs.length → (∀ f ∈ fs, findIn K (.ref C) f = some none ∧ env.scope.names.lookup f = some .local ∧ (f == ("__debug__" : Str)) = false) → (∀ f v, (f, v) ∈ fs.zip vs → m f = some v) →
    ∀ (acc : List (Str × L2.V)) (mA : Str → Option Value) (h : Heap) (t : Nat), acc.length + fs.length ≤ 900 → K.In h → h.Ns env.locals m → h.get? x = some (excD C t1 (some dx)) → h.Ns1 dx mA → (∀ f, L2.RelO (acc.lookup f) (mA f)) →
    ∀ (Q : Flow → Shared → Prop), (∀ h' t' mB, (∀ b o, b ≠ dx → h.get? b = some o → h'.get? b = some o) → h'.Ns1 dx mB → (∀ f, L2.RelO ((puts fs xs acc).lookup f) (mB f)) → Q .next ⟨h', g, d, t', os⟩) →
      wpAny (model prog w) A (execs r env) Q E ⟨h, g, d, t, os⟩ := by
  obtain ⟨nm, q, N, bs, bm, sn, sub, ab, col, dd, k0, k1, k2, k3, k5, hC, hbm⟩ := T.cls
  have hcl : clsIn K C = some { name := nm, bases := bs, mro := .ref C :: bm, ns := N, qualname := q, hasDict := true, slotNames := sn, subclasses := sub, abstract := ab, collection := col, hasDel := false } := by unfold clsIn; rw [hC] <;> rfl
  intro r fs S
  induction S with
  | nil =>
    intro xs vs rv hl hf hm acc mA h t hz X hn hx hns rel Q hq
    cases rv with
    | nil => exact wpAny_execs_nil (hq h t mA (fun _ _ _ z => z) hns rel)
    | cons _ _ => cases hl
  | @cons f q1 q2 q3 q4 r fs S ih =>
    intro xs vs rv hl hf hm acc mA h t hz X hn hx hns rel Q hq
    cases rv with
    | nil => cases hl
    | @cons y u ys us ry rv =>
      obtain ⟨hno, hfl, hfd⟩ := hf f (by simp)
      have hw := L2.within_of rel
      obtain ⟨oD, _, _, hoD, _, _⟩ := hns.count hw
      refine wpAny_execs_cons (plainObj_wpAny_Assign_Attribute ?_)
      refine ldS hk hfl hn (hm f u (by simp)) hfd (ldS hk hsl hn hself (by decide) ?_)
      refine set_plain X (ox := excD C t1 (some dx)) (od := some oD) ⟨hx, rfl, rfl, hoD⟩ T.sa ?_
      refine PySem.OEX.osa_old X hx hns hw (by rw [List.length_map]; have : (f :: fs).length = fs.length + 1 := rfl; omega) hcl (show refsVE (.ref C :: bm) = true from hbm) rfl hno (fun h2 t2 k2 hn2 => ?_)
      have X2 : K.In h2 := fun a o e => k2 a o (fun z => by
        rw [z, hdK] at e
        cases e) (X a o e)
      exact ih rv (by simpa using hl) (fun z hz => hf z (by simp [hz])) (fun z v hz => hm z v (by simp [hz])) ((f, y) :: acc) _ h2 t2 (by simp at hz ⊢; omega) X2 (ns_keep hn fun o e => k2 _ _ (Ne.symm hdL) e) (k2 _ _ (Ne.symm hdx) hx) hn2 (L2.relO_put ry rel) Q
        fun h3 t3 mB k3 hn3 rel3 => hq h3 t3 mB (fun b o hb e => k3 b o hb (k2 b o hb e)) hn3 rel3
theorem in_but {h h' : Heap} {x : Addr} (X : K.In h) (hx : K.lookup x = none) (k : ∀ b o, b ≠ x → h.get? b = some o → h'.get? b = some o) : K.In h' := fun a o e => k a o (fun z => by rw [z, hx] at e; cases e) (X a o e)
theorem not_in {h : Heap} {b : Addr} (X : K.In h) (hb : h.objs.size ≤ b) : K.lookup b = none := by
  cases e : K.lookup b with
  | none => rfl
  | some o => exact absurd (Heap.lt_size (X _ _ e)) (Nat.not_lt.mpr hb)
/-- what an __init__ leaves of a fresh exception at x; its fields stand in dx (if there are any) -/
structure Left (h h' : Heap) (x C : Addr) (fs : List Str) (xs : List L2.V) : Prop where
  keep : ∀ b o, b ≠ x → h.get? b = some o → h'.get? b = some o
  obj : (fs = [] ∧ ∃ t1, h'.get? x = some (excD C t1 none)) ∨ ∃ t1 dx mB, h'.get? x = some (excD C t1 (some dx)) ∧ h.objs.size ≤ dx ∧ dx ≠ x ∧ h'.Ns1 dx mB ∧ ∀ f, L2.RelO ((puts fs xs []).lookup f) (mB f)
/-- all the stores -/
theorem sets_all (T : Err prog K mg xn C gs) {m : Str → Option Value} {x t1 : Addr} (hk : env.scope.kind = .function) (hself : m ("self" : Str) = some (.ref x)) (hsl : env.scope.names.lookup ("self" : Str) = some .local) (hxL : x ≠ env.locals) (hxK : K.lookup x = none)
    {r : List Stmt} {fs : List Str} (S : Sets r fs) {xs : List L2.V} {vs : List Value} (rv : L2.Vals xs vs) (hl : xs.length = fs.length) (hf : ∀ f ∈ fs, findIn K (.ref C) f = some none ∧ env.scope.names.lookup f = some .local ∧ (f == ("__debug__" : Str)) = false) (hm : ∀ f v, (f, v) ∈ fs.zip vs → m f = some v)
    (hz : fs.length ≤ 900) (X : K.In h) (hn : h.Ns env.locals m) (hx : h.get? x = some (excD C t1 none)) {Q : Flow → Shared → Prop} (hq : ∀ h' t', Left h h' x C fs xs → Q .next ⟨h', g, d, t', os⟩) :
    wpAny (model prog w) A (execs r env) Q E ⟨h, g, d, t, os⟩ := by
  obtain ⟨nm, q, N, bs, bm, sn, sub, ab, col, dd, k0, k1, k2, k3, k5, hC, hbm⟩ := T.cls
  have hcl : clsIn K C = some { name := nm, bases := bs, mro := .ref C :: bm, ns := N, qualname := q, hasDict := true, slotNames := sn, subclasses := sub, abstract := ab, collection := col, hasDel := false } := by unfold clsIn; rw [hC] <;> rfl
  cases S with
  | nil => exact wpAny_execs_nil (hq h t ⟨fun _ _ _ z => z, .inl ⟨rfl, t1, hx⟩⟩)
  | @cons f q1 q2 q3 q4 r fs S =>
    cases rv with
    | nil => cases hl
    | @cons y u ys us ry rv =>
      obtain ⟨hno, hfl, hfd⟩ := hf f (by simp)
      refine wpAny_execs_cons (plainObj_wpAny_Assign_Attribute ?_)
      refine ldS hk hfl hn (hm f u (by simp)) hfd (ldS hk hsl hn hself (by decide) ?_)
      refine set_plain X (ox := excD C t1 none) (od := none) ⟨hx, rfl, rfl, trivial⟩ T.sa ?_
      refine exc_osa X hx hcl (show refsVE (.ref C :: bm) = true from hbm) rfl hno (fun h2 t2 dx k2 dn dne hx2 hn2 => ?_)
      have hLs := hn.lt
      refine sets_on T hk hself hsl (fun z => ?_) dne (not_in X dn) S rv (by simpa using hl) (fun z hz => hf z (by simp [hz])) (fun z v hz => hm z v (by simp [hz])) [(f, y)] _ h2 t2 (by simp at hz ⊢; omega) (in_but X hxK k2) (ns_keep hn fun o e => k2 _ _ (Ne.symm hxL) e) hx2 hn2 (L2.relO_put (fs := []) ry fun g => True.intro) Q
        fun h3 t3 mB k3 hn3 rel3 => hq h3 t3 ⟨fun b o hb e => k3 b o (fun z => ?_) (k2 b o hb e), .inr ⟨t1, dx, mB, k3 _ _ (Ne.symm dne) hx2, dn, dne, hn3, rel3⟩⟩
      · rw [z] at dn
        exact absurd hLs (Nat.not_lt.mpr dn)
      · rw [z] at e
        exact absurd (Heap.lt_size e) (Nat.not_lt.mpr dn)
theorem args_len : ∀ {es : List Expr} {fs : List Str}, Args1 es fs → es.length = fs.length
  | _, _, .nil => rfl
  | _, _, .cons h => congrArg (· + 1) (args_len h)
theorem args_names : ∀ {es : List Expr} {fs : List Str}, Args1 es fs → starEach es env = es.map fun e => (false, eval e env)
  | _, _, .nil => rfl
  | _, _, .cons h => by
    show (false, _) :: starEach _ env = _
    rw [args_names h]
    rfl
/-- the names read, one by one -/
theorem args_read {m : Str → Option Value} {pos : Pos} {s : Shared} (hk : env.scope.kind = .function) (hn : s.heap.Ns env.locals m) : ∀ {es : List Expr} {fs : List Str}, Args1 es fs → ∀ {vs : List Value}, vs.length = fs.length → (∀ f ∈ fs, env.scope.names.lookup f = some .local ∧ (f == ("__debug__" : Str)) = false) → (∀ f v, (f, v) ∈ fs.zip vs → m f = some v) →
    ∀ {Q : List Value → Shared → Prop}, Q vs s → wpAny (model prog w) A (spliced (backTo pos (starEach es env))) Q E s
  | _, _, .nil, vs, hl, hf, hm, Q, hq => by
    cases vs with
    | nil => exact Calls.spliced_nil hq
    | cons _ _ => cases hl
  | _, _, @Args1.cons f q r fs h, vs, hl, hf, hm, Q, hq => by
    cases vs with
    | nil => cases hl
    | cons u us =>
      obtain ⟨hfl, hfd⟩ := hf f (by simp)
      show wpAny _ _ (spliced ((false, eval (.Name f q) env) :: backTo pos (starEach r env))) _ _ _
      exact Calls.spliced_cons (ldS hk hfl hn (hm f u (by simp)) hfd (args_read hk hn h (by simpa using hl) (fun z hz => hf z (by simp [hz])) (fun z v hz => hm z v (by simp [hz])) hq))
/-- super().__init__ called: the arguments' tuple is laid anew -/
theorem mw_call (T : Err prog K mg xn C gs) {u x t0 : Addr} {vs : List Value} {Q : Value → Shared → Prop} (X : K.In h) (hx : h.get? x = some (excD C t0 none)) (hu : h.get? u = some (kxs_mw "ValueError.__init__" x)) (hz : vs.length ≤ sizeLine)
    (hq : ∀ h' t1, (∀ b o, b ≠ x → h.get? b = some o → h'.get? b = some o) → h'.get? x = some (excD C t1 none) → Q .none ⟨h', g, d, t, os⟩) : wpAny (model prog w) A (call (.ref u) vs) Q E ⟨h, g, d, t, os⟩ := by
  obtain ⟨nm, q, N, bs, bm, sn, sub, ab, col, dd, k0, k1, k2, k3, k5, hC, hbm⟩ := T.cls
  have FB := PySem.F.excBase_ValueError
  refine wpAny_call (codeAny_of_tree ?_)
  show wpAny _ A.in1 (callAny (.ref u) ⟨vs, []⟩) _ _ _
  simp only [callAny]
  refine wpAny_bind (wpAny_load hu ?_)
  simp only [kxs_mw, show (Value.type "method-wrapper" == Value.type "method" || Value.type "method-wrapper" == Value.type "builtin_function_or_method" || Value.type "method-wrapper" == Value.type "method-wrapper") = true by decide, if_true]
  refine KFB.if_so (by decide) (wpAny_bind (check_bound_init FB.toExcCallFacts (X _ _ hC) hx rfl (wpAny_bind (wpAny_pure (wpAny_pure ⟨plainId_quiet FB.init.plain _, codeAny_builtin FB.initEntry ?_⟩)))))
  exact exc_init_tree (cls := .ref C) (t0 := t0) (dv := none) (c2 := .none) (c3 := .none) (b4 := .bool false) hx hz fun h' k e _ => hq h' _ k e
theorem super_init (T : Err prog K mg xn C gs) {mb m : Str → Option Value} {x t0 L fI cc cda : Addr} {st : Stmt} {body : List Stmt} {fs : List Str} {es : List Expr} {p0 p1 p2 p3 p4 : Pos} {qual : Str} {oc dV kV doc pm ct cl ccl : Value} {od an cld cdd : Option Addr} {osl csl ccs : Array (Option Value)} {dat : Array Value} {file : Str} {tf : Tok} {vs : List Value} {Q : Flow → Shared → Prop}
    (hf : K.lookup fI = some ⟨oc, od, .func (ksFn "__init__" qual (defArgs st) (defBody st) (defScope st) dV kV doc pm an (.ref cda) ct cc), osl⟩) (I : Ini st fs) (hes : Args1 es fs) (hline : (p2.endLine == p3.line) = true)
    (hcc : K.lookup cc = some ⟨cl, cld, .cell (some (.ref C)), csl⟩) (hcd : K.lookup cda = some ⟨ccl, cdd, .fields dat, ccs⟩) (hvs : dat[2]? = some (.str file tf)) (hfile : ((prog.main.file : Str) == file) = true)
    (X : K.In h) (hg : h.Ns mainGlobals mg) (hb : h.Ns builtinsNs mb) (hbs : mb ("super" : Str) = some (.type "super")) (hn : h.Ns L m) (hself : m ("self" : Str) = some (.ref x)) (hm : ∀ f v, (f, v) ∈ fs.zip vs → m f = some v) (hl : vs.length = fs.length) (hz : vs.length ≤ sizeLine)
    (hx : h.get? x = some (excD C t0 none)) (hxK : K.lookup x = none) (hxL : x ≠ L)
    (hq : ∀ h' t' t1, (∀ b o, b ≠ x → h.get? b = some o → h'.get? b = some o) → h'.get? x = some (excD C t1 none) → Q .next ⟨h', g, d, t', os⟩) :
    _root_.PySem.wpAt (model prog w) A (.func body (ksEnv qual (defScope st) L fI (.ref cda) cc)) (exec (.Expr (.Call (.Attribute (.Call (.Name "super" p0) [] [] p1) "__init__" p2) es [] p3) p4) (ksEnv qual (defScope st) L fI (.ref cda) cc)) Q E ⟨h, g, d, t, os⟩ := by
  obtain ⟨nm, q, N, bs, bm, sn, sub, ab, col, dd, k0, k1, k2, k3, k5, hC, hbm⟩ := T.cls
  have hcl : clsIn K C = some { name := nm, bases := bs, mro := .ref C :: bm, ns := N, qualname := q, hasDict := true, slotNames := sn, subclasses := sub, abstract := ab, collection := col, hasDel := false } := by unfold clsIn; rw [hC] <;> rfl
  obtain ⟨ar, hhead, har⟩ := I.head
  have hxC : x ≠ C := fun z => by
    rw [z, hC] at hxK
    cases hxK
  have hsl : (defScope st).names.lookup ("self" : Str) = some .local := I.locals _ (by simp)
  have hel : es.length = fs.length := args_len hes
  have hall : ∀ l : List Expr, (l.map fun e => (false, eval e (ksEnv qual (defScope st) L fI (.ref cda) cc))).all (!·.1) = true := fun l => by
    rw [List.all_map, List.all_eq_true]
    intro _ _
    rfl
  have hform : methodCallForm (es.length + ([] : List (Option Str × Sem Value)).length) (backTo p3 (starEach es (ksEnv qual (defScope st) L fI (.ref cda) cc))) (backToKw p3 (keywordEach [] (ksEnv qual (defScope st) L fI (.ref cda) cc))) = true := by
    rw [args_names hes]
    unfold methodCallForm backTo
    rw [List.map_map, Bool.and_eq_true, Bool.and_eq_true]
    refine ⟨⟨?_, rfl⟩, decide_eq_true ?_⟩
    · rw [List.all_map, List.all_eq_true]
      intro _ _
      rfl
    · have := I.few
      show es.length + 0 + 0 < 30
      omega
  have he : eval (.Call (.Attribute (.Call (.Name "super" p0) [] [] p1) "__init__" p2) es [] p3) (ksEnv qual (defScope st) L fI (.ref cda) cc) = (do
      let ov ← attributeBase (.Call (.Name "super" p0) [] [] p1) "__init__" (ksEnv qual (defScope st) L fI (.ref cda) cc) (eval (.Call (.Name "super" p0) [] [] p1) (ksEnv qual (defScope st) L fI (.ref cda) cc))
      standAt p2.atName
      let (f, first) ← holding [ov] (getMethod ov "__init__" (do return (← importBound (.Call (.Name "super" p0) [] [] p1) (ksEnv qual (defScope st) L fI (.ref cda) cc)).getD true))
      callWith p3 f first (backTo p3 (starEach es (ksEnv qual (defScope st) L fI (.ref cda) cc))) []) := by
    show (do
      let ov ← attributeBase (.Call (.Name "super" p0) [] [] p1) "__init__" (ksEnv qual (defScope st) L fI (.ref cda) cc) (eval (.Call (.Name "super" p0) [] [] p1) (ksEnv qual (defScope st) L fI (.ref cda) cc))
      standAt p2.atName
      methodCall (.Call (.Name "super" p0) [] [] p1) "__init__" p2 p3 (ksEnv qual (defScope st) L fI (.ref cda) cc) ov (es.length + ([] : List (Option Str × Sem Value)).length) (backTo p3 (starEach es (ksEnv qual (defScope st) L fI (.ref cda) cc))) (backToKw p3 (keywordEach [] (ksEnv qual (defScope st) L fI (.ref cda) cc)))) = _
    unfold methodCall methodCallPos calleeOf
    rw [hform]
    simp only [hline, Bool.not_true, Bool.false_or, if_true, pure_bind]
    rfl
  refine ks_wpAt_Expr_any (ks_wpAt_MethodCall ?_ he) (by show ((defScope st).kind == .module && _) = false; rw [I.kind]; rfl) rfl
  refine ks_wpAt_super_base (env := ksEnv qual (defScope st) L fI (.ref cda) cc) I.sup I.cls (by decide) rfl (X _ _ hf) rfl hhead rfl (X _ _ hcd) rfl hvs hfile T.top ?_
  refine ks_loadName_global I.kind I.sup (loadGlobal_builtin (env := ksEnv qual (defScope st) L fI (.ref cda) cc) hg T.nsp hb hbs ⟨rfl, ?_⟩)
  refine wpAny_loadName_free I.kind I.cls rfl ⟨_, X _ _ hcc, rfl⟩ ?_
  rw [har]
  refine wpAny_loadName_local I.kind hsl hn hself ?_
  refine ks_wpAny_isType_cls (X _ _ hC) rfl ⟨rfl, ?_⟩
  refine ks_wpAny_call_super (X _ _ hC) rfl hx rfl (fun c e => by cases e) (looks_mroIn X T.own) (fun h1 e1 k1 => ?_)
  have X1 : K.In h1 := X.keeps k1
  have hx1 := k1 _ _ hx
  have IA : InstAt h1 x (excD C t0 none) C none := ⟨hx1, rfl, rfl, trivial⟩
  have hI : Looks (model prog w) h1 (isInstance (.ref x) (.type "ValueError")) true := IA.type.andThen (looks_subIn X1 T.veC)
  have hsup := T.sup
  unfold ks_superIn at hsup
  rw [hcl] at hsup
  refine kxs_getMethod kxs_ValueError e1 (looks_opaque X1 T.opq) (l₀ := .ref C :: bm) ((looks_clsIn X1 hcl).andThen .now) rfl X1 hsup hI hxC (by decide) ?_
  have k2 : ∀ b o, h1.get? b = some o → (h1.push (kxs_mw "ValueError.__init__" x)).get? b = some o := fun b o e => Heap.get?_push_of_some _ e
  have hu2 : (h1.push (kxs_mw "ValueError.__init__" x)).get? h1.objs.size = some (kxs_mw "ValueError.__init__" x) := Heap.get?_push_at rfl rfl
  have hn2 : (h1.push (kxs_mw "ValueError.__init__" x)).Ns L m := ns_keep hn fun o e => k2 _ _ (k1 _ _ e)
  have hpl : (backTo p3 (starEach es (ksEnv qual (defScope st) L fI (.ref cda) cc))).any (·.1) = false := by
    rw [args_names hes]
    unfold backTo
    rw [List.map_map, List.any_map, List.any_eq_false]
    intro _ _
    exact Bool.false_ne_true
  refine kxs_callWith (i := "ValueError.__init__") (x := x) hpl ?_
  have fin : KxsAt "ValueError.__init__" h1.objs.size x (h1.push (kxs_mw "ValueError.__init__" x)) ∧ wpAny (model prog w) A (call (.ref h1.objs.size) vs) (fun _ => Q .next) E ⟨h1.push (kxs_mw "ValueError.__init__" x), g, d, t + 1, os⟩ :=
    ⟨hu2, mw_call T (X1.keeps k2) (k2 _ _ hx1) hu2 hz fun h' t1 k e => hq h' _ t1 (fun b o hb z => k b o hb (k2 _ _ (k1 _ _ z))) e⟩
  have rd := args_read (prog := prog) (w := w) (A := A) (E := E) (pos := p3) (s := ⟨h1.push (kxs_mw "ValueError.__init__" x), g, d, t + 1, os⟩) (env := ksEnv qual (defScope st) L fI (.ref cda) cc) I.kind hn2 hes hl (fun f hf => ⟨I.locals f (by simp [hf]), I.nodbg f hf⟩) hm (Q := fun us s' => KxsAt "ValueError.__init__" h1.objs.size x s'.heap ∧ wpAny (model prog w) A (call (.ref h1.objs.size) us) (fun _ => Q .next) E s')
  cases hes with
  | nil =>
    cases vs with
    | nil => exact evalArgs_empty fin
    | cons _ _ => cases hl
  | cons hes' => exact Calls.evalArgs_plain (rd fin)
theorem zip_mem {ns : List Str} {vs : List Value} {n : Str} {u v : Value} {f : Str} (h : (f, v) ∈ ns.zip vs) : (f, v) ∈ (n :: ns).zip (u :: vs) := by
  rw [List.zip_cons_cons]
  exact List.mem_cons_of_mem _ h
/-- the whole __init__ -/
theorem err_init (T : Err prog K mg xn C gs) {R : Result → Shared → Prop} {s : Shared} {mb : Str → Option Value} {x t0 fI cc cda : Addr} {st : Stmt} {qual : Str} {oc dV kV doc pm ct cl ccl : Value} {od an cld cdd : Option Addr} {osl csl ccs : Array (Option Value)} {dat : Array Value} {file : Str} {tf : Tok} {xs : List L2.V} {vs : List Value}
    (hf : K.lookup fI = some ⟨oc, od, .func (ksFn "__init__" qual (defArgs st) (defBody st) (defScope st) dV kV doc pm an (.ref cda) ct cc), osl⟩) (hcr : codeIn K (.ref cda) qual = true) (I : Ini st gs)
    (hcc : K.lookup cc = some ⟨cl, cld, .cell (some (.ref C)), csl⟩) (hcd : K.lookup cda = some ⟨ccl, cdd, .fields dat, ccs⟩) (hvs : dat[2]? = some (.str file tf)) (hfile : ((prog.main.file : Str) == file) = true)
    (hbind : ∀ us : List Value, us.length = (("self" : Str) :: gs).length → bindArgs (ksFn "__init__" qual (defArgs st) (defBody st) (defScope st) dV kV doc pm an (.ref cda) ct cc) ⟨us, []⟩ = pure ((("self" : Str) :: gs).zip us))
    (X : K.In s.heap) (hlim : s.heap.NoLimit) (hg : s.heap.Ns mainGlobals mg) (hb : s.heap.Ns builtinsNs mb) (hbs : mb ("super" : Str) = some (.type "super")) (rv : L2.Vals xs vs) (hl : vs.length = gs.length)
    (hx : s.heap.get? x = some (excD C t0 none)) (hxK : K.lookup x = none) (hroom : A.depth < recursionLimit)
    (hq : ∀ h' tk, Left s.heap h' x C gs xs → R (.ok (.ret .none)) { s with heap := h', toks := tk }) : codeAny (model prog w) A (.call (.ref fI) ⟨.ref x :: vs, []⟩) R s := by
  obtain ⟨p0, p1, p2, p3, p4, es, r, hbody, hes, S, hline⟩ := I.body
  have hlen : (Value.ref x :: vs).length = (("self" : Str) :: gs).length := congrArg (· + 1) hl
  have hgs := T.noN
  have hzz : vs.length ≤ sizeLine := by
    have := I.few
    rw [sizeLine_eq]
    omega
  have hsl : (defScope st).names.lookup ("self" : Str) = some .local := I.locals _ (by simp)
  refine ks_codeAny_call_defAt (fd := ksFn "__init__" qual (defArgs st) (defBody st) (defScope st) dV kV doc pm an (.ref cda) ct cc) (body := defBody st) (binds := (("self" : Str) :: gs).zip (Value.ref x :: vs)) hroom (X _ _ hf) rfl hlim (codeRec_of X hcr) rfl (BindsTo.of_eq (hbind _ hlen)) I.cells (fun y hy => I.locals _ (List.of_mem_zip hy).1) (fun h1 hn1 k1 => ?_) I.co I.gen I.kind
  have hself : ((("self" : Str) :: gs).zip (Value.ref x :: vs)).reverse.lookup ("self" : Str) = some (.ref x) := zip_rev I.nodup _ (by simp)
  have hm : ∀ f v, (f, v) ∈ gs.zip vs → ((("self" : Str) :: gs).zip (Value.ref x :: vs)).reverse.lookup f = some v := fun f v h => zip_rev I.nodup _ (zip_mem h)
  have X1 : K.In h1 := X.keeps k1
  have hx1 := k1 _ _ hx
  have hxL : x ≠ s.heap.objs.size := Nat.ne_of_lt (Heap.lt_size hx)
  show _root_.PySem.wpAt (model prog w) (A.deeper (ksEnv qual (defScope st) s.heap.objs.size fI (.ref cda) cc)) (.func (defBody st) (ksEnv qual (defScope st) s.heap.objs.size fI (.ref cda) cc)) (execs (defBody st) (ksEnv qual (defScope st) s.heap.objs.size fI (.ref cda) cc)) _ _ _
  rw [hbody]
  refine ks_wpAt_execs_cons (super_init (d := s.drawn) (g := s.gens) (os := s.os) T hf I hes hline hcc hcd hvs hfile X1 (ns_keep hg fun o e => k1 _ _ e) (ns_keep hb fun o e => k1 _ _ e) hbs hn1 hself hm hl hzz hx1 hxK hxL fun h2 t2 t1 k2 hx2 => ?_)
  refine wpAt_of_wpAny ?_
  have hn2 : h2.Ns s.heap.objs.size _ := ns_keep hn1 fun o e => k2 _ _ (Ne.symm hxL) e
  have hLs := hn2.lt
  refine sets_all (h := h2) T I.kind hself hsl hxL hxK S rv (rv.length.trans hl) (fun f hf => ⟨hgs f hf, I.locals f (by simp [hf]), I.nodbg f hf⟩) hm (by have := I.few; omega) (in_but X1 hxK k2) hn2 hx2 fun h3 t3 D => hq h3 t3 ⟨fun b o hb e => D.keep b o hb (k2 b o hb (k1 _ _ e)), ?_⟩
  rcases D.obj with q | ⟨t4, dx, mB, q1, q2, q3⟩
  · exact .inl q
  · exact .inr ⟨t4, dx, mB, q1, Nat.le_of_lt (Nat.lt_of_lt_of_le hLs q2), q3⟩
end
end NmE
namespace L2
open PySem PySem.Spec PyProof.Rows
section
variable {X : Cx} {C : Addr} {xn : Str} {fs : List Str}
/-- the class called, made with a value for each field (there are some) -/
def tErr (C : Addr) (fs : List Str) (ta : TA) : L2.St → Hp → XK → Prop := fun σ H Q => ta σ H fun vs H1 => vs.length = fs.length ∧ ∀ d, H1 d = none → Q (.ref C) (some d) (upd H1 d (.xd (NmE.puts fs vs [])))
theorem pmk_err {e : Expr} {es : List Expr} {ta : TA} {p pos : Pos} {k : Nat} (T : NmE.Err X.prog X.K X.mg xn C fs) (hne : fs ≠ []) (hr : Room k X.A) (ha : PA X (e :: es) ta) (hg : Gl X xn := by rfl) (hdb : (xn == ("__debug__" : Str)) = false := by decide)
    (he : starEach (e :: es) X.env = (false, eval e X.env) :: starEach es X.env := by rfl) (hpl : (backTo pos (starEach es X.env)).any (·.1) = false := by rfl) :
    PMk X (.Call (.Name xn p) (e :: es) [] pos) (tErr C fs ta) := by
  intro pins s σ H Q I h
  obtain ⟨nm, q, N, bs, bm, sn, sub, ab, col, dd, k0, k1, k2, k3, k5, hC, hbm⟩ := T.cls
  obtain ⟨fI, cc, cda, st, qual, oc, dV, kV, doc, pm, ct, cl, ccl, od, an, cld, cdd, osl, csl, ccs, dat, file, tf, iC, tI, lI, hcr, ini, hcc, hcd, hvs, hfile, hbind⟩ := T.init
  refine wpAny_Call_Name_kw (ld_glob I hg T.gC ?_ hdb)
  refine PySem.W.callWith_K (h₀ := X.base) I.ok.mod.kin T.kC (thn (ha.run pos pins s σ H _ I h) fun us s1 ⟨vs, H1, I1, r1, hl, q1⟩ => ⟨I1.kIn, ?_⟩) he hpl
  show wpAny _ _ (call (.ref C) us) _ _ _
  obtain ⟨mb, hb, hbs⟩ := I1.ok.mod.blt
  have hlim := I1.nolimit
  have hgl := I1.ok.mod.glob
  have bk := I1.bk
  have KI := I1.kIn
  have hus : us.length = fs.length := r1.length.symm.trans hl
  have hzz : us.length ≤ sizeLine := by
    have := ini.few
    rw [sizeLine_eq]
    omega
  obtain ⟨hp, g, dr, tk, os⟩ := s1
  have kk : ∀ b o, hp.get? b = some o → ((hp.push (PySem.W.kdv_tup us)).push (PySem.HandSPX.excO C hp.objs.size)).get? b = some o := fun b o e => Heap.get?_push_of_some _ (Heap.get?_push_of_some _ e)
  have hget : ((hp.push (PySem.W.kdv_tup us)).push (PySem.HandSPX.excO C hp.objs.size)).get? (hp.objs.size + 1) = some (PySem.HandSPX.excO C hp.objs.size) := by heap_get
  refine wpAny_call (PySem.HandSPX.call_own PySem.F.excBase_ValueError (fun Y => PySem.HandSPX.refsVE_contains Y bm hbm) (KI _ _ hC) (PySem.W.looks_findIn KI iC) (fun self => PySem.W.bind_fn KI self tI) hzz ?_)
  refine NmE.err_init (s := ⟨(hp.push (PySem.W.kdv_tup us)).push (PySem.HandSPX.excO C hp.objs.size), g, dr, tk, os⟩) T lI hcr ini hcc hcd hvs hfile hbind (KI.keeps kk) (hlim.keeps kk) (NmE.ns_keep hgl fun o e => kk _ _ (bk _ _ e)) (NmE.ns_keep hb fun o e => kk _ _ (bk _ _ e)) ?_ r1 hus hget (NmE.not_in KI (Nat.le_succ _)) ?_ fun h' tk' D => ?_
  · exact (hbs _ (by decide)).trans (by first | rfl | kernel_rfl)
  · show X.A.depth + 1 < recursionLimit
    have := hr.dp
    omega
  · refine ⟨rfl, ?_⟩
    show MkP X pins σ Q (.ref (hp.objs.size + 1)) ⟨h', g, dr, tk', os⟩
    rcases D.obj with ⟨z, _⟩ | ⟨t1, d, mB, hx, hd, hde, hns, rel⟩
    · exact absurd z hne
    have hd' : hp.objs.size + 1 + 1 ≤ d := by
      first
        | (simpa only [Heap.size_push] using hd)
        | exact hd
    have old : ∀ b o, hp.get? b = some o → h'.get? b = some o := fun b o e => D.keep b o (Nat.ne_of_lt (Nat.lt_succ_of_lt (Heap.lt_size e))) (kk b o e)
    obtain ⟨G, g1, g2⟩ := restrict h' fun b => decide (b ≠ hp.objs.size + 1)
    have gk : ∀ b, b ≠ hp.objs.size + 1 → G.get? b = h'.get? b := fun b hb => g1 b (decide_eq_true hb)
    have ge : G.get? (hp.objs.size + 1) = none := g2 _ (by simp)
    have oldG : ∀ b o, hp.get? b = some o → G.get? b = some o := fun b o e => (gk b (Nat.ne_of_lt (Nat.lt_succ_of_lt (Heap.lt_size e)))).trans (old b o e)
    have ob : ObjOk X.prog X.w (upd H1 d (.xd (NmE.puts fs vs []))) G d (.xd (NmE.puts fs vs [])) := ⟨mB, hns.at (fun o e => (gk d hde).trans e), rel⟩
    have hds : hp.objs.size ≤ d := by omega
    have J : Inv X pins σ (upd H1 d (.xd (NmE.puts fs vs []))) ⟨G, g, dr, tk', os⟩ := I1.laid (t' := tk') oldG hds ob
    refine ⟨hp.objs.size + 1, _, _, ⟨G, g, dr, tk', os⟩, _, .ref C, some d, rfl, J, fun b o e => ?_, ge, hx, ⟨rfl, rfl⟩, rfl, rfl, ?_, rfl, I1.bare, raises_own T.exC T.tyC, q1 d (I1.hok.fresh hds)⟩
    · by_cases hb : b = hp.objs.size + 1
      · have e' : G.get? b = some o := e
        rw [hb, ge] at e'
        cases e'
      · exact (gk b hb).symm.trans e
    · rw [upd_ne (Ne.symm hde)]
      exact I1.hok.fresh (Nat.le_succ _)
/-- raise X(..) -/
def tRaiseE (C : Addr) (fs : List Str) (W : WX) (ta : TA) : TS := fun _ σ H => tErr C fs ta σ H fun cls d H' => W cls d σ H'
theorem ps_raiseE {e : Expr} {es : List Expr} {ta : TA} {W : WX} {p pos pos2 : Pos} {k : Nat} (hc : X.calm = true) (T : NmE.Err X.prog X.K X.mg xn C fs) (hne : fs ≠ []) (hr : Room k X.A) (tk : Takes X W) (ha : PA X (e :: es) ta) (hg : Gl X xn := by rfl) (hdb : (xn == ("__debug__" : Str)) = false := by decide)
    (he : starEach (e :: es) X.env = (false, eval e X.env) :: starEach es X.env := by rfl) (hpl : (backTo pos (starEach es X.env)).any (·.1) = false := by rfl) :
    PS X (.Raise (some (.Call (.Name xn p) (e :: es) [] pos)) none pos2) (tRaiseE C fs W ta) := ps_raise hc tk (pmk_err T hne hr ha hg hdb he hpl)
/-- e.f of the exception that an except suite holds -/
def tOfE (a : Addr) (C : Addr) (f : Str) (cls : Value) (d : Option Addr) (te : TE) : TE := fun σ H Q => te σ H fun x H1 => x = .ref a ∧ cls = .ref C ∧ ∃ (dd : Addr) (kvs : List (Str × V)) (v : V), d = some dd ∧ H1 dd = some (.xd kvs) ∧ kvs.lookup f = some v ∧ Q v H1
theorem pe_ofE {a : Addr} {oe : Obj} {cls : Value} {d : Option Addr} {pn : List (Addr × Obj)} {e : Expr} {te : TE} {pos : Pos} {f : Str} (T : NmE.Err X.prog X.K X.mg xn C fs) (hf : f ∈ fs) (hz : Zc cls d oe) (hfi : ∃ vs, oe.data = .fields vs) (he : PE (X.suite a ((a, oe) :: pn)) e te)
    (hb : attributeBase e f X.env (eval e X.env) = eval e X.env := by rfl) : PE (X.suite a ((a, oe) :: pn)) (.Attribute e f pos) (tOfE a C f cls d te) := by
  refine ⟨fun pins s σ H Q I h => ?_⟩
  refine attr_of hb (thn (he.run pins s σ H _ I h) fun u s1 ⟨x, H1, I1, rx, ex, ec, dd, kvs, v, ed, ea, lv, q⟩ => ?_)
  subst ex ec ed
  obtain rfl : u = Value.ref a := rx
  obtain ⟨ha, _⟩ := I1.pin (a, oe) (List.mem_append_left _ List.mem_cons_self)
  obtain ⟨vs, hd⟩ := hfi
  have hx : ObjOk X.prog X.w H1 s1.heap dd (.xd kvs) := I1.hok dd _ ea
  obtain ⟨mA, hns, hr⟩ := hx
  obtain ⟨od, ho, hl⟩ := lookIn_ns hns
  have rf := hr f
  rw [lv] at rf
  obtain ⟨u, hu, ru⟩ := RelO.some_of (v := v) (o := mA f) rf
  have J : PySem.W.InstAt s1.heap a oe C (some od) := ⟨ha, hz.1, by unfold PySem.W.notCls; rw [hd] <;> rfl, by rw [hz.2]; exact ho⟩
  exact HandSPX.exc_get I1.kIn J T.ga T.gg T.exC (PySem.W.findObj_own T.hdC (T.noN f hf) rfl (by rw [hl, hu])) (handed_of ru) ⟨v, H1, I1.tok _, ru, q⟩
end
end L2

/-! The own layer: try with several clauses, each with a name; a call of a parameter that holds a def, in a try. -/
namespace Nm
open PySem PySem.Spec PyProof.Rows L2
/-- a clause: the class, its name's slot, the reading of its suite -/
abbrev Cl3 := Value × Nat × (Addr → Value → Option Addr → TS)
/-- the ends of a suite whose name is in slot i: the name is taken away -/
def endsAt (i : Nat) (D : Ends) : Ends := { nx := fun σ H => D.nx (σ.set i none) H, rt := D.rt, bk := fun σ H => D.bk (σ.set i none) H, ct := fun σ H => D.ct (σ.set i none) H }
/-- what the clauses wish of an exception that leaves the body -/
def wClauses (K : PySem.W.Frag) (Wo : WX) (D : Ends) : List Cl3 → WX
  | [] => Wo
  | c :: l => fun cls d σ H => ∃ b, PySem.W.exmOne K cls c.1 = some b ∧ (b = true → ∀ a, H a = none → c.2.2 a cls d (endsAt c.2.1 D) (σ.set c.2.1 (some (.ref a))) H) ∧ (b = false → wClauses K Wo D l cls d σ H)
inductive Clauses (X : Cx) : List ExceptHandler → List Cl3 → Prop
  | nil : Clauses X [] []
  | cons {x n : Str} {c : Value} {i : Nat} {ts : Addr → Value → Option Addr → TS} {b₀ : Stmt} {suite : List Stmt} {np pos' : Pos} {hds : List ExceptHandler} {l : List Cl3} (hc : Names X x c) (hi : X.N[i]? = some n) (hln : X.env.kindOf n = some .local)
      (hsu : ∀ (a : Addr) (oe : Obj) (cls : Value) (d : Option Addr) (pn : List (Addr × Obj)), Zc cls d oe → (∃ vs, oe.data = .fields vs) → PSs (X.suite a ((a, oe) :: pn)) (b₀ :: suite) (ts a cls d)) (r : Clauses X hds l) :
      Clauses X (.ExceptHandler (some (.Name x np)) (some n) (b₀ :: suite) pos' :: hds) ((c, i, ts) :: l)
section
variable {X : Cx} {pins : List (Addr × Obj)} {σ : L2.St} {H : Hp} {D : Ends} {Wo : WX} {s' sI : Shared} {a : Addr} {B : Heap} {cls : Value} {d : Option Addr} {h3 : Heap}
theorem clauses_go (ok : X.Ok) (hs : X.stack = X.env :: X.outer) (hf : X.env.frame = some X.env.locals) (hN : X.N.Nodup) (tk : Takes X Wo) (J : Inv X pins σ H sI)
    (nb : ∀ b o, sI.heap.get? b = some o → b ∉ frs X.stack → B.get? b = some o) (up3 : sI.heap.UpToSlots h3) (na : H a = none) (os : s'.os = sI.os) (ag : AllBare s'.gens)
    (fl3 : HandSPX.FlyingZ B (X.env :: X.outer) a (Zc cls d) h3) (nL : a ≠ X.env.locals) (nF : a ∉ X.fs) :
    ∀ {hds : List ExceptHandler} {l : List Cl3}, Clauses X hds l → wClauses X.K Wo D l cls d σ H → wpAny (model X.prog X.w) X.A (handleBy (.ref a) X.env hds) (SP X pins D) X.xe { s' with heap := h3 } := by
  obtain ⟨o3, v3, e3, z3, d3⟩ := fl3.there
  have J3 : Inv X pins σ H { s' with heap := h3 } := J.landed nb fl3.1 up3 os ag
  have S3 := J3.suite e3 d3 na nL nF
  intro hds l hk
  induction hk with
  | nil =>
    intro w
    refine wpAny_handleBy_nil ?_
    obtain ⟨_, _, _, oe, vs, T, oT, ts', he, _, hd, h1, _⟩ := id fl3
    unfold PySem.passOn
    refine wpAny_bind (wpAny_field he hd h1 ?_)
    rw [if_neg (show ¬ ((Value.ref T == Value.none) = true) from by simp)]
    have on : wpAny (model X.prog X.w) X.A (setFlight (.ref a) X.env.frame) (fun _ s4 => wpAny (model X.prog X.w) X.A (throw (.ref a) : Sem Flow) (SP X pins D) X.xe s4) X.xe { s' with heap := h3 } := by
      rw [hf]
      exact HandSPX.setFlight_upZ fl3 fun h4 held up4 => wpAny_throw (tk _ _ ⟨a, B, sI, pins, σ, H, cls, d, rfl, J, nb, up3.trans up4, .inr (.inr (by rw [hs]; exact held)), na, os, ag, w⟩)
    first
      | exact wpAny_bind (wpAny_pure (wpAny_bind on))
      | exact wpAny_bind on
  | @cons x n c i ts b₀ suite np pos' hds2 l2 hc hi hln hsu r ih =>
    rintro ⟨b, hb, yes, no⟩
    refine wpAny_handleBy_cons (codeAny_handlers_test ?_) (by intro q; cases q)
    have its : PySem.W.Looks (model X.prog X.w) h3 (typeOf (.ref a)) cls := fun A Q E s k q => wpAny_typeOf_ref (k _ _ e3) (by rw [z3.1]; exact q)
    have LM := PySem.W.exm_one (M := model X.prog X.w) J3.kIn its hb
    have asked : ∀ {Q : Value → Shared → Prop} {E : Value → Shared → Prop}, Q c { s' with heap := h3 } → wpAny (model X.prog X.w) (X.A.mark (some (.ref a))) (eval (.Name x np) X.env) Q E { s' with heap := h3 } := fun {Q E} q => by
      obtain ⟨hg, dbg, hm | ⟨hm, hv, nn⟩⟩ := hc
      · exact ld_glob (X := X.suite a ((a, o3) :: (X.pn ++ pins))) S3 hg hm q dbg
      · exact ld_blt (X := X.suite a ((a, o3) :: (X.pn ++ pins))) S3 hg hm hv q nn dbg
    refine asked (LM.here ?_)
    cases b with
    | false => exact ih (no rfl)
    | true =>
      refine codeAny_handlers_suite_as (HandSPX.lands_againZ fl3 fun h4 fl4 up4 => ?_)
      obtain ⟨o4, v4, e4, z4, d4⟩ := fl4.there
      have S4 := (J.landed (s' := { s' with heap := h4 }) nb fl4.1 (up3.trans up4) os ag).suite e4 d4 na nL nF
      refine store_ok (X := X.suite a ((a, o4) :: (X.pn ++ pins))) (v := .ref a) S4 hN hi (.inl hln) rfl (fun s5 S5 => ?_) (.inr hln)
      refine wpAny_mono ((hsu a o4 cls d (X.pn ++ pins) z4 ⟨_, d4⟩).run [] s5 _ H _ S5 (yes rfl a na)) (fun f s6 hsp => ?_) (fun _ _ z => False.elim z)
      have gone : ∀ {σ6 : L2.St} {H6 : Hp} {Q : Shared → Prop}, Inv (X.suite a ((a, o4) :: (X.pn ++ pins))) [] σ6 H6 s6 → (∀ s7, Inv X pins (σ6.set i none) H6 s7 → Q s7) →
          wpAny (model X.prog X.w) X.A (do bindName X.env n .none; unbindBehindTheSuite X.env n pos') (fun _ s7 => Q s7) X.xe s6 := fun S6 hq => gone_ok (S6.unsuite ok) hN hi hln hq
      cases f with
      | ret u =>
        obtain ⟨v6, _, _, S6, r6, q6⟩ := hsp
        exact gone S6 fun s7 J7 => ⟨_, _, _, J7, r6, q6⟩
      | next =>
        obtain ⟨_, _, S6, q6⟩ := hsp
        exact gone S6 fun s7 J7 => ⟨_, _, J7, q6⟩
      | brk =>
        obtain ⟨_, _, S6, q6⟩ := hsp
        exact gone S6 fun s7 J7 => ⟨_, _, J7, q6⟩
      | cont =>
        obtain ⟨_, _, S6, q6⟩ := hsp
        exact gone S6 fun s7 J7 => ⟨_, _, J7, q6⟩
theorem ps_clauses {body : List Stmt} {h₀ : ExceptHandler} {hds : List ExceptHandler} {l : List Cl3} {pos : Pos} {tb : WX → TS} (hs : X.stack = X.env :: X.outer) (hf : X.env.frame = some X.env.locals) (hN : X.N.Nodup) (tk : Takes X Wo)
    (hb : ∀ (W : WX) (pn : List (Addr × Obj)) (xe : Value → Shared → Prop), Takes (X.tr pn xe) W → PassesOwn (model X.prog X.w) X.A X.env xe → PSs (X.tr pn xe) body (tb W)) (hh : Clauses X (h₀ :: hds) l) :
    PS X (.Try body (h₀ :: hds) [] [] pos) (fun D σ H => tb (wClauses X.K Wo D l) D σ H) := by
  refine ⟨fun pins s σ H D I h => wpAny_Try_except ?_⟩
  have ok := I.ok
  have hfr : X.A.frames = some (X.env :: X.outer) := by rw [ok.frames, hs]
  refine wpAny_mono ((hb (wClauses X.K Wo D l) (X.pn ++ pins) (fun e s₁ => wpAny (model X.prog X.w) X.A (noteFrame e X.env) (fun _ s₂ => wpAny (model X.prog X.w) X.A (setFlight e none) (fun _ s₃ =>
    wpAny (model X.prog X.w) X.A (handleBy e X.env (h₀ :: hds)) (SP X pins D) X.xe s₃) X.xe s₂) X.xe s₁) (fun u s' caught => ?_) PassesOwn.looking).run [] s σ H D (I.toTry _) h) (fun f s1 ran => ?_) (fun _ _ z => z)
  · obtain ⟨a, B, sI, _, σ', H', cls, d, rfl, JT, nb, up, sky, na, os, ag, w⟩ := caught
    have J : Inv X pins σ' H' sI := JT.ofTry ok
    rw [show (X.tr (X.pn ++ pins) _).stack = X.env :: X.outer from hs] at sky
    show wpAny (model X.prog X.w) X.A (noteFrame (.ref a) X.env) _ _ _
    refine Sky.land Zc.steady hfr hf sky fun h3 fl3 up3 => ?_
    obtain ⟨o3, v3, e3, _, d3⟩ := fl3.there
    have apart : a ∉ frs (X.env :: X.outer) := fun hm => by
      obtain ⟨_, o', e', hnf⟩ := fl3.2.2.1.mem hm
      rw [e3] at e'
      cases e'
      exact hnf _ d3
    have nL : a ≠ X.env.locals := fun z => apart (List.mem_filterMap.mpr ⟨X.env, List.mem_cons_self, by rw [hf, z]⟩)
    have nF : a ∉ X.fs := fun hm => by
      obtain ⟨e, he, q⟩ := List.mem_filterMap.mp hm
      exact apart (List.mem_filterMap.mpr ⟨e, List.mem_cons_of_mem _ he, q⟩)
    exact clauses_go ok hs hf hN tk J nb (up.trans up3) na os ag fl3 nL nF hh w
  · cases f with
    | ret u =>
      obtain ⟨v, _, _, J, r, q⟩ := ran
      exact ⟨v, _, _, J.ofTry ok, r, q⟩
    | next =>
      obtain ⟨_, _, J, q⟩ := ran
      exact wpAny_execs_nil ⟨_, _, J.ofTry ok, q⟩
    | brk =>
      obtain ⟨_, _, J, q⟩ := ran
      exact ⟨_, _, J.ofTry ok, q⟩
    | cont =>
      obtain ⟨_, _, J, q⟩ := ran
      exact ⟨_, _, J.ofTry ok, q⟩
end
/-- a parameter called that holds a def; what it raises is wished for at the slots -/
def tCallP (i : Nat) (f : Addr) (sp : Sp) (E : L2.St → XK) (t : TA) : TE := fun σ H Q => σ[i]? = some (some (.ref f)) ∧ t σ H fun vs H1 => sp vs H1 Q (E σ)
theorem pe_callP {X : Cx} {CX : CXT} {k i : Nat} {f : Addr} {fd : FuncData} {ps : List Str} {sp : Sp} {E : L2.St → XK} {x : Str} {p pos : Pos} {e : Expr} {es : List Expr} {t : TA}
    (F : FnOk X.prog X.w X.K X.mg X.base CX k f fd ps sp) (hr : Room k X.A) (hN : X.N[i]? = some x) (hv : Vis X.env.scope x) (hk : PySem.W.keepIn X.K (.ref f) = true) (hb : Binds X.K fd ps []) (hx : ∀ σ, PassesAt CX X σ (E σ)) (ha : PA X (e :: es) t)
    (hdb : (x == ("__debug__" : Str)) = false := by decide) (hcd : (x == ("__classdict__" : Str)) = false := by decide)
    (he : starEach (e :: es) X.env = (false, eval e X.env) :: starEach es X.env := by rfl) (hpl : (backTo pos (starEach es X.env)).any (·.1) = false := by rfl) : PE X (.Call (.Name x p) (e :: es) [] pos) (tCallP i f sp E t) := by
  refine ⟨fun pins s σ H Q I ⟨hs, ht⟩ => ?_⟩
  refine wpAny_Call_Name_kw (thn ((pe_var (pos := p) hN hv hdb hcd).run pins s σ H (fun v H1 => v = .ref f ∧ H1 = H) I ⟨.ref f, hs, rfl, rfl⟩) fun u s1 ⟨v, H1, I1, r1, ev, eH⟩ => ?_)
  subst ev eH
  obtain rfl : u = Value.ref f := r1
  exact PySem.W.callWith_K (h₀ := X.base) I.ok.mod.kin hk (thn (ha.run pos pins s1 σ _ _ I1 ht) fun us s2 ⟨vs, H2, I2, r, q⟩ => ⟨I2.kIn, run_fnS F hr hb (hx σ) I2 r q⟩) he hpl
end Nm

/-! The own layer: tuple(d), split, join, str(n), lists added, three targets, raise, comprehensions that draw. -/
namespace Nm
open PySem PySem.Spec PyProof.Rows L2
section
open PySem.W
variable {prog : Program} {w : World} {A : Around} {E : Value → Shared → Prop} {s : Shared} {T : String} {r d : Addr} {n : Nat} {P : Nat → Value → Prop} {OK : Heap → Prop}
theorem new_tuple_src {Q₁ : Value → Shared → Prop} (KS : KdlSrc prog w "dict" r d n P OK) (hh : A.handled = none) (hok : OK s.heap) (hn : n ≤ sizeLine)
    (h : ∀ (h' : Heap) (tk : Nat) (acc : Array Value), (∀ b o, s.heap.get? b = some o → h'.get? b = some o) → ItemsOf P acc n → Q₁ (.ref h'.objs.size) { s with heap := h'.push { cls := .type "tuple", data := .seq acc }, toks := tk }) :
    codeAny (model prog w) A (.call (.builtin "tuple.__new__") ⟨[.type "tuple", .ref r], []⟩) (wants Q₁ E) s := by
  refine codeAny_of_tree ?_
  show wpAny _ A.in1 (do checkBuiltinCall "tuple.__new__" ⟨[.type "tuple", .ref r], []⟩; again (.builtin "tuple.__new__" ⟨[.type "tuple", .ref r], []⟩)) _ _ s
  refine wpAny_bind (wpAny_of_eq (F.newCall_tuple_1 _) (wpAny_pure ⟨plainId_quiet F.plain_tuple_new _, codeAny_builtin F.entry_tuple_new ?_⟩))
  rw [Around.under_plainId F.plain_tuple_new _]
  have f1 := sub_tuple_self
  have f2 := init_tuple_lookup
  have f3 := madeHere_tuple
  have ty : s.TypeIs (.ref r) "dict" := KS.type s hok
  have hh1 : A.in1.handled = none := hh
  wp_walk using wpAny_typeOf ty, kdu_collect (A := A.in1) KS hh1 hok hn
  intro h' tk acc hk hacc
  show wpAny _ _ (Builtin.Tuple.tupleExact acc.toList.toArray >>= fun v => ret v) _ _ _
  unfold Builtin.Tuple.tupleExact
  rw [Array.toArray_toList]
  exact wpAny_bind (wpAny_newObj_type (wpAny_pure (h h' tk acc hk hacc)) (by show acc.size ≤ sizeLine; rw [hacc.1]; exact hn))
theorem call_tuple_src {Q : Value → Shared → Prop} (KS : KdlSrc prog w "dict" r d n P OK) (hh : A.handled = none) (hok : OK s.heap) (hn : n ≤ sizeLine)
    (hQ : ∀ (h' : Heap) (tk : Nat) (acc : Array Value), (∀ b o, s.heap.get? b = some o → h'.get? b = some o) → ItemsOf P acc n → Q (.ref h'.objs.size) { s with heap := h'.push { cls := .type "tuple", data := .seq acc }, toks := tk }) :
    wpAny (model prog w) A (call (.type "tuple") [.ref r]) Q E s := by
  refine callType_codes (Q₁ := fun obj s₁ => s₁.TypeIs obj "tuple" ∧ Q obj s₁) F.called_tuple (F.typeCall_tuple_1 _) F.entry_object_init
    (new_tuple_src (A := A.in1) KS hh hok hn fun h' tk acc hk hacc => ⟨⟨_, Heap.get?_push_size _ rfl, rfl⟩, hQ h' tk acc hk hacc⟩) fun obj s₁ h₁ => ?_
  exact ⟨h₁.1, F.args_object_init_2 obj _, object_init_meets F.called_tuple.init.lookup F.called_tuple.made (by decide) prog w A.in1 _ s₁ ⟨h₁.1, rfl, h₁.2⟩⟩
end
/-- tuple(d): the keys in their order -/
def rTupD : List V → Hp → VK → Prop := fun xs H Q => ∃ p kvs, xs = [.ref p] ∧ H p = some (.dK kvs) ∧ ∀ q, H q = none → Q (.ref q) (upd H q (.tup (kvs.map fun kv => kV kv.1)))
theorem call_tupleD {X : Cx} (hc : X.calm = true) : CallR X (.type "tuple") rTupD := by
  intro pins s σ H xs us Q I r ⟨p, kvs, e, hk, q⟩
  subst e
  obtain ⟨u, rfl, rx⟩ := vals1 r
  obtain rfl : u = Value.ref p := rx
  obtain ⟨z, lo, vs, rk, hd⟩ := (show ObjOk X.prog X.w H s.heap p (.dK kvs) from I.hok p _ hk)
  obtain ⟨ep, hat⟩ := hd.dictAt
  have hl : kvs.length = vs.length := Paired.length rk
  refine call_tuple_src (PySem.W.kdl_dict (knd := mixKind X.prog X.w) (kvs := vs) (ep := ep) lo) (I.ok.hd hc) hat (by rw [← hl]; exact z) fun h' tk acc kp items => ?_
  have keys : (kvs.map fun kv => kV kv.1) = (kvs.map (·.1)).map kV := by rw [List.map_map]; rfl
  have hz : acc.size ≤ sizeLine := by rw [items.1, ← hl]; exact z
  have rv : Vals (kvs.map fun kv => kV kv.1) acc.toList := by
    refine vals_of_at (by rw [List.length_map, Array.length_toList]; exact hl.trans items.1.symm) fun j x w h1 h2 => ?_
    obtain ⟨k, y, hky, hi⟩ := items.2 j w (by rw [← Array.getElem?_toList]; exact h2)
    rw [keys, List.getElem?_map, KV.keys rk, List.getElem?_map, hky] at h1
    cases h1
    exact keyIs_rel hi
  have I1 : Inv X pins σ H { s with heap := h', toks := tk } := I.kept (t' := tk) kp
  refine ⟨.ref h'.objs.size, upd H h'.objs.size (.tup (kvs.map fun kv => kV kv.1)), I1.laid (t' := tk) (fun b o e => Heap.get?_push_of_some _ e) (Nat.le_refl _) (show ObjOk X.prog X.w _ _ _ (.tup (kvs.map fun kv => kV kv.1)) from ⟨?_, acc.toList, rv, ?_⟩), rfl, q _ (I1.hok.fresh (Nat.le_refl _))⟩
  · rw [List.length_map]; exact z
  · rw [Array.toArray_toList]; exact IsTup.new _ _
/-! ### readings by names -/
def nStr : List V → Hp → VK → Prop := fun xs H Q => ∃ i, xs = [.int i] ∧ i.natAbs.log2 < 1920 ∧ Q (.str (toString i)) H
def nSplit : V → List V → Hp → VK → Prop := fun x xs H Q => ∃ a b, x = .str a ∧ xs = [.str b] ∧ (b.length == 0) = false ∧ a.length + 2 ≤ sizeLine ∧ rNewStrs (Txt.split a b) H Q
def nJoin (K : PySem.W.Frag) : V → List V → Hp → VK → Prop := fun x xs H Q => ∃ a p, ∃ ys : List Str, x = .str a ∧ xs = [.ref p] ∧ (SqL K H p (ys.map V.str) ∨ SqT K H p (ys.map V.str)) ∧ (ys.map (·.length)).sum + ys.length * a.length ≤ 16777216 ∧ Q (.str (Txt.join a ys)) H
section
variable {X : Cx} {o e : Expr} {to te : TE}
theorem call_strI : CallR X (.type "str") nStr := call_str_int
theorem op_catL : OpR X (binaryOp .Add) rCat := op_cat
theorem pe_splitN {apos pos : Pos} (ho : PE X o to) (he : PE X e te) (hs : starEach [e] X.env = [(false, eval e X.env)] := by rfl) (hbase : attributeBase o "split" X.env (eval o X.env) = eval o X.env := by rfl) (hline : (apos.endLine == pos.line) = true := by rfl) :
    PE X (.Call (.Attribute o "split" apos) [e] [] pos) (tM1 nSplit to te) := pe_split ho he hs hbase hline
theorem pe_joinN {apos pos : Pos} (ho : PE X o to) (he : PE X e te) (hs : starEach [e] X.env = [(false, eval e X.env)] := by rfl) (hbase : attributeBase o "join" X.env (eval o X.env) = eval o X.env := by rfl) (hline : (apos.endLine == pos.line) = true := by rfl) :
    PE X (.Call (.Attribute o "join" apos) [e] [] pos) (tM1 (nJoin X.K) to te) := pe_join ho he hs hbase hline
/-- what a called def raises goes on out -/
theorem passX {E : XK} (tk : Takes X (fun cls d _ H => E cls d H)) : Passes (L2.CX X.prog X.w) X E := fun _ _ _ _ e s' I c => tk e s' (XE.of_call I (fun _ _ _ h => h) c)
/-- a def that may raise and here does not -/
theorem passF : Passes (L2.CX X.prog X.w) X (fun _ _ _ => False) := fun _ _ _ _ _ _ _ ⟨_, _, _, _, _, _, _, _, _, _, _, _, z⟩ => z.elim
end
section
variable {σ : L2.St} {H : Hp} {Q : VK} {ta te to : TE} {t : TA} {D : Ends} {K : PySem.W.Frag} {x y : V}
def kM1 (r : V → List V → Hp → VK → Prop) (te : TE) (σ : L2.St) (Q : VK) : VK := fun x H1 => (∃ a, x = .str a) ∧ te σ H1 fun y H2 => r x [y] H2 Q
theorem z_m1 {r : V → List V → Hp → VK → Prop} (h : to σ H (kM1 r te σ Q)) : tM1 r to te σ H Q := h
theorem z_kM1 {r : V → List V → Hp → VK → Prop} {a : Str} (h : te σ H fun y H2 => r (.str a) [y] H2 Q) : kM1 r te σ Q (.str a) H := ⟨⟨a, rfl⟩, h⟩
theorem z_split {a b : Str} (hb : (b.length == 0) = false) (hz : a.length + 2 ≤ sizeLine) (k : ∀ p H', H p = none → Same H H' → H' p = some (.lst ((Txt.split a b).map V.str)) → Q (.ref p) H') : nSplit (.str a) [.str b] H Q :=
  ⟨a, b, rfl, rfl, hb, hz, new_by (R := fun p H' => Q (.ref p) H') fun p H' a b c _ => k p H' a b c⟩
theorem z_join {a : Str} {p : Addr} {ys : List Str} (h : SqL K H p (ys.map V.str)) (hz : (ys.map (·.length)).sum + ys.length * a.length ≤ 16777216) (q : Q (.str (Txt.join a ys)) H) : nJoin K (.str a) [.ref p] H Q := ⟨a, p, ys, rfl, rfl, .inl h, hz, q⟩
theorem z_strI {i : Int} (hz : i.natAbs.log2 < 1920) (q : Q (.str (toString i)) H) : nStr [.int i] H Q := ⟨i, rfl, hz, q⟩
theorem z_catL {p q : Addr} {xs ys : List V} (h1 : H p = some (.lst xs)) (h2 : H q = some (.lst ys)) (hl : xs.length + ys.length ≤ sizeLine) (k : ∀ p H', H p = none → Same H H' → H' p = some (.lst (xs ++ ys)) → Q (.ref p) H') : rCat (.ref p) (.ref q) H Q :=
  ⟨p, q, xs, ys, rfl, rfl, h1, h2, hl, new_by (R := fun p H' => Q (.ref p) H') fun p H' a b c _ => k p H' a b c⟩
def kPar3 (i j l : Nat) (D : Ends) (σ : L2.St) : List V → Hp → Prop := fun vs H1 => ∃ u v w, vs = [u, v, w] ∧ D.nx (((σ.set i (some u)).set j (some v)).set l (some w)) H1
theorem z_par3 {i j l : Nat} (h : t σ H (kPar3 i j l D σ)) : tPar3 i j l t D σ H := h
theorem z_kPar3 {i j l : Nat} {u v w : V} (h : D.nx (((σ.set i (some u)).set j (some v)).set l (some w)) H) : kPar3 i j l D σ [u, v, w] H := ⟨u, v, w, rfl, h⟩
theorem z_isB {a b : Bool} (q : Q (.bl (decide (a = b))) H) : rIsB (.bl a) (.bl b) H Q := ⟨a, b, rfl, rfl, q⟩
theorem z_notB {a b : Bool} (q : Q (.bl (!decide (a = b))) H) : rNotB (.bl a) (.bl b) H Q := ⟨a, b, rfl, rfl, q⟩
theorem z_dnewK (k : ∀ p H', H p = none → Same H H' → H' p = some (.dK []) → Q (.ref p) H') : tDNewK σ H Q := new_by (R := fun p H' => Q (.ref p) H') fun p H' a b c _ => k p H' a b c
theorem z_tupD {p : Addr} {kvs : List (Key × V)} (h : H p = some (.dK kvs)) (k : ∀ q H', H q = none → Same H H' → H' q = some (.tup (kvs.map fun kv => kV kv.1)) → Q (.ref q) H') : rTupD [.ref p] H Q := ⟨p, kvs, rfl, h, new_by (R := fun p H' => Q (.ref p) H') fun p H' a b c _ => k p H' a b c⟩
def kErr (C : Addr) (fs : List Str) (W : WX) (σ : L2.St) : List V → Hp → Prop := fun vs H1 => vs.length = fs.length ∧ ∀ d, H1 d = none → W (.ref C) (some d) σ (upd H1 d (.xd (NmE.puts fs vs [])))
theorem z_raiseE {C : Addr} {fs : List Str} {W : WX} (h : t σ H (kErr C fs W σ)) : tRaiseE C fs W t D σ H := h
theorem z_kErr {C : Addr} {fs : List Str} {W : WX} {vs : List V} (hl : vs.length = fs.length) (k : ∀ d H', H d = none → Same H H' → H' d = some (.xd (NmE.puts fs vs [])) → W (.ref C) (some d) σ H') : kErr C fs W σ vs H := ⟨hl, fun d hd => k d _ hd (Same.new hd) upd_same⟩
theorem z_kIE' {R : It → Hp → Prop} {a : Addr} {xs : List V} (h : SqL K H a xs) (q : R (Ite K a) H) : (fun (vs : List V) (H1 : Hp) => ∃ a xs, vs = [.ref a] ∧ SqL K H1 a xs ∧ R (Ite K a) H1) [.ref a] H := ⟨a, xs, rfl, h, q⟩
end
end Nm

/-! The own layer: comprehensions over enumerate(list), comprehensions that draw; parts of texts. -/
namespace Nm
open PySem PySem.Spec PyProof.Rows L2
section
variable {te : TE} {tt : TT} {σ : L2.St} {H : Hp} {Q : VK} {K : PySem.W.Frag}
theorem walk_enumL {a : Addr} {xs : List V} : Walk (Ite K a) xs.length (fun H => SqL K H a xs) (fun i H v H' => ∃ T x, v = .ref T ∧ H T = none ∧ xs[i]? = some x ∧ H' = upd H T (.tup [.int (i : Nat), x])) where
  goes := fun i H hi g => ⟨xs, xs[i], g, List.getElem?_eq_getElem hi⟩
  stops := fun H g => ⟨xs, g, Nat.le_refl _⟩
  yields := fun i H v H' hi g y => by
    obtain ⟨T, x, ev, hT, eH, q⟩ := y
    exact ⟨T, x, ev, hT, q xs g, eH⟩
theorem wipe_two {σ : L2.St} {i j : Nat} {x y : Option V} (h : i ≠ j) : wipe (((wipe σ [i, j]).set i x).set j y) [i, j] = wipe σ [i, j] := by
  show (((((σ.set j none).set i none).set i x).set j y).set j none).set i none = (σ.set j none).set i none
  apply List.ext_getElem?
  intro n
  simp only [List.getElem?_set, List.length_set]
  by_cases h1 : i = n <;> by_cases h2 : j = n <;> simp [h1, h2]
/-- [f(i, p) for i, p in enumerate(ps)], truth values -/
theorem l_enumB {ps : List Str} {a : Addr} {i0 j0 : Nat} (f : Nat → Str → Bool) (hz : ps.length ≤ 1000000) (hs : SqL K H a (ps.map V.str)) (hij : i0 ≠ j0)
    (he : ∀ (i : Nat) (p : Str) H1, ps[i]? = some p → Same H H1 → ∀ Q' : VK, (∀ H2, Same H1 H2 → Q' (.bl (f i p)) H2) → te (((wipe σ [i0, j0]).set i0 (some (.int (i : Nat)))).set j0 (some (.str p))) H1 Q')
    (k : ∀ D H', H D = none → Same H H' → H' D = some (.lst ((ps.zipIdx.map fun q => f q.2 q.1).map V.bl)) → Q (.ref D) H') : kLc (gTup K 2 (gCons (gName i0) (gCons (gName j0) gNil))) tYes te [i0, j0] σ Q (Ite K a) H := fun D hD => by
  have hl : (ps.map V.str).length = ps.length := List.length_map ..
  have hw := walk_enumL (K := K) (a := a) (xs := ps.map V.str)
  refine lc_it hw (Pv := fun i H1 => Same H H1 ∧ H1 D = some (.lst (((ps.zipIdx.take i).map fun q => f q.2 q.1).map V.bl))) ⟨Same.new hD, by rw [upd_same]; simp⟩ (fun i H1 _ ⟨s, _⟩ => s.seq hs) ?_ ?_
  · rintro i x H1 H1' hi ⟨s1, h1⟩ ⟨T, v, ex, hT, hv, eH⟩
    subst ex eH
    rw [hl] at hi
    have hp : ps[i]? = some ps[i] := List.getElem?_eq_getElem hi
    rw [List.getElem?_map, hp] at hv
    cases hv
    refine ⟨T, _, rfl, SqT.of upd_same, rfl, _, _, rfl, _, _, rfl, rfl, wipe_two hij, ?_⟩
    refine z_tYes (iteT ?_)
    refine he i ps[i] _ hp (s1.trans (Same.new hT)) _ fun H2 s2 => ?_
    refine ⟨_, s2 _ _ (Same.new hT _ _ h1), ?_, Nm.Same.mut ((s1.trans (Same.new hT)).trans s2) hD, ?_⟩
    · rw [List.length_map, List.length_map, List.length_take, List.length_zipIdx, sizeLine_eq]
      omega
    · rw [upd_same, List.take_add_one]
      have e : ps.zipIdx[i]? = some (ps[i], i) := by
        rw [List.getElem?_zipIdx, hp]
        simp
      rw [e]
      simp
  · rintro H1 ⟨s1, h1⟩
    refine k D H1 hD s1 ?_
    rw [h1, hl]
    rw [List.take_of_length_le (by rw [List.length_zipIdx]; exact Nat.le_refl _)]
/-- [.. for k in range(n)] whose items are drawn: each of them costs at most c draws -/
theorem l_draw {n : Nat} {i0 : Nat} {d c : Addr} {m : Nat} (cost : Nat) (Pr : V → Prop) (hn : n ≤ 1000) (hp : Pen K H d c (m + cost * n))
    (he : ∀ (i : Nat) H1 j, i < n → But d H H1 → Pen K H1 d c (j + cost) → ∀ Q' : VK, (∀ v H2, Pr v → But d H1 H2 → Pen K H2 d c j → Q' v H2) → te ((σ.set i0 none).set i0 (some (.int (0 + (i : Nat))))) H1 Q')
    (k : ∀ D H' ys, H D = none → But d H H' → Pen K H' d c m → ys.length = n → (∀ y ∈ ys, Pr y) → H' D = some (.lst ys) → Q (.ref D) H') : kLc (gName i0) tYes te [i0] σ Q (Itr 0 n) H := fun D hD => by
  have nd : D ≠ d := hp.ne hD
  refine lc_it walk_range (Pv := fun i H1 => But d H H1 ∧ i ≤ n ∧ Pen K H1 d c (m + cost * (n - i)) ∧ ∃ ys : List V, H1 D = some (.lst ys) ∧ ys.length = i ∧ ∀ y ∈ ys, Pr y) ⟨same_but (Same.new hD), Nat.zero_le _, ?_, [], upd_same, rfl, fun _ h => by cases h⟩ (fun _ _ _ _ => trivial) ?_ ?_
  · exact hp.mut hD hp
  · rintro i x H1 H1' hi ⟨b1, _, p1, ys, h1, hl, hpr⟩ ⟨eH, ex⟩
    subst eH ex
    refine ⟨set_none_twice, ?_⟩
    refine z_tYes (iteT ?_)
    have e1 : m + cost * (n - i) = m + cost * (n - (i + 1)) + cost := by
      have e2 : n - i = (n - (i + 1)) + 1 := by omega
      rw [e2, Nat.mul_add, Nat.mul_one, Nat.add_assoc]
    rw [e1] at p1
    refine he i _ _ hi b1 p1 _ fun v H2 hv b2 p2 => ?_
    refine ⟨ys, b2 _ _ nd h1, ?_, fun a o hne e => ?_, hi, ?_, ys ++ [v], upd_same, by simp [hl], ?_⟩
    · rw [sizeLine_eq]
      omega
    · rw [upd_ne (ne_of_none e hD)]
      exact b2 _ _ hne (b1 _ _ hne e)
    · exact hp.mut hD p2
    · intro y hy
      rcases List.mem_append.mp hy with q | q
      · exact hpr y q
      · rw [List.mem_singleton.mp q]
        exact hv
  · rintro H1 ⟨b1, _, p1, ys, h1, hl, hpr⟩
    rw [Nat.sub_self, Nat.mul_zero, Nat.add_zero] at p1
    exact k D H1 ys hD b1 p1 hl hpr h1
end
/-! lists of texts, cut -/
def cutL (ys : List Str) (lo hi : Option Int) : List Str := (ys.drop (HT.sIx ys.length 0 lo)).take (HT.sIx ys.length ys.length hi - HT.sIx ys.length 0 lo)
theorem cutV_strs (ys : List Str) (lo hi : Option Int) : cutV (ys.map V.str) lo hi = (cutL ys lo hi).map V.str := by
  unfold cutV cutL
  rw [List.length_map, List.map_take, List.map_drop]
theorem cutL_to (ys : List Str) (k : Nat) : cutL ys none (some (k : Int)) = ys.take k := by
  unfold cutL
  rw [HT.sIx_nat, HT.sIx_none, List.drop_zero, Nat.sub_zero, Nat.min_def]
  split
  · rfl
  · rw [List.take_length, List.take_of_length_le (by omega)]
theorem cutL_neg (ys : List Str) (k : Nat) (h : 0 < k) : cutL ys none (some (-(k : Int))) = ys.take (ys.length - k) := by
  unfold cutL
  have e : HT.sIx ys.length ys.length (some (-(k : Int))) = ys.length - k := by
    show (if (-(k : Int)) < 0 then ((-(k : Int)) + (ys.length : Int)).toNat else min (-(k : Int)).toNat ys.length) = _
    rw [if_pos (by omega)]
    omega
  rw [e, HT.sIx_none, List.drop_zero, Nat.sub_zero]
theorem cut_neg (z : Str) (k : Nat) (h : 0 < k) : tl (cutS z none (some (-(k : Int)))) = (tl z).take ((tl z).length - k) := by
  have e : HT.sIx z.length z.length (some (-(k : Int))) = z.length - k := by
    show (if (-(k : Int)) < 0 then ((-(k : Int)) + (z.length : Int)).toNat else min (-(k : Int)).toNat z.length) = _
    rw [if_pos (by omega)]
    omega
  rw [tl_cut, e, HT.sIx_none, List.drop_zero, Nat.sub_zero, str_len]
theorem cut_le (z : Str) (lo hi : Option Int) : (cutS z lo hi).length ≤ z.length := by
  rw [str_len, tl_cut, List.length_take, List.length_drop, str_len]
  omega
theorem cut_sub (z : Str) (lo hi : Option Int) : ∀ c ∈ tl (cutS z lo hi), c ∈ tl z := fun c hc => by
  rw [tl_cut] at hc
  exact List.mem_of_mem_drop (List.mem_of_mem_take hc)
theorem join_len (b : Str) : ∀ ys : List Str, ys ≠ [] → (Str.join b ys).length + b.length = (ys.map (·.length)).sum + ys.length * b.length
  | [], h => absurd rfl h
  | [x], _ => by
    show x.length + b.length = _
    simp
  | x :: y :: r, _ => by
    have ih := join_len b (y :: r) (by simp)
    show (x ++ b ++ Str.join b (y :: r)).length + b.length = _
    rw [app_len, app_len]
    simp only [List.map_cons, List.sum_cons, List.length_cons] at ih ⊢
    rw [Nat.succ_mul]
    omega
/-- the parts of a text together are no longer than the text -/
theorem split_sum (z b : Str) : ((Txt.split z b).map (·.length)).sum + ((Txt.split z b).length - 1) * b.length = z.length := by
  have hp := PyProof.Rows.split_pos z b
  have hne : Txt.split z b ≠ [] := fun e => by rw [e] at hp; exact absurd hp (by decide)
  have h := join_len b _ hne
  rw [StrLaws.join_split] at h
  have e : (Txt.split z b).length * b.length = ((Txt.split z b).length - 1) * b.length + b.length := by
    rw [← Nat.succ_mul]
    congr 1
    omega
  omega
theorem mem_le_sum : ∀ {l : List Nat} {n : Nat}, n ∈ l → n ≤ l.sum
  | a :: l, n, h => by
    rw [List.sum_cons]
    rcases List.mem_cons.mp h with q | q
    · omega
    · have := mem_le_sum q
      omega
theorem split_part {z b p : Str} (h : p ∈ Txt.split z b) : p.length ≤ z.length := by
  have := split_sum z b
  have := mem_le_sum (List.mem_map_of_mem (f := (·.length)) h)
  omega
theorem sum_take (l : List Nat) (n : Nat) : (l.take n).sum ≤ l.sum := by
  have h := congrArg List.sum (List.take_append_drop n l)
  rw [List.sum_append] at h
  omega
section
variable {σ : L2.St} {H : Hp} {K : PySem.W.Frag} {ta : TA} {R : It → Hp → Prop}
def kIEn (K : PySem.W.Frag) (R : It → Hp → Prop) : List V → Hp → Prop := fun vs H1 => ∃ a xs, vs = [.ref a] ∧ SqL K H1 a xs ∧ R (Ite K a) H1
theorem z_iEnum (h : ta σ H (kIEn K R)) : iEnum K ta σ H R := h
theorem z_kIEn {a : Addr} {xs : List V} (h : SqL K H a xs) (q : R (Ite K a) H) : kIEn K R [.ref a] H := ⟨a, xs, rfl, h, q⟩
end
theorem same_none {H H1 : Hp} {d : Addr} (s : Same H H1) (h : H1 d = none) : H d = none := by
  cases e : H d with
  | none => rfl
  | some o =>
    rw [s _ _ e] at h
    cases h
theorem but_none {H H1 : Hp} {d p : Addr} (b : But d H H1) (hne : p ≠ d) (h : H1 p = none) : H p = none := by
  cases e : H p with
  | none => rfl
  | some o =>
    rw [b _ _ hne e] at h
    cases h
/-- a if c else b, as a test -/
def tIfT (tc ta tb : TT) : TT := fun σ H QT => tc σ H fun c H1 => if c = true then ta σ H1 QT else tb σ H1 QT
theorem pt_ifExp {X : Cx} {c a b : Expr} {pos : Pos} {tc ta tb : TT} (hc : PT X c tc) (ha : PT X a ta) (hb : PT X b tb) : PT X (.IfExp c a b pos) (tIfT tc ta tb) := by
  refine ⟨fun pins s σ H Q I h => ?_⟩
  show wpAny _ _ (do if ← isTrue c X.env (eval c X.env) then isTrue a X.env (eval a X.env) else isTrue b X.env (eval b X.env)) _ _ _
  refine wpAny_bind (thn (hc.run pins s σ H _ I h) fun d s1 ⟨H1, I1, q1⟩ => ?_)
  cases d with
  | true => exact ha.run pins s1 σ H1 Q I1 q1
  | false => exact hb.run pins s1 σ H1 Q I1 q1
theorem z_ifT {tc ta tb : TT} {σ : L2.St} {H : Hp} {QT : Bool → Hp → Prop} (h : tc σ H fun c H1 => if c = true then ta σ H1 QT else tb σ H1 QT) : tIfT tc ta tb σ H QT := h
section
variable {σ : L2.St} {H : Hp} {Q : VK} {t : TA} {te : TE} {D : Ends} {v : V}
theorem z_callP {i : Nat} {f : Addr} {sp : Sp} {E : L2.St → XK} (h : σ[i]? = some (some (.ref f))) (q : t σ H fun vs H1 => sp vs H1 Q (E σ)) : tCallP i f sp E t σ H Q := ⟨h, q⟩
def kOfE (a C : Addr) (f : Str) (cls : Value) (d : Option Addr) (Q : VK) : VK := fun x H1 => x = .ref a ∧ cls = .ref C ∧ ∃ (dd : Addr) (kvs : List (Str × V)) (v : V), d = some dd ∧ H1 dd = some (.xd kvs) ∧ kvs.lookup f = some v ∧ Q v H1
theorem z_ofE {a C : Addr} {f : Str} {cls : Value} {d : Option Addr} (h : te σ H (kOfE a C f cls d Q)) : tOfE a C f cls d te σ H Q := h
theorem z_kOfE {a C dd : Addr} {f : Str} {kvs : List (Str × V)} (h : H dd = some (.xd kvs)) (l : kvs.lookup f = some v) (q : Q v H) : kOfE a C f (.ref C) (some dd) Q (.ref a) H := ⟨rfl, rfl, dd, kvs, v, rfl, h, l, q⟩
theorem z_rtE {i : Nat} (h : D.rt v H) : (endsAt i D).rt v H := h
/-- a clause that takes -/
theorem z_takes {K : PySem.W.Frag} {Wo : WX} {c : Cl3} {l : List Cl3} {cls : Value} {d : Option Addr} (e : PySem.W.exmOne K cls c.1 = some true) (h : ∀ a, H a = none → c.2.2 a cls d (endsAt c.2.1 D) (σ.set c.2.1 (some (.ref a))) H) : wClauses K Wo D (c :: l) cls d σ H := ⟨true, e, fun _ => h, (fun q => by cases q)⟩
theorem z_passes {K : PySem.W.Frag} {Wo : WX} {c : Cl3} {l : List Cl3} {cls : Value} {d : Option Addr} (e : PySem.W.exmOne K cls c.1 = some false) (h : wClauses K Wo D l cls d σ H) : wClauses K Wo D (c :: l) cls d σ H := ⟨false, e, (fun q => by cases q), fun _ => h⟩
end
end Nm

/-! The own layer: what the written part says of an exception class, put together. -/
namespace NmE
open PySem PySem.W PySem.Calls PyProof.Rows PySem.HandSPX
open L2 (defArgs defBody defScope)
theorem fn_split {K : Frag} {f : Addr} {oc : Value} {od : Option Addr} {osl : Array (Option Value)} {n qual : Str} {p p' : Arguments} {b b' : List Stmt} {s s' : Scope} {cl : List (Str × Addr)} {dV kV doc pm : Value} {an : Option Addr} {cdv ct : Value} {cda cc : Addr}
    (h : K.lookup f = some ⟨oc, od, .func (fnX n qual p b s cl dV kV doc pm an cdv ct), osl⟩) (e1 : n = "__init__") (e2 : p = p') (e3 : b = b') (e4 : s = s') (e5 : cl = [(("__class__" : Str), cc)]) (e6 : dV = .none) (e7 : cdv = .ref cda) :
    K.lookup f = some ⟨oc, od, .func (ksFn "__init__" qual p' b' s' .none kV doc pm an (.ref cda) ct cc), osl⟩ := by
  subst e1 e2 e3 e4 e5 e6 e7
  exact h
theorem err_mk {P : Program} {K : Frag} {mg : Str → Option Value} {h : Heap} {x : Str} {C : Addr} {fs : List Str} {st : Stmt}
    {nm q : Str} {N : Addr} {bs bm : List Value} {sn : List Str} {sub : List Value} {ab : Bool} {col : Option Bool} {dd : Option Addr} {k0 k1 k2 k3 k5 : Option Value}
    {fI cc cda : Addr} {qual : Str} {oc kV doc pm ct cl ccl : Value} {od an cld cdd : Option Addr} {osl csl ccs : Array (Option Value)} {vs : Array Value} {file : Str} {tf : Tok}
    (X : K.In h) (G : h.Ns mainGlobals mg) (n : nsIn K mainGlobals x = some (some (.ref C)))
    (c : K.lookup C = some (excClassObj nm q C N bs bm true sn sub ab col dd k0 k1 k2 k3 k5 "ValueError.__new__")) (hbm : refsVE bm = true)
    (sa : findIn K (.ref C) "__setattr__" = some (some (.builtin "object.__setattr__"))) (ga : findIn K (.ref C) "__getattribute__" = some (some (.builtin "BaseException.__getattribute__"))) (gg : findIn K (.ref C) "__getattr__" = some none)
    (noN : ∀ f ∈ fs, findIn K (.ref C) f = some none) (kC : keepIn K (.ref C) = true) (exC : subIn K (.ref C) (.type "BaseException") = some true) (veC : subIn K (.ref C) (.type "ValueError") = some true)
    (tyC : typeIn K (.ref C) = some (.type "type")) (hdC : hasDictIn K C = true) (opq : nsIn K cStatics "thirdparty.any" = some none) (own : mroIn K C (.ref C) = some true)
    (nsp : nsIn K mainGlobals "super" = some none) (iC : findIn K (.ref C) "__init__" = some (some (.ref fI))) (tI : typeIn K (.ref fI) = some (.type "function"))
    (lI : K.lookup fI = some ⟨oc, od, .func (ksFn "__init__" qual (defArgs st) (defBody st) (defScope st) .none kV doc pm an (.ref cda) ct cc), osl⟩) (hcr : codeIn K (.ref cda) qual = true)
    (hcc : K.lookup cc = some ⟨cl, cld, .cell (some (.ref C)), csl⟩) (hcd : K.lookup cda = some ⟨ccl, cdd, .fields vs, ccs⟩) (hvs : vs[2]? = some (.str file tf)) (hfile : ((P.main.file : Str) == file) = true)
    (sup : ks_superIn K C C "__init__" = some (some (.builtin "ValueError.__init__"))) (top : (P.main.scope.names.lookup ("super" : Str)).isSome = false) (ini : Ini st fs)
    (hbind : ∀ (cc : Addr) (kV doc pm : Value) (an : Option Addr) (cda : Addr) (ct : Value) (us : List Value), us.length = (("self" : Str) :: fs).length → bindArgs (ksFn "__init__" qual (defArgs st) (defBody st) (defScope st) .none kV doc pm an (.ref cda) ct cc) ⟨us, []⟩ = pure ((("self" : Str) :: fs).zip us)) :
    Err P K mg x C fs :=
  ⟨mg_of X G n, ⟨nm, q, N, bs, bm, sn, sub, ab, col, dd, k0, k1, k2, k3, k5, c, hbm⟩, sa, ga, gg, noN, kC, exC, veC, tyC, hdC, opq, sup, own, top, mg_none_of X G nsp,
    ⟨fI, cc, cda, st, qual, oc, .none, kV, doc, pm, ct, cl, ccl, od, an, cld, cdd, osl, csl, ccs, vs, file, tf, iC, tI, lI, hcr, ini, hcc, hcd, hvs, hfile, hbind cc kV doc pm an cda ct⟩⟩
/-- two classes, none of which is the other's -/
structure Two (P : Program) (K : Frag) (mg : Str → Option Value) (x1 : Str) (C1 : Addr) (fs1 : List Str) (x2 : Str) (C2 : Addr) (fs2 : List Str) : Prop where
  e1 : Err P K mg x1 C1 fs1
  e2 : Err P K mg x2 C2 fs2
  s11 : subIn K (.ref C1) (.ref C1) = some true
  s12 : subIn K (.ref C1) (.ref C2) = some false
  s21 : subIn K (.ref C2) (.ref C1) = some false
  s22 : subIn K (.ref C2) (.ref C2) = some true
end NmE
namespace Nm
open PySem L2
def inClass (s : Stmt) (j : Nat) : Stmt := match s with
  | .ClassDef _ _ _ b _ _ _ _ _ _ _ => b.getD j (.Pass ⟨0, 0, 0, 0⟩)
  | _ => .Pass ⟨0, 0, 0, 0⟩
end Nm

/-! The own layer: a def's promise at the law's own caller alone (its guards are known there): for repr. -/
namespace Nm
open PySem PySem.Spec PyProof.Rows L2
/-- as FnOk, but at callers whose guards are none -/
structure FnG (P : Program) (w : World) (K : PySem.W.Frag) (mg : Str → Option Value) (base : Heap) (CX : CXT) (k : Nat) (f : Addr) (fd : FuncData) (ps : List Str) (sp : Sp) : Prop where
  len : ∀ vs H Q E, sp vs H Q E → vs.length = ps.length
  run : ∀ (A : Around) (outer : List Env) (s : Shared) (H : Hp) (args : Args) (us : List Value) (vs : List V) (Q : VK) (E : XK), Room k A → A.guards = some [] → Env0 P w K mg base A outer s H → BindsTo s fd args (ps.zip us) → Vals vs us → sp vs H Q E →
    codeAny (model P w) A (.call (.ref f) args) (CR CX outer P w H s Q E) s
theorem fnG_of {x qual : Str} {st : Stmt} {f : Addr} {fd : FuncData} {N ps : List Str} {k : Nat} {sp : Sp} {P : Program} {w : World} {K : PySem.W.Frag} {mg : Str → Option Value} {base : Heap} (F : Fun K x qual st f fd) (S : FnScope N ps (defScope st)) (len : ∀ vs H Q E, sp vs H Q E → vs.length = ps.length)
    (hbody : ∀ (cdv : Value) (A : Around) (outer : List Env) (s : Shared) (H : Hp) (vs : List V) (Q : VK) (E : XK), Room k (A.deeper (envOfC qual (defScope st) s.heap.objs.size f cdv)) → (A.deeper (envOfC qual (defScope st) s.heap.objs.size f cdv)).guards = some [] → sp vs H Q E →
      ∃ t, PSs (cxOf CX0 P w K mg base N qual (defScope st) f cdv A outer s H E).nox (defBody st) t ∧ t { nx := fun _ H' => Q .non H', rt := Q } (start N vs) H) : FnG P w K mg base CX0 (k + 1) f fd ps sp := by
  obtain ⟨oc, od, kV, doc, pm, an, cdv, ct, osl, rfl, lk, hcd⟩ := F.ex
  refine ⟨len, fun A outer s H args us vs Q E hr hgd e0 hb rv hsp => ?_⟩
  have hl := len _ _ _ _ hsp
  have KX : K.In s.heap := e0.mod.kin.keeps fun b o e => (e0.bs b o e).1
  have lim : s.heap.NoLimit := e0.mod.nolimit.keeps fun b o e => (e0.bs b o e).1
  have kinds : ∀ y ∈ ps.zip us, (defScope st).names.lookup y.1 = some .local ∨ ((defScope st).names.lookup y.1 = some .cell ∧ ((cellsFrom (s.heap.objs.size + 1) (defScope st).names []).lookup y.1).isSome = true) := fun ⟨n, v⟩ hy =>
    (S.par n (List.of_mem_zip hy).1).imp id fun q => ⟨q, PySem.W.cellsFrom_some _ _ _ (.inl q)⟩
  refine codeAny_call_function hr.depth (KX _ _ lk) rfl S.co S.gen rfl (PySem.W.codeRec_of KX hcd) (hb _ _ _ _ (wpAny_newFunctionEnv_cells S.kind kinds fun env he s1 x => ?_))
  subst he
  refine ⟨lim.keeps x.toInCall.keep, codeAny_func ?_⟩
  obtain ⟨t, ht0, hq⟩ := hbody cdv A outer s H vs Q E (hr.deeper _) hgd hsp
  have ht := ht0.nox
  have I : Inv (cxOf CX0 P w K mg base N qual (defScope st) f cdv A outer s H E) [] (start N vs) H s1 := inv_start S hr.hd e0 hl rv x
  refine wpAny_mono (ht.run [] s1 (start N vs) H _ I hq) (fun fl s' hs => ?_) fun e s' hs => hs
  have fin : ∀ {σ' : L2.St} {H' : Hp} {v : V} {u : Value}, Inv (cxOf CX0 P w K mg base N qual (defScope st) f cdv A outer s H E) [] σ' H' s' → RelV v u → Q v H' → CE outer P w H s Q u s' :=
    fun {σ' H' v u} J r q => ⟨v, H', J.os, J.bare, J.base, J.hok, r, q⟩
  cases fl with
  | brk => exact hs.elim fun _ h => h.elim fun _ h => False.elim h.2
  | cont => exact hs.elim fun _ h => h.elim fun _ h => False.elim h.2
  | next =>
    obtain ⟨σ', H', J, q⟩ := hs
    exact fin (v := V.non) (u := Value.none) J rfl q
  | ret u =>
    obtain ⟨v, σ', H', J, r, q⟩ := hs
    exact fin J r q
/-- the law called by its caller: the script alone may be tracked -/
theorem law_callG {P : Program} {w : World} {K : PySem.W.Frag} {mg mb : Str → Option Value} {k : Nat} {fa a : Addr} {fd : FuncData} {x : Str} {sp : Sp} {s₁ : Shared} {vs : List Value} {ns : List Int}
    (KX : K.In s₁.heap) (hns : s₁.heap.Ns mainGlobals mg) (hb : s₁.heap.Ns builtinsNs mb) (hbb : ∀ x : Str, x ≠ "__name__" → mb x = bootBuiltins x) (hlim : s₁.heap.NoLimit) (hg : s₁.gens = #[])
    (ha : s₁.heap.get? a = some { cls := .type "list", data := .seq vs.toArray }) (hi : IntsAre vs ns) (hl : ns.length ≤ sizeLine) (hr : Room k callerA)
    (F : ∀ base : Heap, K.In base → base.Ns mainGlobals mg → FnG P w K mg base CX0 k fa fd [x] sp) (hbind : ∀ (s : Shared) (u : Value), BindsTo s fd ⟨[u], []⟩ [(x, u)])
    (hsp : ∀ H : Hp, Only H → SqL K H a (ns.map V.int) → sp [.ref a] H (fun v _ => v = .bl true) fun _ _ _ => False) :
    codeAny (model P w) callerA (.call (.ref fa) ⟨[.ref a], []⟩) (fun r s' => r = .ok (.ret (.bool true)) ∧ OldK s₁.heap s'.heap ∧ s'.os = s₁.os ∧ AllBare s'.gens) s₁ := by
  have lenV := hi.length
  have main : ∀ H : Hp, Only H → SqL K H a (ns.map V.int) → HOk P w H s₁.heap → (∀ b, H b ≠ none → b = a) → (H a ≠ none → K.lookup a = none) →
      codeAny (model P w) callerA (.call (.ref fa) ⟨[.ref a], []⟩) (fun r s' => r = .ok (.ret (.bool true)) ∧ OldK s₁.heap s'.heap ∧ s'.os = s₁.os ∧ AllBare s'.gens) s₁ := by
    intro H only hS hok alone notK
    have free : ∀ {b : Addr}, b ≠ a → H b = none := fun {b} ne => by
      cases q : H b with
      | none => rfl
      | some u => exact absurd (alone b (by rw [q]; simp)) ne
    have seen : ∀ {b : Addr} {o : Obj}, s₁.heap.get? b = some o → H b = none → (hidT s₁.heap H).get? b = some o := fun e n => hidT_get e n
    have notDict : ∀ {b : Addr} {o : Obj} {es : Array DictEntry} {ep : Nat}, s₁.heap.get? b = some o → o.data = .dict es ep → b ≠ a := fun {b o es ep} e d z => by
      rw [z, ha] at e
      cases e
      have d' : Data.seq vs.toArray _ = Data.dict es ep := d
      cases d'
    have keepNs : ∀ {b : Addr} {m : Str → Option Value}, s₁.heap.Ns b m → (hidT s₁.heap H).Ns b m := fun ⟨o, es, ep, e, d, r⟩ => ⟨o, es, ep, seen e (free (notDict e d)), d, r⟩
    have inB : K.In (hidT s₁.heap H) := fun b o e => seen (KX b o e) (by
      cases q : H b with
      | none => rfl
      | some u =>
        have z := alone b (by rw [q]; simp)
        subst z
        rw [notK (by rw [q]; simp)] at e
        cases e)
    have hM : Mod K mg (hidT s₁.heap H) := ⟨inB, keepNs hns, ⟨mb, keepNs hb, hbb⟩, let ⟨mc, h1, h2⟩ := hlim; ⟨mc, keepNs h1, h2⟩⟩
    have e0 : Env0 P w K mg (hidT s₁.heap H) callerA [] s₁ H := ⟨rfl, hM, fun b o e => of_hidT e, Nat.le_of_eq (hidT_size _ _), trivial, fun b hb => absurd (show b ∈ ([] : List Addr) from hb) (by simp), hok, .of_eq hg⟩
    refine codeAny_mono ((F _ inB (keepNs hns)).run callerA [] s₁ H ⟨[.ref a], []⟩ [.ref a] [.ref a] _ _ hr rfl e0 (hbind s₁ (.ref a)) (.cons rfl .nil) (hsp H only hS)) fun r s' h => ?_
    cases r with
    | error e => exact h.elim
    | ok fl =>
      cases fl with
      | ret u =>
        obtain ⟨v, H', os, bare, un, hok', r', q⟩ := h
        obtain rfl : v = .bl true := q
        obtain rfl : u = Value.bool true := r'
        refine ⟨rfl, OldK.of_keep fun b o e => ?_, os, bare⟩
        rcases only b with n | ⟨ob, xs, z⟩
        · exact un.keep b o e n (by intro z; exact absurd (show b ∈ ([] : List Addr) from z) (by simp)) (by simp)
        · obtain ⟨e1, _⟩ := hok b _ z
          obtain ⟨e2, _⟩ := hok' b _ (un.frzs b ob _ z)
          rw [e] at e1
          cases e1
          exact e2
      | _ => exact False.elim h
  cases hk : K.lookup a with
  | some o =>
    have e := KX a o hk
    rw [ha] at e
    cases e
    exact main (fun _ => none) (fun _ => .inl rfl) (.inr ⟨_, vs.toArray, _, hk, rfl, rfl, rfl, by rw [List.size_toArray, lenV]; exact hl, by simpa using vals_ints hi⟩) (fun b u z => by cases (show (none : Option HO) = some u from z)) (fun b z => absurd rfl z) fun z => absurd rfl z
  | none =>
    refine main (fun b => if b = a then some (.frz { cls := .type "list", data := .seq vs.toArray } (.lst (ns.map V.int))) else none) (fun b => ?_) (.inl (.inr ⟨{ cls := .type "list", data := .seq vs.toArray }, if_pos rfl⟩)) (fun b u z => ?_) (fun b z => Classical.byContradiction fun q => z (if_neg q)) fun _ => hk
    · by_cases q : b = a
      · exact .inr ⟨_, _, if_pos q⟩
      · exact .inl (if_neg q)
    · by_cases q : b = a
      · have z' := (if_pos q).symm.trans z
        cases z'
        subst q
        exact ⟨ha, by rw [List.length_map]; exact hl, vs, _, vals_ints hi, ha⟩
      · cases (if_neg q).symm.trans z
theorem walk_ofG {l : PySem.W.OpenLaw} {n k : Nat} {q : Program} {loose : List Str} {XP : (Str → Option Value) → Heap → Prop} {YP : World → Heap → Prop} {d : DefRec} {K : Params → PySem.W.Frag} {sp : PySem.W.Frag → Sp} {x : Str}
    (hn : l.most = some n) (hn2 : n ≤ sizeLine) (hdf : d.params.defaults = []) (hr : Room k callerA)
    (hY : ∀ (w : World) (h : Heap), YP w h → (K w.params).In h)
    (F : ∀ (w : World) (mg : Str → Option Value) (fa : Addr) (h : Heap), XP mg h → (K w.params).In h → h.Ns mainGlobals mg → mg d.name = some (.ref fa) →
      ∃ fd : FuncData, (∀ (s : Shared) (u : Value), BindsTo s fd ⟨[u], []⟩ [(x, u)]) ∧
        ∀ base : Heap, (K w.params).In base → base.Ns mainGlobals mg → FnG l.prog w (K w.params) mg base CX0 k fa fd [x] (sp (K w.params)))
    (hsp : ∀ (K : PySem.W.Frag) (H : Hp) (a : Addr) (ns : List Int), ns.length ≤ n → SqL K H a (ns.map V.int) → sp K [.ref a] H (fun v _ => v = .bl true) fun _ _ _ => False) :
    PySem.W.WalkO q loose XP YP l.row.toRowW d [] (fun f vs => PySem.call f vs) := by
  refine Att.attach_call hn hdf fun w s₀ s₁ mg mb fa o pm cd doc a vs ns G Y ho hd hcd hmg hobj hints hlen hg => ?_
  have KX := hY w _ Y
  obtain ⟨fd, hb, hF⟩ := F w mg fa _ G.X KX G.T.g hmg
  exact law_callG KX G.T.g G.T.b G.T.builtins G.T.nolimit hg hobj hints (Nat.le_trans hlen hn2) hr hF hb (fun H hO hS => hsp (K w.params) H a ns hlen hS)
end Nm

/-! The own layer: exceptions as values (their fields read, isinstance), repr of data. -/
namespace L2
open PySem PySem.Spec PyProof.Rows
/-- an exception of the class at C stands at a, its fields -/
def ExAt (H : Hp) (a C : Addr) (kvs : List (Str × V)) : Prop := (kvs = [] ∧ H a = some (exo a C none)) ∨ ∃ d, H a = some (exo a C (some d)) ∧ H d = some (exd d kvs)
theorem ExAt.same {H H' : Hp} {a C : Addr} {kvs : List (Str × V)} (s : Same H H') (h : ExAt H a C kvs) : ExAt H' a C kvs := by
  rcases h with ⟨e, h⟩ | ⟨d, h1, h2⟩
  · exact .inl ⟨e, s _ _ h⟩
  · exact .inr ⟨d, s _ _ h1, s _ _ h2⟩
/-- the first n objects of a heap -/
def cutH (h : Heap) (n : Nat) : Heap := ⟨h.objs.extract 0 n, h.life⟩
theorem cutH_get {h : Heap} {n b : Nat} (hb : b < n) : (cutH h n).get? b = h.get? b := by
  have e : (h.objs.extract 0 n)[b]? = h.objs[b]? := by
    rw [Array.getElem?_extract]
    by_cases q : b < h.objs.size
    · rw [if_pos (by omega), Nat.zero_add]
    · rw [if_neg (by omega), Array.getElem?_eq_none (by omega)]
  unfold cutH Heap.get?
  rw [e]
theorem cutH_size {h : Heap} {n : Nat} : (cutH h n).objs.size ≤ n := by
  show (h.objs.extract 0 n).size ≤ n
  rw [Array.size_extract]
  omega
theorem cutH_of {h : Heap} {n b : Nat} {o : Obj} (e : (cutH h n).get? b = some o) : h.get? b = some o := by
  have l := Heap.lt_size e
  rw [← cutH_get (Nat.lt_of_lt_of_le l cutH_size)]
  exact e
section
variable {X : Cx} {pins : List (Addr × Obj)} {σ : St} {H : Hp} {s : Shared} {a C dx t1 : Addr} {fs : List (Str × V)} {h' : Heap} {mA : Str → Option Value} {tk' : Nat}
/-- the fields were stored: the exception has its dict now -/
theorem ex_fill (I : Inv X pins σ H s) (e : H a = some (exo a C none)) (k : ∀ b o, b ≠ a → s.heap.get? b = some o → h'.get? b = some o) (dn : s.heap.objs.size ≤ dx)
    (hx : h'.get? a = some (NmE.excD C t1 (some dx))) (hn : h'.Ns1 dx mA) (rel : ∀ f, RelO (fs.lookup f) (mA f)) :
    Inv X pins σ (upd (upd H a (exo a C (some dx))) dx (exd dx fs)) { s with heap := h', toks := tk' } := by
  have al : a < s.heap.objs.size := by
    obtain ⟨t, ho⟩ := exo_at I.hok e
    exact Heap.lt_size ho
  have hx' : (cutH h' s.heap.objs.size).get? a = some (NmE.excD C t1 (some dx)) := (cutH_get al).trans hx
  have I1 := I.write (t' := tk') (h' := cutH h' s.heap.objs.size) (x := a) (e := a) (o := exo a C (some dx)) (by rw [e]; exact True.intro) (.inl rfl) (fun b u nb hb => (cutH_get (Heap.lt_size hb)).trans (k b u nb hb)) ⟨_, hx'⟩ (exo_ok hx')
  exact I1.laid (t' := tk') (h' := h') (a := dx) (o := exd dx fs) (fun b u hb => cutH_of hb) (Nat.le_trans cutH_size dn) (exd_ok hn rel)
end
section
variable {X : Cx} {C : Addr} {xn : Str} {fs : List Str}
/-- what a made exception leaves -/
def kMkErr (C : Addr) (fs : List Str) (Q : VK) : List V → Hp → Prop := fun vs H1 => vs.length = fs.length ∧ ∀ a H2, H1 a = none → Same H1 H2 → ExAt H2 a C (NmE.puts fs vs []) → Q (.ref a) H2
/-- the class called, made with a value for each field; the exception is a value -/
def tMkErr (C : Addr) (fs : List Str) (ta : TA) : TE := fun σ H Q => ta σ H (kMkErr C fs Q)
theorem err_made {pins : List (Addr × Obj)} {σ : St} {H1 : Hp} {s1 : Shared} {vs : List V} {us : List Value} {Q : VK} {k : Nat} (T : NmE.Err X.prog X.K X.mg xn C fs) (hr : Room k X.A) (I1 : Inv X pins σ H1 s1) (r1 : Vals vs us) (hq : kMkErr C fs Q vs H1) :
    wpAny (model X.prog X.w) X.A (call (.ref C) us) (EP X pins σ Q) X.xe s1 := by
  obtain ⟨hl, q1⟩ := hq
  obtain ⟨nm, q, N, bs, bm, sn, sub, ab, col, dd, k0, k1, k2, k3, k5, hC, hbm⟩ := T.cls
  obtain ⟨fI, cc, cda, st, qual, oc, dV, kV, doc, pm, ct, cl, ccl, od, an, cld, cdd, osl, csl, ccs, dat, file, tf, iC, tI, lI, hcr, ini, hcc, hcd, hvs, hfile, hbind⟩ := T.init
  obtain ⟨mb, hb, hbs⟩ := I1.ok.mod.blt
  have hlim := I1.nolimit
  have hgl := I1.ok.mod.glob
  have bk := I1.bk
  have KI := I1.kIn
  have hus : us.length = fs.length := r1.length.symm.trans hl
  have hzz : us.length ≤ sizeLine := by
    have := ini.few
    rw [sizeLine_eq]
    omega
  obtain ⟨hp, g, dr, tk, os⟩ := s1
  have hsz : hp.objs.size ≤ hp.objs.size + 1 := Nat.le_succ _
  have hn : H1 (hp.objs.size + 1) = none := I1.hok.fresh hsz
  have kk : ∀ b o, hp.get? b = some o → ((hp.push (PySem.W.kdv_tup us)).push (PySem.HandSPX.excO C hp.objs.size)).get? b = some o := fun b o e => Heap.get?_push_of_some _ (Heap.get?_push_of_some _ e)
  have hget : ((hp.push (PySem.W.kdv_tup us)).push (PySem.HandSPX.excO C hp.objs.size)).get? (hp.objs.size + 1) = some (PySem.HandSPX.excO C hp.objs.size) := by heap_get
  have I2 : Inv X pins σ (upd H1 (hp.objs.size + 1) (exo (hp.objs.size + 1) C none)) ⟨(hp.push (PySem.W.kdv_tup us)).push (PySem.HandSPX.excO C hp.objs.size), g, dr, tk, os⟩ :=
    I1.laid (t' := tk) (a := hp.objs.size + 1) (o := exo (hp.objs.size + 1) C none) (h' := (hp.push (PySem.W.kdv_tup us)).push (PySem.HandSPX.excO C hp.objs.size)) kk hsz (exo_ok hget)
  refine wpAny_call (PySem.HandSPX.call_own PySem.F.excBase_ValueError (fun Y => PySem.HandSPX.refsVE_contains Y bm hbm) (KI _ _ hC) (PySem.W.looks_findIn KI iC) (fun self => PySem.W.bind_fn KI self tI) hzz ?_)
  refine NmE.err_init (s := ⟨(hp.push (PySem.W.kdv_tup us)).push (PySem.HandSPX.excO C hp.objs.size), g, dr, tk, os⟩) T lI hcr ini hcc hcd hvs hfile hbind (KI.keeps kk) (hlim.keeps kk) (NmE.ns_keep hgl fun o e => kk _ _ (bk _ _ e)) (NmE.ns_keep hb fun o e => kk _ _ (bk _ _ e)) ?_ r1 hus hget (NmE.not_in KI (Nat.le_succ _)) ?_ fun h' tk' D => ?_
  · exact (hbs _ (by decide)).trans (by first | rfl | kernel_rfl)
  · show X.A.depth + 1 < recursionLimit
    have := hr.dp
    omega
  · refine ⟨rfl, ?_⟩
    show EP X pins σ Q (.ref (hp.objs.size + 1)) ⟨h', g, dr, tk', os⟩
    rcases D.obj with ⟨z, t1, hx⟩ | ⟨t1, d, mB, hx, hd, hde, hns, rel⟩
    · subst z
      have ev : vs = [] := List.eq_nil_of_length_eq_zero hl
      subst ev
      have J := I2.write (t' := tk') (h' := h') (x := hp.objs.size + 1) (e := hp.objs.size + 1) (o := exo (hp.objs.size + 1) C none) (by rw [upd_same]; exact True.intro) (.inl rfl) D.keep ⟨_, hx⟩ (exo_ok hx)
      refine ⟨.ref (hp.objs.size + 1), _, J, rfl, q1 _ _ hn (fun b u e => ?_) (.inl ⟨rfl, upd_same⟩)⟩
      have ne := ne_of_none e hn
      rw [upd_ne ne, upd_ne ne]
      exact e
    · have J := ex_fill (tk' := tk') (fs := NmE.puts fs vs []) I2 upd_same D.keep hd hx hns rel
      have hd' : hp.objs.size ≤ d := by
        have e : ((hp.push (PySem.W.kdv_tup us)).push (PySem.HandSPX.excO C hp.objs.size)).objs.size = hp.objs.size + 1 + 1 := by simp only [Heap.size_push]
        have hd2 : ((hp.push (PySem.W.kdv_tup us)).push (PySem.HandSPX.excO C hp.objs.size)).objs.size ≤ d := hd
        omega
      have hdn : H1 d = none := I1.hok.fresh hd'
      refine ⟨.ref (hp.objs.size + 1), _, J, rfl, q1 _ _ hn (fun b u e => ?_) (.inr ⟨d, ?_, upd_same⟩)⟩
      · have ne := ne_of_none e hn
        rw [upd_ne (ne_of_none e hdn), upd_ne ne, upd_ne ne]
        exact e
      · rw [upd_ne (Ne.symm hde), upd_same]
theorem pe_mkErr {e : Expr} {es : List Expr} {ta : TA} {p pos : Pos} {k : Nat} (T : NmE.Err X.prog X.K X.mg xn C fs) (hr : Room k X.A) (ha : PA X (e :: es) ta) (hg : Gl X xn := by rfl) (hdb : (xn == ("__debug__" : Str)) = false := by decide)
    (he : starEach (e :: es) X.env = (false, eval e X.env) :: starEach es X.env := by rfl) (hpl : (backTo pos (starEach es X.env)).any (·.1) = false := by rfl) :
    PE X (.Call (.Name xn p) (e :: es) [] pos) (tMkErr C fs ta) := by
  refine ⟨fun pins s σ H Q I h => ?_⟩
  refine wpAny_Call_Name_kw (ld_glob I hg T.gC ?_ hdb)
  exact PySem.W.callWith_K (h₀ := X.base) I.ok.mod.kin T.kC (thn (ha.run pos pins s σ H _ I h) fun us s1 ⟨vs, H1, I1, r1, hq⟩ => ⟨I1.kIn, err_made T hr I1 r1 hq⟩) he hpl
theorem pe_mkErr0 {p pos : Pos} {k : Nat} (T : NmE.Err X.prog X.K X.mg xn C fs) (hr : Room k X.A) (hg : Gl X xn := by rfl) (hdb : (xn == ("__debug__" : Str)) = false := by decide) :
    PE X (.Call (.Name xn p) [] [] pos) (tMkErr C fs tNil) := by
  refine ⟨fun pins s σ H Q I h => ?_⟩
  refine wpAny_Call_Name_kw (ld_glob I hg T.gC ?_ hdb)
  exact PySem.W.callWith_K0 I.kIn T.kC (err_made T hr I .nil h)
/-- e.f, e an exception -/
def kExF (C : Addr) (f : Str) (Q : VK) : VK := fun x H1 => ∃ a kvs v, x = .ref a ∧ ExAt H1 a C kvs ∧ kvs.lookup f = some v ∧ Q v H1
def tExF (C : Addr) (f : Str) (te : TE) : TE := fun σ H Q => te σ H (kExF C f Q)
theorem pe_exF {e : Expr} {te : TE} {pos : Pos} {f : Str} (T : NmE.Err X.prog X.K X.mg xn C fs) (hf : f ∈ fs) (he : PE X e te) (hb : attributeBase e f X.env (eval e X.env) = eval e X.env := by rfl) : PE X (.Attribute e f pos) (tExF C f te) := by
  refine ⟨fun pins s σ H Q I h => ?_⟩
  refine attr_of hb (thn (he.run pins s σ H _ I h) fun u s1 ⟨x, H1, I1, rx, a, kvs, v, ex, ea, lv, q⟩ => ?_)
  subst ex
  obtain rfl : u = Value.ref a := rx
  rcases ea with ⟨e0, _⟩ | ⟨d, e1, e2⟩
  · subst e0
    cases lv
  obtain ⟨t1, ho⟩ := exo_at I1.hok e1
  obtain ⟨mA, hns, hr⟩ := exd_at I1.hok e2
  obtain ⟨od, hod, hl⟩ := lookIn_ns hns
  have rf := hr f
  rw [lv] at rf
  obtain ⟨u, hu, ru⟩ := RelO.some_of (v := v) (o := mA f) rf
  have J : PySem.W.InstAt s1.heap a _ C (some od) := ⟨ho, rfl, rfl, hod⟩
  exact HandSPX.exc_get I1.kIn J T.ga T.gg T.exC (PySem.W.findObj_own T.hdC (T.noN f hf) rfl (by rw [hl, hu])) (handed_of ru) ⟨v, H1, I1.tok _, ru, q⟩
/-- what a class must say, so that isinstance asks its instances rightly -/
structure ExI (K : PySem.W.Frag) (C : Addr) : Prop where
  cl : (PySem.W.clsIn K C).isSome = true
  ga : PySem.W.findIn K (.ref C) "__getattribute__" = some (some (.builtin "BaseException.__getattribute__"))
  gg : PySem.W.findIn K (.ref C) "__getattr__" = some none
  sub : PySem.W.subIn K (.ref C) (.type "BaseException") = some true
  ha : PySem.W.findIn K (.ref C) "__class__" = some (some (.builtin "object.__class__"))
  hn : PySem.W.specialIn K (.builtin "object.__class__") "__get__" = some (some (.builtin "getset_descriptor.__get__"))
  ht : PySem.W.takesIn K (.builtin "object.__class__") = some true
  hm : PySem.W.mroIn K C (.type "object") = some true
/-- isinstance(e, c), e an exception -/
def rIsX (K : PySem.W.Frag) : List V → Hp → VK → Prop := fun xs H Q => ∃ (a C : Addr) (kvs : List (Str × V)) (c : V) (u : Value) (b : Bool), xs = [.ref a, c] ∧ ClsV c u ∧ ExI K C ∧ ExAt H a C kvs ∧ PySem.W.kitOne K (.ref C) u = some b ∧ Q (.bl b) H
theorem call_isX : CallR X (.builtin "isinstance") (rIsX X.K) := by
  intro pins s σ H xs us Q I r h
  obtain ⟨a, C, kvs, c, u, b, rfl, k, T, ea, e, q⟩ := h
  obtain ⟨u1, u2, rfl, r1, r2⟩ := vals2 r
  have e2 := k.eq r2
  subst e2
  obtain rfl : u1 = Value.ref a := r1
  have J : ∃ ox od, PySem.W.InstAt s.heap a ox C od := by
    rcases ea with ⟨_, e1⟩ | ⟨d, e1, e2⟩
    · obtain ⟨t1, ho⟩ := exo_at I.hok e1
      exact ⟨_, none, ho, rfl, rfl, trivial⟩
    · obtain ⟨t1, ho⟩ := exo_at I.hok e1
      obtain ⟨mA, hns, hr⟩ := exd_at I.hok e2
      obtain ⟨od, hod, hl⟩ := lookIn_ns hns
      exact ⟨_, some od, ho, rfl, rfl, hod⟩
  obtain ⟨ox, od, J⟩ := J
  exact PySem.W.kia_one (PySem.W.kitx_exc T.cl T.ga T.gg T.sub T.ha T.hn T.ht T.hm) I.kIn J e (fun z => nomatch z) fun tk => ⟨.bl b, H, I.tok tk, rfl, q⟩
/-- repr of data -/
def nRepr (K : PySem.W.Frag) : List V → Hp → VK → Prop := fun xs H Q => ∃ (x : V) (d : PyData), xs = [x] ∧ Dp K H x d ∧ d.showable = true ∧ d.hasDict = false ∧ d.shown.length ≤ sizeLine ∧ d.depth ≤ 60 ∧ Q (.str d.shown) H
theorem call_reprD (hg : X.A.guards = some []) (hu : X.A.units + 61 < cLine) : CallR X (.builtin "repr") (nRepr X.K) := by
  intro pins s σ H xs us Q I r h
  obtain ⟨x, d, rfl, hd, hs, hn, hz, hdp, q⟩ := h
  obtain ⟨u, rfl, ru⟩ := vals1 r
  obtain ⟨as, rd⟩ := Dp.reads I d x u hd ru
  cases u with
  | ref a => exact repr_of_reads' rd hs (fun e => by rw [hn] at e; cases e) hg (by omega) (fun _ _ e => e) (fun h' u tk hk => ⟨.str d.shown, H, I.kept (t' := tk) hk, ⟨_, rfl⟩, q⟩) hz
  | none =>
    cases rd
    exact PySem.P.repr_of_none ⟨.str _, H, I.tok _, ⟨_, rfl⟩, q⟩
  | bool b =>
    cases rd
    exact PySem.P.repr_of_bool ⟨.str _, H, I.tok _, ⟨_, rfl⟩, q⟩
  | int i t =>
    cases rd
    exact PySem.P.repr_of_int (by simpa [PyData.showable] using hs) ⟨.str _, H, I.tok _, ⟨_, rfl⟩, q⟩
  | str z t =>
    cases rd
    exact PySem.P.repr_of_str ⟨.str _, H, I.tok _, ⟨_, rfl⟩, q⟩ (by simpa only [PyData.shown] using hz)
  | _ => cases rd
end
section
variable {K : PySem.W.Frag} {σ : L2.St} {H : Hp} {Q : VK} {te : TE} {ta : TA} {C : Addr} {fs : List Str} {f : Str}
theorem at_s {H0 H : Hp} {p : Addr} {o : HO} (h : H0 p = some o) (s : Same H0 H) : H p = some o := s _ _ h
theorem ex_s {H0 H : Hp} {a C : Addr} {kvs : List (Str × V)} (h : ExAt H0 a C kvs) (s : Same H0 H) : ExAt H a C kvs := h.same s
theorem z_mkErr (h : ta σ H (kMkErr C fs Q)) : tMkErr C fs ta σ H Q := h
theorem z_kMkErr {vs : List V} (hl : vs.length = fs.length) (k : ∀ a H2, H a = none → Same H H2 → ExAt H2 a C (NmE.puts fs vs []) → Q (.ref a) H2) : kMkErr C fs Q vs H := ⟨hl, k⟩
theorem z_exF (h : te σ H (kExF C f Q)) : tExF C f te σ H Q := h
theorem z_kExF {a : Addr} {kvs : List (Str × V)} {v : V} (h : ExAt H a C kvs) (hv : kvs.lookup f = some v) (q : Q v H) : kExF C f Q (.ref a) H := ⟨a, kvs, v, rfl, h, hv, q⟩
theorem z_isX {a C : Addr} {kvs : List (Str × V)} {c : V} {u : Value} {b : Bool} (hc : ClsV c u) (T : ExI K C) (h : ExAt H a C kvs) (e : PySem.W.kitOne K (.ref C) u = some b) (q : Q (.bl b) H) : rIsX K [.ref a, c] H Q := ⟨a, C, kvs, c, u, b, rfl, hc, T, h, e, q⟩
theorem z_repr {x : V} {d : PyData} (hd : Dp K H x d) (hs : d.showable = true) (hn : d.hasDict = false) (hz : d.shown.length ≤ sizeLine) (hp : d.depth ≤ 60) (q : Q (.str d.shown) H) : nRepr K [x] H Q := ⟨x, d, rfl, hd, hs, hn, hz, hp, q⟩
end
end L2

/-! The own layer: == and != of instances of an own class with __eq__, also against whole numbers. -/
namespace NmM
open PySem PySem.W PySem.SeqAt PyProof.Rows
open AutoSeq1 (wpAny_loadPart')
section
variable {prog : Program} {w : World} {A : Around} {E : Value → Shared → Prop} {s : Shared} {K : Frag} {x y C f : Addr} {ox : Obj} {od : Option Obj}
/-- a special name that stands as a wrapper of the base -/
theorem special_wrap {M : Model} {id T : String} {name : Str} {args : List Value} {Q : Option Value → Shared → Prop} (X : K.In s.heap) (I : InstAt s.heap x ox C od) (S : Slot T name id) (hs : findIn K (.ref C) name = some (some (.builtin id)))
    (h : wpAny M A (call (.builtin id) (.ref x :: args)) (fun v => Q (some v)) E s) : wpAny M A (callSpecialIfBound? (.ref x) name args) Q E s := by
  simp only [callSpecialIfBound?, bindSpecialIfBound?]
  refine wpAny_holding (wpAny_bind (wpAny_bind (wpAny_bind (I.type.here ((looks_findIn X hs).here ?_)))))
  simp only [S.bind]
  have go : wpAny M A (call (.builtin id) ([.ref x] ++ args) >>= fun v => pure (some v)) Q E s := wpAny_bind (wpAny_mono h (fun _ _ z => wpAny_pure z) fun _ _ z => z)
  refine wpAny_bind (wpAny_askSetting (wpAny_ite ?_))
  split
  · exact wpAny_bind (wpAny_pure (wpAny_pure go))
  · exact wpAny_tryCatch (wpAny_bind (wpAny_pure (wpAny_pure go)))
/-- x != y, x and y of one class, by its __eq__ -/
theorem ne_own {Q : Value → Shared → Prop} (hu : A.units + 1 < cLine) (X : K.In s.heap) (I : InstAt s.heap x ox C od) (hb : Looks (model prog w) s.heap (typeOf (.ref y)) (.ref C)) (hne : findIn K (.ref C) "__ne__" = some (some (.builtin "object.__ne__")))
    (hob : subIn K (.ref C) (.type "object") = some true) (hs : findIn K (.ref C) "__eq__" = some (some (.ref f))) (hf : isFn K (.ref f) = true)
    (h : wpAny (model prog w) A.in1 (call (.ref f) [.ref x, .ref y]) (fun v s' => ∃ b, v = .bool b ∧ Q (.bool (!b)) s') E s) : wpAny (model prog w) A (richCompare .NotEq (.ref x) (.ref y)) Q E s := by
  have one : wpAny (model prog w) A (tryCompare (.ref x) "__ne__" (.ref y)) (fun r s' => ∃ b, r = some (.bool b) ∧ Q (.bool b) s') E s := by
    have sub : Looks (model prog w) s.heap (isInstance (.ref x) (.type "object")) true := I.type.andThen (looks_subIn X hob)
    unfold tryCompare
    refine wpAny_bind (special_wrap X I PySem.F.cmp_object.ne hne (wpAny_call (codeAny_call_builtin PySem.F.cmp_object.ne.plain PySem.F.cmpEntry_ne (@check_slot (model prog w) _ _ s "object.__ne__" "object" "__ne__" (.ref x) [.ref y] [] _ PySem.F.cmpKind_ne PySem.F.cmpSplit_ne sub (PySem.F.cmpArgs_ne _ _) ?_))))
    show wpAny _ _ (Builtin.«object.__ne__» ⟨[.ref x, .ref y], []⟩) _ _ _
    unfold Builtin.«object.__ne__»
    refine wpAny_bind (wpAny_of_eq (a := ((Value.ref x : Value), [Value.ref y])) (by first | rfl | (simp only [slotArgs]; rfl)) ?_)
    refine wpAny_bind (wpAny_cRoomFor (A := A.in1) hu (wpAny_bind (ifBound_K X I hs hf (wpAny_mono h (fun v s' z => ?_) fun _ _ z => z))))
    obtain ⟨b, rfl, q⟩ := z
    refine wpAny_bind (wpAny_truthy_bool ?_)
    first
      | exact wpAny_pure (wpAny_pure ⟨_, rfl, q⟩)
      | exact wpAny_pure ⟨_, rfl, q⟩
      | exact wpAny_pure ⟨rfl, wpAny_pure ⟨_, rfl, q⟩⟩
  unfold richCompare
  simp only [oneThing_ref]
  refine wpAny_holding (wpAny_bind (wpAny_cRoomFor (Nat.lt_of_succ_lt hu) ?_))
  refine wpAny_bind (I.type.here (wpAny_bind (hb.here ?_)))
  rw [if_neg (by simp)]
  refine wpAny_bind (wpAny_pure ?_)
  simp only [Bool.false_eq_true, if_false]
  refine wpAny_bind (wpAny_mono one (fun r s' z => ?_) fun _ _ z => z)
  obtain ⟨b, rfl, q⟩ := z
  exact wpAny_pure q
theorem int_declines (b : Int) (u : Tok) (l C dx : Addr) : Meets (Builtin.«int.__eq__» ⟨[.int b u, .ref l], []⟩) (fun _ R s => s.heap.get? l = some (instObj C dx) ∧ R (.ok (.ret .notImplemented)) s) :=
  .of_wp fun prog w A R s h => by
    obtain ⟨hp, g, d, tk, os⟩ := s
    obtain ⟨hl, h⟩ := h
    unfold instObj at hl
    wp_walk using wpAny_loadPart' hl, wpAny_load hl
    exact ⟨_, rfl, h⟩
/-- n == y, y an instance, by its own __eq__ -/
theorem eq_int_own {Q : Value → Shared → Prop} {b : Int} {u : Tok} {dx : Addr} (hu : A.units < cLine) (X : K.In s.heap) (I : InstAt s.heap y (instObj C dx) C od) (hsub : subIn K (.ref C) (.type "int") = some false)
    (hs : findIn K (.ref C) "__eq__" = some (some (.ref f))) (hf : isFn K (.ref f) = true) (h : wpAny (model prog w) A (call (.ref f) [.ref y, .int b u]) (W.CmpBack Q) E s) : wpAny (model prog w) A (richCompare .Eq (.int b u) (.ref y)) Q E s := by
  have ha : s.TypeIs (.int b u) "int" := rfl
  have back : wpAny (model prog w) A (tryCompare (.ref y) "__eq__" (.int b u)) (fun r s' => ∃ v, r = some v ∧ Q v s') E s := by
    unfold tryCompare
    refine wpAny_bind (ifBound_K X I hs hf (wpAny_mono h (fun v s' z => ?_) fun _ _ z => z))
    cases v <;> first | exact z.elim | exact wpAny_pure ⟨_, rfl, z⟩
  have front : wpAny (model prog w) A (tryCompare (.int b u) "__eq__" (.ref y)) (fun r s' => r = none ∧ s' = s) E s :=
    wpAny_tryCompare_declines ha F.slot_int_eq (call_meets F.slot_int_eq ha F.entry_int_eq (F.args_int_eq_2 _ _) (int_declines b u y C dx) ⟨I.at_, rfl, rfl, rfl⟩)
  simp only [richCompare, cmpInfo_Eq, ha.oneThing_none]
  refine wpAny_holding (wpAny_bind (wpAny_cRoomFor hu ?_))
  refine wpAny_bind (wpAny_typeOf ha (wpAny_bind (I.type.here ?_)))
  have hne : (Value.type "int" != Value.ref C) = true := rfl
  rw [hne, if_pos rfl]
  refine wpAny_bind ((looks_subIn X hsub).here ?_)
  simp only [Bool.false_eq_true, if_false, Bool.not_false, if_true]
  refine wpAny_bind (wpAny_mono front (fun r s' z => ?_) fun _ _ z => z)
  obtain ⟨rfl, rfl⟩ := z
  refine wpAny_bind (wpAny_mono back (fun r s' z => ?_) fun _ _ z => z)
  obtain ⟨v, rfl, q⟩ := z
  exact wpAny_pure q
end
end NmM

/-! The own layer: values (numbers and what makers make), as data and as instances. -/
namespace Nm
open PySem PySem.Spec PyProof.Rows L2
inductive T where
  | num (n : Int)
  | node (m : Str) (ps : List T)
noncomputable instance : DecidableEq T := fun _ _ => Classical.propDecidable _
def T.isNode : T → Bool
  | .num _ => false
  | .node _ _ => true
mutual
def T.own : T → PyData
  | .num n => .int n
  | .node m ps => .tuple [.str m, .list (ownAll ps)]
def ownAll : List T → List PyData
  | [] => []
  | t :: ts => T.own t :: ownAll ts
end
mutual
def T.size : T → Nat
  | .num _ => 1
  | .node _ ps => 1 + sizeAll ps
def sizeAll : List T → Nat
  | [] => 0
  | t :: ts => T.size t + sizeAll ts
end
mutual
def T.depth : T → Nat
  | .num _ => 0
  | .node _ ps => 1 + depthAll ps
def depthAll : List T → Nat
  | [] => 0
  | t :: ts => max (T.depth t) (depthAll ts)
end
mutual
/-- the names are good texts of at most 24 signs -/
def T.good : T → Bool
  | .num _ => true
  | .node m ps => okV 24 (.str m) && goodAll ps
def goodAll : List T → Bool
  | [] => true
  | t :: ts => T.good t && goodAll ts
end
mutual
theorem own_eqv : ∀ a b : T, PyData.eqv a.own b.own = decide (a = b)
  | .num n, .num k => by
    simp only [T.own, PyData.eqv, T.num.injEq]
    by_cases h : n = k <;> simp [h]
  | .num n, .node m ps => by simp [T.own, PyData.eqv]
  | .node m ps, .num n => by simp [T.own, PyData.eqv]
  | .node m ps, .node l qs => by
    have ih := ownAll_eqv ps qs
    simp only [T.own, PyData.eqv, PyData.eqvAll, T.node.injEq, Bool.and_true, ih]
    by_cases h : m = l <;> by_cases h2 : ps = qs <;> simp [h, h2]
theorem ownAll_eqv : ∀ as bs : List T, PyData.eqvAll (ownAll as) (ownAll bs) = decide (as = bs)
  | [], [] => by simp [ownAll, PyData.eqvAll]
  | [], b :: bs => by simp [ownAll, PyData.eqvAll]
  | a :: as, [] => by simp [ownAll, PyData.eqvAll]
  | a :: as, b :: bs => by
    have h1 := own_eqv a b
    have h2 := ownAll_eqv as bs
    simp only [ownAll, PyData.eqvAll, h1, h2, List.cons.injEq]
    by_cases e : a = b <;> by_cases e2 : as = bs <;> simp [e, e2]
end
theorem ownAll_map : ∀ ts : List T, ownAll ts = ts.map T.own
  | [] => rfl
  | t :: ts => by rw [ownAll, ownAll_map ts]; rfl
theorem goodAll_iff {ts : List T} : goodAll ts = true ↔ ∀ t ∈ ts, t.good = true := by
  induction ts with
  | nil => simp [goodAll]
  | cons t ts ih => simp [goodAll, ih]
theorem depthAll_iff {ts : List T} {n : Nat} : depthAll ts ≤ n ↔ ∀ t ∈ ts, t.depth ≤ n := by
  induction ts with
  | nil => simp [depthAll]
  | cons t ts ih => simp [depthAll, ih, Nat.max_le]
theorem size_pos (t : T) : 1 ≤ t.size := by
  cases t with
  | num n => simp [T.size]
  | node m ps => simp [T.size]
theorem size_mem {t : T} : ∀ {ts : List T}, t ∈ ts → t.size ≤ sizeAll ts
  | a :: as, h => by
    rcases List.mem_cons.mp h with q | q
    · rw [q, sizeAll]; omega
    · have := size_mem q
      rw [sizeAll]; omega
theorem sizeAll_len : ∀ ts : List T, ts.length ≤ sizeAll ts
  | [] => Nat.le_refl _
  | t :: ts => by
    have := sizeAll_len ts
    have := size_pos t
    rw [List.length_cons, sizeAll]
    omega
mutual
theorem own_lay : ∀ t : T, t.good = true → t.own.canLay0 = true ∧ t.own.depth ≤ 2 * t.depth + 0
  | .num n, _ => ⟨rfl, by simp [T.own, PyData.depth]⟩
  | .node m ps, h => by
    simp only [T.good, Bool.and_eq_true] at h
    obtain ⟨h1, h2⟩ := ownAll_lay ps h.2
    have hm : PyData.strOk m = true := by
      have q : (decide (m.length ≤ 24) && PyData.strOk m) = true := h.1
      rw [Bool.and_eq_true] at q
      exact q.2
    refine ⟨by simp only [T.own, PyData.canLay0, PyData.canLayAll0, hm, h1]; rfl, ?_⟩
    simp only [T.own, PyData.depth, PyData.depthAll, T.depth]
    omega
theorem ownAll_lay : ∀ ts : List T, goodAll ts = true → PyData.canLayAll0 (ownAll ts) = true ∧ PyData.depthAll (ownAll ts) ≤ 2 * depthAll ts
  | [], _ => ⟨rfl, Nat.le_refl _⟩
  | t :: ts, h => by
    simp only [goodAll, Bool.and_eq_true] at h
    obtain ⟨h1, h2⟩ := own_lay t h.1
    obtain ⟨h3, h4⟩ := ownAll_lay ts h.2
    refine ⟨by simp only [ownAll, PyData.canLayAll0, h1, h3]; rfl, ?_⟩
    simp only [ownAll, PyData.depthAll, depthAll]
    omega
end
theorem own_shaped {t : T} (h : t.good = true) (hd : t.depth ≤ 30) : SeqAt.shaped t.own = true := by
  obtain ⟨h1, h2⟩ := own_lay t h
  unfold SeqAt.shaped
  rw [h1, Bool.true_and]
  exact decide_eq_true (by omega)
mutual
/-- v is an instance (of the class at C) of the value t -/
def MadeAt (K : PySem.W.Frag) (C : Addr) (H : Hp) : T → V → Prop
  | .num n, v => v = .int n
  | .node m ps, v => ∃ (a dx p : Addr) (vs : List V) (fs : List (Str × V)), v = .ref a ∧ H a = some (.ins C dx fs) ∧ fs.lookup ("maker" : Str) = some (V.str m) ∧ fs.lookup ("parts" : Str) = some (V.ref p) ∧ SqT K H p vs ∧ MadeAll K C H ps vs
def MadeAll (K : PySem.W.Frag) (C : Addr) (H : Hp) : List T → List V → Prop
  | [], vs => vs = []
  | t :: ts, vs => ∃ (v : V) (ws : List V), vs = v :: ws ∧ MadeAt K C H t v ∧ MadeAll K C H ts ws
end
section
variable {K : PySem.W.Frag} {C : Addr} {H H' : Hp}
/-- tuples and instances stand -/
structure KI (K : PySem.W.Frag) (H H' : Hp) : Prop where
  tup : ∀ a xs, SqT K H a xs → SqT K H' a xs
  ins : ∀ a C dx fs, H a = some (.ins C dx fs) → H' a = some (.ins C dx fs)
theorem KI.keep (k : Keep H H') : KI K H H' := ⟨fun _ _ h => k.t h, fun _ _ _ _ h => k _ _ h rfl⟩
theorem KI.lst {p : Addr} {xs : List V} {o : HO} (h : H p = some (.lst xs)) : KI K H (upd H p o) := ⟨KT.upd h, fun a C dx fs q => by
  rw [upd_ne (ne_of q h (by intro z; cases z))]
  exact q⟩
mutual
theorem made_ki (k : KI K H H') : ∀ {t : T} {v : V}, MadeAt K C H t v → MadeAt K C H' t v
  | .num n, v, h => by
    rw [MadeAt] at h ⊢
    exact h
  | .node m ps, v, h => by
    rw [MadeAt] at h ⊢
    obtain ⟨a, dx, p, vs, fs, h1, h2, h3, h4, h5, h6⟩ := h
    exact ⟨a, dx, p, vs, fs, h1, k.ins _ _ _ _ h2, h3, h4, k.tup _ _ h5, mades_ki k h6⟩
theorem mades_ki (k : KI K H H') : ∀ {ts : List T} {vs : List V}, MadeAll K C H ts vs → MadeAll K C H' ts vs
  | [], vs, h => by
    rw [MadeAll] at h ⊢
    exact h
  | t :: ts, vs, h => by
    rw [MadeAll] at h ⊢
    obtain ⟨v, ws, h1, h2, h3⟩ := h
    exact ⟨v, ws, h1, made_ki k h2, mades_ki k h3⟩
end
theorem made_same (s : Same H H') {t : T} {v : V} (h : MadeAt K C H t v) : MadeAt K C H' t v := made_ki (KI.keep (same_keep s)) h
theorem mades_same (s : Same H H') {t : List T} {v : List V} (h : MadeAll K C H t v) : MadeAll K C H' t v := mades_ki (KI.keep (same_keep s)) h
theorem mades_len : ∀ {ts : List T} {vs : List V}, MadeAll K C H ts vs → vs.length = ts.length
  | [], vs, h => by
    rw [MadeAll] at h
    rw [h]
    rfl
  | t :: ts, vs, h => by
    rw [MadeAll] at h
    obtain ⟨v, ws, h1, h2, h3⟩ := h
    rw [h1, List.length_cons, List.length_cons, mades_len h3]
theorem mades_at : ∀ {ts : List T} {vs : List V}, MadeAll K C H ts vs → ∀ {i : Nat} {t : T}, ts[i]? = some t → ∃ v, vs[i]? = some v ∧ MadeAt K C H t v
  | [], vs, h, i, t, e => by simp at e
  | t :: ts, vs, h, i, t', e => by
    rw [MadeAll] at h
    obtain ⟨v, ws, h1, h2, h3⟩ := h
    subst h1
    cases i with
    | zero =>
      have e' := Option.some.inj e
      subst e'
      exact ⟨v, rfl, h2⟩
    | succ i => exact mades_at h3 e
theorem mades_of : ∀ {ts : List T} {vs : List V}, vs.length = ts.length → (∀ (i : Nat) (t : T) (v : V), ts[i]? = some t → vs[i]? = some v → MadeAt K C H t v) → MadeAll K C H ts vs
  | [], vs, hl, h => by
    rw [MadeAll]
    exact List.eq_nil_of_length_eq_zero hl
  | t :: ts, [], hl, h => by cases hl
  | t :: ts, v :: vs, hl, h => by
    rw [MadeAll]
    exact ⟨v, vs, rfl, h 0 t v rfl rfl, mades_of (by simpa using hl) fun i t' v' e1 e2 => h (i + 1) t' v' e1 e2⟩
theorem mades_app : ∀ {ts us : List T} {vs ws : List V}, MadeAll K C H ts vs → MadeAll K C H us ws → MadeAll K C H (ts ++ us) (vs ++ ws)
  | [], us, vs, ws, h1, h2 => by
    rw [MadeAll] at h1
    rw [h1]
    exact h2
  | t :: ts, us, vs, ws, h1, h2 => by
    rw [MadeAll] at h1
    obtain ⟨v, w', e, h3, h4⟩ := h1
    subst e
    show MadeAll K C H (t :: (ts ++ us)) (v :: (w' ++ ws))
    rw [MadeAll]
    exact ⟨v, w' ++ ws, rfl, h3, mades_app h4 h2⟩
end
end Nm

/-! The own layer: rules for values: == and != of them, isinstance, enumerate(tuple), zip of tuples, extend by a tuple, great powers. -/
namespace Nm
open PySem PySem.Spec PyProof.Rows L2
/-- what the text says of the class Made -/
structure MadeC (K : PySem.W.Frag) (C f : Addr) : Prop where
  cl : L2.Cls K C
  nM : L2.NoAttr K C "maker"
  nP : L2.NoAttr K C "parts"
  eq : PySem.W.findIn K (.ref C) "__eq__" = some (some (.ref f))
  fn : PySem.W.isFn K (.ref f) = true
  ne : PySem.W.findIn K (.ref C) "__ne__" = some (some (.builtin "object.__ne__"))
  ob : PySem.W.subIn K (.ref C) (.type "object") = some true
  int : PySem.W.subIn K (.ref C) (.type "int") = some false
  nf : PySem.W.notFirst K C (.type "int") = true
  ha : PySem.W.findIn K (.ref C) "__class__" = some (some (.builtin "object.__class__"))
  hn : PySem.W.specialIn K (.builtin "object.__class__") "__get__" = some (some (.builtin "getset_descriptor.__get__"))
  ht : PySem.W.takesIn K (.builtin "object.__class__") = some true
  hm : PySem.W.mroIn K C (.type "object") = some true
  kI : PySem.W.kitOne K (.ref C) (.type "int") = some false
  kM : PySem.W.kitOne K (.ref C) (.ref C) = some true
  iM : PySem.W.kitOne K (.type "int") (.ref C) = some false
/-- what __eq__ promises: both are values -/
def spEqT (K : PySem.W.Frag) (C : Addr) : Sp := fun vs H Q _ => ∃ (x y : V) (t u : T), vs = [x, y] ∧ MadeAt K C H t x ∧ MadeAt K C H u y ∧ t.size ≤ 1000000 ∧ u.size ≤ 1000000 ∧ ∀ H', Same H H' → Q (.bl (decide (t = u))) H'
def rEqT (K : PySem.W.Frag) (C : Addr) : R2 := fun x y H Q => ∃ t u, MadeAt K C H t x ∧ MadeAt K C H u y ∧ t.size ≤ 1000000 ∧ u.size ≤ 1000000 ∧ ∀ H', Same H H' → Q (.bl (decide (t = u))) H'
def rNeT (K : PySem.W.Frag) (C : Addr) : R2 := fun x y H Q => ∃ t u, MadeAt K C H t x ∧ MadeAt K C H u y ∧ t.isNode = u.isNode ∧ t.size ≤ 1000000 ∧ u.size ≤ 1000000 ∧ ∀ H', Same H H' → Q (.bl (!decide (t = u))) H'
section
variable {X : Cx} {C f : Addr} {fd : FuncData} {ps : List Str} {k : Nat} {CX : CXT} {E : XK}
theorem eqT_call {A : Around} {pins : List (Addr × Obj)} {σ : L2.St} {H : Hp} {s : Shared} {x y : V} {u v : Value} {t1 t2 : T} {Q : Value → Shared → Prop} (F : FnOk X.prog X.w X.K X.mg X.base CX k f fd ps (spEqT X.K C)) (hb : Binds X.K fd ps []) (hx : Passes CX X E)
    (hA : A.frames = X.A.frames) (hr : Room k A) (I : Inv X pins σ H s) (rx : RelV x u) (ry : RelV y v) (h1 : MadeAt X.K C H t1 x) (h2 : MadeAt X.K C H t2 y) (z1 : t1.size ≤ 1000000) (z2 : t2.size ≤ 1000000)
    (q : ∀ s' H', Inv X pins σ H' s' → Same H H' → Q (.bool (decide (t1 = t2))) s') : wpAny (model X.prog X.w) A (call (.ref f) [u, v]) Q X.xe s := by
  have hsp : spEqT X.K C [x, y] H (fun v H' => v = .bl (decide (t1 = t2)) ∧ Same H H') E := ⟨x, y, t1, t2, rfl, h1, h2, z1, z2, fun H' e => ⟨rfl, e⟩⟩
  have e := I.env0
  have e0 : Env0 X.prog X.w X.K X.mg X.base A X.stack s H := ⟨by rw [hA]; exact e.frames, e.mod, e.bs, e.bsz, e.funs, e.frf, e.hok, e.bare⟩
  have hl := F.len _ _ _ _ hsp
  have bd : BindsTo s fd ⟨[u, v], []⟩ (ps.zip [u, v]) := by
    have z := hb s [u, v] I.kIn (by simpa using hl)
    simpa using z
  refine wpAny_call (codeAny_mono (F.run A X.stack s H ⟨[u, v], []⟩ [u, v] [x, y] _ E hr e0 bd (.cons rx (.cons ry .nil)) hsp) fun r s' hq => ?_)
  cases r with
  | error er => exact hx pins σ H s er s' I hq
  | ok fl =>
    cases fl with
    | ret w =>
      obtain ⟨z, H', I', rz, ez, sm⟩ := I.after hq
      subst ez
      obtain rfl : w = Value.bool (decide (t1 = t2)) := rz
      exact q s' H' I' sm
    | next => exact False.elim hq
    | brk => exact False.elim hq
    | cont => exact False.elim hq
theorem op_eqT (M : MadeC X.K C f) (F : FnOk X.prog X.w X.K X.mg X.base CX k f fd ps (spEqT X.K C)) (hr : Room k X.A) (hb : Binds X.K fd ps []) (hx : Passes CX X E) : OpR X (compareOp .Eq) (rEqT X.K C) := by
  intro pins s σ H x y v u Q I rx ry ⟨t1, t2, h1, h2, z1, z2, q⟩
  show wpAny _ _ (richCompare .Eq v u) _ _ _
  cases t1 with
  | num n =>
    rw [MadeAt] at h1
    subst h1
    cases t2 with
    | num l =>
      rw [MadeAt] at h2
      subst h2
      have e : decide (T.num n = T.num l) = decide (V.int n = V.int l) := decide_eq_decide.mpr (by simp)
      have q' := q H (Same.refl _)
      rw [e] at q'
      exact op_eq pins s σ H _ _ v u Q I rx ry ⟨rfl, q'⟩
    | node m qs =>
      have h2' := h2
      rw [MadeAt] at h2
      obtain ⟨a, dx, p, vs, fs, rfl, ha, _⟩ := h2
      obtain ⟨t, rfl⟩ := rx
      obtain rfl : u = Value.ref a := ry
      obtain ⟨mA, J, _⟩ := ins_get I.hok ha
      obtain ⟨od, J, _⟩ := J.look
      have h1' : MadeAt X.K C H (.num n) (.int n) := by rw [MadeAt]
      refine NmM.eq_int_own hr.units0 I.kIn J M.int M.eq M.fn (eqT_call F hb hx rfl hr I (x := .ref a) (y := .int n) rfl ⟨t, rfl⟩ h2' h1' z2 z1 fun s' H' I' sm => ?_)
      have e : decide (T.node m qs = T.num n) = decide (T.num n = T.node m qs) := decide_eq_decide.mpr ⟨fun z => z.symm, fun z => z.symm⟩
      rw [e]
      exact ⟨.bl (decide (T.num n = T.node m qs)), H', I', rfl, q H' sm⟩
  | node m qs =>
    have h1' := h1
    rw [MadeAt] at h1
    obtain ⟨a, dx, p, vs, fs, rfl, ha, _⟩ := h1
    obtain rfl : v = Value.ref a := rx
    obtain ⟨mA, J, _⟩ := ins_get I.hok ha
    obtain ⟨od, J, _⟩ := J.look
    obtain ⟨m0, hF⟩ := I.fr
    have go : ∀ tb, PySem.W.Looks (model X.prog X.w) s.heap (typeOf u) tb → PySem.W.notFirst X.K C tb = true → wpAny (model X.prog X.w) X.A (richCompare .Eq (.ref a) u) (EP X pins σ Q) X.xe s := fun tb ht hn =>
      PySem.W.cmp_K (op := .Eq) (tb := tb) hr.units0 hF I.ok.mod.kin J ht hn M.eq M.fn (eqT_call F hb hx rfl hr I (x := .ref a) rfl ry h1' h2 z1 z2 fun s' H' I' sm => ⟨.bl (decide (T.node m qs = t2)), H', I', rfl, q H' sm⟩)
    cases t2 with
    | num l =>
      rw [MadeAt] at h2
      subst h2
      obtain ⟨t, rfl⟩ := ry
      exact go (.type "int") (PySem.W.Looks.of_pure rfl) M.nf
    | node l rs =>
      rw [MadeAt] at h2
      obtain ⟨a', dx', p', vs', fs', rfl, ha', _⟩ := h2
      obtain rfl : u = Value.ref a' := ry
      obtain ⟨mA', J', _⟩ := ins_get I.hok ha'
      obtain ⟨od', J', _⟩ := J'.look
      exact go (.ref C) J'.type (by simp [PySem.W.notFirst])
theorem op_neT (M : MadeC X.K C f) (F : FnOk X.prog X.w X.K X.mg X.base CX k f fd ps (spEqT X.K C)) (hr : Room (k + 1) X.A) (hb : Binds X.K fd ps []) (hx : Passes CX X E) : OpR X (compareOp .NotEq) (rNeT X.K C) := by
  intro pins s σ H x y v u Q I rx ry ⟨t1, t2, h1, h2, hk, z1, z2, q⟩
  cases t1 with
  | num n =>
    cases t2 with
    | node m qs => cases hk
    | num l =>
      rw [MadeAt] at h1 h2
      subst h1 h2
      have e : decide (T.num n = T.num l) = decide (V.int n = V.int l) := decide_eq_decide.mpr (by simp)
      have q' := q H (Same.refl _)
      rw [e] at q'
      exact op_ne pins s σ H _ _ v u Q I rx ry ⟨rfl, q'⟩
  | node m qs =>
    cases t2 with
    | num l => cases hk
    | node l rs =>
      have h1' := h1
      have h2' := h2
      rw [MadeAt] at h1 h2
      obtain ⟨a, dx, p, vs, fs, rfl, ha, _⟩ := h1
      obtain ⟨a', dx', p', vs', fs', rfl, ha', _⟩ := h2
      obtain rfl : v = Value.ref a := rx
      obtain rfl : u = Value.ref a' := ry
      obtain ⟨mA, J, _⟩ := ins_get I.hok ha
      obtain ⟨od, J, _⟩ := J.look
      obtain ⟨mA', J', _⟩ := ins_get I.hok ha'
      obtain ⟨od', J', _⟩ := J'.look
      show wpAny _ _ (richCompare .NotEq (.ref a) (.ref a')) _ _ _
      refine NmM.ne_own (by have := hr.un; omega) I.kIn J J'.type M.ne M.ob M.eq M.fn (eqT_call F hb hx rfl hr.in1 I (x := .ref a) (y := .ref a') rfl rfl h1' h2' z1 z2 fun s' H' I' sm => ⟨_, rfl, ?_⟩)
      exact ⟨.bl (!decide (T.node m qs = T.node l rs)), H', I', rfl, q H' sm⟩
end
/-! isinstance -/
section
variable {K : PySem.W.Frag} {C f : Addr} {H : Hp} {Q : VK} {t : T} {x : V}
theorem made_ty (M : MadeC K C f) (h : MadeAt K C H t x) : TyX K H x (if t.isNode then .ref C else .type "int") := by
  cases t with
  | num n =>
    rw [MadeAt] at h
    subst h
    exact .base (.int n)
  | node m ps =>
    rw [MadeAt] at h
    obtain ⟨a, dx, p, vs, fs, rfl, ha, _⟩ := h
    exact .base (.ins ha M.cl M.ha M.hn M.ht M.hm)
theorem z_isMade (M : MadeC K C f) (h : MadeAt K C H t x) (q : Q (.bl t.isNode) H) : rIsi K [x, .ref C] H Q := by
  refine z_isi (ClsV.own C) (made_ty M h) (b := t.isNode) ?_ q
  cases t with
  | num n => exact M.iM
  | node m ps => exact M.kM
theorem z_isInt (M : MadeC K C f) (h : MadeAt K C H t x) (q : Q (.bl (!t.isNode)) H) : rIsi K [x, .ty "int"] H Q := by
  refine z_isi (ClsV.ty "int") (made_ty M h) (b := !t.isNode) ?_ q
  cases t with
  | num n => exact kit_ty (r := true) (by decide +kernel)
  | node m ps => exact M.kI
theorem tup_ty {a : Addr} {xs : List V} (h : SqT K H a xs) : TyX K H (.ref a) (.type "tuple") := by
  rcases h with (h | ⟨o, h⟩) | ⟨o, its, n, hk, hc, _⟩
  · exact .base (.tup h)
  · exact .fTuple h
  · exact .kTuple hk hc
/-- isinstance(v, int), v an own value -/
theorem z_ownInt (h : Dp K H x t.own) (q : Q (.bl (!t.isNode)) H) : rIsi K [x, .ty "int"] H Q := by
  cases t with
  | num n =>
    have h' : Dp K H x (.int n) := h
    cases h'
    exact z_isi (ClsV.ty "int") (.base (.int n)) (b := true) (kit_ty (r := true) (by decide +kernel)) q
  | node m ps =>
    have h' : Dp K H x (.tuple [.str m, .list (ownAll ps)]) := by rw [T.own] at h; exact h
    cases h' with
    | tup ht _ => exact z_isi (ClsV.ty "int") (tup_ty ht) (b := false) (kit_ty (r := false) (by decide +kernel)) q
/-- the parts of an own value -/
theorem own_node {m : Str} {ps : List T} (h : Dp K H x (T.node m ps).own) : ∃ (a l : Addr) (vs : List V), x = .ref a ∧ SqT K H a [.str m, .ref l] ∧ SqL K H l vs ∧ DpAll K H vs (ownAll ps) := by
  have h' : Dp K H x (.tuple [.str m, .list (ownAll ps)]) := by rw [T.own] at h; exact h
  cases h' with
  | tup ht hs =>
    cases hs with
    | cons h1 hs =>
      cases h1
      cases hs with
      | cons h2 hs =>
        cases hs
        cases h2 with
        | lst hl hv => exact ⟨_, _, _, rfl, ht, hl, hv⟩
theorem own_num {n : Int} (h : Dp K H x (T.num n).own) : x = .int n := by
  have h' : Dp K H x (.int n) := by rw [T.own] at h; exact h
  cases h'
  rfl
theorem own_mk {m : Str} {ps : List T} {a l : Addr} {vs : List V} (ht : SqT K H a [.str m, .ref l]) (hl : SqL K H l vs) (hv : DpAll K H vs (ownAll ps)) : Dp K H (.ref a) (T.node m ps).own := by
  rw [T.own]
  exact .tup ht (.cons (.str m) (.cons (.lst hl hv) .nil))
end
/-! great powers -/
theorem op_powW {X : Cx} : OpR X (binaryOp .Pow) (rI (fun i j => 0 < j ∧ (i == 0 || i == 1) = false ∧ (i == -1) = false ∧ Builtin.Int.intTooBig (((Builtin.Int.intBits i : Nat) : Int) * j) = false) fun i j => .int (i ^ j.toNat)) :=
  opI fun i j t u _ _ _ hc q => by
    obtain ⟨h1, h2, h3, h4⟩ := hc
    exact AutoIntOps.pow_4 (by omega) (by simp; omega) (by rw [h2]; exact Bool.false_ne_true) (by rw [h3]; exact Bool.false_ne_true) (by rw [h4]; exact Bool.false_ne_true) q
end Nm

/-! The own layer: heaps of what is new, comprehensions whose items are made, enumerate(tuple), zip of tuples, extend by a tuple; an instance made. -/
namespace Nm
open PySem PySem.Spec PyProof.Rows L2
/-- what stands in H1 and did not in H0 -/
def Nw (H0 H1 : Hp) : Hp := fun a => match H0 a with
  | none => H1 a
  | some _ => none
section
variable {H0 H1 H2 H : Hp} {a D : Addr} {o : HO}
theorem nw_at (h0 : H0 a = none) (h1 : H1 a = some o) : Nw H0 H1 a = some o := by
  unfold Nw
  rw [h0]
  exact h1
theorem nw_of (h : Nw H0 H1 a = some o) : H0 a = none ∧ H1 a = some o := by
  unfold Nw at h
  cases e : H0 a with
  | none => rw [e] at h; exact ⟨rfl, h⟩
  | some u => rw [e] at h; cases h
theorem nw_sub : Same (Nw H0 H1) H1 := fun _ _ h => (nw_of h).2
theorem nw_mono (s : Same H1 H2) : Same (Nw H0 H1) (Nw H0 H2) := fun _ _ h => nw_at (nw_of h).1 (s _ _ (nw_of h).2)
theorem nw_but {d : Addr} (b : But d H1 H2) (hd : H0 d ≠ none) : Same (Nw H0 H1) (Nw H0 H2) := fun x _ h => nw_at (nw_of h).1 (b _ _ (fun e => hd (by rw [← e]; exact (nw_of h).1)) (nw_of h).2)
/-- no address goes -/
def Dom (H0 H1 : Hp) : Prop := ∀ a, H1 a = none → H0 a = none
theorem dom_same (s : Same H0 H1) : Dom H0 H1 := fun a h => by
  cases e : H0 a with
  | none => rfl
  | some u => rw [s _ _ e] at h; cases h
theorem dom_but {d : Addr} (b : But d H0 H1) (h1 : H1 d ≠ none) : Dom H0 H1 := fun a h => by
  cases e : H0 a with
  | none => rfl
  | some u =>
    by_cases q : a = d
    · rw [q] at h; exact absurd h h1
    · rw [b _ _ q e] at h; cases h
theorem Dom.trans (a : Dom H0 H1) (b : Dom H1 H2) : Dom H0 H2 := fun x h => a x (b x h)
theorem nw_shift (s : Dom H0 H1) : Same (Nw H1 H2) (Nw H0 H2) := fun _ _ h => nw_at (s _ (nw_of h).1) (nw_of h).2
theorem nw_del (s : Dom H0 H1) (hD : H1 D ≠ none) : Same (Nw H1 H2) (del (Nw H0 H2) D) := fun x _ h => by
  have n : x ≠ D := fun e => hD (by rw [← e]; exact (nw_of h).1)
  rw [del_ne n]
  exact nw_shift s _ _ h
theorem del_sub : Same (del H D) H := fun x _ h => by
  by_cases e : x = D
  · rw [e, del_same] at h; cases h
  · rw [del_ne e] at h; exact h
theorem del_mono (s : Same H1 H2) : Same (del H1 D) (del H2 D) := fun x _ h => by
  by_cases e : x = D
  · rw [e, del_same] at h; cases h
  · rw [del_ne e] at h ⊢; exact s _ _ h
theorem del_upd : Same (del (Nw H0 H1) D) (del (Nw H0 (upd H1 D o)) D) := fun x _ h => by
  by_cases e : x = D
  · rw [e, del_same] at h; cases h
  · rw [del_ne e] at h ⊢
    exact nw_at (nw_of h).1 (by rw [upd_ne e]; exact (nw_of h).2)
end
section
variable {J : It} {te : TE} {g : TG} {σ : L2.St} {vs : List Nat} {H : Hp} {Q : VK} {K : PySem.W.Frag} {n : Nat} {G : Hp → Prop} {Y : Nat → Hp → V → Hp → Prop}
/-- [e for .. in ..]: each item made, what stood stands -/
theorem l_gen (w : Walk J n G Y) (P : Addr → Nat → V → Hp → Prop) (hS : ∀ D i v H1 H2, Same H1 H2 → P D i v H1 → P D i v H2) (hL : ∀ D i v H1 (xs : List V) (o : HO), H D = none → H1 D = some (.lst xs) → P D i v H1 → P D i v (upd H1 D o)) (hn : n ≤ 1000000) (hG : ∀ H1, Same H H1 → G H1)
    (ht : ∀ D i x H1 H1', H D = none → H1 D ≠ none → i < n → Same H H1 → Y i H1 x H1' → ∀ Q' : VK, (∀ v H3, Same H1 H3 → P D i v H3 → Q' v H3) → g x (wipe σ vs) H1' fun σ2 H2 => wipe σ2 vs = wipe σ vs ∧ te σ2 H2 Q')
    (k : ∀ D H' ys, H D = none → Same H H' → H' D = some (.lst ys) → ys.length = n → (∀ i y, ys[i]? = some y → P D i y H') → Q (.ref D) H')
    (mono : ∀ x σ1 H1 (A B : L2.St → Hp → Prop), (∀ σ2 H2, A σ2 H2 → B σ2 H2) → g x σ1 H1 A → g x σ1 H1 B) : kLc g tYes te vs σ Q J H := fun D hD => by
  refine lc_it w (Pv := fun i H1 => Same H H1 ∧ ∃ ys, H1 D = some (.lst ys) ∧ ys.length = i ∧ ∀ j y, ys[j]? = some y → P D j y H1) ⟨Same.new hD, [], upd_same, rfl, fun j y h => by simp at h⟩ (fun i H1 _ ⟨s, _⟩ => hG H1 s) ?_ ?_
  · rintro i x H1 H1' hi ⟨s1, ys, h1, hl, hp⟩ y
    refine mono _ _ _ _ _ (fun σ2 H2 ⟨hw, q⟩ => ⟨hw, z_tYes (iteT q)⟩) (ht D i x H1 H1' hD (by rw [h1]; simp) hi s1 y _ fun v H3 s3 pv => ?_)
    refine ⟨ys, s3 _ _ h1, by rw [sizeLine_eq]; omega, Nm.Same.mut (s1.trans s3) hD, ys ++ [v], upd_same, by simp [hl], fun j z hz => ?_⟩
    by_cases q : j < ys.length
    · rw [List.getElem?_append_left q] at hz
      exact hL D j z H3 _ _ hD (s3 _ _ h1) (hS D j z H1 H3 s3 (hp j z hz))
    · rw [List.getElem?_append_right (by omega)] at hz
      have e : j - ys.length = 0 := by
        cases e : j - ys.length with
        | zero => rfl
        | succ m => rw [e] at hz; simp at hz
      rw [e] at hz
      have ev : v = z := Option.some.inj hz
      have ej : j = i := by omega
      rw [← ev, ej]
      exact hL D i v H3 _ _ hD (s3 _ _ h1) pv
  · rintro H1 ⟨s1, ys, h1, hl, hp⟩
    exact k D H1 ys hD s1 h1 hl hp
theorem mono_name {i : Nat} : ∀ (x : V) (σ1 : L2.St) (H1 : Hp) (A B : L2.St → Hp → Prop), (∀ σ2 H2, A σ2 H2 → B σ2 H2) → gName i x σ1 H1 A → gName i x σ1 H1 B := fun _ _ _ _ _ h q => h _ _ q
theorem mono_two {i j : Nat} : ∀ (x : V) (σ1 : L2.St) (H1 : Hp) (A B : L2.St → Hp → Prop), (∀ σ2 H2, A σ2 H2 → B σ2 H2) → gTup K 2 (gCons (gName i) (gCons (gName j) gNil)) x σ1 H1 A → gTup K 2 (gCons (gName i) (gCons (gName j) gNil)) x σ1 H1 B := by
  rintro x σ1 H1 A B h ⟨a, xs, e1, e2, e3, v, vs, e4, v2, vs2, e5, e6, q⟩
  exact ⟨a, xs, e1, e2, e3, v, vs, e4, v2, vs2, e5, e6, h _ _ q⟩
/-- [.. for k in range(n)] whose items are drawn; each costs at most `cost` draws -/
theorem l_genD {i0 : Nat} {d c : Addr} {m : Nat} (cost : Nat) (P : Addr → V → Hp → Prop) (hS : ∀ D v H1 H2, But d H1 H2 → P D v H1 → P D v H2) (hL : ∀ D v H1 (xs : List V) (o : HO), H D = none → H1 D = some (.lst xs) → P D v H1 → P D v (upd H1 D o)) (hn : n ≤ 1000) (hp : Pen K H d c (m + cost * n))
    (he : ∀ D (i : Nat) H1 j, H D = none → H1 D ≠ none → i < n → But d H H1 → Dom H H1 → Pen K H1 d c (j + cost) → ∀ Q' : VK, (∀ v H2, But d H1 H2 → P D v H2 → Pen K H2 d c j → Q' v H2) → te ((σ.set i0 none).set i0 (some (.int (0 + (i : Nat))))) H1 Q')
    (k : ∀ D H' ys, H D = none → But d H H' → Pen K H' d c m → ys.length = n → (∀ y ∈ ys, P D y H') → H' D = some (.lst ys) → Q (.ref D) H') : kLc (gName i0) tYes te [i0] σ Q (Itr 0 n) H := fun D hD => by
  have nd : D ≠ d := hp.ne hD
  refine lc_it walk_range (Pv := fun i H1 => But d H H1 ∧ i ≤ n ∧ Pen K H1 d c (m + cost * (n - i)) ∧ ∃ ys : List V, H1 D = some (.lst ys) ∧ ys.length = i ∧ ∀ y ∈ ys, P D y H1) ⟨same_but (Same.new hD), Nat.zero_le _, ?_, [], upd_same, rfl, fun _ h => by cases h⟩ (fun _ _ _ _ => trivial) ?_ ?_
  · exact hp.mut hD hp
  · rintro i x H1 H1' hi ⟨b1, _, p1, ys, h1, hl, hpr⟩ ⟨eH, ex⟩
    subst ex
    subst eH
    refine ⟨set_none_twice, ?_⟩
    refine z_tYes (iteT ?_)
    have e1 : m + cost * (n - i) = m + cost * (n - (i + 1)) + cost := by
      have e2 : n - i = (n - (i + 1)) + 1 := by omega
      rw [e2, Nat.mul_add, Nat.mul_one, Nat.add_assoc]
    rw [e1] at p1
    have hd1 : H1' d ≠ none := by
      obtain ⟨_, _, _, _, _, q, _⟩ := p1
      rw [q]
      simp
    refine he D i _ _ hD (by rw [h1]; simp) hi b1 (dom_but b1 hd1) p1 _ fun v H2 b2 hv p2 => ?_
    have h2 := b2 _ _ nd h1
    refine ⟨ys, h2, ?_, fun a o hne e => ?_, hi, ?_, ys ++ [v], upd_same, by simp [hl], ?_⟩
    · rw [sizeLine_eq]
      omega
    · rw [upd_ne (ne_of_none e hD)]
      exact b2 _ _ hne (b1 _ _ hne e)
    · exact hp.mut hD p2
    · intro y hy
      rcases List.mem_append.mp hy with q | q
      · exact hL D y H2 _ _ hD h2 (hS D y _ H2 b2 (hpr y q))
      · rw [List.mem_singleton.mp q]
        exact hL D v H2 _ _ hD h2 hv
  · rintro H1 ⟨b1, _, p1, ys, h1, hl, hpr⟩
    rw [Nat.sub_self, Nat.mul_zero, Nat.add_zero] at p1
    exact k D H1 ys hD b1 p1 hl hpr h1
end
/-! ### enumerate(tuple) -/
def ItEt (K : PySem.W.Frag) (a : Addr) (xs : List V) : It :=
  ⟨fun i H => i < xs.length ∧ SqT K H a xs, fun i H v H' => ∃ U x, v = .ref U ∧ H U = none ∧ xs[i]? = some x ∧ H' = upd H U (.tup [.int (i : Nat), x]), fun i H => i = xs.length ∧ SqT K H a xs⟩
theorem enum_newT (l : Addr) (items : Array Value) (n : Nat) (dct : Option Addr) (sl : Array (Option Value)) :
    Meets (Builtin.«enumerate.__new__» ⟨[.type "enumerate", .ref l], []⟩) (fun _ R s => s.heap.get? l = some { cls := .type "tuple", dict := dct, data := .seq items n, slots := sl } ∧
      R (.ok (.ret (.ref (s.heap.push { cls := .type "tuple_iterator", data := .fields #[.ref l, .int 0 0] }).objs.size)))
        { s with heap := (s.heap.push { cls := .type "tuple_iterator", data := .fields #[.ref l, .int 0 0] }).push { cls := .type "enumerate", data := .fields #[.none, .bool false, .ref s.heap.objs.size, rawInt 0, .none, .none] } }) :=
  .of_wp fun prog w A R s h => by
    obtain ⟨hp, g, d, tk, os⟩ := s
    obtain ⟨hl, h⟩ := h
    have f1 := sub_enumerate
    have hT : Heap.IsTuple (Shared.heap ⟨hp, g, d, tk, os⟩) l items := ⟨_, hl, rfl, n, rfl⟩
    wp_walk using wpAny_loadPart' hl
    refine wpAny_stack_any fun st => wpAny_pure ?_
    split
    · rename_i c _ _ _ _ _
      cases (c == Value.type "enumerate") <;>
        (wp_walk using wpAny_loadPart' hl, wpAny_pyIter_tuple hT
         exact ⟨_, rfl, h⟩)
    · wp_walk using wpAny_loadPart' hl, wpAny_pyIter_tuple hT
      exact ⟨_, rfl, h⟩
end Nm

/-! The own layer: enumerate(tuple), zip of tuples walked, extend by a tuple, an instance of Made made, its fields. -/
namespace Nm
open PySem PySem.Spec PyProof.Rows L2
section
variable {prog : Program} {w : World} {A : Around} {E : Value → Shared → Prop} {s : Shared}
theorem call_enumT {l : Addr} {items : Array Value} {Q : Value → Shared → Prop} (hL : s.heap.IsTuple l items)
    (h : ∀ h', IsEnum h' (s.heap.objs.size + 1) s.heap.objs.size 0 .none → h'.IsTupleIter s.heap.objs.size l 0 → (∀ b o, s.heap.get? b = some o → h'.get? b = some o) → Q (.ref (s.heap.objs.size + 1)) { s with heap := h' }) :
    wpAny (model prog w) A (call (.type "enumerate") [.ref l]) Q E s := by
  obtain ⟨⟨c, dct, dt, sl⟩, hl, hc, n, hd⟩ := hL
  replace hc : c = .type "tuple" := hc
  replace hd : dt = .seq items n := hd
  subst hc hd
  refine callType_new F.called_enumerate (by decide) (F.typeCall_enumerate_1 _) (F.newCall_enumerate_1 _) (fun obj => F.args_object_init_2 obj _) F.entry_enumerate_new (enum_newT l items n dct sl) ⟨hl, ?_⟩
  have ez : ∀ o : Obj, (s.heap.push o).objs.size = s.heap.objs.size + 1 := fun o => Heap.size_push ..
  show _ ∧ _
  rw [ez]
  have e1 : IsEnum ((s.heap.push { cls := .type "tuple_iterator", data := .fields #[.ref l, .int 0 0] }).push { cls := .type "enumerate", data := .fields #[.none, .bool false, .ref s.heap.objs.size, rawInt 0, .none, .none] }) (s.heap.objs.size + 1) s.heap.objs.size 0 .none := by
    have z := Heap.get?_push_size (s.heap.push { cls := .type "tuple_iterator", data := .fields #[.ref l, .int 0 0] }) (o := { cls := .type "enumerate", data := .fields #[.none, .bool false, .ref s.heap.objs.size, rawInt 0, .none, .none] }) rfl
    rw [ez] at z
    exact z
  exact ⟨⟨_, e1, rfl⟩, h _ e1 ⟨_, Heap.get?_push_of_some _ (Heap.get?_push_size _ rfl), rfl, rfl⟩ fun b o x => Heap.get?_push_of_some _ (Heap.get?_push_of_some _ x)⟩
end
theorem turn_enumT {P : Program} {w : World} {K : PySem.W.Frag} {elts : List Expr} {kk : Nat} {tpos : Pos} {a : Addr} {xs : List V} (e it : Addr) :
    Turn P w K (.Tuple elts kk tpos) (ItEt K a xs) [e, it] e (fun i h => (∃ old, IsEnum h e it ((i : Nat) : Int) old) ∧ h.IsTupleIter it a i ∧ e ≠ it ∧ a ≠ it ∧ a ≠ e) where
  mem := by simp
  obj := fun i h st b hb => by
    obtain ⟨⟨old, he⟩, ⟨o, ho, hc, hd⟩, _⟩ := st
    have e' : b = e ∨ b = it := by simpa using hb
    rcases e' with z | z
    · rw [z]; exact ⟨_, he, fun v q => nomatch q⟩
    · rw [z]; exact ⟨o, ho, fun v q => by rw [hd] at q; cases q⟩
  keep := fun i h h' st k => let ⟨⟨old, he⟩, ⟨o, ho, r⟩, hne⟩ := st; ⟨⟨old, k e (by simp) _ he⟩, ⟨o, k it (by simp) o ho, r⟩, hne⟩
  item := by
    intro X hP hw hK hc i pins s σ H E I hf st hg
    subst hP hw hK
    obtain ⟨⟨old, he⟩, hit, hne, hai, hae⟩ := st
    obtain ⟨hi, hq⟩ := hg
    have hx : xs[i]? = some xs[i] := List.getElem?_eq_getElem hi
    obtain ⟨its, rv, p, hz⟩ := I.tuple hq
    have hel : e < s.heap.objs.size := Heap.lt_size he
    have hil : it < s.heap.objs.size := by obtain ⟨_, q, _⟩ := hit; exact Heap.lt_size q
    have D := Draws.tuple (prog := X.prog) (w := X.w) (A := X.A.in1) (by show X.A.handled = none; exact I.ok.hd hc) it a hai its.toArray
    have hef : e ∉ [it, a] := by simp [hne, Ne.symm hae]
    have hn : i < its.toArray.size := by simp [← rv.length]; exact hi
    refine wpAny_pyNext_enum_itemC D he ⟨hit, p⟩ hn hne hef fun v h' tk hP ho hit' hT hsz hk => ?_
    obtain ⟨u, hu, ru⟩ := rv.get hx
    have ev : v = u := by
      have z : its.toArray[i]? = some u := by simpa using hu
      have hP' : its.toArray[i]? = some v := hP
      rw [z] at hP'
      exact (Option.some.inj hP').symm
    subst ev
    refine ⟨_, rfl, wpAny_letOwnedTupleGo_enum (s := { s with heap := h', toks := tk + 1 }) ho fun h'' he' sb => ?_⟩
    have hT2 : h''.get? s.heap.objs.size = some { cls := .type "tuple", data := .seq #[.int i tk, v] } := (sb.2 _ (Nat.ne_of_gt hel)).trans hT
    have new : ObjOk X.prog X.w (upd H s.heap.objs.size (.tup [.int (i : Nat), xs[i]])) h'' s.heap.objs.size (.tup [.int (i : Nat), xs[i]]) := ⟨by show 2 ≤ sizeLine; decide, [.int i tk, v], .cons ⟨_, rfl⟩ (.cons ru .nil), ⟨_, hT2, rfl, _, rfl⟩⟩
    have I1 : Inv X pins σ (upd H s.heap.objs.size (.tup [.int (i : Nat), xs[i]])) { s with heap := h'', toks := tk + 1 } :=
      I.turnedNew (ch := [e, it]) (fun b ob hb q => (sb.2 b (fun z => hb (by simp [z]))).trans (hk b ob (fun z => hb (by simp [z])) (fun z => hb (by simp [z])) q)) hf (Nat.le_refl _) new
    refine ⟨.ref s.heap.objs.size, _, I1, rfl, ⟨_, xs[i], rfl, I.hok.fresh (Nat.le_refl _), hx, rfl⟩, ⟨⟨v, ?_⟩, ?_, hne, hai, hae⟩, fun b hb => ?_⟩
    · have e1 : ((i + 1 : Nat) : Int) = (i : Int) + 1 := by omega
      rw [e1]
      exact he'
    · obtain ⟨⟨o, ho', r⟩, _⟩ := hit'
      exact ⟨o, (sb.2 it (Ne.symm hne)).trans ho', r⟩
    · have hb' : b < s.heap.objs.size := by
        have e' : b = e ∨ b = it := by simpa using hb
        rcases e' with z | z
        · rw [z]; exact hel
        · rw [z]; exact hil
      rw [upd_ne (Nat.ne_of_lt hb')]
      exact (hf b hb).1
  done := by
    intro X hP hw hK hc i pins s σ H E I hf st hg
    subst hP hw hK
    obtain ⟨⟨old, he⟩, hit, hne, hai, hae⟩ := st
    obtain ⟨hi, hq⟩ := hg
    obtain ⟨its, rv, p, hz⟩ := I.tuple hq
    have D := Draws.tuple (prog := X.prog) (w := X.w) (A := X.A.in1) (by show X.A.handled = none; exact I.ok.hd hc) it a hai its.toArray
    have hn : i = its.toArray.size := by rw [hi, List.size_toArray, rv.length]
    subst hn
    obtain ⟨f0, f1, f2, f3, f4, f5⟩ := hf it (by simp)
    exact wpAny_pyNext_enum_endD D he ⟨hit, p⟩ fun h' eb => ⟨rfl, I.turned (t' := s.toks) (fun b o hb q => eb b o hb q) f0 f1 f3 f4 f5⟩
  self := fun A i s Q E st h => let ⟨⟨_, he⟩, _⟩ := st; wpAny_pyIter_enum he h
def kIEt (K : PySem.W.Frag) (R : It → Hp → Prop) : List V → Hp → Prop := fun vs H1 => ∃ a xs, vs = [.ref a] ∧ SqT K H1 a xs ∧ R (ItEt K a xs) H1
def iEnumT (K : PySem.W.Frag) (ta : TA) : TI := fun σ H R => ta σ H (kIEt K R)
theorem pi_enumT {X : Cx} {e : Expr} {ta : TA} {p pos tpos : Pos} {elts : List Expr} {kk : Nat} (hg : Gl X "enumerate") (hm : X.mg "enumerate" = none) (ha : PA X [e] ta) (hs : starEach [e] X.env = [(false, eval e X.env)] := by rfl) :
    PI X (.Tuple elts kk tpos) (.Call (.Name "enumerate" p) [e] [] pos) (iEnumT X.K ta) := by
  refine ⟨fun pins s σ H R I h => ?_⟩
  refine Call_ (ld_blt I hg hm boot_enumerate (PyProof.Rows.callWith_type1 (thn (ha.run pos pins s σ H _ I h) fun us s1 ⟨vs, H1, I1, r1, q1⟩ => ?_) hs rfl))
  obtain ⟨a, xs, ex, hq, q⟩ := q1
  subst ex
  obtain ⟨u, rfl, ru⟩ := vals1 r1
  obtain rfl : u = Value.ref a := ru
  obtain ⟨its, rv, p', hz⟩ := I1.tuple hq
  have hal : a < s1.heap.objs.size := by obtain ⟨o, ho, _⟩ := p'; exact Heap.lt_size ho
  refine call_enumT p' fun h' he hit hk => wpAny_pyIter_enum he ?_
  have I2 : Inv X pins σ H1 { s1 with heap := h' } := I1.kept (t' := s1.toks) hk
  refine ⟨s1.heap.objs.size + 1, [s1.heap.objs.size + 1, s1.heap.objs.size], _, _, H1, rfl, I2, turn_enumT (s1.heap.objs.size + 1) s1.heap.objs.size, ⟨⟨.none, he⟩, hit, Nat.succ_ne_self _, Nat.ne_of_lt hal, Nat.ne_of_lt (Nat.lt_succ_of_lt hal)⟩, fun b hb => ?_, q⟩
  have hle : s1.heap.objs.size ≤ b := by
    have e' : b = s1.heap.objs.size + 1 ∨ b = s1.heap.objs.size := by simpa using hb
    rcases e' with z | z
    · rw [z]; exact Nat.le_succ _
    · rw [z]; exact Nat.le_refl _
  exact I1.fpOk hle (I1.hok.fresh hle)
section
variable {K : PySem.W.Frag} {a b : Addr} {xs ys : List V}
theorem walk_enumT : Walk (ItEt K a xs) xs.length (fun H => SqT K H a xs) (YPair (fun i => some (.int (i : Nat))) (fun i => xs[i]?)) where
  goes := fun i H hi g => ⟨hi, g⟩
  stops := fun H g => ⟨rfl, g⟩
  yields := fun i H v H' hi g y => by
    obtain ⟨U, x, ev, hU, hx, eH⟩ := y
    exact ⟨U, _, x, ev, hU, eH, rfl, hx⟩
theorem walk_zipT (hl : xs.length = ys.length) : Walk (RZ.ItzT K a b) xs.length (fun H => SqT K H a xs ∧ SqT K H b ys) (YPair (fun i => xs[i]?) (fun i => ys[i]?)) where
  goes := fun i H hi g => ⟨xs, ys, xs[i], ys[i]'(by omega), g.1, g.2, List.getElem?_eq_getElem hi, List.getElem?_eq_getElem (by omega)⟩
  stops := fun H g => ⟨xs, ys, g.1, g.2, .inl (Nat.le_refl _)⟩
  yields := fun i H v H' hi g y => by
    obtain ⟨U, x, z, ev, hU, eH, h4, h5⟩ := y
    exact ⟨U, x, z, ev, hU, eH, h4 xs g.1, h5 ys g.2⟩
end
/-! ### xs.extend(t), t a tuple -/
theorem ext_tup (l : Addr) (items : Array Value) (n : Nat) (b : Addr) (items2 : Array Value) (n2 : Nat) (dd : Option Addr) (sl : Array (Option Value)) (hs0 : ¬(!items.isEmpty && Builtin.List.listTooLong (items.size + items2.size)) = true) (hs1 : items.size ≤ sizeLine) (hs2 : items.size + items2.size ≤ sizeLine + 1) :
    Meets (Builtin.«list.extend» ⟨[.ref l, .ref b], []⟩) (fun _ R s => s.heap.get? l = some { cls := .type "list", data := .seq items n } ∧ s.heap.get? b = some { cls := .type "tuple", dict := dd, data := .seq items2 n2, slots := sl } ∧ R (.ok (.ret Value.none)) { s with heap := s.heap.update l (Obj.mapSeq fun x => x ++ items2), toks := s.toks }) :=
  .of_wp fun prog w A R s h => by
    obtain ⟨hp, g, d, tk, os⟩ := s
    obtain ⟨hl, hb, h⟩ := h
    have f2 := AutoSeq1.sub_tuple_tuple
    have f4 := AutoSeq1.sub_tuple_list
    have hz : (items ++ items2).size ≤ sizeLine + 1 := by rw [Array.size_append]; exact hs2
    wp_walk using (wpAny_updateSeq hl rfl (hz := hs1) (_hz' := hz)), AutoSeq1.wpAny_loadPart' hl, AutoSeq1.wpAny_loadPart' hb
    exact ⟨_, rfl, h⟩
def rExtT (K : PySem.W.Frag) : V → List V → Hp → VK → Prop := fun x vs H Q => ∃ l b xs zs, x = .ref l ∧ vs = [.ref b] ∧ H l = some (.lst xs) ∧ SqT K H b zs ∧ xs.length + zs.length ≤ sizeLine ∧ Q .non (upd H l (.lst (xs ++ zs)))
theorem mt_extendT {X : Cx} : MtM X "list.extend" (rExtT X.K) := by
  intro pins s σ H x vs v us Q I rx rv h
  obtain ⟨l, b, xs, zs, rfl, rfl, hH, hB, hz, q⟩ := h
  cases rx
  obtain ⟨u, rfl, ru⟩ := rv.one
  cases ru
  obtain ⟨z, its, n, r, hl, e⟩ := I.lstM hH
  obtain ⟨its2, r2, ⟨⟨c, dd, dt, sl⟩, e2, hc, n2, hd⟩, z2⟩ := I.tuple hB
  replace hc : c = .type "tuple" := hc
  replace hd : dt = .seq its2.toArray n2 := hd
  subst hc hd
  have l2 := r2.length
  have hsz : its.toArray.size + its2.toArray.size ≤ sizeLine := by rw [List.size_toArray, List.size_toArray]; omega
  have hlong : ¬ (!its.toArray.isEmpty && Builtin.List.listTooLong (its.toArray.size + its2.toArray.size)) = true := by
    rw [notLongL hsz, Bool.and_false]
    exact Bool.false_ne_true
  refine call_meets F.slot_list_extend ⟨_, e, rfl⟩ F.entry_list_extend (F.args_list_extend_2 _ _) (ext_tup l its.toArray n b its2.toArray n2 dd sl hlong (by rw [List.size_toArray]; omega) (by omega)) ⟨e, e2, ?_⟩
  refine ⟨.non, _, I.lset (its' := its ++ its2) hH e (by simp) (r.append r2) ?_, rfl, q⟩
  rw [List.length_append]
  omega
/-- where a method stands -/
structure Dm (K : PySem.W.Frag) (x qual : Str) (st : Stmt) (ps : List Str) (f : Addr) (fd : FuncData) : Prop where
  F : Fun K x qual st f fd
  b : Binds K fd ps []
/-! ### steps -/
section
variable {K : PySem.W.Frag} {σ : L2.St} {H : Hp} {Q : VK} {ta te : TE} {t : TA} {C f : Addr} {E : XK} {R : It → Hp → Prop}
def kFld (K : PySem.W.Frag) (fl : Str) (Q : VK) : VK := fun x H1 => ∃ a C dx fs v, x = .ref a ∧ H1 a = some (.ins C dx fs) ∧ L2.Cls K C ∧ L2.NoAttr K C fl ∧ fs.lookup fl = some v ∧ Q v H1
theorem z_fld {fl : Str} (h : ta σ H (kFld K fl Q)) : tFld K ta fl σ H Q := h
theorem z_maker {m : Str} {ps : List T} {x : V} (M : MadeC K C f) (h : MadeAt K C H (.node m ps) x) (q : Q (.str m) H) : kFld K "maker" Q x H := by
  rw [MadeAt] at h
  obtain ⟨a, dx, p, vs, fs, rfl, h2, h3, h4, h5, h6⟩ := h
  exact ⟨a, C, dx, fs, _, rfl, h2, M.cl, M.nM, h3, q⟩
theorem z_parts {m : Str} {ps : List T} {x : V} (M : MadeC K C f) (h : MadeAt K C H (.node m ps) x) (q : ∀ p vs, SqT K H p vs → MadeAll K C H ps vs → vs.length = ps.length → Q (.ref p) H) : kFld K "parts" Q x H := by
  rw [MadeAt] at h
  obtain ⟨a, dx, p, vs, fs, rfl, h2, h3, h4, h5, h6⟩ := h
  exact ⟨a, C, dx, fs, _, rfl, h2, M.cl, M.nP, h4, q p vs h5 h6 (mades_len h6)⟩
/-- what Made.__init__ promises -/
def spMadeI (K : PySem.W.Frag) (C : Addr) : Sp := fun vs H Q _ => ∃ (x dx p : Addr) (m : V) (ws : List V), vs = [.ref x, m, .ref p] ∧ H x = some (.ins C dx []) ∧ SqT K H p ws ∧
  ∀ H' fs, But x H H' → H' x = some (.ins C dx fs) → fs.lookup ("maker" : Str) = some m → fs.lookup ("parts" : Str) = some (V.ref p) → Q .non H'
def kMade (C : Addr) (sp : Sp) (E : XK) (Q : VK) : List V → Hp → Prop := fun vs H1 => ∀ x dx, H1 x = none → H1 dx = none → dx ≠ x → sp (.ref x :: (vs ++ [])) (upd (upd H1 dx (.own x)) x (.ins C dx [])) (fun v H2 => v = .non ∧ Q (.ref x) H2) E
theorem z_make {sp : Sp} (h : t σ H (kMade C sp E Q)) : tMake C sp [] E t σ H Q := h
theorem z_made {p : Addr} {m : V} {ws : List V} (h : SqT K H p ws) (k : ∀ x dx fs H', H x = none → Same H H' → H' x = some (.ins C dx fs) → fs.lookup ("maker" : Str) = some m → fs.lookup ("parts" : Str) = some (V.ref p) → Q (.ref x) H') : kMade C (spMadeI K C) E Q [m, .ref p] H := by
  intro x dx hx hdx hne
  have s1 : Same H (upd (upd H dx (.own x)) x (.ins C dx [])) := fun a o e => by
    rw [upd_ne (ne_of_none e hx), upd_ne (ne_of_none e hdx)]
    exact e
  refine ⟨x, dx, p, m, ws, rfl, upd_same, same_st s1 h, fun H' fs b h1 h2 h3 => ⟨rfl, k x dx fs H' hx (fun a o e => ?_) h1 h2 h3⟩⟩
  exact b a o (ne_of_none e hx) (s1 a o e)
theorem made_mk {m : Str} {ps : List T} {ws : List V} {p x dx : Addr} {fs : List (Str × V)} {H' : Hp} (h0 : H' x = some (.ins C dx fs)) (h1 : fs.lookup ("maker" : Str) = some (V.str m)) (h2 : fs.lookup ("parts" : Str) = some (V.ref p)) (h3 : SqT K H' p ws) (h4 : MadeAll K C H' ps ws) : MadeAt K C H' (.node m ps) (.ref x) := by
  rw [MadeAt]
  exact ⟨x, dx, p, ws, fs, rfl, h0, h1, h2, h3, h4⟩
theorem z_iEnumT (h : t σ H (kIEt K R)) : iEnumT K t σ H R := h
theorem z_kIEt {a : Addr} {xs : List V} (h : SqT K H a xs) (q : R (ItEt K a xs) H) : kIEt K R [.ref a] H := ⟨a, xs, rfl, h, q⟩
end
end Nm

/-! The own layer: plain functions over values: places, parts, cells. -/
namespace Nm
open PySem
def partAt : T → List Nat → Option T
  | t, [] => some t
  | .node _ ps, k :: r => match ps[k]? with
    | some p => partAt p r
    | none => none
  | .num _, _ :: _ => none
def withAt : T → List Nat → T → Option T
  | _, [], q => some q
  | .node m ps, k :: r, q => match ps[k]? with
    | some p => (withAt p r q).map fun p' => .node m (ps.set k p')
    | none => none
  | .num _, _ :: _, _ => none
mutual
def cellsT : T → List (List Nat × T)
  | .num n => [([], .num n)]
  | .node m ps => ([], .node m ps) :: cellsAll 0 ps
def cellsAll : Nat → List T → List (List Nat × T)
  | _, [] => []
  | k, t :: ts => (cellsT t).map (fun c => (k :: c.1, c.2)) ++ cellsAll (k + 1) ts
end
mutual
theorem cells_len : ∀ t : T, (cellsT t).length = t.size
  | .num n => rfl
  | .node m ps => by
    have := cellsAll_len 0 ps
    rw [cellsT, T.size, List.length_cons, this]
    omega
theorem cellsAll_len : ∀ (k : Nat) (ts : List T), (cellsAll k ts).length = sizeAll ts
  | k, [] => rfl
  | k, t :: ts => by
    rw [cellsAll, sizeAll, List.length_append, List.length_map, cells_len t, cellsAll_len (k + 1) ts]
end
theorem partAt_app : ∀ (p : List Nat) (t : T) (r : List Nat), partAt t (p ++ r) = (partAt t p).bind fun s => partAt s r
  | [], t, r => by simp [partAt]
  | k :: p, .num n, r => by simp [partAt]
  | k :: p, .node m ps, r => by
    rw [List.cons_append, partAt, partAt]
    cases ps[k]? with
    | none => rfl
    | some s => exact partAt_app p s r
mutual
theorem cells_part : ∀ (t : T) {c : List Nat × T}, c ∈ cellsT t → partAt t c.1 = some c.2
  | .num n, c, h => by
    rw [cellsT, List.mem_singleton] at h
    rw [h]
    rfl
  | .node m ps, c, h => by
    rw [cellsT] at h
    rcases List.mem_cons.mp h with q | q
    · rw [q]; simp [partAt]
    · obtain ⟨k, p, s, e1, e2, e3⟩ := cellsAll_part 0 ps q
      rw [e1, Nat.zero_add, partAt, e2]
      exact e3
theorem cellsAll_part : ∀ (j : Nat) (ts : List T) {c : List Nat × T}, c ∈ cellsAll j ts → ∃ (k : Nat) (p : List Nat) (s : T), c.1 = (j + k) :: p ∧ ts[k]? = some s ∧ partAt s p = some c.2
  | j, [], c, h => by rw [cellsAll] at h; cases h
  | j, t :: ts, c, h => by
    rw [cellsAll] at h
    rcases List.mem_append.mp h with q | q
    · obtain ⟨c', hc, rfl⟩ := List.mem_map.mp q
      exact ⟨0, c'.1, t, rfl, rfl, cells_part t hc⟩
    · obtain ⟨k, p, s, e1, e2, e3⟩ := cellsAll_part (j + 1) ts q
      exact ⟨k + 1, p, s, by rw [e1]; congr 1; omega, e2, e3⟩
end
mutual
theorem cells_short : ∀ (t : T) {c : List Nat × T}, c ∈ cellsT t → c.1.length < t.size
  | .num n, c, h => by
    rw [cellsT, List.mem_singleton] at h
    rw [h, T.size]
    exact Nat.zero_lt_one
  | .node m ps, c, h => by
    rw [cellsT] at h
    rw [T.size]
    rcases List.mem_cons.mp h with q | q
    · rw [q]; show 0 < _; omega
    · have := cellsAll_short 0 ps q
      omega
theorem cellsAll_short : ∀ (j : Nat) (ts : List T) {c : List Nat × T}, c ∈ cellsAll j ts → c.1.length ≤ sizeAll ts
  | j, [], c, h => by rw [cellsAll] at h; cases h
  | j, t :: ts, c, h => by
    rw [cellsAll] at h
    rw [sizeAll]
    rcases List.mem_append.mp h with q | q
    · obtain ⟨c', hc, rfl⟩ := List.mem_map.mp q
      have := cells_short t hc
      show c'.1.length + 1 ≤ _
      omega
    · have := cellsAll_short (j + 1) ts q
      omega
end
theorem part_num {n : Int} {k : Nat} {r : List Nat} : partAt (.num n) (k :: r) = none := by simp [partAt]
theorem part_out {m : Str} {ps : List T} {k : Nat} {r : List Nat} (h : ps.length ≤ k) : partAt (.node m ps) (k :: r) = none := by
  rw [partAt, List.getElem?_eq_none h]
theorem with_none : ∀ (p : List Nat) (t q : T), partAt t p = none → withAt t p q = none
  | [], t, q, h => by simp [partAt] at h
  | k :: p, .num n, q, h => by simp [withAt]
  | k :: p, .node m ps, q, h => by
    rw [partAt] at h
    rw [withAt]
    cases e : ps[k]? with
    | none => rfl
    | some s =>
      rw [e] at h
      show (withAt s p q).map _ = none
      rw [with_none p s q h]
      rfl
theorem with_some : ∀ (p : List Nat) (t q : T) {s : T}, partAt t p = some s → ∃ r, withAt t p q = some r
  | [], t, q, s, h => ⟨q, by simp [withAt]⟩
  | k :: p, .num n, q, s, h => by simp [partAt] at h
  | k :: p, .node m ps, q, s, h => by
    rw [partAt] at h
    rw [withAt]
    cases e : ps[k]? with
    | none => rw [e] at h; cases h
    | some u =>
      rw [e] at h
      obtain ⟨r, hr⟩ := with_some p u q h
      exact ⟨_, by show (withAt u p q).map _ = _; rw [hr]; rfl⟩
/-! the stack of places_of -/
def stackP (st : List (List Nat × T)) : List (List Nat) := (st.reverse.map fun x => (cellsT x.2).map fun c => x.1 ++ c.1).flatten
theorem stackP_nil : stackP [] = [] := rfl
theorem stackP_app (a b : List (List Nat × T)) : stackP (a ++ b) = stackP b ++ stackP a := by
  unfold stackP
  rw [List.reverse_append, List.map_append, List.flatten_append]
theorem stackP_one (p : List Nat) (t : T) : stackP [(p, t)] = (cellsT t).map fun c => p ++ c.1 := by simp [stackP]
theorem inner_cells (p : List Nat) : ∀ (ts : List T) (k : Nat), ((ts.zipIdx k).map fun x => (cellsT x.1).map fun c => (p ++ [x.2]) ++ c.1).flatten = (cellsAll k ts).map fun c => p ++ c.1
  | [], k => rfl
  | t :: ts, k => by
    rw [List.zipIdx_cons, List.map_cons, List.flatten_cons, inner_cells p ts (k + 1), cellsAll, List.map_append, List.map_map]
    congr 1
    refine List.map_congr_left fun c _ => ?_
    simp
theorem stackP_inner (p : List Nat) (ts : List T) : stackP ((ts.zipIdx.map fun x => (p ++ [x.2], x.1)).reverse) = (cellsAll 0 ts).map fun c => p ++ c.1 := by
  unfold stackP
  rw [List.reverse_reverse, List.map_map, ← inner_cells p ts 0]
  rfl
/-! the frames of value_with -/
abbrev Fr3 := Str × List T × Nat
def putFr (q : T) (f : Fr3) : T := .node f.1 (f.2.1.set f.2.2 q)
def rebuild (fr : List Fr3) (q : T) : T := fr.foldr (fun f q => putFr q f) q
theorem rebuild_app (fr : List Fr3) (f : Fr3) (q : T) : rebuild (fr ++ [f]) q = rebuild fr (putFr q f) := by
  unfold rebuild
  rw [List.foldr_append]
  rfl
theorem set_parts {α : Type} (ps : List α) (k : Nat) (q : α) (h : k < ps.length) : ps.take k ++ [q] ++ ps.drop (k + 1) = ps.set k q := by
  rw [List.set_eq_take_append_cons_drop, if_pos h, List.append_assoc]
  rfl
/-! chains -/
def chainB (b : T) : Nat → T
  | 0 => b
  | k + 1 => .node "Cons" [.num k, chainB b k]
theorem chain_size (b : T) (hb : b.size = 1) : ∀ n, (chainB b n).size = 2 * n + 1
  | 0 => by rw [chainB, hb]
  | n + 1 => by
    rw [chainB, T.size, sizeAll, sizeAll, sizeAll, chain_size b hb n, T.size]
    omega
theorem chain_part (b : T) : ∀ (k n : Nat), partAt (chainB b (n + k)) (List.replicate k 1) = some (chainB b n)
  | 0, n => by simp [partAt]
  | k + 1, n => by
    rw [← Nat.add_assoc, chainB, List.replicate_succ, partAt]
    exact chain_part b k n
theorem chain_with (b c : T) : ∀ n, withAt (chainB b n) (List.replicate n 1) c = some (chainB c n)
  | 0 => by simp [withAt, chainB]
  | n + 1 => by
    rw [chainB, List.replicate_succ, withAt]
    have e : ([T.num (n : Nat), chainB b n])[1]? = some (chainB b n) := rfl
    rw [e]
    show (withAt (chainB b n) (List.replicate n 1) c).map _ = _
    rw [chain_with b c n]
    rfl
theorem chain_inj {b c : T} : ∀ {n : Nat}, chainB b n = chainB c n → b = c
  | 0, h => h
  | n + 1, h => by
    rw [chainB, chainB] at h
    injection h with _ h
    injection h with _ h
    injection h with h _
    exact chain_inj h
theorem chain_cells (b : T) (n : Nat) : (cellsT (chainB b (n + 1))).map Prod.fst = [] :: [0] :: ((cellsT (chainB b n)).map Prod.fst).map (1 :: ·) := by
  rw [chainB, cellsT, cellsAll, cellsAll, cellsAll, cellsT]
  simp [List.map_map, Function.comp_def]
theorem chain_last (b : T) (hb : (cellsT b).map Prod.fst = [[]]) : ∀ n, ((cellsT (chainB b n)).map Prod.fst).getLast? = some (List.replicate n 1)
  | 0 => by rw [chainB, hb]; rfl
  | n + 1 => by
    rw [chain_cells]
    have ih := chain_last b hb n
    cases e : (cellsT (chainB b n)).map Prod.fst with
    | nil => rw [e] at ih; cases ih
    | cons x l =>
      rw [e] at ih
      have e2 : ((x :: l).map (1 :: ·)).getLast? = (some (List.replicate n 1)).map (1 :: ·) := by rw [List.getLast?_map, ih]
      rw [List.map_cons] at e2
      rw [List.getLast?_cons_cons, List.map_cons, List.getLast?_cons_cons, e2]
      rfl
end Nm

/-! The own layer: steps: x += e, while len(xs) > 0, pop, extend, append of a new list, slices of tuples, tuples added. -/
namespace Nm
open PySem PySem.Spec PyProof.Rows L2
section
variable {K : PySem.W.Frag} {σ : L2.St} {H : Hp} {Q : VK} {D : Ends} {te ta : TE} {tb : TS} {x v : V}
theorem z_aug {i : Nat} {ti : TIp} (h : σ[i]? = some (some x)) (q : te σ H fun y H1 => ti x y H1 fun z H2 => D.nx (σ.set i (some z)) H2) : tAug i te ti D σ H := ⟨x, h, q⟩
theorem z_ipI {f : Int → Int → Int} {i j : Int} (q : Q (.int (f i j)) H) : ipI f (.int i) (.int j) H Q := ⟨i, j, rfl, rfl, q⟩
/-- while len(xs) > 0, xs the list in slot i -/
theorem f_whileL {i : Nat} (W : Nat → L2.St → Hp → Prop) {m0 : Nat} (h0 : W m0 σ H)
    (hs : ∀ m σ H, W m σ H → ∃ p ys, σ[i]? = some (some (.ref p)) ∧ H p = some (.lst ys) ∧ (ys ≠ [] → tb { D with nx := fun σ' H' => ∃ m', m' < m ∧ W m' σ' H', ct := fun σ' H' => ∃ m', m' < m ∧ W m' σ' H', bk := D.nx } σ H) ∧ (ys = [] → D.nx σ H)) :
    tWhile (tTest (tOp (rI0 fun i j => .bl (decide (j < i))) (tCB (nLenL K) (tCons (tVar i) tNil)) (tC (.int 0)))) tb D σ H := by
  refine ⟨W, ⟨m0, h0⟩, fun m σ H w => ?_⟩
  obtain ⟨a, ys, e1, e2, h1, h2⟩ := hs m σ H w
  refine ⟨.ref a, e1, a, ys, rfl, .inl (SqL.of e2), (ys.length : Int), 0, rfl, rfl, _, rfl, ?_⟩
  cases ys with
  | nil => exact iteF' (by simp) (h2 rfl)
  | cons y ys => exact iteT' (by simp) ⟨_, fun _ _ z => z, h1 (by simp)⟩
where
  iteF' {b : Bool} {A B : Prop} (h : b = false) (q : B) : if b = true then A else B := by rw [h]; simpa using q
  iteT' {b : Bool} {A B : Prop} (h : b = true) (q : A) : if b = true then A else B := by rw [h]; simpa using q
def kSt (K : PySem.W.Frag) (f : Str) (D : Ends) (σ : L2.St) (y : V) : VK := fun x H2 => ∃ a C dx fs, x = .ref a ∧ H2 a = some (.ins C dx fs) ∧ L2.Cls K C ∧ L2.NoAttr K C f ∧ fs.length < 1000 ∧ D.nx σ (upd H2 a (.ins C dx (putF f y fs)))
theorem z_sfld {f : Str} {tv : TE} (h : tv σ H fun y H1 => ta σ H1 (kSt K f D σ y)) : sFld K ta tv f D σ H := h
theorem z_kSt {f : Str} {y : V} {a C dx : Addr} {fs : List (Str × V)} (h : H a = some (.ins C dx fs)) (c : L2.Cls K C) (n : L2.NoAttr K C f) (hl : fs.length < 1000) (q : D.nx σ (upd H a (.ins C dx (putF f y fs)))) : kSt K f D σ y (.ref a) H := ⟨a, C, dx, fs, rfl, h, c, n, hl, q⟩
theorem z_callS {sp : Sp} {E : L2.St → XK} {t : TA} (h : t σ H fun vs H1 => sp vs H1 Q (E σ)) : tCallS sp E t σ H Q := h
theorem z_bm0 {T : String} {r : V → List V → Hp → VK → Prop} (h : ta σ H fun x H1 => tyV K T x H1 ∧ r x [] H1 Q) : tBM0 K T r ta σ H Q := h
/-- xs.pop() -/
theorem z_pop {l : Addr} {xs : List V} {y : V} (h : H l = some (.lst (xs ++ [y]))) (q : Q y (upd H l (.lst xs))) : rPop (.ref l) [] H Q :=
  ⟨l, xs ++ [y], y, rfl, rfl, h, by simp, by rw [List.dropLast_concat]; exact q⟩
theorem z_extT {l b : Addr} {xs zs : List V} (h : H l = some (.lst xs)) (hb : SqT K H b zs) (hz : xs.length + zs.length ≤ sizeLine) (q : Q .non (upd H l (.lst (xs ++ zs)))) : rExtT K (.ref l) [.ref b] H Q := ⟨l, b, xs, zs, rfl, rfl, h, hb, hz, q⟩
theorem z_ext {l b : Addr} {xs zs : List V} (h : H l = some (.lst xs)) (hb : H b = some (.lst zs)) (hz : xs.length + zs.length ≤ sizeLine) (q : Q .non (upd H l (.lst (xs ++ zs)))) : rExtend (.ref l) [.ref b] H Q := ⟨l, b, xs, zs, rfl, rfl, h, hb, hz, q⟩
theorem z_app {l : Addr} {xs : List V} (h : H l = some (.lst xs)) (hz : xs.length < sizeLine) (q : Q .non (upd H l (.lst (xs ++ [v])))) : rAppend (.ref l) [v] H Q := ⟨l, xs, v, rfl, rfl, h, hz, q⟩
theorem z_iadd {l b : Addr} {xs zs : List V} (h : H l = some (.lst xs)) (hb : H b = some (.lst zs)) (hz : xs.length + zs.length ≤ sizeLine) (q : Q (.ref l) (upd H l (.lst (xs ++ zs)))) : rExt2 (.ref l) (.ref b) H Q := ⟨l, b, xs, zs, rfl, rfl, h, hb, hz, q⟩
theorem ty_lst {l : Addr} {xs : List V} (h : H l = some (.lst xs)) : tyV K "list" (.ref l) H := .inl ⟨rfl, _, SqL.of h⟩
def kRevL (K : PySem.W.Frag) (Q : VK) : VK := fun x H1 => ∃ a xs, x = .ref a ∧ SqL K H1 a xs ∧ ∀ p, H1 p = none → Q (.ref p) (upd H1 p (.lst xs.reverse))
theorem z_revL (h : te σ H (kRevL K Q)) : tRevL K te σ H Q := h
theorem z_kRevL {a : Addr} {xs : List V} (h : SqL K H a xs) (k : ∀ p H', H p = none → Same H H' → H' p = some (.lst xs.reverse) → Q (.ref p) H') : kRevL K Q (.ref a) H := ⟨a, xs, rfl, h, new_by (R := fun p H' => Q (.ref p) H') fun p H' a b c _ => k p H' a b c⟩
def kZip (K : PySem.W.Frag) (R : It → Hp → Prop) : List V → Hp → Prop := fun vs H1 => ∃ a b xs ys, vs = [.ref a, .ref b] ∧ ((SqL K H1 a xs ∧ SqL K H1 b ys ∧ R (Itz K a b) H1) ∨ (SqT K H1 a xs ∧ SqT K H1 b ys ∧ R (RZ.ItzT K a b) H1))
theorem z_iZip {t : TA} {R : It → Hp → Prop} (h : t σ H (kZip K R)) : RZ.iZipA K t σ H R := h
theorem z_kZipT {R : It → Hp → Prop} {a b : Addr} {xs ys : List V} (h1 : SqT K H a xs) (h2 : SqT K H b ys) (q : R (RZ.ItzT K a b) H) : kZip K R [.ref a, .ref b] H := ⟨a, b, xs, ys, rfl, .inr ⟨h1, h2, q⟩⟩
/-- tuples added -/
theorem z_catA {a b : Addr} {xs ys : List V} (h1 : SqT K H a xs) (h2 : SqT K H b ys) (hl : xs.length + ys.length ≤ sizeLine) (k : ∀ p H', Same H H' → SqT K H' p (xs ++ ys) → (H p = none ∨ xs = [] ∨ ys = []) → Q (.ref p) H') : rCatA K (.ref a) (.ref b) H Q := by
  refine ⟨a, b, xs, ys, rfl, rfl, h1, h2, hl, fun e => ?_, fun _ e => ?_, fun _ _ p hp => ?_⟩
  · subst e
    exact k b H (Same.refl _) h2 (.inr (.inl rfl))
  · subst e
    exact k a H (Same.refl _) (by rw [List.append_nil]; exact h1) (.inr (.inr rfl))
  · exact k p _ (Same.new hp) (SqT.of upd_same) (.inl hp)
/-- t[lo:hi] -/
theorem z_slA {a : Addr} {xs : List V} {lo hi : Option Int} (h : SqT K H a xs) (k : ∀ p H', Same H H' → SqT K H' p (cutV xs lo hi) → Q (.ref p) H') : rSlA K (.ref a) lo hi H Q := by
  refine ⟨a, xs, rfl, h, fun e => ?_, fun _ p hp => k p _ (Same.new hp) (SqT.of upd_same)⟩
  refine k a H (Same.refl _) ?_
  have e2 : cutV xs lo hi = xs := by
    unfold cutV
    rw [e.1, e.2]
    simp
  rw [e2]
  exact h
end
section
variable {K : PySem.W.Frag} {σ : L2.St} {H : Hp} {D : Ends} {g : TG} {tb : TS}
theorem f_enumL {a : Addr} {xs : List V} (Pv : Nat → L2.St → Hp → Prop) (h0 : Pv 0 σ H) (hl : ∀ i σ H, Pv i σ H → SqL K H a xs)
    (hs : ∀ (i : Nat) x U σ H H', xs[i]? = some x → Pv i σ H → Same H H' → H' U = some (.tup [.int (i : Nat), x]) → g (.ref U) σ H' fun σ2 H2 => tb { D with nx := Pv (i + 1), ct := Pv (i + 1), bk := D.nx } σ2 H2) (hd : ∀ σ H, Pv xs.length σ H → D.nx σ H) : kFor g tb D σ (Ite K a) H :=
  for_it walk_enumL Pv h0 (fun i σ H _ p => hl i σ H p) (fun i x σ H H' hi p ⟨U, v, ex, hT, hv, eH⟩ => by subst ex eH; exact hs i v U σ H _ hv p (Same.new hT) upd_same) hd
/-- the promise for one less deep; none at the bottom -/
def spRec (sp : Nat → Sp) : Nat → Sp
  | 0 => fun _ _ _ _ => False
  | n + 1 => sp n
theorem rec_ok {P : Program} {w : World} {mg : Str → Option Value} {base : Heap} {CX : CXT} {f : Addr} {fd : FuncData} {ps : List Str} (k : Nat) (sp : Nat → Sp) (h : ∀ n, FnOk P w K mg base CX (k + n) f fd ps (spRec sp n) → FnOk P w K mg base CX (k + n + 1) f fd ps (sp n)) : ∀ n, FnOk P w K mg base CX (k + n + 1) f fd ps (sp n)
  | 0 => h 0 ⟨fun _ _ _ _ z => z.elim, fun _ _ _ _ _ _ _ _ _ _ _ _ _ z => z.elim⟩
  | n + 1 => h (n + 1) (rec_ok k sp h n)
theorem dps_own {H : Hp} : ∀ {ys : List V} {ts : List T}, ys.length = ts.length → (∀ (i : Nat) (v : V) (t : T), ys[i]? = some v → ts[i]? = some t → Dp K H v t.own) → DpAll K H ys (ownAll ts)
  | [], [], _, _ => by rw [ownAll]; exact .nil
  | [], t :: ts, h, _ => by cases h
  | y :: ys, [], h, _ => by cases h
  | y :: ys, t :: ts, hl, h => by
    rw [ownAll]
    exact .cons (h 0 y t rfl rfl) (dps_own (by simpa using hl) fun i v t' e1 e2 => h (i + 1) v t' e1 e2)
theorem dps_own_at {H : Hp} : ∀ {ys : List V} {ts : List T}, DpAll K H ys (ownAll ts) → ys.length = ts.length ∧ ∀ (i : Nat) (v : V) (t : T), ys[i]? = some v → ts[i]? = some t → Dp K H v t.own
  | [], [], _ => ⟨rfl, fun i v t e _ => by simp at e⟩
  | [], t :: ts, h => by rw [ownAll] at h; cases h
  | y :: ys, [], h => by rw [ownAll] at h; cases h
  | y :: ys, t :: ts, h => by
    rw [ownAll] at h
    cases h with
    | cons h1 h2 =>
      obtain ⟨l, q⟩ := dps_own_at h2
      refine ⟨by rw [List.length_cons, List.length_cons, l], fun i v t' e1 e2 => ?_⟩
      cases i with
      | zero => cases e1; cases e2; exact h1
      | succ i => exact q i v t' e1 e2
end
theorem cutV_to (xs : List V) (k : Nat) : cutV xs none (some (k : Int)) = xs.take k := by
  unfold cutV
  rw [HT.sIx_nat, HT.sIx_none, List.drop_zero, Nat.sub_zero, Nat.min_def]
  by_cases h : k ≤ xs.length
  · rw [if_pos h]
  · rw [if_neg h, List.take_length, List.take_of_length_le (by omega)]
theorem cutV_from (xs : List V) (k : Nat) : cutV xs (some (k : Int)) none = xs.drop k := by
  unfold cutV
  rw [HT.sIx_nat, HT.sIx_none]
  by_cases h : k ≤ xs.length
  · rw [Nat.min_eq_left h, List.take_of_length_le (by rw [List.length_drop]; omega)]
  · rw [Nat.min_eq_right (by omega), List.drop_length, List.take_nil, List.drop_of_length_le (by omega)]
end Nm

/-! The own layer: lambdas of one parameter, handed to a method or to a def. -/
namespace Nm
open PySem PySem.Spec PyProof.Rows L2 LamX
/-- a lambda with the parameter p; the captured names stand in the maker's slots js -/
structure Lam1 (sc scope : Scope) (N : List Str) (p : Str) (js : List Nat) : Prop where
  kind : scope.kind = .function
  co : scope.isCoroutine = false
  gen : scope.isGenerator = false
  own : ∀ y ∈ scope.names, y.2 ≠ .cell
  par : scope.names.lookup p = some .local
  free : ∀ y ∈ scope.names, y.2 = .free → sc.names.lookup y.1 = some .cell ∨ sc.names.lookup y.1 = some .free
  js : ∀ j ∈ js, ∃ x, N[j]? = some x ∧ scope.names.lookup x = some .free
theorem Lam1.has {X : Cx} {scope : Scope} {N : List Str} {p : Str} {js : List Nat} (L : Lam1 X.env.scope scope N p js) (ok : X.Ok) : ∀ y ∈ scope.names, y.2 = .free → ∃ c, X.env.cells.lookup y.1 = some c := fun y hy e => by
  rcases L.free y hy e with k | k
  · exact ok.has _ (.inl k)
  · exact ok.has _ (.inr k)
def lamN (X : Cx) (p : Str) (js : List Nat) : List Str := p :: js.map fun j => X.N.getD j ""
def lamS (σ : L2.St) (js : List Nat) (v : V) : L2.St := some v :: js.map fun j => (σ[j]?).join
/-- the context of the lambda's body -/
def lamCx1 (X : Cx) (A : Around) (outer : List Env) (s : Shared) (H : Hp) (scope : Scope) (f c' : Addr) (p : Str) (js : List Nat) : Cx :=
  { lamCx X A outer s H (fun _ _ _ => False) scope f c' with N := lamN X p js }
section
variable {X : Cx} {pins : List (Addr × Obj)} {σ : L2.St} {H HZ : Hp} {s s1 : Shared}
theorem lam_start3 {A : Around} {outer : List Env} {scope : Scope} {f c' : Addr} {h₁ : Heap} {tk : Nat} {p : Str} {js : List Nat} {v : V} {u : Value} (I : Inv X pins σ H s) (L : Lam1 X.env.scope scope X.N p js) (e0 : Env0 X.prog X.w X.K X.mg X.base A outer s1 HZ) (hd : A.handled = none)
    (un : Un (frs X.stack) [] H HZ s.heap s1.heap) (hns : h₁.Ns s1.heap.objs.size fun y => [(p, u)].reverse.lookup y) (kp : ∀ b o, s1.heap.get? b = some o → h₁.get? b = some o) (r : RelV v u) :
    Inv (lamCx1 X A outer s1 HZ scope f c' p js) [] (lamS σ js v) HZ { s1 with heap := h₁, toks := tk } := by
  have hfree := L.has I.ok
  have cm : ∀ {y c}, (cloFrom X.env.cells scope.names []).lookup y = some c → X.env.cells.lookup y = some c := fun {y c} e => by
    rcases cloFrom_mem (PySem.mem_of_lookup e) with hm | ⟨h1, h2⟩
    · cases hm
    · obtain ⟨c1, hc⟩ := hfree _ h1 rfl
      have hc : X.env.cells.lookup y = some c1 := hc
      have e2 : c = c1 := by
        rw [h2, hc] <;> rfl
      rw [e2]
      exact hc
  have look : ∀ {y}, scope.names.lookup y = some .free → ∃ c, (cloFrom X.env.cells scope.names []).lookup y = some c := fun {y} hl => by
    have hy : (y, NameKind.free) ∈ scope.names := PySem.mem_of_lookup hl
    exact mem_lookup (cloFrom_has (cells := X.env.cells) (acc := []) hy)
  have cellK : ∀ {c : Addr} {v : Option Value}, H c = none → s.heap.IsCell c v → h₁.IsCell c v := fun {c v} n ⟨o, ho, hd⟩ => by
    obtain ⟨sl, q⟩ := un.any ho n (by simp)
    exact ⟨_, kp _ _ q, hd⟩
  have noA : ∀ b : Addr, b ∉ (lamCx1 X A outer s1 HZ scope f c' p js).ex := fun b z => absurd (show b ∈ ([] : List Addr) from z) (by simp)
  refine ⟨⟨e0.mod, L.kind, rfl, rfl, Nat.le_refl _, fun y z c e1 e2 => I.ok.inj y z c (cm e1) (cm e2), fun y hy => ?_, fun y c z _ => ?_, fun _ => hd, Around.frames_deeper e0.frames, .inr ⟨rfl, rfl⟩, fun b z => absurd z (noA b), e0.bs, e0.bsz, fun b _ _ => noA b,
      fun b z => absurd z (noA b), e0.funs, e0.frf⟩,
    rfl, e0.bare, Un.kept kp, ⟨_, hns, fun i y w e1 e2 e3 => ?_⟩, fun y c e => ?_, e0.hok.fresh (Nat.le_refl _), fun y c e => ?_, fun q hq => absurd (show q ∈ ([] : List (Addr × Obj)) ++ [] from hq) (by simp), e0.hok.kept kp, by simp [lamCx1, lamN, lamS]⟩
  · have hy : scope.names.lookup y = some .cell ∨ scope.names.lookup y = some .free := hy
    rcases hy with hy | hy
    · exact absurd rfl (L.own _ (PySem.mem_of_lookup hy))
    · exact look hy
  · have z : false = true := z
    cases z
  · have e1 : (lamN X p js)[i]? = some y := e1
    cases i with
    | zero =>
      have e2 : some (some v) = some (some w) := e2
      cases e2
      have e1 : some p = some y := e1
      cases e1
      exact ⟨u, r, .inl ⟨L.par, by simp [List.lookup]⟩⟩
    | succ i =>
      have e1 : (js.map fun j => X.N.getD j "")[i]? = some y := e1
      have e2 : (js.map fun j => (σ[j]?).join)[i]? = some (some w) := e2
      rw [List.getElem?_map] at e1 e2
      cases ej : js[i]? with
      | none => rw [ej] at e1; cases e1
      | some j =>
        rw [ej] at e1 e2
        have e1 := Option.some.inj e1
        have e2 : (σ[j]?).join = some w := Option.some.inj e2
        obtain ⟨x, hx, hfx⟩ := L.js j (List.mem_of_getElem? ej)
        have eg : X.N.getD j "" = x := by rw [List.getD_eq_getElem?_getD, hx]; rfl
        have e1 : X.N.getD j "" = y := e1
        rw [eg] at e1
        subst e1
        have e2 : σ[j]? = some (some w) := by
          cases q : σ[j]? with
          | none => rw [q] at e2; cases e2
          | some z => rw [q] at e2; cases z with
            | none => cases e2
            | some z => cases e2; rfl
        obtain ⟨m, hn, hl⟩ := I.loc
        have k := hfx
        have hvis : Vis X.env.scope x := (L.free _ (PySem.mem_of_lookup k) rfl).elim (fun k => .inr (.inl k)) (fun k => .inr (.inr k))
        obtain ⟨w', r, q⟩ := hl j x w hx e2 hvis
        obtain ⟨c2, h2⟩ := look k
        refine ⟨w', r, .inr ⟨.inr k, c2, h2, ?_⟩⟩
        have c1 := cm h2
        rcases q with ⟨k', _⟩ | ⟨_, c3, e', z⟩
        · have k' : X.env.scope.names.lookup x = some .local := k'
          rcases L.free _ (PySem.mem_of_lookup k) rfl with k2 | k2 <;> rw [show X.env.scope.names.lookup x = _ from k2] at k' <;> cases k'
        · rw [c1] at e'
          cases e'
          exact cellK (I.freeC x _ c1) z
  · obtain ⟨w', z⟩ := I.cell y c (cm e)
    exact ⟨w', cellK (I.freeC y c (cm e)) z⟩
  · obtain ⟨v, o, ho, hd⟩ := I.cell y c (cm e)
    exact un.free c o ho (I.freeC y c (cm e)) (by simp)
/-- what the call of the lambda that was handed over reads -/
def tAct (i : Nat) (f c' : Addr) (q : Str) (te : TE) (tl : V → Hp → VK → Prop) : TE := fun σ H Q => σ[i]? = some (some (.ref f)) ∧ te σ H fun v H1 => H1 c' = some (CodeO c' q) ∧ tl v H1 Q
def onlyV (P : V → Hp → Prop) : List V → Hp → Prop
  | [v], H => P v H
  | _, _ => False
theorem tcons_one {te : TE} {σ : L2.St} {H : Hp} {P : V → Hp → Prop} (h : te σ H P) : tCons te tNil σ H (onlyV P) := h
theorem onlyV_at {P : V → Hp → Prop} : ∀ {vs : List V} {H : Hp}, onlyV P vs H → ∃ v, vs = [v] ∧ P v H
  | [v], _, h => ⟨v, rfl, h⟩
  | [], _, h => h.elim
  | _ :: _ :: _, _, h => h.elim
/-- x(e), in the def that got the lambda -/
theorem pe_act1 {CXg : CXT} {Eg : XK} {Ng : List Str} {qg : Str} {sg : Scope} {g f c' : Addr} {cdg pm ctv : Value} {params : Arguments} {body : Expr} {scope : Scope} {k i : Nat} {a p : Str} {js : List Nat} {tb : TE} {e : Expr} {te : TE} {p1 p2 : Pos}
    (I : Inv X pins σ H s) (L : Lam1 X.env.scope scope X.N p js) (hf : s.heap.get? f = some (PySem.W.kla_obj "<lambda>" (X.env.qual ++ "<lambda>") params body scope (cloFrom X.env.cells scope.names []) pm c' ctv)) (hfn : H f = none) (hfr : f ∉ frs X.stack)
    (hbind : ∀ u, bindArgs (PySem.W.kla_fn "<lambda>" (X.env.qual ++ "<lambda>") params body scope (cloFrom X.env.cells scope.names []) pm (.ref c') ctv) ⟨[u], []⟩ = pure [(p, u)])
    (hr : Room (k + 1) (X.A.deeper (envOfC qg sg s.heap.objs.size g cdg)))
    (hbody : ∀ (A : Around) (outer : List Env) (s : Shared) (H : Hp), Room k (A.deeper (lamEnv X scope s.heap.objs.size f c')) → PE (lamCx1 X A outer s H scope f c' p js) body tb)
    (he : PE (cxOf CXg X.prog X.w X.K X.mg X.base Ng qg sg g cdg X.A X.stack s H Eg) e te)
    (hN : Ng[i]? = some a) (hv : Vis sg a) (hd : (a == ("__debug__" : Str)) = false) (hcd : (a == ("__classdict__" : Str)) = false)
    (hst : starEach [e] (envOfC qg sg s.heap.objs.size g cdg) = (false, eval e (envOfC qg sg s.heap.objs.size g cdg)) :: starEach [] (envOfC qg sg s.heap.objs.size g cdg)) :
    PE (cxOf CXg X.prog X.w X.K X.mg X.base Ng qg sg g cdg X.A X.stack s H Eg) (.Call (.Name a p1) [e] [] p2)
      (tAct i f c' (X.env.qual ++ "<lambda>") te fun v H' Q' => tb (lamS σ js v) H' Q') := by
  refine ⟨fun pinsZ sZ σZ HZ Q IZ h => ?_⟩
  obtain ⟨hs, ht⟩ := h
  refine wpAny_Call_Name_kw (thn ((pe_var (pos := p1) (i := i) hN hv hd hcd).run pinsZ sZ σZ HZ (fun v H1 => v = .ref f ∧ H1 = HZ) IZ ⟨.ref f, hs, rfl, rfl⟩) fun u s1 ⟨v, H1, I1, r1, q1⟩ => ?_)
  obtain ⟨ev, eH⟩ := q1
  subst ev
  rw [eH] at I1
  obtain rfl : u = Value.ref f := r1
  have of1 : ∀ {s' : Shared} {H' : Hp}, Inv (cxOf CXg X.prog X.w X.K X.mg X.base Ng qg sg g cdg X.A X.stack s H Eg) pinsZ σZ H' s' → s'.heap.get? f = some (PySem.W.kla_obj "<lambda>" (X.env.qual ++ "<lambda>") params body scope (cloFrom X.env.cells scope.names []) pm c' ctv) :=
    fun J => J.base.keep f _ hf hfn hfr (fun z => nomatch (show f ∈ ([] : List Addr) from z))
  refine PySem.W.callWith_F (first := []) ⟨_, _, _, _, of1 I1⟩ (thn ((pa_cons he pa_nil hst).run _ pinsZ s1 σZ HZ (onlyV fun v H2 => H2 c' = some (CodeO c' (X.env.qual ++ "<lambda>")) ∧ tb (lamS σ js v) H2 Q) I1 (tcons_one ht)) fun us s2 ⟨vs, H2, I2, r, q2⟩ => ?_) hst (by rfl)
  obtain ⟨v, ev, hc, ht2⟩ := onlyV_at q2
  subst ev
  obtain ⟨u, rfl, rv⟩ : ∃ u, us = [u] ∧ RelV v u := by
    cases r with
    | cons h1 h2 => cases h2; exact ⟨_, rfl, h1⟩
  refine ⟨⟨_, _, _, _, of1 I2⟩, ?_⟩
  have of2 := of1 I2
  have un : Un (frs X.stack) [] H H2 s.heap s2.heap := I2.base
  obtain ⟨⟨oc, vc, t, hoc, hdc, hvc⟩, _, _⟩ := I2.hok c' _ hc
  have rc : codeAny (model X.prog X.w) (X.A.deeper (envOfC qg sg s.heap.objs.size g cdg)) (.call (.ref f) ⟨[u], []⟩) (CR (L2.CX X.prog X.w) (envOfC qg sg s.heap.objs.size g cdg :: X.stack) X.prog X.w H2 s2 Q (fun _ _ _ => False)) s2 := by
    refine PySem.W.kla_callFunE hr.depth of2 rfl L.co L.gen rfl ⟨c', oc, vc, t, rfl, hoc, hdc, hvc⟩ ?_
    rw [hbind]
    refine wpAny_pure (wpAny_newFunctionEnv (fun y hy => L.own y hy) (fun y hy => ?_) (fun h₁ hns hsb => ⟨I2.nolimit.fresh _ hsb, ?_⟩) L.kind)
    · rw [List.mem_singleton] at hy
      rw [hy]
      exact L.par
    show codeAny _ _ (.expr body (lamEnv X scope s2.heap.objs.size f c')) _ _
    have kp : ∀ b o, s2.heap.get? b = some o → h₁.get? b = some o := fun b o e => hsb.extBut b o (Nat.ne_of_lt (Heap.lt_size e)) (Heap.get?_push_of_some _ e)
    have J : Inv (lamCx1 X (X.A.deeper (envOfC qg sg s.heap.objs.size g cdg)) (envOfC qg sg s.heap.objs.size g cdg :: X.stack) s2 H2 scope f c' p js) [] (lamS σ js v) H2 { s2 with heap := h₁, toks := s2.toks + [(p, u)].length } :=
      lam_start3 I L I2.env0 hr.hd un hns kp rv
    refine PySem.W.kla_codeExpr (wpAny_mono ((hbody _ _ s2 H2 (hr.deeper _)).run [] _ _ H2 Q J ht2) (fun v s' hq => ?_) fun e s' hq => hq)
    obtain ⟨w', H', J', rv, q⟩ := hq
    exact ⟨w', H', J'.os, J'.bare, J'.base, J'.hok, rv, q⟩
  refine wpAny_call (codeAny_mono rc fun r s' hq => ?_)
  cases r with
  | error e => exact passF pinsZ σZ H2 s2 e s' I2 hq
  | ok fl =>
    cases fl with
    | ret u => exact I2.after hq
    | next => exact False.elim hq
    | brk => exact False.elim hq
    | cont => exact False.elim hq
end
/-- the context of the def that gets the lambda -/
abbrev ZCx (X : Cx) (Ng : List Str) (qg : Str) (sg : Scope) (g : Addr) (cdg : Value) (s : Shared) (H : Hp) (E : XK) : Cx := cxOf (L2.CX X.prog X.w) X.prog X.w X.K X.mg X.base Ng qg sg g cdg X.A X.stack s H E
abbrev TLam := (V → Hp → VK → Prop) → List V → Hp → VK → XK → Prop
/-- the rule of the call of what was handed over, in the context Z -/
def ActP (Z : Cx) (i : Nat) (an : Str) (f c' : Addr) (q : Str) (tl : V → Hp → VK → Prop) : Prop :=
  ∀ (e : Expr) (te : TE) (p1 p2 : Pos), PE Z e te → starEach [e] Z.env = (false, eval e Z.env) :: starEach [] Z.env → PE Z (.Call (.Name an p1) [e] [] p2) (tAct i f c' q te tl)
/-- the def at g keeps its promise TT with each lambda -/
def Gives (X : Cx) (Ng : List Str) (qg : Str) (sg : Scope) (g : Addr) (cdg : Value) (bg : List Stmt) (i : Nat) (an : Str) (q : Str) (k : Nat) (TT : TLam) : Prop :=
  ∀ (f c' : Addr) (s : Shared) (H : Hp) (E : XK) (Q : VK) (ws : List V) (tl : V → Hp → VK → Prop), Room (k + 1) (X.A.deeper (envOfC qg sg s.heap.objs.size g cdg)) →
    ActP (ZCx X Ng qg sg g cdg s H E) i an f c' q tl → H c' = some (CodeO c' q) → TT tl ws H Q E →
    ∃ t, PSs (ZCx X Ng qg sg g cdg s H E) bg t ∧ t { nx := fun _ H' => Q .non H', rt := Q } (L2.start Ng (ws ++ [.ref f])) H
/-- o.m(lambda p: body) -/
def tLamM (C : Addr) (m : Str) (T : List (Addr × Str)) (TT : TLam) (E : XK) (ta tb : TE) (js : List Nat) : TE := fun σ H Q => ta σ H fun x H1 => ∃ a dx fs, x = .ref a ∧ H1 a = some (.ins C dx fs) ∧ fs.lookup m = none ∧ Tabs T H1 ∧
  ∀ H2, ExtN H1 H2 → Tabs T H2 → TT (fun v H' Q' => tb (lamS σ js v) H' Q') [.ref a] H2 Q E
/-- x(e, lambda p: body) -/
def tLamD (T : List (Addr × Str)) (TT : TLam) (E : XK) (ta tb : TE) (js : List Nat) : TE := fun σ H Q => ta σ H fun x H1 => Tabs T H1 ∧
  ∀ H2, ExtN H1 H2 → Tabs T H2 → TT (fun v H' Q' => tb (lamS σ js v) H' Q') [x] H2 Q E
section
variable {X : Cx}
theorem pe_lamM {pl : Sem Bool} {T : List (Addr × Str)} {TT : TLam} {o : Expr} {m qg an p : Str} {C g c P : Addr} {k i : Nat} {pg : Arguments} {bg : List Stmt} {sg : Scope} {dV kV doc pm cdv ct oc : Value} {an' od : Option Addr} {osl : Array (Option Value)} {Ng ps : List Str} {nm : Str}
    {params : Arguments} {body : Expr} {scope : Scope} {ta tb : TE} {js : List Nat} {E : XK} {apos lpos pos : Pos} (he : PE X o ta) (cl : L2.Cls X.K C) (hm : L2.Meth X.K C m g)
    (lk : X.K.lookup g = some ⟨oc, od, .func (PySem.W.fnOf nm qg pg bg sg dV kV doc pm an' cdv ct), osl⟩) (hcg : PySem.W.codeIn X.K cdv qg = true) (hb : L2.Binds X.K (PySem.W.fnOf nm qg pg bg sg dV kV doc pm an' cdv ct) ps []) (hl : ps.length = 2) (Sg : FnScope Ng ps sg)
    (hN : Ng[i]? = some an) (hv : Vis sg an) (hd : (an == ("__debug__" : Str)) = false) (hcd : (an == ("__classdict__" : Str)) = false)
    (hG : Gives X Ng qg sg g cdv bg i an (X.env.qual ++ "<lambda>") k TT)
    (TB : TabB X.base X.mg c P) (hcode : X.env.code = .ref c) (hmT : (P, X.env.qual ++ "<lambda>") ∈ T) (hu : ∀ p ∈ T, p.1 = P → p.2 = X.env.qual ++ "<lambda>") (hr : Room (k + 2) X.A) (L : Lam1 X.env.scope scope X.N p js) (hdef : defaultsOf params X.env = ([], []))
    (hbind : ∀ (q : Str) (cl : List (Str × Addr)) (pm cv ctv u : Value), bindArgs (PySem.W.kla_fn "<lambda>" q params body scope cl pm cv ctv) ⟨[u], []⟩ = pure [(p, u)])
    (hbody : ∀ (A : Around) (outer : List Env) (s : Shared) (H : Hp) (f c' : Addr), Room k (A.deeper (lamEnv X scope s.heap.objs.size f c')) → PE (lamCx1 X A outer s H scope f c' p js) body tb)
    (hx : Passes (L2.CX X.prog X.w) X E)
    (ht : eval (.Call (.Attribute o m apos) [.Lambda params body scope lpos] [] pos) X.env = (do
      let ov ← eval o X.env
      standAt apos.atName
      let (f, first) ← holding [ov] (getMethod ov m pl)
      callWith pos f first (backTo pos (starEach [.Lambda params body scope lpos] X.env)) (backToKw pos (keywordEach [] X.env))) := by rfl) :
    PE X (.Call (.Attribute o m apos) [.Lambda params body scope lpos] [] pos) (tLamM C m T TT E ta tb js) := by
  refine ⟨fun pins s σ H Q I h => ?_⟩
  refine PySem.W.methodCall_KW (pl := pl) (thn (he.run pins s σ H _ I h) fun u s1 ⟨x, H1, I1, rx, a, dx, fs, ex, ea, l, hT, h2⟩ => ?_) ht
  subst ex
  obtain rfl : u = Value.ref a := rx
  refine getmeth_ok I1 ea cl hm l ?_
  refine PySem.W.callWith_K (first := [.ref a]) (h₀ := X.base) I.ok.mod.kin hm.kp ?_ (by rfl) (by rfl)
  show wpAny _ _ (spliced ((false, eval (.Lambda params body scope lpos) X.env) :: backTo pos (starEach [] X.env))) _ _ s1
  refine Calls.spliced_cons (lam_make2 I1 TB hcode hmT hu hT hdef (L.has I1.ok) fun f c' pm' ctv H2 s' I2 eN T2 hf hfn hfr hco => ?_)
  refine Calls.spliced_nil ⟨I2.kIn, ?_⟩
  have rc : codeAny (model X.prog X.w) X.A (.call (.ref g) ⟨[.ref a, .ref f], []⟩) (CR (L2.CX X.prog X.w) X.stack X.prog X.w H2 s' Q E) s' := by
    have b := hb s' [.ref a, .ref f] I2.kIn (by rw [hl]; rfl)
    refine run_ofS (N := Ng) (ps := ps) (us := [.ref a, .ref f]) (vs := [.ref a, .ref f]) lk hcg Sg hr I2.env0 b (.cons rfl (.cons rfl .nil)) (by rw [hl]; rfl) fun hr' => ?_
    exact hG f c' s' H2 E Q [.ref a] _ hr' (fun e te p1 p2 he hst => pe_act1 I2 L hf hfn hfr (hbind _ _ _ _ _) hr' (fun A outer s H hr2 => hbody A outer s H f c' hr2) he hN hv hd hcd hst) hco (h2 H2 eN T2)
  refine wpAny_call (codeAny_mono rc fun r s2 hq => ?_)
  cases r with
  | error e => exact hx pins σ H2 s' e s2 I2 hq
  | ok fl =>
    cases fl with
    | ret u => exact I2.after hq
    | next => exact False.elim hq
    | brk => exact False.elim hq
    | cont => exact False.elim hq
theorem pe_lamD {T : List (Addr × Str)} {TT : TLam} {x qg an p : Str} {g c P : Addr} {k i : Nat} {pg : Arguments} {bg : List Stmt} {sg : Scope} {dV kV doc pm cdv ct oc : Value} {an' od : Option Addr} {osl : Array (Option Value)} {Ng ps : List Str} {nm : Str}
    {params : Arguments} {e1 body : Expr} {scope : Scope} {ta tb : TE} {js : List Nat} {E : XK} {pp lpos pos : Pos} (he : PE X e1 ta) (hg : Gl X x) (hm : X.mg x = some (.ref g)) (hk : PySem.W.keepIn X.K (.ref g) = true)
    (lk : X.K.lookup g = some ⟨oc, od, .func (PySem.W.fnOf nm qg pg bg sg dV kV doc pm an' cdv ct), osl⟩) (hcg : PySem.W.codeIn X.K cdv qg = true) (hb : L2.Binds X.K (PySem.W.fnOf nm qg pg bg sg dV kV doc pm an' cdv ct) ps []) (hl : ps.length = 2) (Sg : FnScope Ng ps sg)
    (hN : Ng[i]? = some an) (hv : Vis sg an) (hd : (an == ("__debug__" : Str)) = false) (hcd : (an == ("__classdict__" : Str)) = false)
    (hG : Gives X Ng qg sg g cdv bg i an (X.env.qual ++ "<lambda>") k TT)
    (TB : TabB X.base X.mg c P) (hcode : X.env.code = .ref c) (hmT : (P, X.env.qual ++ "<lambda>") ∈ T) (hu : ∀ p ∈ T, p.1 = P → p.2 = X.env.qual ++ "<lambda>") (hr : Room (k + 2) X.A) (L : Lam1 X.env.scope scope X.N p js) (hdef : defaultsOf params X.env = ([], []))
    (hbind : ∀ (q : Str) (cl : List (Str × Addr)) (pm cv ctv u : Value), bindArgs (PySem.W.kla_fn "<lambda>" q params body scope cl pm cv ctv) ⟨[u], []⟩ = pure [(p, u)])
    (hbody : ∀ (A : Around) (outer : List Env) (s : Shared) (H : Hp) (f c' : Addr), Room k (A.deeper (lamEnv X scope s.heap.objs.size f c')) → PE (lamCx1 X A outer s H scope f c' p js) body tb)
    (hx : Passes (L2.CX X.prog X.w) X E) (hdb : (x == ("__debug__" : Str)) = false := by decide)
    (hst : starEach [e1, .Lambda params body scope lpos] X.env = (false, eval e1 X.env) :: starEach [.Lambda params body scope lpos] X.env := by rfl) :
    PE X (.Call (.Name x pp) [e1, .Lambda params body scope lpos] [] pos) (tLamD T TT E ta tb js) := by
  refine ⟨fun pins s σ H Q I h => ?_⟩
  refine wpAny_Call_Name_kw (ld_glob I hg hm ?_ hdb)
  refine PySem.W.callWith_K (h₀ := X.base) I.ok.mod.kin hk ?_ hst (by rfl)
  rw [hst]
  show wpAny _ _ (spliced ((false, eval e1 X.env) :: (false, eval (.Lambda params body scope lpos) X.env) :: backTo pos (starEach [] X.env))) _ _ s
  refine Calls.spliced_cons (thn (he.run pins s σ H _ I h) fun u s1 ⟨x, H1, I1, rx, hT, h2⟩ => ?_)
  refine Calls.spliced_cons (lam_make2 I1 TB hcode hmT hu hT hdef (L.has I1.ok) fun f c' pm' ctv H2 s' I2 eN T2 hf hfn hfr hco => ?_)
  refine Calls.spliced_nil ⟨I2.kIn, ?_⟩
  have rc : codeAny (model X.prog X.w) X.A (.call (.ref g) ⟨[u, .ref f], []⟩) (CR (L2.CX X.prog X.w) X.stack X.prog X.w H2 s' Q E) s' := by
    have b := hb s' [u, .ref f] I2.kIn (by rw [hl]; rfl)
    refine run_ofS (N := Ng) (ps := ps) (us := [u, .ref f]) (vs := [x, .ref f]) lk hcg Sg hr I2.env0 b (.cons rx (.cons rfl .nil)) (by rw [hl]; rfl) fun hr' => ?_
    exact hG f c' s' H2 E Q [x] _ hr' (fun e te p1 p2 he hst => pe_act1 I2 L hf hfn hfr (hbind _ _ _ _ _) hr' (fun A outer s H hr2 => hbody A outer s H f c' hr2) he hN hv hd hcd hst) hco (h2 H2 eN T2)
  refine wpAny_call (codeAny_mono rc fun r s2 hq => ?_)
  cases r with
  | error e => exact hx pins σ H2 s' e s2 I2 hq
  | ok fl =>
    cases fl with
    | ret u => exact I2.after hq
    | next => exact False.elim hq
    | brk => exact False.elim hq
    | cont => exact False.elim hq
end
end Nm

/-! The own layer: xs == [] and t == (), whatever stands in them; int(text). -/
namespace Nm
open PySem PySem.Spec PyProof.Rows L2
def rEqN (K : PySem.W.Frag) : R2 := fun x y H Q => ∃ a b xs, x = .ref a ∧ y = .ref b ∧ ((SqL K H a xs ∧ SqL K H b []) ∨ (SqT K H a xs ∧ SqT K H b [])) ∧ Q (.bl (decide (xs = []))) H
def rNeN (K : PySem.W.Frag) : R2 := fun x y H Q => ∃ a b xs, x = .ref a ∧ y = .ref b ∧ ((SqL K H a xs ∧ SqL K H b []) ∨ (SqT K H a xs ∧ SqT K H b [])) ∧ Q (.bl (!decide (xs = []))) H
section
variable {X : Cx}
theorem vals_nil {us : List Value} (r : Vals [] us) : us = [] := by cases r; rfl
theorem vals_ne {v : V} {vs : List V} {us : List Value} (r : Vals (v :: vs) us) : us ≠ [] := by cases r; simp
theorem op_eqN (hu : X.A.units < cLine) : OpR X (compareOp .Eq) (rEqN X.K) := by
  intro pins s σ H x y v u Q I rx ry h
  obtain ⟨a, b, xs, rfl, rfl, h, q⟩ := h
  obtain rfl : v = Value.ref a := rx
  obtain rfl : u = Value.ref b := ry
  rcases h with ⟨h1, h2⟩ | ⟨h1, h2⟩
  · obtain ⟨its, rv, ⟨o, n, ho, hc, _, hd⟩, _⟩ := I.list h1
    obtain ⟨its2, rv2, ⟨o2, n2, ho2, hc2, _, hd2⟩, _⟩ := I.list h2
    obtain rfl := vals_nil rv2
    cases xs with
    | nil =>
      obtain rfl := vals_nil rv
      exact SeqAt.eq_listAt (e := fun _ => true) ⟨o, ho, hc, n, hd⟩ ⟨o2, ho2, hc2, n2, hd2⟩ rfl hu (fun j h1 _ => absurd h1 (by simp)) ⟨.bl _, H, I, rfl, q⟩
    | cons x xs =>
      have ne := vals_ne rv
      exact SeqAt.eq_list_lengthsAt ⟨o, ho, hc, n, hd⟩ ⟨o2, ho2, hc2, n2, hd2⟩ (by cases its with | nil => exact absurd rfl ne | cons z zs => simp) hu ⟨.bl _, H, I, rfl, q⟩
  · obtain ⟨its, rv, ⟨o, ho, hc, n, hd⟩, _⟩ := I.tuple h1
    obtain ⟨its2, rv2, ⟨o2, ho2, hc2, n2, hd2⟩, _⟩ := I.tuple h2
    obtain rfl := vals_nil rv2
    refine SeqAt.eq_tupleAt (e := fun _ => true) ⟨o, ho, hc, n, hd⟩ ⟨o2, ho2, hc2, n2, hd2⟩ hu (fun j _ h2 => absurd h2 (by simp)) ⟨.bl _, H, I, ?_, q⟩
    cases xs with
    | nil => obtain rfl := vals_nil rv; rfl
    | cons x xs =>
      have ne := vals_ne rv
      cases its with
      | nil => exact absurd rfl ne
      | cons z zs => simp [L2.RelV]
theorem op_neN (hu : X.A.units < cLine) : OpR X (compareOp .NotEq) (rNeN X.K) := by
  intro pins s σ H x y v u Q I rx ry h
  obtain ⟨a, b, xs, rfl, rfl, h, q⟩ := h
  obtain rfl : v = Value.ref a := rx
  obtain rfl : u = Value.ref b := ry
  rcases h with ⟨h1, h2⟩ | ⟨h1, h2⟩
  · obtain ⟨its, rv, ⟨o, n, ho, hc, _, hd⟩, _⟩ := I.list h1
    obtain ⟨its2, rv2, ⟨o2, n2, ho2, hc2, _, hd2⟩, _⟩ := I.list h2
    obtain rfl := vals_nil rv2
    cases xs with
    | nil =>
      obtain rfl := vals_nil rv
      exact SeqAt.RcNeAt.lists (e := fun _ => true) ⟨o, ho, hc, n, hd⟩ ⟨o2, ho2, hc2, n2, hd2⟩ rfl hu (fun j h1 _ => absurd h1 (by simp)) _ _ _ _ ⟨.bl _, H, I, rfl, q⟩
    | cons x xs =>
      have ne := vals_ne rv
      exact SeqAt.RcNeAt.lists_lengths ⟨o, ho, hc, n, hd⟩ ⟨o2, ho2, hc2, n2, hd2⟩ (by cases its with | nil => exact absurd rfl ne | cons z zs => simp) hu _ _ _ _ ⟨.bl _, H, I, rfl, q⟩
  · obtain ⟨its, rv, ⟨o, ho, hc, n, hd⟩, _⟩ := I.tuple h1
    obtain ⟨its2, rv2, ⟨o2, ho2, hc2, n2, hd2⟩, _⟩ := I.tuple h2
    obtain rfl := vals_nil rv2
    refine SeqAt.RcNeAt.tuples (e := fun _ => true) ⟨o, ho, hc, n, hd⟩ ⟨o2, ho2, hc2, n2, hd2⟩ hu (fun j _ h2 => absurd h2 (by simp)) _ _ _ _ ⟨.bl _, H, I, ?_, q⟩
    cases xs with
    | nil => obtain rfl := vals_nil rv; rfl
    | cons x xs =>
      have ne := vals_ne rv
      cases its with
      | nil => exact absurd rfl ne
      | cons z zs => simp [L2.RelV]
end
section
variable {K : PySem.W.Frag} {H : Hp} {Q : VK}
theorem z_eqNL {a b : Addr} {xs : List V} (h1 : SqL K H a xs) (h2 : SqL K H b []) (q : Q (.bl (decide (xs = []))) H) : rEqN K (.ref a) (.ref b) H Q := ⟨a, b, xs, rfl, rfl, .inl ⟨h1, h2⟩, q⟩
theorem z_eqNT {a b : Addr} {xs : List V} (h1 : SqT K H a xs) (h2 : SqT K H b []) (q : Q (.bl (decide (xs = []))) H) : rEqN K (.ref a) (.ref b) H Q := ⟨a, b, xs, rfl, rfl, .inr ⟨h1, h2⟩, q⟩
theorem z_neNL {a b : Addr} {xs : List V} (h1 : SqL K H a xs) (h2 : SqL K H b []) (q : Q (.bl (!decide (xs = []))) H) : rNeN K (.ref a) (.ref b) H Q := ⟨a, b, xs, rfl, rfl, .inl ⟨h1, h2⟩, q⟩
theorem z_neNT {a b : Addr} {xs : List V} (h1 : SqT K H a xs) (h2 : SqT K H b []) (q : Q (.bl (!decide (xs = []))) H) : rNeN K (.ref a) (.ref b) H Q := ⟨a, b, xs, rfl, rfl, .inr ⟨h1, h2⟩, q⟩
end
/-! makers of lambdas: a def whose code object is known -/
open LamX
section
variable {P : Program} {w : World} {K : PySem.W.Frag} {mg : Str → Option Value} {base : Heap}
theorem okC {CX : CXT} {x qual : Str} {st : Stmt} {f c : Addr} {fd : FuncData} {N ps : List Str} {k : Nat} {sp : Sp} (F : Fun K x qual st f fd) (hc : fd.code = .ref c) (S : FnScope N ps (defScope st)) (len : ∀ vs H Q E, sp vs H Q E → vs.length = ps.length)
    (hbody : ∀ (A : Around) (outer : List Env) (s : Shared) (H : Hp) (vs : List V) (Q : VK) (E : XK), Room k (A.deeper (envOfC qual (defScope st) s.heap.objs.size f (.ref c))) → sp vs H Q E →
      ∃ t, PSs (cxOf CX P w K mg base N qual (defScope st) f (.ref c) A outer s H E) (defBody st) t ∧ t { nx := fun _ H' => Q .non H', rt := Q } (start N vs) H) : FnOk P w K mg base CX (k + 1) f fd ps sp := by
  obtain ⟨oc, od, kV, doc, pm, an, cdv, ct, osl, rfl, lk, hcd⟩ := F.ex
  obtain rfl : cdv = .ref c := hc
  exact fn_of lk hcd S len fun A outer s H vs Q E hr hsp => hbody A outer s H vs Q E hr hsp
end
def lam1B (sc scope : Scope) (p : Str) : Bool :=
  decide (scope.kind = .function) && !scope.isCoroutine && !scope.isGenerator && decide (scope.names.lookup p = some .local) && scope.names.all fun y => !decide (y.2 = .cell) && (!decide (y.2 = .free) || decide (sc.names.lookup y.1 = some .cell) || decide (sc.names.lookup y.1 = some .free))
theorem lam1_by {sc scope : Scope} {N : List Str} {p : Str} {js : List Nat} (h : lam1B sc scope p = true) (hj : ∀ j ∈ js, ∃ x, N[j]? = some x ∧ scope.names.lookup x = some .free) : Lam1 sc scope N p js := by
  unfold lam1B at h
  simp only [Bool.and_eq_true, Bool.or_eq_true, Bool.not_eq_true', decide_eq_true_eq, decide_eq_false_iff_not, List.all_eq_true] at h
  obtain ⟨⟨⟨⟨h1, h2⟩, h3⟩, h4⟩, h5⟩ := h
  refine ⟨h1, h2, h3, fun y hy => (h5 y hy).1, h4, fun y hy e => ?_, hj⟩
  rcases (h5 y hy).2 with (q | q) | q
  · exact absurd e q
  · exact .inl q
  · exact .inr q
section
variable {X : Cx}
/-- o.m(lambda p: body) of a class of one's own -/
theorem pe_lamMF {pl : Sem Bool} {T : List (Addr × Str)} {TT : TLam} {o : Expr} {m nm qg an p : Str} {C g c P : Addr} {k i : Nat} {st : Stmt} {fd : FuncData} {Ng ps : List Str}
    {params : Arguments} {body : Expr} {scope : Scope} {ta tb : TE} {js : List Nat} {E : XK} {apos lpos pos : Pos} (he : PE X o ta) (cl : L2.Cls X.K C) (hm : L2.Meth X.K C m g)
    (D : Dm X.K nm qg st ps g fd) (hl : ps.length = 2) (Sg : FnScope Ng ps (defScope st))
    (hN : Ng[i]? = some an) (hv : Vis (defScope st) an) (hd : (an == ("__debug__" : Str)) = false) (hcd : (an == ("__classdict__" : Str)) = false)
    (hG : ∀ cdv, Gives X Ng qg (defScope st) g cdv (defBody st) i an (X.env.qual ++ "<lambda>") k TT)
    (TB : TabB X.base X.mg c P) (hcode : X.env.code = .ref c) (hmT : (P, X.env.qual ++ "<lambda>") ∈ T) (hu : ∀ p ∈ T, p.1 = P → p.2 = X.env.qual ++ "<lambda>") (hr : Room (k + 2) X.A) (L : Lam1 X.env.scope scope X.N p js) (hdef : defaultsOf params X.env = ([], []))
    (hbind : ∀ (q : Str) (cl : List (Str × Addr)) (pm cv ctv u : Value), bindArgs (PySem.W.kla_fn "<lambda>" q params body scope cl pm cv ctv) ⟨[u], []⟩ = pure [(p, u)])
    (hbody : ∀ (A : Around) (outer : List Env) (s : Shared) (H : Hp) (f c' : Addr), Room k (A.deeper (lamEnv X scope s.heap.objs.size f c')) → PE (lamCx1 X A outer s H scope f c' p js) body tb)
    (hx : Passes (L2.CX X.prog X.w) X E)
    (ht : eval (.Call (.Attribute o m apos) [.Lambda params body scope lpos] [] pos) X.env = (do
      let ov ← eval o X.env
      standAt apos.atName
      let (f, first) ← holding [ov] (getMethod ov m pl)
      callWith pos f first (backTo pos (starEach [.Lambda params body scope lpos] X.env)) (backToKw pos (keywordEach [] X.env))) := by rfl) :
    PE X (.Call (.Attribute o m apos) [.Lambda params body scope lpos] [] pos) (tLamM C m T TT E ta tb js) := by
  have hb := D.b
  obtain ⟨oc, od, kV, doc, pm, an', cdv, ct, osl, rfl, lk, hcg⟩ := D.F.ex
  exact pe_lamM he cl hm lk hcg hb hl Sg hN hv hd hcd (hG cdv) TB hcode hmT hu hr L hdef hbind hbody hx ht
/-- x(e, lambda p: body) of a def of one's own -/
theorem pe_lamDF {T : List (Addr × Str)} {TT : TLam} {x an p : Str} {g c P : Addr} {k i : Nat} {st : Stmt} {fd : FuncData} {Ng ps : List Str}
    {params : Arguments} {e1 body : Expr} {scope : Scope} {ta tb : TE} {js : List Nat} {E : XK} {pp lpos pos : Pos} (he : PE X e1 ta) (hg : Gl X x)
    (D : Df X.K X.mg x st ps g fd) (hl : ps.length = 2) (Sg : FnScope Ng ps (defScope st))
    (hN : Ng[i]? = some an) (hv : Vis (defScope st) an) (hd : (an == ("__debug__" : Str)) = false) (hcd : (an == ("__classdict__" : Str)) = false)
    (hG : ∀ cdv, Gives X Ng x (defScope st) g cdv (defBody st) i an (X.env.qual ++ "<lambda>") k TT)
    (TB : TabB X.base X.mg c P) (hcode : X.env.code = .ref c) (hmT : (P, X.env.qual ++ "<lambda>") ∈ T) (hu : ∀ p ∈ T, p.1 = P → p.2 = X.env.qual ++ "<lambda>") (hr : Room (k + 2) X.A) (L : Lam1 X.env.scope scope X.N p js) (hdef : defaultsOf params X.env = ([], []))
    (hbind : ∀ (q : Str) (cl : List (Str × Addr)) (pm cv ctv u : Value), bindArgs (PySem.W.kla_fn "<lambda>" q params body scope cl pm cv ctv) ⟨[u], []⟩ = pure [(p, u)])
    (hbody : ∀ (A : Around) (outer : List Env) (s : Shared) (H : Hp) (f c' : Addr), Room k (A.deeper (lamEnv X scope s.heap.objs.size f c')) → PE (lamCx1 X A outer s H scope f c' p js) body tb)
    (hx : Passes (L2.CX X.prog X.w) X E) (hdb : (x == ("__debug__" : Str)) = false := by decide)
    (hst : starEach [e1, .Lambda params body scope lpos] X.env = (false, eval e1 X.env) :: starEach [.Lambda params body scope lpos] X.env := by rfl) :
    PE X (.Call (.Name x pp) [e1, .Lambda params body scope lpos] [] pos) (tLamD T TT E ta tb js) := by
  have hb := D.b
  have hk := D.F.kp
  obtain ⟨oc, od, kV, doc, pm, an', cdv, ct, osl, rfl, lk, hcg⟩ := D.F.ex
  exact pe_lamD he hg D.g hk lk hcg hb hl Sg hN hv hd hcd (hG cdv) TB hcode hmT hu hr L hdef hbind hbody hx hdb hst
end
end Nm

/-! k03, the plain law: words of a line, kinds of words, as lists of code points. -/
namespace K3
open PySem L2 Nm
def BIG : List Nat := tl "ABCDEFGHIJKLMNOPQRSTUVWXYZ"
def SMALL : List Nat := tl "abcdefghijklmnopqrstuvwxyz"
def DIG : List Nat := tl "0123456789"
def LATER : List Nat := tl "ABCDEFGHIJKLMNOPQRSTUVWXYZabcdefghijklmnopqrstuvwxyz0123456789_"
def kept : List (List Nat) := [tl "kind", tl "fun", tl "let", tl "in"]
def named (w f : List Nat) : Bool := decide (1 ≤ w.length) && decide (w.length ≤ 24) && decide (w.headD 0 ∈ f) && w.all fun c => decide (c ∈ LATER)
def isBig (w : List Nat) : Bool := named w BIG
def isSmall (w : List Nat) : Bool := named w SMALL && !decide (w ∈ kept)
def digs (w : List Nat) : List Nat := if w.take 1 = [45] then w.drop 1 else w
def isNum (w : List Nat) : Bool := decide (1 ≤ (digs w).length) && decide ((digs w).length ≤ 400) && ((digs w).all fun c => decide (c ∈ DIG)) && (!decide ((digs w).headD 0 = 48) || decide (w = [48]))
/-! the law's own -/
def lkind (w : List Nat) : List Nat :=
  if w ∈ kept then w
  else if (w.headD 0 ∈ BIG ++ SMALL ∧ w.length ≤ 24) ∧ w.filter (fun c => !decide (c ∈ LATER)) = [] then (if w.headD 0 ∈ BIG then tl "big" else tl "small")
  else
    let d := if w.headD 0 = 45 then w.drop 1 else w
    if (d ≠ [] ∧ d.length ≤ 400 ∧ d.filter (fun c => !decide (c ∈ DIG)) = []) ∧ (w = [48] ∨ d.headD 0 ≠ 48) then tl "number" else tl "word " ++ w
theorem filter_all {p : Nat → Bool} {w : List Nat} : (w.filter (fun c => !p c) = []) ↔ w.all p = true := by
  rw [List.filter_eq_nil_iff, List.all_eq_true]
  constructor
  · intro h c hc
    have := h c hc
    simpa using this
  · intro h c hc
    simp [h c hc]
theorem big_small : ∀ c ∈ BIG, ¬ c ∈ SMALL := by decide +kernel
theorem kept_len : ∀ w ∈ kept, w ≠ tl "big" ∧ w ≠ tl "small" ∧ w ≠ tl "number" ∧ isBig w = false ∧ isNum w = false := by decide +kernel
theorem dig_big : ∀ c ∈ BIG, ¬ c ∈ DIG ∧ c ≠ 45 := by decide +kernel
theorem dig_small : ∀ c ∈ SMALL, ¬ c ∈ DIG ∧ c ≠ 45 := by decide +kernel
theorem w_big : tl "big" ≠ tl "small" ∧ tl "big" ≠ tl "number" ∧ tl "small" ≠ tl "number" := by decide +kernel
theorem word_ne (w : List Nat) : tl "word " ++ w ≠ tl "big" ∧ tl "word " ++ w ≠ tl "small" ∧ tl "word " ++ w ≠ tl "number" := by
  have e : tl "word " = [119, 111, 114, 100, 32] := by decide +kernel
  have e1 : tl "big" = [98, 105, 103] := by decide +kernel
  have e2 : tl "small" = [115, 109, 97, 108, 108] := by decide +kernel
  have e3 : tl "number" = [110, 117, 109, 98, 101, 114] := by decide +kernel
  rw [e, e1, e2, e3]
  refine ⟨?_, ?_, ?_⟩ <;> intro h <;> simp at h
theorem digs_eq {w : List Nat} (h : w ≠ []) : digs w = if w.headD 0 = 45 then w.drop 1 else w := by
  cases w with
  | nil => exact absurd rfl h
  | cons a r =>
    unfold digs
    simp
theorem kinds {w : List Nat} (h : w ≠ []) : isBig w = decide (lkind w = tl "big") ∧ isSmall w = decide (lkind w = tl "small") ∧ isNum w = decide (lkind w = tl "number") := by
  have hl : 1 ≤ w.length := List.length_pos_iff.mpr h
  unfold lkind
  by_cases hk : w ∈ kept
  · rw [if_pos hk]
    obtain ⟨k1, k2, k3, k4, k5⟩ := kept_len w hk
    refine ⟨?_, ?_, ?_⟩
    · rw [k4, decide_eq_false k1]
    · unfold isSmall
      rw [decide_eq_true hk, decide_eq_false k2]
      simp
    · rw [k5, decide_eq_false k3]
  · rw [if_neg hk]
    by_cases hn : (w.headD 0 ∈ BIG ++ SMALL ∧ w.length ≤ 24) ∧ w.filter (fun c => !decide (c ∈ LATER)) = []
    · rw [if_pos hn]
      obtain ⟨⟨h1, h2⟩, h3⟩ := hn
      rw [filter_all (p := fun c => decide (c ∈ LATER))] at h3
      have hnum : isNum w = false := by
        unfold isNum
        rw [digs_eq h]
        have hh : ¬ w.headD 0 ∈ DIG ∧ w.headD 0 ≠ 45 := by
          rcases List.mem_append.mp h1 with q | q
          · exact dig_big _ q
          · exact dig_small _ q
        rw [if_neg hh.2]
        have : (w.all fun c => decide (c ∈ DIG)) = false := by
          cases w with
          | nil => exact absurd rfl h
          | cons a r =>
            have ha : ¬ a ∈ DIG := hh.1
            simp [ha]
        rw [this]
        simp
      by_cases hb : w.headD 0 ∈ BIG
      · rw [if_pos hb]
        refine ⟨?_, ?_, ?_⟩
        · simp only [isBig, named, hl, h2, hb, h3, decide_true, decide_false, Bool.and_true, Bool.true_and, Bool.and_self, Bool.and_false, Bool.false_and, Bool.not_true, Bool.not_false, eq_self]
        · have := big_small _ hb
          simp only [isSmall, named, this, w_big.1, decide_true, decide_false, Bool.and_true, Bool.true_and, Bool.and_self, Bool.and_false, Bool.false_and, Bool.not_true, Bool.not_false, eq_self]
        · rw [hnum, decide_eq_false w_big.2.1]
      · rw [if_neg hb]
        have hs : w.headD 0 ∈ SMALL := (List.mem_append.mp h1).resolve_left hb
        refine ⟨?_, ?_, ?_⟩
        · simp only [isBig, named, hb, w_big.1.symm, decide_true, decide_false, Bool.and_true, Bool.true_and, Bool.and_self, Bool.and_false, Bool.false_and, Bool.not_true, Bool.not_false, eq_self]
        · simp only [isSmall, named, hl, h2, hs, h3, hk, decide_true, decide_false, Bool.and_true, Bool.true_and, Bool.and_self, Bool.and_false, Bool.false_and, Bool.not_true, Bool.not_false, eq_self]
        · rw [hnum, decide_eq_false w_big.2.2]
    · rw [if_neg hn]
      have hB : isBig w = false := by
        rw [Bool.eq_false_iff]
        intro q
        simp only [isBig, named, Bool.and_eq_true, decide_eq_true_eq] at q
        exact hn ⟨⟨List.mem_append.mpr (.inl q.1.2), q.1.1.2⟩, (filter_all (p := fun c => decide (c ∈ LATER))).mpr q.2⟩
      have hS : isSmall w = false := by
        rw [Bool.eq_false_iff]
        intro q
        simp only [isSmall, named, Bool.and_eq_true, decide_eq_true_eq] at q
        exact hn ⟨⟨List.mem_append.mpr (.inr q.1.1.2), q.1.1.1.2⟩, (filter_all (p := fun c => decide (c ∈ LATER))).mpr q.1.2⟩
      have en : isNum w = true ↔ (((if w.headD 0 = 45 then w.drop 1 else w) ≠ [] ∧ (if w.headD 0 = 45 then w.drop 1 else w).length ≤ 400 ∧ (if w.headD 0 = 45 then w.drop 1 else w).filter (fun c => !decide (c ∈ DIG)) = []) ∧ (w = [48] ∨ (if w.headD 0 = 45 then w.drop 1 else w).headD 0 ≠ 48)) := by
        unfold isNum
        rw [digs_eq h]
        generalize (if w.headD 0 = 45 then w.drop 1 else w) = d
        rw [filter_all (p := fun c => decide (c ∈ DIG))]
        simp only [Bool.and_eq_true, Bool.or_eq_true, decide_eq_true_eq, Bool.not_eq_true', decide_eq_false_iff_not]
        constructor
        · rintro ⟨⟨⟨q1, q2⟩, q3⟩, q4⟩
          exact ⟨⟨List.length_pos_iff.mp q1, q2, q3⟩, q4.symm⟩
        · rintro ⟨⟨q1, q2, q3⟩, q4⟩
          exact ⟨⟨⟨List.length_pos_iff.mpr q1, q2⟩, q3⟩, q4.symm⟩
      rw [hB, hS]
      by_cases hd : isNum w = true
      · rw [if_pos (en.mp hd), hd, decide_eq_false w_big.2.1.symm, decide_eq_false w_big.2.2.symm]
        simp
      · have hd' : isNum w = false := by simpa using hd
        rw [if_neg (fun q => hd (en.mpr q)), hd', decide_eq_false (word_ne w).1, decide_eq_false (word_ne w).2.1, decide_eq_false (word_ne w).2.2]
        simp
/-! words of a line -/
abbrev F := List (List Nat × Nat)
def fl (k : Nat) (s : F × List Nat) : F := if s.2 = [] then s.1 else s.1 ++ [(s.2, k + 1 - s.2.length)]
def stp (k c : Nat) (s : F × List Nat) : F × List Nat :=
  if c = 40 ∨ c = 41 then (fl k s ++ [([c], k + 1)], []) else if c = 32 then (fl k s, []) else (s.1, s.2 ++ [c])
def wl : List Nat → Nat → F × List Nat → F
  | [], k, s => fl k s
  | c :: r, k, s => if c = 59 then fl k s else wl r (k + 1) (stp k c s)
def words (z : List Nat) : F := wl z 0 ([], [])
theorem wl_drop {z : List Nat} {i c : Nat} {s : F × List Nat} (h : z[i]? = some c) : wl (z.drop i) i s = if c = 59 then fl i s else wl (z.drop (i + 1)) (i + 1) (stp i c s) := by
  have hi : i < z.length := (List.getElem?_eq_some_iff.mp h).1
  have e : z.drop i = c :: z.drop (i + 1) := by
    rw [List.drop_eq_getElem_cons hi]
    congr 1
    exact (List.getElem?_eq_some_iff.mp h).2
  rw [e]
  rfl
theorem wl_end {z : List Nat} {i : Nat} {s : F × List Nat} (h : z.length ≤ i) : wl (z.drop i) i s = fl i s := by
  rw [List.drop_eq_nil_of_le h]
  rfl
/-- a word as the program gives it out -/
def wd (p : List Nat × Nat) : PyData := .tuple [.str ⟨p.1.toArray⟩, .int (p.2 : Int)]
theorem noL_wd (f : F) : noLs (f.map wd) = true := by
  induction f with
  | nil => rfl
  | cons p f ih =>
    show (noL (wd p) && noLs (f.map wd)) = true
    rw [ih]
    rfl
end K3

/-! Whole numbers as texts: their digits, read back. -/
namespace K3
open PySem L2 Nm
/-- the digits of n as code points -/
def dg (n : Nat) : List Nat := (Nat.toDigits 10 n).map Char.toNat
theorem dc (d : Nat) (h : d < 10) : (Nat.digitChar d).toNat = 48 + d := by
  have : ∀ d : Nat, d < 10 → (Nat.digitChar d).toNat = 48 + d := by decide
  exact this d h
theorem dg_lt {n : Nat} (h : n < 10) : dg n = [48 + n] := by
  unfold dg
  rw [Nat.toDigits_of_lt_base h, List.map_cons, List.map_nil, dc n h]
theorem dg_step {n : Nat} (h : 10 ≤ n) : dg n = dg (n / 10) ++ [48 + n % 10] := by
  unfold dg
  have e := Nat.toDigits_append_toDigits (b := 10) (n := n / 10) (d := n % 10) (by decide) (by omega) (by omega)
  rw [show 10 * (n / 10) + n % 10 = n by omega] at e
  rw [← e, List.map_append, Nat.toDigits_of_lt_base (show n % 10 < 10 by omega), List.map_cons, List.map_nil, dc _ (by omega)]
theorem dg_all : ∀ n : Nat, ∀ c ∈ dg n, 48 ≤ c ∧ c ≤ 57 := fun n => by
  induction n using Nat.strongRecOn with
  | ind n ih =>
    intro c hc
    by_cases h : n < 10
    · rw [dg_lt h, List.mem_singleton] at hc
      omega
    · rw [dg_step (by omega)] at hc
      rcases List.mem_append.mp hc with q | q
      · exact ih (n / 10) (by omega) c q
      · rw [List.mem_singleton] at q
        omega
theorem dg_ne (n : Nat) : dg n ≠ [] := by
  by_cases h : n < 10
  · rw [dg_lt h]; simp
  · rw [dg_step (by omega)]; simp
theorem dg_val : ∀ n : Nat, NumText.digitsVal (dg n) = n := fun n => by
  induction n using Nat.strongRecOn with
  | ind n ih =>
    by_cases h : n < 10
    · rw [dg_lt h]
      show 0 * 10 + (48 + n - 48) = n
      omega
    · rw [dg_step (by omega), NumText.digitsVal_snoc, ih (n / 10) (by omega)]
      omega
theorem dg_head : ∀ n : Nat, 0 < n → 49 ≤ (dg n).headD 0 := fun n => by
  induction n using Nat.strongRecOn with
  | ind n ih =>
    intro hp
    by_cases h : n < 10
    · rw [dg_lt h]
      show 49 ≤ 48 + n
      omega
    · have := ih (n / 10) (by omega) (by omega)
      rw [dg_step (by omega)]
      cases e : dg (n / 10) with
      | nil => exact absurd e (dg_ne _)
      | cons a r => rw [e] at this; exact this
theorem dg_len : ∀ (k n : Nat), n < 10 ^ (k + 1) → (dg n).length ≤ k + 1
  | 0, n, h => by rw [dg_lt (by simpa using h)]; simp
  | k + 1, n, h => by
    by_cases h2 : n < 10
    · rw [dg_lt h2]; simp
    · rw [dg_step (by omega), List.length_append, List.length_singleton]
      have := dg_len k (n / 10) (by rw [Nat.pow_succ] at h; omega)
      omega
/-- a whole number as a text -/
def ni (i : Int) : List Nat := if i < 0 then 45 :: dg i.natAbs else dg i.natAbs
theorem tl_ofString (s : String) : tl (Str.ofString s) = s.toList.map Char.toNat := by
  rw [Str.ofString_eq_toList]
theorem tl_toString (i : Int) : tl (toString i : String) = ni i := by
  rw [tl_ofString]
  unfold ni dg
  cases i with
  | ofNat n =>
    rw [if_neg (by simp)]
    show List.map Char.toNat (toString n : String).toList = _
    rw [Nat.toString_eq_repr] <;> simp [Nat.repr]
  | negSucc n =>
    rw [if_pos (Int.negSucc_lt_zero n)]
    show List.map Char.toNat ("-" ++ toString (n + 1) : String).toList = _
    simp [Nat.repr, Int.natAbs]
theorem digits_of {w : List Nat} : (w.all fun c => decide (c ∈ DIG)) = true ↔ ∀ c ∈ w, 48 ≤ c ∧ c ≤ 57 := by
  have e : DIG = [48, 49, 50, 51, 52, 53, 54, 55, 56, 57] := by decide +kernel
  rw [List.all_eq_true, e]
  constructor
  · intro h c hc
    have := of_decide_eq_true (h c hc)
    simp at this
    omega
  · intro h c hc
    have := h c hc
    refine decide_eq_true ?_
    simp
    omega
theorem dg_digs (n : Nat) : digs (dg n) = dg n := by
  unfold digs
  rw [if_neg]
  cases e : dg n with
  | nil => simp
  | cons a r =>
    have := dg_all n a (by rw [e]; simp)
    intro h
    have h : [a] = [45] := h
    injection h with h
    omega
theorem num_ni {i : Int} (h : i.natAbs < 10 ^ 400) : isNum (ni i) = true := by
  have hl : (dg i.natAbs).length ≤ 400 := dg_len 399 _ h
  have hn := dg_ne i.natAbs
  have h1 : 1 ≤ (dg i.natAbs).length := List.length_pos_iff.mpr hn
  have ha := digits_of.mpr (dg_all i.natAbs)
  have hd : digs (ni i) = dg i.natAbs := by
    unfold ni
    split
    · rfl
    · exact dg_digs _
  unfold isNum
  rw [hd, decide_eq_true h1, decide_eq_true hl, ha]
  simp only [Bool.true_and, Bool.or_eq_true, Bool.not_eq_true', decide_eq_false_iff_not, decide_eq_true_eq]
  by_cases h0 : i.natAbs = 0
  · right
    have : i = 0 := by omega
    subst this
    rfl
  · left
    have := dg_head i.natAbs (by omega)
    omega
theorem int_ni {i : Int} (h : i.natAbs < 10 ^ 400) : intText? ⟨(ni i).toArray⟩ = some i := by
  have hl : (dg i.natAbs).length ≤ 400 := dg_len 399 _ h
  by_cases hi : i < 0
  · have e : ni i = 45 :: dg i.natAbs := if_pos hi
    rw [PySem.intText_neg (cs := dg i.natAbs) (by rw [e]) (fun c hc => dg_all _ c hc) (dg_ne _) (by rw [str_len, tl_mk, e, List.length_cons]; omega), dg_val]
    congr 1
    omega
  · have e : ni i = dg i.natAbs := if_neg hi
    rw [PySem.intText_digits (by rw [e]; exact fun c hc => dg_all _ c hc) (by rw [e]; exact dg_ne _) (by rw [str_len, tl_mk, e]; omega), e]
    show some ((NumText.digitsVal (dg i.natAbs) : Nat) : Int) = some i
    rw [dg_val]
    congr 1
    omega
/-- what is a number by its signs is read -/
theorem num_int {w : List Nat} (h : isNum w = true) : ∃ i, intText? ⟨w.toArray⟩ = some i := by
  have h0 := h
  unfold isNum at h
  simp only [Bool.and_eq_true, decide_eq_true_eq] at h
  obtain ⟨⟨⟨h1, h2⟩, h3⟩, _⟩ := h
  have hd := digits_of.mp h3
  by_cases e : w.take 1 = [45]
  · have ed : digs w = w.drop 1 := if_pos e
    have ew : w = 45 :: w.drop 1 := by
      cases w with
      | nil => cases e
      | cons a r =>
        have e : [a] = [45] := e
        injection e with e
        rw [e]
        rfl
    rw [ed] at h1 h2 hd
    have lw : w.length = (w.drop 1).length + 1 := by conv => lhs; rw [ew]
                                                     rfl
    exact ⟨_, PySem.intText_neg (cs := w.drop 1) ew hd (List.length_pos_iff.mp h1) (by rw [str_len, tl_mk]; omega)⟩
  · have ed : digs w = w := if_neg e
    rw [ed] at h1 h2 hd
    exact ⟨_, PySem.intText_digits hd (List.length_pos_iff.mp h1) (by rw [str_len, tl_mk]; omega)⟩
end K3

namespace K04
open PySem PySem.Spec PyProof.Rows L2 Nm
def top (i : Nat) : Stmt := PySem.Challenge.pw_namedmeets_k04_texts_of_values_refused.main.body.getD i (.Pass ⟨0, 0, 0, 0⟩)
abbrev snamed : Stmt := top 8
theorem scnamed : FnScope ["word", "first", "sign"] ["word", "first"] (defScope snamed) := ⟨rfl, rfl, rfl, by decide +kernel, rfl, by decide +kernel, by decide +kernel⟩
abbrev sbig : Stmt := top 9
theorem scbig : FnScope ["word"] ["word"] (defScope sbig) := ⟨rfl, rfl, rfl, by decide +kernel, rfl, by decide +kernel, by decide +kernel⟩
abbrev snumber : Stmt := top 10
theorem scnumber : FnScope ["word", "digits", "sign"] ["word"] (defScope snumber) := ⟨rfl, rfl, rfl, by decide +kernel, rfl, by decide +kernel, by decide +kernel⟩
abbrev swords : Stmt := top 11
theorem scwords : FnScope ["line", "found", "start", "at", "sign"] ["line"] (defScope swords) := ⟨rfl, rfl, rfl, by decide +kernel, rfl, by decide +kernel, by decide +kernel⟩
abbrev swinit : Stmt := Nm.inClass (top 12) 0
theorem scwinit : FnScope ["self", "line_text", "line"] ["self", "line_text", "line"] (defScope swinit) := ⟨rfl, rfl, rfl, by decide +kernel, rfl, by decide +kernel, by decide +kernel⟩
abbrev snext : Stmt := Nm.inClass (top 12) 1
theorem scnext : FnScope ["self"] ["self"] (defScope snext) := ⟨rfl, rfl, rfl, by decide +kernel, rfl, by decide +kernel, by decide +kernel⟩
abbrev srefuse : Stmt := Nm.inClass (top 12) 2
theorem screfuse : FnScope ["self", "word", "column"] ["self"] (defScope srefuse) := ⟨rfl, rfl, rfl, by decide +kernel, rfl, by decide +kernel, by decide +kernel⟩
abbrev staken : Stmt := Nm.inClass (top 12) 3
theorem sctaken : FnScope ["self", "is_right", "word"] ["self", "is_right"] (defScope staken) := ⟨rfl, rfl, rfl, by decide +kernel, rfl, by decide +kernel, by decide +kernel⟩
abbrev sneed : Stmt := Nm.inClass (top 12) 4
theorem scneed : FnScope ["self", "told"] ["self", "told"] (defScope sneed) := ⟨rfl, rfl, rfl, by decide +kernel, rfl, by decide +kernel, by decide +kernel⟩
abbrev snend : Stmt := Nm.inClass (top 12) 5
theorem scnend : FnScope ["self"] ["self"] (defScope snend) := ⟨rfl, rfl, rfl, by decide +kernel, rfl, by decide +kernel, by decide +kernel⟩
abbrev sinit : Stmt := Nm.inClass (top 14) 0
theorem scinit : FnScope ["self", "maker", "parts"] ["self", "maker", "parts"] (defScope sinit) := ⟨rfl, rfl, rfl, by decide +kernel, rfl, by decide +kernel, by decide +kernel⟩
abbrev seq : Stmt := Nm.inClass (top 14) 1
theorem sceq : FnScope ["self", "other", "pairs", "one", "two", "a", "b"] ["self", "other"] (defScope seq) := ⟨rfl, rfl, rfl, by decide +kernel, rfl, by decide +kernel, by decide +kernel⟩
abbrev sbegun : Stmt := top 15
theorem scbegun : FnScope ["walk", "frames", "is_inner", "word"] ["walk", "frames"] (defScope sbegun) := ⟨rfl, rfl, rfl, by decide +kernel, rfl, by decide +kernel, by decide +kernel⟩
abbrev svfrom : Stmt := top 16
theorem scvfrom : FnScope ["text", "walk", "frames", "done", "maker", "parts", "is_inner"] ["text"] (defScope svfrom) := ⟨rfl, rfl, rfl, by decide +kernel, rfl, by decide +kernel, by decide +kernel⟩
abbrev spen : Stmt := top 18
theorem scpen : FnScope ["_law_script", "_law_fold", "_law_cell"] ["_law_script"] (defScope spen) := ⟨rfl, rfl, rfl, by decide +kernel, rfl, by decide +kernel, by decide +kernel⟩
abbrev sdraw : Stmt := top 19
theorem scdraw : FnScope ["_law_pen_here", "_law_many", "_law_cell", "_law_digit", "_law_mixed"] ["_law_pen_here", "_law_many"] (defScope sdraw) := ⟨rfl, rfl, rfl, by decide +kernel, rfl, by decide +kernel, by decide +kernel⟩
abbrev spick : Stmt := top 20
theorem scpick : FnScope ["_law_pen_here", "_law_some"] ["_law_pen_here", "_law_some"] (defScope spick) := ⟨rfl, rfl, rfl, by decide +kernel, rfl, by decide +kernel, by decide +kernel⟩
abbrev svtext : Stmt := top 21
theorem scvtext : FnScope ["_law_value", "_law_is_outer", "_law_text", "_law_part"] ["_law_value", "_law_is_outer"] (defScope svtext) := ⟨rfl, rfl, rfl, by decide +kernel, rfl, by decide +kernel, by decide +kernel⟩
abbrev sown : Stmt := top 22
theorem scown : FnScope ["_law_value", "_law_part"] ["_law_value"] (defScope sown) := ⟨rfl, rfl, rfl, by decide +kernel, rfl, by decide +kernel, by decide +kernel⟩
abbrev smakers : Stmt := top 23
theorem scmakers : FnScope ["_law_kinds", "_law_kind"] ["_law_kinds", "_law_kind"] (defScope smakers) := ⟨rfl, rfl, rfl, by decide +kernel, rfl, by decide +kernel, by decide +kernel⟩
abbrev ssval : Stmt := top 24
theorem scsval : FnScope ["_law_pen_here", "_law_kinds", "_law_kind", "_law_depth", "_law_makers_here", "_law_flat", "_law_deep", "_law_maker", "_law_part"] ["_law_pen_here", "_law_kinds", "_law_kind", "_law_depth"] (defScope ssval) := ⟨rfl, rfl, rfl, by decide +kernel, rfl, by decide +kernel, by decide +kernel⟩
abbrev ssigns : Stmt := top 25
theorem scsigns : FnScope ["_law_big", "_law_small"] [] (defScope ssigns) := ⟨rfl, rfl, rfl, by decide +kernel, rfl, by decide +kernel, by decide +kernel⟩
abbrev slwords : Stmt := top 26
theorem sclwords : FnScope ["_law_line", "_law_found", "_law_word", "_law_k", "_law_sign"] ["_law_line"] (defScope slwords) := ⟨rfl, rfl, rfl, by decide +kernel, rfl, by decide +kernel, by decide +kernel⟩
abbrev skind : Stmt := top 27
theorem sckind : FnScope ["_law_word", "_law_signs_here", "_law_digits", "_law_sign"] ["_law_word"] (defScope skind) := ⟨rfl, rfl, rfl, by decide +kernel, rfl, by decide +kernel, by decide +kernel⟩
abbrev sseen : Stmt := top 28
theorem scseen : FnScope ["_law_state"] ["_law_state"] (defScope sseen) := ⟨rfl, rfl, rfl, by decide +kernel, rfl, by decide +kernel, by decide +kernel⟩
abbrev stake : Stmt := top 29
theorem sctake : FnScope ["_law_state", "_law_kinds"] ["_law_state", "_law_kinds"] (defScope stake) := ⟨rfl, rfl, rfl, by decide +kernel, rfl, by decide +kernel, by decide +kernel⟩
abbrev scolumn : Stmt := top 30
theorem sccolumn : FnScope ["_law_state"] ["_law_state"] (defScope scolumn) := ⟨rfl, rfl, rfl, by decide +kernel, rfl, by decide +kernel, by decide +kernel⟩
abbrev sread : Stmt := top 31
theorem scread : FnScope ["_law_state", "_law_is_atom", "_law_is_inner", "_law_at", "_law_parts", "_law_lap", "_law_part"] ["_law_state", "_law_is_atom"] (defScope sread) := ⟨rfl, rfl, rfl, by decide +kernel, rfl, by decide +kernel, by decide +kernel⟩
abbrev sdue : Stmt := top 32
theorem scdue : FnScope ["_law_text", "_law_state", "_law_found"] ["_law_text"] (defScope sdue) := ⟨rfl, rfl, rfl, by decide +kernel, rfl, by decide +kernel, by decide +kernel⟩
abbrev stold : Stmt := top 33
theorem sctold : FnScope ["_law_text", "e"] ["_law_text"] (defScope stold) := ⟨rfl, rfl, rfl, by decide +kernel, rfl, by decide +kernel, by decide +kernel⟩
abbrev sspoilt : Stmt := top 34
theorem scspoilt : FnScope ["_law_pen_here", "_law_words_here", "_law_at", "_law_odd", "_law_way"] ["_law_pen_here", "_law_words_here"] (defScope sspoilt) := ⟨rfl, rfl, rfl, by decide +kernel, rfl, by decide +kernel, by decide +kernel⟩
abbrev slaw : Stmt := top 35
theorem sclaw : FnScope ["_law_script", "_law_pen_here", "_law_kinds", "_law_lap", "_law_own_here", "_law_words_here", "_law_step", "_law_text", "_law_odd", "e", "_law_word", "_law_column_here"] ["_law_script"] (defScope slaw) := ⟨rfl, rfl, rfl, by decide +kernel, rfl, by decide +kernel, by decide +kernel⟩
/-- what the top has written -/
structure Tx (P : Program) (K : PySem.W.Frag) (mg : Str → Option Value) where
  anamed : Addr
  fdnamed : FuncData
  Dnamed : Nm.Df K mg "is_named" snamed ["word", "first"] anamed fdnamed
  abig : Addr
  fdbig : FuncData
  Dbig : Nm.Df K mg "is_big" sbig ["word"] abig fdbig
  anumber : Addr
  fdnumber : FuncData
  Dnumber : Nm.Df K mg "is_number" snumber ["word"] anumber fdnumber
  awords : Addr
  fdwords : FuncData
  Dwords : Nm.Df K mg "words_of" swords ["line"] awords fdwords
  awinit : Addr
  fdwinit : FuncData
  Dwinit : Nm.Dm K "__init__" "LineWalk.__init__" swinit ["self", "line_text", "line"] awinit fdwinit
  anext : Addr
  fdnext : FuncData
  Dnext : Nm.Dm K "next_seen" "LineWalk.next_seen" snext ["self"] anext fdnext
  arefuse : Addr
  fdrefuse : FuncData
  Drefuse : Nm.Dm K "refuse" "LineWalk.refuse" srefuse ["self"] arefuse fdrefuse
  ataken : Addr
  fdtaken : FuncData
  Dtaken : Nm.Dm K "taken" "LineWalk.taken" staken ["self", "is_right"] ataken fdtaken
  aneed : Addr
  fdneed : FuncData
  Dneed : Nm.Dm K "need" "LineWalk.need" sneed ["self", "told"] aneed fdneed
  anend : Addr
  fdnend : FuncData
  Dnend : Nm.Dm K "need_end" "LineWalk.need_end" snend ["self"] anend fdnend
  ainit : Addr
  fdinit : FuncData
  Dinit : Nm.Dm K "__init__" "Made.__init__" sinit ["self", "maker", "parts"] ainit fdinit
  aeq : Addr
  fdeq : FuncData
  Deq : Nm.Dm K "__eq__" "Made.__eq__" seq ["self", "other"] aeq fdeq
  abegun : Addr
  fdbegun : FuncData
  Dbegun : Nm.Df K mg "begun" sbegun ["walk", "frames"] abegun fdbegun
  avfrom : Addr
  fdvfrom : FuncData
  Dvfrom : Nm.Df K mg "value_from" svfrom ["text"] avfrom fdvfrom
  apen : Addr
  fdpen : FuncData
  Dpen : Nm.Df K mg "_law_pen" spen ["_law_script"] apen fdpen
  adraw : Addr
  fddraw : FuncData
  Ddraw : Nm.Df K mg "_law_draw" sdraw ["_law_pen_here", "_law_many"] adraw fddraw
  apick : Addr
  fdpick : FuncData
  Dpick : Nm.Df K mg "_law_pick" spick ["_law_pen_here", "_law_some"] apick fdpick
  avtext : Addr
  fdvtext : FuncData
  Dvtext : Nm.Df K mg "_law_value_text" svtext ["_law_value", "_law_is_outer"] avtext fdvtext
  aown : Addr
  fdown : FuncData
  Down : Nm.Df K mg "_law_own" sown ["_law_value"] aown fdown
  amakers : Addr
  fdmakers : FuncData
  Dmakers : Nm.Df K mg "_law_makers" smakers ["_law_kinds", "_law_kind"] amakers fdmakers
  asval : Addr
  fdsval : FuncData
  Dsval : Nm.Df K mg "_law_some_value" ssval ["_law_pen_here", "_law_kinds", "_law_kind", "_law_depth"] asval fdsval
  asigns : Addr
  fdsigns : FuncData
  Dsigns : Nm.Df K mg "_law_signs" ssigns [] asigns fdsigns
  alwords : Addr
  fdlwords : FuncData
  Dlwords : Nm.Df K mg "_law_words" slwords ["_law_line"] alwords fdlwords
  akind : Addr
  fdkind : FuncData
  Dkind : Nm.Df K mg "_law_word_kind" skind ["_law_word"] akind fdkind
  aseen : Addr
  fdseen : FuncData
  Dseen : Nm.Df K mg "_law_seen" sseen ["_law_state"] aseen fdseen
  atake : Addr
  fdtake : FuncData
  Dtake : Nm.Df K mg "_law_take" stake ["_law_state", "_law_kinds"] atake fdtake
  acolumn : Addr
  fdcolumn : FuncData
  Dcolumn : Nm.Df K mg "_law_column" scolumn ["_law_state"] acolumn fdcolumn
  aread : Addr
  fdread : FuncData
  Dread : Nm.Df K mg "_law_read" sread ["_law_state", "_law_is_atom"] aread fdread
  adue : Addr
  fddue : FuncData
  Ddue : Nm.Df K mg "_law_due" sdue ["_law_text"] adue fddue
  atold : Addr
  fdtold : FuncData
  Dtold : Nm.Df K mg "_law_told" stold ["_law_text"] atold fdtold
  aspoilt : Addr
  fdspoilt : FuncData
  Dspoilt : Nm.Df K mg "_law_spoilt" sspoilt ["_law_pen_here", "_law_words_here"] aspoilt fdspoilt
  alaw : Addr
  fdlaw : FuncData
  Dlaw : Nm.Df K mg "law" slaw ["_law_script"] alaw fdlaw
  n_len : mg "len" = none
  n_all : mg "all" = none
  n_enumerate : mg "enumerate" = none
  n_list : mg "list" = none
  n_int : mg "int" = none
  n_str : mg "str" = none
  n_range : mg "range" = none
  n_isinstance : mg "isinstance" = none
  n_tuple : mg "tuple" = none
  n_zip : mg "zip" = none
  n_super : mg "super" = none
  t_BIG_LETTERS : Tok
  g_BIG_LETTERS : mg "BIG_LETTERS" = some (.str "ABCDEFGHIJKLMNOPQRSTUVWXYZ" t_BIG_LETTERS)
  t_SMALL_LETTERS : Tok
  g_SMALL_LETTERS : mg "SMALL_LETTERS" = some (.str "abcdefghijklmnopqrstuvwxyz" t_SMALL_LETTERS)
  t_DIGITS : Tok
  g_DIGITS : mg "DIGITS" = some (.str "0123456789" t_DIGITS)
  t_LATER : Tok
  g_LATER : mg "LATER" = some (.str "ABCDEFGHIJKLMNOPQRSTUVWXYZabcdefghijklmnopqrstuvwxyz0123456789_" t_LATER)
  CBadText : Addr
  EBadText : NmE.Err P K mg "BadText" CBadText ["line", "column"]
  x_BadText_BadText : PySem.W.exmOne K (.ref CBadText) (.ref CBadText) = some true
  CM : Addr
  g_Made : mg "Made" = some (.ref CM)
  M_Made : L2.Mk K CM ainit
  MM : Nm.MadeC K CM aeq
  CW : Addr
  g_LineWalk : mg "LineWalk" = some (.ref CW)
  M_LineWalk : L2.Mk K CW awinit
  cW : L2.Cls K CW
  nW_found : L2.NoAttr K CW "found"
  nW_line : L2.NoAttr K CW "line"
  nW_at : L2.NoAttr K CW "at"
  mW_next : L2.Meth K CW "next_seen" anext
  mW_refuse : L2.Meth K CW "refuse" arefuse
  mW_taken : L2.Meth K CW "taken" ataken
  mW_need : L2.Meth K CW "need" aneed
  mW_nend : L2.Meth K CW "need_end" anend
  cneed : Addr
  Pneed : Addr
  hcneed : fdneed.code = .ref cneed
  cbegun : Addr
  Pbegun : Addr
  hcbegun : fdbegun.code = .ref cbegun
  hP1 : Pneed ≠ Pbegun
end K04

open PySem PySem.Spec PyProof.Rows L2 Nm
local macro_rules | `(tactic| walk_at "z0") => `(tactic| (simp only [L2.start, cxOf, Cx.nox, Cx.wish, List.map_cons, List.map_nil, List.length_cons, List.length_nil, List.replicate_succ, List.replicate_zero, List.cons_append, List.nil_append, Nat.reduceAdd, Nat.reduceSub]))
local macro_rules | `(tactic| walk_at "zc") => `(tactic| first | assumption | omega | decide | (refine line_ge ?_; omega) | (unfold CMul; omega) | (unfold CDivW; refine ⟨?_, ?_⟩ <;> first | omega | assumption | decide))
local macro_rules | `(tactic| walk_at "hp") => `(tactic| first | assumption | (refine same_at (by assumption) ?_; walk_at "hp"))
local macro_rules | `(tactic| walk_at "hl") => `(tactic| first | assumption | (refine SqL.of ?_; walk_at "hp") | (refine same_sq (by assumption) ?_; walk_at "hl"))
local macro_rules | `(tactic| walk_at "ht") => `(tactic| first | assumption | (refine SqT.of ?_; walk_at "hp") | (refine same_st (by assumption) ?_; walk_at "ht"))
local macro_rules | `(tactic| walk_at "z1") => `(tactic| first
  | ((with_reducible refine' z_var ?zk ?_); (case zk => exact rfl))
  | with_reducible refine z_c ?_
  | with_reducible refine z_op ?_
  | with_reducible refine z_cons ?_
  | with_reducible refine z_nil ?_
  | with_reducible refine z_rI0 ?_
  | ((with_reducible refine z_rI ?zk ?_); (case zk => walk_at "zc"))
  | with_reducible refine z_rU ?_
  | with_reducible refine z_un ?_
  | with_reducible refine z_cb ?_
  | with_reducible refine z_call ?_
  | with_reducible refine z_dget ?_
  | ((with_reducible refine' z_get_cells ?zk ?_); (case zk => assumption))
  | ((with_reducible refine' z_get_at ?zk ?_); (case zk => assumption))
  | ((with_reducible refine' z_get_digits ?zk ?_); (case zk => assumption))
  | ((with_reducible refine' z_get_count ?zk ?_); (case zk => assumption))
  | ((with_reducible refine' z_get_fold ?zk ?_); (case zk => assumption))
  | with_reducible refine z_dput ?_
  | with_reducible refine z_test ?_
  | with_reducible refine z_tB ?_
  | with_reducible refine z_kT ?_
  | with_reducible refine z_eqI ?_
  | with_reducible refine z_neI ?_
  | with_reducible refine z_eqS ?_
  | with_reducible refine z_neS ?_
  | with_reducible refine z_inC ?_
  | with_reducible refine z_notInC ?_
  | with_reducible refine z_isN ?_
  | ((with_reducible refine z_lenS ?zk ?_); (case zk => walk_at "zc"))
  | ((with_reducible refine z_slS ?zk ?_); (case zk => walk_at "zc"))
  | ((with_reducible refine z_addS ?zk ?_); (case zk => walk_at "zc"))
  | ((with_reducible refine z_mulS ?za ?zb ?zc ?_); (case za => decide); (case zb => decide); (case zc => decide))
  | with_reducible refine z_bm ?_
  | with_reducible refine z_lc ?_
  | with_reducible refine z_tYes ?_
  | with_reducible refine z_notN ?_
  | with_reducible refine z_intI ?_
  | with_reducible refine z_intB ?_
  | with_reducible refine z_sl ?_
  | with_reducible refine z_noPart ?_
  | with_reducible refine z_part ?_
  | with_reducible refine z_kPart ?_
  | with_reducible refine z_tup ?_
  | with_reducible refine z_lst ?_
  | with_reducible refine z_chain ?_
  | with_reducible refine z_kCh ?_
  | with_reducible refine z_andT ?_
  | with_reducible refine z_orT ?_
  | with_reducible refine z_notT ?_
  | with_reducible refine z_andV ?_
  | with_reducible refine z_orV ?_
  | with_reducible refine z_notV ?_
  | with_reducible refine z_kAndV ?_
  | with_reducible refine z_kOrV ?_
  | with_reducible refine z_kNotV ?_
  | with_reducible refine z_ifE ?_
  | with_reducible refine z_seq ?_
  | with_reducible refine z_next ?_
  | with_reducible refine z_brk ?_
  | with_reducible refine z_cnt ?_
  | with_reducible refine z_ret ?_
  | with_reducible refine z_retN ?_
  | with_reducible refine z_ifS ?_
  | with_reducible refine z_drop ?_
  | with_reducible refine z_asg ?_
  | with_reducible refine z_gName ?_
  | with_reducible refine z_gCons ?_
  | with_reducible refine z_gNil ?_
  | with_reducible refine z_par ?_
  | with_reducible refine z_m1 ?_
  | with_reducible refine z_kM1 ?_
  | with_reducible refine z_par3 ?_
  | with_reducible refine z_kPar3 ?_
  | with_reducible refine z_isB ?_
  | with_reducible refine z_notB ?_
  | with_reducible refine z_raiseE ?_
  | with_reducible refine z_kPar ?_
  | with_reducible refine z_nx ?_
  | with_reducible refine z_rt ?_
  | with_reducible refine z_bk ?_
  | with_reducible refine z_ct ?_
  | with_reducible refine z_for ?_
  | with_reducible refine z_iList ?_
  | with_reducible refine z_iTup ?_
  | with_reducible refine z_iStr ?_
  | with_reducible refine z_kIS ?_
  | with_reducible refine z_iRng1 ?_
  | with_reducible refine z_iEnumS ?_
  | with_reducible refine z_iEnum ?_
  | with_reducible refine z_fld ?_
  | with_reducible refine z_callS ?_
  | with_reducible refine z_iZip ?_
  | with_reducible refine z_sfld ?_
  | with_reducible refine z_make ?_
  | with_reducible refine z_iEnumT ?_
  | with_reducible refine z_bm0 ?_
  | ((with_reducible refine' z_aug ?zk ?_); (case zk => exact rfl))
  | with_reducible refine z_ipI ?_
  | with_reducible refine z_revL ?_
  | with_reducible refine z_mkErr ?_
  | with_reducible refine z_exF ?_
  | with_reducible refine z_ifT ?_
  | ((with_reducible refine' z_callP ?zk ?_); (case zk => exact rfl))
  | with_reducible refine z_ofE ?_
  | with_reducible refine z_rtE ?_
  | with_reducible refine z_kIE ?_
  | with_reducible refine z_pcons ?_
  | with_reducible refine z_pnil ?_
  | with_reducible refine iteT ?_
  | with_reducible refine iteF ?_
  | with_reducible refine z_iteNT ?_
  | with_reducible refine z_iteNF ?_)
local macro_rules | `(tactic| walk_at "zz") => `(tactic| repeat walk_at "z1")
namespace K04
open PySem PySem.Spec PyProof.Rows L2 Nm
section
variable {P : Program} {w : World} {K : PySem.W.Frag} {mg : Str → Option Value} {base : Heap}
theorem ok_pen (T : Tx P K mg) : FnOk P w K mg base CX0 1 T.apen T.fdpen ["_law_script"] (spPen K) := by
  refine T.Dpen.F.ok scpen (fun vs H Q E h => ?_) (fun cdv A outer s H vs Q E hr h => ?_)
  · obtain ⟨a, ns, rfl, _⟩ := h
    rfl
  · obtain ⟨a, ns, rfl, hS, k⟩ := h
    have hu := hu_of hr
    refine ⟨_, pss_cons (ps_set (i := 1) scpen.nd rfl (Or.inl rfl) (pe_int))
(pss_cons (ps_for PassesOwn.never rfl (pi_list (pv 0)) (pg_name (i := 2) scpen.nd rfl (Or.inl rfl))
(pss_one (ps_set (i := 1) scpen.nd rfl (Or.inl rfl) (pe_op op_mod (pe_callTy call_int1n (by rfl) T.n_int (by decide +kernel) (pa_cons (pe_op op_add (pe_op op_mul (pv 1) (pe_int)) (pv 2)) pa_nil)) (pe_int)))))
(pss_one (ps_ret (pe_disp (pps_cons (pe_str) (pe_callTy call_listOf (by rfl) T.n_list (by decide +kernel) (pa_cons (pv 0) pa_nil)) (pps_cons (pe_str) (pe_int) (pps_cons (pe_str) (pe_int) (pps_cons (pe_str) (pe_int) (pps_cons (pe_str) (pv 1) (pps_nil)))))) (by rfl) (by rfl) (fun z => by cases z) (by decide))))), ?_⟩
    walk_at "z0"
    walk_at "zz"
    refine z_kIL hS (f_list (K := K) (a := a) (xs := ns.map V.int) (fun i σ' H' => ∃ (f : Int) (v : Option V), σ' = [some (.ref a), some (.int f), v] ∧ 0 ≤ f ∧ f < 1000000007 ∧ H' = H) ⟨0, none, rfl, by decide, by decide, rfl⟩ (fun i σ' H' ⟨_, _, _, _, _, e⟩ => e ▸ hS) ?_ ?_)
    · rintro i x σ' H' hx ⟨f, v, rfl, h0, h1, rfl⟩
      obtain ⟨z, rfl⟩ : ∃ z, x = V.int z := by
        rw [List.getElem?_map] at hx
        cases e : ns[i]? with
        | none => rw [e] at hx; cases hx
        | some z => rw [e] at hx; exact ⟨z, (Option.some.inj hx).symm⟩
      walk_at "zz"
      exact ⟨_, _, rfl, Int.emod_nonneg _ (by decide), Int.emod_lt_of_pos _ (by decide), rfl⟩
    · rintro σ' H' ⟨f, v, rfl, h0, h1, rfl⟩
      walk_at "zz"
      refine z_disp fun p H1 hp s1 h1 => ?_
      walk_at "zz"
      refine z_listOfL (s1.seq hS) fun l H2 hl s2 h2 => ?_
      walk_at "zz"
      refine z_kDisp (penKv l 0 0 0 f) rfl (s2 _ _ h1) (by show 5 ≤ 15; decide) fun H3 b3 h3 => ?_
      walk_at "zz"
      refine k p l H3 hp (b3.same (s1.trans s2) hp) ⟨0, 0, 0, f, ns, h3, ?_, by decide, by decide, by decide, by decide, h0, by omega⟩
      refine b3 _ _ ?_ h2
      exact fun e => by rw [e] at h2; rw [s2 _ _ h1] at h2; cases h2
theorem ok_draw (T : Tx P K mg) : FnOk P w K mg base CX0 1 T.adraw T.fddraw ["_law_pen_here", "_law_many"] (spDraw K) := by
  refine T.Ddraw.F.ok scdraw (fun vs H Q E h => ?_) (fun cdv A outer s H vs Q E hr h => ?_)
  · obtain ⟨d, c, m, many, rfl, _⟩ := h
    rfl
  · obtain ⟨d, c, m, many, rfl, ⟨a, g, n, f, ns, hd, hc, h0, h1, h2, h3, h4, h5⟩, hm, hl, k⟩ := h
    have hu := hu_of hr
    refine ⟨_, pss_cons (ps_dput hu (pv 0) (pe_str) (pe_op op_add (pe_dget hu (pv 0) (pe_str) (fun _ _ => rfl)) (pe_int)) rfl)
(pss_cut (ps_if (pt_cut (PW.pt (pw_and (pt_cmpR op_eq (pe_dget hu (pv 0) (pe_str) (fun _ _ => rfl)) (pe_int) (nomark _)) (pw_and1 (pt_cmpR op_lt (pe_dget hu (pv 0) (pe_str) (fun _ _ => rfl)) (pe_callB call_lenL (by rfl) T.n_len (by decide +kernel) (pa_cons (pe_dget hu (pv 0) (pe_str) (fun _ _ => rfl)) pa_nil)) (nomark _))))))
(pss_cons (ps_set (i := 2) scdraw.nd rfl (Or.inl rfl) (pe_ix ix_list (pe_dget hu (pv 0) (pe_str) (fun _ _ => rfl)) (pe_dget hu (pv 0) (pe_str) (fun _ _ => rfl)) (fun _ _ => rfl)))
(pss_cons (ps_dput hu (pv 0) (pe_str) (pe_op op_add (pe_dget hu (pv 0) (pe_str) (fun _ _ => rfl)) (pe_int)) rfl)
(pss_one (ps_if (pt_cmpR op_ge (pv 2) (pe_op op_pow (pe_int) (pe_int)) (nomark _))
(pss_one (ps_dput hu (pv 0) (pe_str) (pe_op op_sub (pv 2) (pe_op op_pow (pe_int) (pe_int))) rfl))
(pss_one (ps_dput hu (pv 0) (pe_str) (pe_op op_mod (pe_callTy call_int1n (by rfl) T.n_int (by decide +kernel) (pa_cons (pe_op op_add (pe_op op_mul (pe_dget hu (pv 0) (pe_str) (fun _ _ => rfl)) (pe_int)) (pv 2)) pa_nil)) (pe_int)) rfl))))))
(pss_nil))
(pss_cons (ps_if (pt_cmpR op_gt (pe_dget hu (pv 0) (pe_str) (fun _ _ => rfl)) (pe_int) (nomark _))
(pss_cons (ps_set (i := 3) scdraw.nd rfl (Or.inl rfl) (pe_op op_mod (pe_callTy call_int1n (by rfl) T.n_int (by decide +kernel) (pa_cons (pe_dget hu (pv 0) (pe_str) (fun _ _ => rfl)) pa_nil)) (pv 1)))
(pss_cons (ps_dput hu (pv 0) (pe_str) (pe_op op_fdivW (pe_dget hu (pv 0) (pe_str) (fun _ _ => rfl)) (pv 1)) rfl)
(pss_one (ps_ret (pv 3)))))
(pss_nil))
(pss_cons (ps_set (i := 4) scdraw.nd rfl (Or.inl rfl) (pe_op op_add (pe_op op_add (pe_dget hu (pv 0) (pe_str) (fun _ _ => rfl)) (pe_op op_mul (pe_dget hu (pv 0) (pe_str) (fun _ _ => rfl)) (pe_int))) (pe_int)))
(pss_one (ps_ret (pe_op op_mod (pe_op op_fdivW (pe_callTy call_int1n (by rfl) T.n_int (by decide +kernel) (pa_cons (pe_op op_mod (pe_op op_pow (pv 4) (pe_int)) (pe_int)) pa_nil)) (pe_int)) (pv 1))))))), ?_⟩
    walk_at "z0"
    walk_at "zz"
    refine z_put_count hd fun H1 b1 d1 => ?_
    have c1 : H1 c = some (.lst (ns.map V.int)) := (b1.keep hd) _ _ hc rfl
    refine z_cut (fun σ' H' => ∃ (v : Option V) (a g f : Int), σ' = [some (V.ref d), some (V.int many), v, none, none] ∧ But d H H' ∧ H' d = some (.dK (penKv c a g (n + 1) f)) ∧ H' c = some (.lst (ns.map V.int)) ∧ 0 ≤ a ∧ 0 ≤ g ∧ 0 ≤ f ∧ f < 2147483587) ?_ ?_
    · walk_at "zz"
      refine z_cutT (fun b H' => H' = H1 ∧ (b = true → g = 0 ∧ a < ns.length)) ?_ ?_
      · walk_at "zz"
        refine z_ite (fun eg => ?_) (fun _ => ?_)
        · walk_at "zz"
          refine z_lenL (SqL.of c1) ?_
          walk_at "zz"
          refine ⟨rfl, fun q => ⟨of_decide_eq_true eg, ?_⟩⟩
          have := of_decide_eq_true q
          rw [List.length_map] at this
          omega
        · walk_at "zz"
          exact ⟨rfl, fun q => by cases q⟩
      rintro b H' ⟨rfl, hb⟩
      refine z_ite (fun eg => ?_) (fun _ => ?_)
      · obtain ⟨eg, ea'⟩ := hb eg
        refine z_seq ?_
        · walk_at "zz"
          have hx : (ns.map V.int)[a.toNat]? = some (.int (ns.getD a.toNat 0)) := by
            rw [List.getElem?_map, List.getD_eq_getElem?_getD, List.getElem?_eq_getElem (by omega)]
            rfl
          refine z_ixL (SqL.of c1) (at_of (by omega) hx) ?_
          walk_at "zz"
          refine z_put_at d1 fun H2 b2 d2 => ?_
          have c2 : H2 c = some (.lst (ns.map V.int)) := (b2.keep d1) _ _ c1 rfl
          walk_at "zz"
          refine z_rI ⟨by decide, by decide, by decide⟩ ?_
          walk_at "zz"
          refine z_ite (fun ez => ?_) (fun _ => ?_)
          · walk_at "zz"
            refine z_rI ⟨by decide, by decide, by decide⟩ ?_
            walk_at "zz"
            refine z_put_digits d2 fun H3 b3 d3 => ?_
            walk_at "zz"
            exact ⟨_, _, _, _, rfl, (b1.trans b2).trans b3, d3, (b3.keep d2) _ _ c2 rfl, by omega, Int.sub_nonneg_of_le (of_decide_eq_true ez), h4, h5⟩
          · walk_at "zz"
            refine z_put_fold d2 fun H3 b3 d3 => ?_
            walk_at "zz"
            exact ⟨_, _, _, _, rfl, (b1.trans b2).trans b3, d3, (b3.keep d2) _ _ c2 rfl, by omega, h1, Int.emod_nonneg _ (by decide), Int.emod_lt_of_pos _ (by decide)⟩
      · walk_at "zz"
        exact ⟨_, _, _, _, rfl, b1, d1, c1, h0, h1, h4, h5⟩
    · rintro σ' H2 ⟨v, a, g, f, rfl, b2, d2, c2, h0, h1, h4, h5⟩
      walk_at "zz"
      refine z_ite (fun eg => ?_) (fun _ => ?_)
      · walk_at "zz"
        refine z_put_digits d2 fun H3 b3 d3 => ?_
        walk_at "zz"
        exact k _ H3 (Int.emod_nonneg _ (by omega)) (Int.emod_lt_of_pos _ hm) (b2.trans b3) (pen_new d3 ((b3.keep d2) _ _ c2 rfl) rfl ⟨h0, Int.ediv_nonneg h1 (by omega), by omega, by omega, h4, h5⟩)
      · walk_at "zz"
        refine z_rI ?_ ?_
        · exact ⟨by decide, by decide, by omega⟩
        walk_at "zz"
        exact k _ H2 (Int.emod_nonneg _ (by omega)) (Int.emod_lt_of_pos _ hm) b2 (pen_new d2 c2 rfl ⟨h0, h1, by omega, by omega, h4, h5⟩)
theorem ok_pick (T : Tx P K mg) : FnOk P w K mg base CX0 2 T.apick T.fdpick ["_law_pen_here", "_law_some"] (spPick K) := by
  have Gdraw : FnOk P w K mg base CX0 1 T.adraw T.fddraw ["_law_pen_here", "_law_many"] (spDraw K) := ok_draw T
  refine T.Dpick.F.ok scpick (fun vs H Q E h => ?_) (fun cdv A outer s H vs Q E hr h => ?_)
  · obtain ⟨d, c, p, m, ys, rfl, _⟩ := h
    rfl
  · obtain ⟨d, c, p, m, ys, rfl, hp, hs, hne, hlen, k⟩ := h
    have hrdraw := hr
    refine ⟨_, pss_one (ps_ret (pe_ix ix_list (pv 1) (pe_callN T.Ddraw Gdraw hrdraw pass0 (pa_cons (pv 0) (pa_cons (pe_callB call_lenL (by rfl) T.n_len (by decide +kernel) (pa_cons (pv 1) pa_nil)) pa_nil))) (fun _ _ => rfl))), ?_⟩
    walk_at "z0"
    walk_at "zz"
    refine z_lenL hs ?_
    walk_at "zz"
    have hpos : 0 < ys.length := List.length_pos_iff.mpr hne
    refine ⟨d, c, m, _, rfl, hp, by omega, ?_, fun r H' h0 h1 b hp' => ?_⟩
    · exact log2_small (by omega) (by omega)
    have hx : ys[r.toNat]? = some (ys[r.toNat]'(by omega)) := List.getElem?_eq_getElem (by omega)
    refine z_ixL ((hp.keep b).l hs) (at_of (by omega) hx) ?_
    walk_at "zz"
    exact k _ H' (List.getElem_mem _) b hp'
end
end K04

namespace K04
open PySem PySem.Spec PyProof.Rows L2 Nm K3
theorem head_at {z : Str} (h : 1 ≤ z.length) : atI z.cps.toList 0 = some ((tl z).headD 0) := by
  rw [str_len] at h
  cases e : tl z with
  | nil => rw [e] at h; exact absurd h (by decide)
  | cons a r =>
    show atI (tl z) ((0 : Nat) : Int) = _
    rw [e]
    exact atI_nat rfl
section
variable {P : Program} {w : World} {K : PySem.W.Frag} {mg : Str → Option Value} {base : Heap}
def spNamed : Sp := fun vs H Q _ => ∃ z f : Str, vs = [.str z, .str f] ∧ z.length ≤ 100000 ∧ ∀ b H', b = named (tl z) (tl f) → Same H H' → Q (.bl b) H'
def spW (g : List Nat → Bool) : Sp := fun vs H Q _ => ∃ z : Str, vs = [.str z] ∧ z.length ≤ 100000 ∧ ∀ b H', b = g (tl z) → Same H H' → Q (.bl b) H'
theorem ok_named (T : Tx P K mg) : FnOk P w K mg base CX0 1 T.anamed T.fdnamed ["word", "first"] spNamed := by
  refine T.Dnamed.F.ok scnamed (fun vs H Q E h => ?_) (fun cdv A outer s H vs Q E hr h => ?_)
  · obtain ⟨z, f, rfl, _⟩ := h
    rfl
  · obtain ⟨z, f, rfl, hz, k⟩ := h
    have hu := hu_of hr
    refine ⟨_, pss_one (ps_ret (pe_and (pe_chain op_le op_le (pe_int) (pe_callB call_lenS (by rfl) T.n_len (by decide +kernel) (pa_cons (pv 0) pa_nil)) (pe_int)) (pe_and (pe_cmpR op_inC (pe_ix ix_str (pv 0) (pe_int) (fun _ _ => rfl)) (pv 1) (by rfl)) (pe_one (pe_callB (cr_all rfl) (by rfl) T.n_all (by decide +kernel) (pa_cons (pe_lc (own := [("sign", 2)]) rfl scnamed.nd (pi_str (pv 0)) (blkOk_by (own := [("sign", 2)]) (N := ["word", "first", "sign"]) (sc := defScope snamed) (by decide +kernel)) (fun _ _ _ _ _ => pg_name (i := 2) scnamed.nd rfl (Or.inl rfl)) (fun _ _ _ _ _ => pts_nil) (fun _ _ _ _ _ => pe_cmpR op_inC (pv 2) (pe_glob rfl T.g_LATER rel_str) (by rfl))) pa_nil)))))), ?_⟩
    walk_at "z0"
    walk_at "zz"
    have zl := str_len z
    refine z_ite (fun e1 => ?_) (fun e1 => ?_)
    · walk_at "zz"
      have e1 := of_decide_eq_true e1
      have e1' : 1 ≤ z.length := by omega
      refine z_ite (fun e2 => ?_) (fun e2 => ?_)
      · walk_at "zz"
        have e2 := of_decide_eq_true e2
        refine z_ixS (line_ge (by omega)) (head_at e1') ?_
        walk_at "zz"
        refine z_ite (fun e3 => ?_) (fun e3 => ?_)
        · walk_at "zz"
          refine l_textB (fun c => decide (c ∈ LATER)) (by omega) (fun c H1 _ _ Q' q => ?_) fun D H1 hD s1 h1 => ?_
          · walk_at "zz"
            exact q
          · walk_at "zz"
            refine z_all (SqL.of h1) ?_
            walk_at "zz"
            refine k _ _ ?_ s1
            simp only [named, zl ▸ decide_eq_true e1', decide_eq_true (show (tl z).length ≤ 24 by omega), show decide ((tl z).headD 0 ∈ tl f) = true from e3, Bool.true_and]
            rw [List.all_map]
            rfl
        · walk_at "zz"
          refine k _ _ ?_ (Same.refl _)
          simp only [named, show decide ((tl z).headD 0 ∈ tl f) = false from e3, Bool.and_false, Bool.false_and]
      · walk_at "zz"
        have e2 := of_decide_eq_false e2
        refine k _ _ ?_ (Same.refl _)
        simp only [named, decide_eq_false (show ¬ (tl z).length ≤ 24 by omega), Bool.and_false, Bool.false_and]
    · walk_at "zz"
      have e1 := of_decide_eq_false e1
      refine k _ _ ?_ (Same.refl _)
      simp only [named, decide_eq_false (show ¬ 1 ≤ (tl z).length by omega), Bool.and_false, Bool.false_and]
theorem ok_big (T : Tx P K mg) : FnOk P w K mg base CX0 2 T.abig T.fdbig ["word"] (spW isBig) := by
  have Gnamed : FnOk P w K mg base CX0 1 T.anamed T.fdnamed ["word", "first"] spNamed := ok_named T
  refine T.Dbig.F.ok scbig (fun vs H Q E h => ?_) (fun cdv A outer s H vs Q E hr h => ?_)
  · obtain ⟨z, rfl, _⟩ := h
    rfl
  · obtain ⟨z, rfl, hz, k⟩ := h
    have hrnamed := hr
    refine ⟨_, pss_one (ps_ret (pe_callN T.Dnamed Gnamed hrnamed pass0 (pa_cons (pv 0) (pa_cons (pe_glob rfl T.g_BIG_LETTERS rel_str) pa_nil)))), ?_⟩
    walk_at "z0"
    walk_at "zz"
    refine ⟨_, _, rfl, hz, fun b H' e s => ?_⟩
    walk_at "zz"
    exact k b H' e s
theorem tl_one {z : Str} (x : Str) (k : List Nat) (e : tl x = k) : (z = x) = (tl z = k) := by rw [str_eq, e]
theorem ok_number (T : Tx P K mg) : FnOk P w K mg base CX0 1 T.anumber T.fdnumber ["word"] (spW isNum) := by
  refine T.Dnumber.F.ok scnumber (fun vs H Q E h => ?_) (fun cdv A outer s H vs Q E hr h => ?_)
  · obtain ⟨z, rfl, _⟩ := h
    rfl
  · obtain ⟨z, rfl, hz, k⟩ := h
    refine ⟨_, pss_cons (ps_set (i := 1) scnumber.nd rfl (Or.inl rfl) (pe_cut (pe_ifExp (pt_cmpR op_eq (pe_slice sl_str (pv 0) po_none (po_some (pe_int))) (pe_str) (nomark _)) (pe_slice sl_str (pv 0) (po_some (pe_int)) po_none) (pv 0))))
(pss_cons (ps_if (pt_cut (PW.pt (pw_or (pt_not (pt_chain op_le op_le (pe_int) (pe_callB call_lenS (by rfl) T.n_len (by decide +kernel) (pa_cons (pv 1) pa_nil)) (pe_int))) (pw_or1 (pt_not (pt_val (pe_callB (cr_all rfl) (by rfl) T.n_all (by decide +kernel) (pa_cons (pe_lc (own := [("sign", 2)]) rfl scnumber.nd (pi_str (pv 1)) (blkOk_by (own := [("sign", 2)]) (N := ["word", "digits", "sign"]) (sc := defScope snumber) (by decide +kernel)) (fun _ _ _ _ _ => pg_name (i := 2) scnumber.nd rfl (Or.inl rfl)) (fun _ _ _ _ _ => pts_nil) (fun _ _ _ _ _ => pe_cmpR op_inC (pv 2) (pe_glob rfl T.g_DIGITS rel_str) (by rfl))) pa_nil))))))))
(pss_one (ps_ret (pe_bl)))
(pss_nil))
(pss_one (ps_ret (pe_or (pe_cmpR op_ne (pe_ix ix_str (pv 1) (pe_int) (fun _ _ => rfl)) (pe_str) (nomark _)) (pe_one (pe_cmpR op_eq (pv 0) (pe_str) (nomark _))))))), ?_⟩
    walk_at "z0"
    walk_at "zz"
    have zl := str_len z
    have e45 : tl "-" = [45] := by decide +kernel
    have e48 : tl "0" = [48] := by decide +kernel
    have q45 : (cutS z none (some 1) = "-") = ((tl z).take 1 = [45]) := by rw [tl_one _ _ e45, show ((1 : Int)) = ((1 : Nat) : Int) from rfl, cut_to]
    refine z_cutV (.str ⟨(digs (tl z)).toArray⟩) ?_ fun H1 s1 => ?_
    · walk_at "zz"
      refine z_ite (fun e => ?_) (fun e => ?_)
      · have e := of_decide_eq_true e
        rw [q45] at e
        walk_at "zz"
        refine ⟨congrArg V.str (str_ext ?_), Same.refl _⟩
        rw [tl_mk, digs, if_pos e]
        exact cut_from z 1
      · have e := of_decide_eq_false e
        rw [q45] at e
        walk_at "zz"
        refine ⟨congrArg V.str (str_ext ?_), Same.refl _⟩
        rw [tl_mk, digs, if_neg e]
    generalize hd : (⟨(digs (tl z)).toArray⟩ : Str) = dz
    have ed : tl dz = digs (tl z) := by rw [← hd, tl_mk]
    have dl := str_len dz
    have hdz : dz.length ≤ 100000 := by
      have : (digs (tl z)).length ≤ (tl z).length := by
        unfold digs
        split
        · rw [List.length_drop]
          omega
        · exact Nat.le_refl _
      rw [dl, ed]
      omega
    walk_at "zz"
    refine z_cutB (!(decide (1 ≤ (tl dz).length) && decide ((tl dz).length ≤ 400) && ((tl dz).all fun c => decide (c ∈ DIG)))) ?_ fun H2 s2 => ?_
    · walk_at "zz"
      refine z_ite (fun e1 => ?_) (fun e1 => ?_)
      · walk_at "zz"
        have e1 := of_decide_eq_true e1
        refine z_ite (fun e2 => ?_) (fun e2 => ?_)
        · have e2 := of_decide_eq_false (not_t e2)
          have e3 : ¬ (tl dz).length ≤ 400 := by omega
          refine ⟨?_, Same.refl _⟩
          rw [decide_eq_false e3, Bool.and_false, Bool.false_and, Bool.not_false]
        · have e2 := of_decide_eq_true (not_f e2)
          walk_at "zz"
          refine l_textB (fun c => decide (c ∈ DIG)) (by omega) (fun c H1 _ _ Q' q => ?_) fun D H1 hD s1 h1 => ?_
          · walk_at "zz"
            exact q
          walk_at "zz"
          refine z_all (SqL.of h1) ?_
          walk_at "zz"
          refine ⟨?_, s1⟩
          rw [decide_eq_true (show 1 ≤ (tl dz).length by omega), decide_eq_true (show (tl dz).length ≤ 400 by omega), Bool.true_and, Bool.true_and, List.all_map]
          rfl
      · walk_at "zz"
        have e1 := of_decide_eq_false e1
        refine ⟨?_, Same.refl _⟩
        rw [decide_eq_false (show ¬ 1 ≤ (tl dz).length by omega), Bool.false_and, Bool.false_and, Bool.not_false]
    refine z_ite (fun e => ?_) (fun e => ?_)
    · walk_at "zz"
      refine k _ _ ?_ (s1.trans s2)
      unfold isNum
      rw [← ed]
      have : (decide (1 ≤ (tl dz).length) && decide ((tl dz).length ≤ 400) && ((tl dz).all fun c => decide (c ∈ DIG))) = false := not_t e
      rw [this, Bool.false_and]
    · have e' : (decide (1 ≤ (tl dz).length) && decide ((tl dz).length ≤ 400) && ((tl dz).all fun c => decide (c ∈ DIG))) = true := not_f e
      have e1 : 1 ≤ dz.length := by
        have q := e'
        simp only [Bool.and_eq_true, decide_eq_true_eq] at q
        omega
      walk_at "zz"
      refine z_ixS (line_ge (by omega)) (head_at e1) ?_
      walk_at "zz"
      have q48 : decide ((⟨#[(tl dz).headD 0]⟩ : Str) = "0") = decide ((tl dz).headD 0 = 48) := by
        refine decide_eq_decide.mpr ?_
        rw [tl_one _ _ e48]
        constructor
        · intro h
          have h' : [(tl dz).headD 0] = [48] := h
          exact (List.cons.inj h').1
        · intro h
          show [(tl dz).headD 0] = [48]
          rw [h]
      have qz : decide (z = "0") = decide (tl z = [48]) := decide_eq_decide.mpr (by rw [tl_one _ _ e48])
      rw [q48]
      refine z_ite (fun e5 => ?_) (fun e5 => ?_)
      · walk_at "zz"
        refine k _ _ ?_ (s1.trans s2)
        unfold isNum
        rw [← ed, e', e5]
        rfl
      · walk_at "zz"
        refine k _ _ ?_ (s1.trans s2)
        unfold isNum
        rw [← ed, e', e5, qz, Bool.true_and, Bool.false_or]
end
end K04
namespace K04
open PySem PySem.Spec PyProof.Rows L2 Nm K3
section
variable {P : Program} {w : World} {K : PySem.W.Frag} {mg : Str → Option Value} {base : Heap}
def stV (i : Nat) (cur : List Nat) : V := if cur = [] then .non else .int ((i - cur.length : Nat) : Int)
theorem stV_non {i : Nat} {cur : List Nat} : decide (stV i cur = .non) = decide (cur = []) := by
  unfold stV
  by_cases h : cur = []
  · rw [if_pos h, decide_eq_true h]
    rfl
  · rw [if_neg h, decide_eq_false h]
    rfl
theorem e_sep : tl " ();" = [32, 40, 41, 59] := by decide +kernel
theorem e_semi : tl ";" = [59] := by decide +kernel
theorem e_par : tl "()" = [40, 41] := by decide +kernel
theorem e_sp : tl " " = [32] := by decide +kernel
theorem in_sep {c : Nat} : decide (c ∈ tl " ();") = decide (c = 32 ∨ c = 40 ∨ c = 41 ∨ c = 59) := decide_eq_decide.mpr (by rw [e_sep]; simp)
theorem in_par {c : Nat} : decide (c ∈ tl "()") = decide (c = 40 ∨ c = 41) := decide_eq_decide.mpr (by rw [e_par]; simp)
def spWords (K : PySem.W.Frag) : Sp := fun vs H Q _ => ∃ z : Str, vs = [.str z] ∧ z.length ≤ 100000 ∧ ∀ p us H', Same H H' → H' p = some (.tup us) → DpAll K H' us ((words (tl z)).map wd) → Q (.ref p) H'
/-- what is known at turn i: s is the state of the reading -/
structure WAt (K : PySem.W.Frag) (H H' : Hp) (z : Str) (p : Addr) (i : Nat) (s : F × List Nat) : Prop where
  s0 : Same H H'
  g : Grow K H' p (s.1.map wd)
  le : s.2.length ≤ i
  cur : s.2 = ((tl z).take i).drop (i - s.2.length)
  eq : wl ((tl z).drop i) i s = words (tl z)
  few : s.1.length ≤ 2 * i
theorem fl_len (k : Nat) (s : F × List Nat) : (fl k s).length ≤ s.1.length + 1 := by
  unfold fl
  split
  · omega
  · rw [List.length_append]
    exact Nat.le_refl _
/-- found.append((line[start:at], start + 1)) -/
theorem flush_ok {H H' : Hp} {z : Str} {p : Addr} {i : Nat} {s : F × List Nat} {x : Str} {Q : VK} (W : WAt K H H' z p i s) (hp : H p = none) (hi : i ≤ 100000) (hs : s.2 ≠ []) (hx : tl x = s.2)
    {t : Addr} (ht : H' t = some (.tup [.str x, .int (((i - s.2.length : Nat) : Int) + 1)])) (k : ∀ H2, Same H H2 → Grow K H2 p ((fl i s).map wd) → Q .non H2) : rAppend (.ref p) [.ref t] H' Q := by
  refine z_append (d := wd (s.2, i + 1 - s.2.length)) W.g ?_ rfl ?_ fun H2 g2 a2 b2 => ?_
  · have e1 : (i + 1 - s.2.length : Nat) = (i - s.2.length) + 1 := by have := W.le; omega
    unfold wd
    show Dp K H' (.ref t) (.tuple [.str ⟨s.2.toArray⟩, .int ((i + 1 - s.2.length : Nat) : Int)])
    have e2 : (⟨s.2.toArray⟩ : Str) = x := str_ext (by rw [tl_mk, hx])
    rw [e1, e2]
    exact .tup (SqT.of ht) (.cons (.str _) (.cons (.int _) .nil))
  · rw [List.length_map]
    have := W.few
    omega
  · refine k H2 (a2 H W.s0 hp) ?_
    unfold fl
    rw [if_neg hs, List.map_append]
    exact g2
theorem cur_cut {z : Str} {i : Nat} {s : F × List Nat} (hi : i ≤ (tl z).length) (h : s.2.length ≤ i) (e : s.2 = ((tl z).take i).drop (i - s.2.length)) :
    tl (cutS z (some ((i - s.2.length : Nat) : Int)) (some (i : Int))) = s.2 := by
  rw [cut_mid z _ _ hi]
  conv => rhs; rw [e]
  rw [List.drop_take]
theorem ok_words (T : Tx P K mg) : FnOk P w K mg base CX0 1 T.awords T.fdwords ["line"] (spWords K) := by
  refine T.Dwords.F.ok scwords (fun vs H Q E h => ?_) (fun cdv A outer s H vs Q E hr h => ?_)
  · obtain ⟨z, rfl, _⟩ := h
    rfl
  · obtain ⟨z, rfl, hz, k⟩ := h
    have hu := hu_of hr
    refine ⟨_, pss_cons (ps_par rfl scwords.nd (i := 1) (j := 2) rfl rfl (by decide) rfl rfl (pa_cons (pe_lst pa_nil) (pa_cons (pe_non) pa_nil)) (by rfl))
(pss_cons (ps_for PassesOwn.never rfl (pi_enumS rfl T.n_enumerate (pa_cons (pv 0) pa_nil)) (pg_tup rfl (pgs_cons (pg_name (i := 3) scwords.nd rfl (Or.inl rfl)) (pgs_cons (pg_name (i := 4) scwords.nd rfl (Or.inl rfl)) pgs_nil)))
(pss_cut (ps_if (pt_cut (PW.pt (pw_and (pt_cmpR op_inC (pv 4) (pe_str) (by rfl)) (pw_and1 (pt_cmpR op_notNn (pv 2) (pe_non) (nomark _))))))
(pss_cons (ps_expr (pe_bm PySem.F.plainAttrs_list PySem.F.slot_list_append PySem.F.type_list_append mt_append (pv 1) (pa_cons (pe_tup (pa_cons (pe_slice sl_str (pv 0) (po_some (pv 2)) (po_some (pv 3))) (pa_cons (pe_op op_add (pv 2) pe_int) pa_nil))) pa_nil)))
(pss_one (ps_set (i := 2) scwords.nd rfl (Or.inl rfl) (pe_non))))
(pss_nil))
(pss_cons (ps_if (pt_cmpR op_eq (pv 4) (pe_str) (nomark _))
(pss_one (ps_ret (pe_callTy call_tupleOf (by rfl) T.n_tuple (by decide +kernel) (pa_cons (pv 1) pa_nil))))
(pss_nil))
(pss_one (ps_if (pt_cmpR op_inC (pv 4) (pe_str) (by rfl))
(pss_one (ps_expr (pe_bm PySem.F.plainAttrs_list PySem.F.slot_list_append PySem.F.type_list_append mt_append (pv 1) (pa_cons (pe_tup (pa_cons (pv 4) (pa_cons (pe_op op_add (pv 3) (pe_int)) pa_nil))) pa_nil))))
(pss_one (ps_if (pt_cut (PW.pt (pw_and (pt_cmpR op_ne (pv 4) (pe_str) (nomark _)) (pw_and1 (pt_cmpR op_isNn (pv 2) (pe_non) (nomark _))))))
(pss_one (ps_set (i := 2) scwords.nd rfl (Or.inl rfl) (pv 3)))
(pss_nil))))))))
(pss_cut (ps_if (pt_cmpR op_notNn (pv 2) (pe_non) (nomark _))
(pss_one (ps_expr (pe_bm PySem.F.plainAttrs_list PySem.F.slot_list_append PySem.F.type_list_append mt_append (pv 1) (pa_cons (pe_tup (pa_cons (pe_slice sl_str (pv 0) (po_some (pv 2)) po_none) (pa_cons (pe_op op_add (pv 2) pe_int) pa_nil))) pa_nil))))
(pss_nil))
(pss_one (ps_ret (pe_callTy call_tupleOf (by rfl) T.n_tuple (by decide +kernel) (pa_cons (pv 1) pa_nil)))))), ?_⟩
    walk_at "z0"
    walk_at "zz"
    refine z_kLst (Nat.zero_le _) fun p H1 hp s1 h1 => ?_
    walk_at "zz"
    have zl := str_len z
    have hzz : (tl z).length ≤ 100000 := by omega
    refine f_enumS (fun i σ' H' => ∃ (s : F × List Nat) (x3 x4 : Option V), σ' = [some (.str z), some (.ref p), some (stV i s.2), x3, x4] ∧ WAt K H H' z p i s) ⟨([], []), none, none, rfl, s1, grow_nil h1, Nat.le_refl _, rfl, rfl, Nat.zero_le _⟩ ?_ ?_
    · rintro i c σ' H' H2 hc ⟨s, x3, x4, rfl, W⟩ s2
      have hc' : (tl z)[i]? = some c := by simpa using hc
      have hi : i < (tl z).length := (List.getElem?_eq_some_iff.mp hc').1
      have W2 : WAt K H H2 z p i s := ⟨W.s0.trans s2, W.g.same s2, W.le, W.cur, W.eq, W.few⟩
      have ew := W.eq
      rw [wl_drop hc'] at ew
      refine z_cut (fun σ3 H3 => ∃ s', σ3 = [some (.str z), some (.ref p), some (stV i s'.2), some (.int (i : Nat)), some (.str ⟨#[c]⟩)] ∧ Same H H3 ∧ Grow K H3 p (s'.1.map wd) ∧ s' = (if c = 32 ∨ c = 40 ∨ c = 41 ∨ c = 59 then (fl i s, []) else s)) ?_ ?_
      · walk_at "zz"
        refine z_cutB (decide ((c = 32 ∨ c = 40 ∨ c = 41 ∨ c = 59) ∧ s.2 ≠ [])) ?_ fun H3 s3 => ?_
        · walk_at "zz"
          refine z_ite (fun e => ?_) (fun e => ?_)
          · walk_at "zz"
            rw [in_sep] at e
            refine ⟨?_, Same.refl _⟩
            rw [stV_non, Bool.decide_and, e, Bool.true_and, decide_not]
          · rw [in_sep] at e
            refine ⟨?_, Same.refl _⟩
            rw [Bool.decide_and, e, Bool.false_and]
        have W3 : WAt K H H3 z p i s := ⟨W2.s0.trans s3, W2.g.same s3, W.le, W.cur, W.eq, W.few⟩
        refine z_ite (fun e => ?_) (fun e => ?_)
        · have e := of_decide_eq_true e
          have est : stV i s.2 = .int ((i - s.2.length : Nat) : Int) := if_neg e.2
          rw [est]
          walk_at "zz"
          refine ⟨W3.g.ty, ?_⟩
          walk_at "zz"
          refine z_kTup (by show 2 ≤ sizeLine; decide) fun t H4 ht s4 h4 => ?_
          walk_at "zz"
          have W4 : WAt K H H4 z p i s := ⟨W3.s0.trans s4, W3.g.same s4, W.le, W.cur, W.eq, W.few⟩
          refine flush_ok W4 hp (by omega) e.2 (cur_cut (Nat.le_of_lt hi) W.le W.cur) h4 fun H5 s5 g5 => ?_
          walk_at "zz"
          exact ⟨(fl i s, []), rfl, s5, g5, by rw [if_pos e.1]⟩
        · have e := of_decide_eq_false e
          walk_at "zz"
          by_cases ec : c = 32 ∨ c = 40 ∨ c = 41 ∨ c = 59
          · have e2 : s.2 = [] := Classical.byContradiction fun q => e ⟨ec, q⟩
            refine ⟨(fl i s, []), ?_, W3.s0, ?_, by rw [if_pos ec]⟩
            · rw [e2]
              rfl
            · have ef : fl i s = s.1 := if_pos e2
              rw [ef]
              exact W3.g
          · exact ⟨s, rfl, W3.s0, W3.g, by rw [if_neg ec]⟩
      · rintro σ3 H3 ⟨s', rfl, s3, g3, es⟩
        walk_at "zz"
        rw [one_eq e_semi]
        refine z_ite (fun e => ?_) (fun e => ?_)
        · have e := of_decide_eq_true e
          rw [if_pos e] at ew
          rw [if_pos (by omega)] at es
          subst es
          walk_at "zz"
          obtain ⟨us, h4, h5, h6⟩ := g3.sq
          refine z_tupleOfL h4 fun q H4 hq s4 h7 => ?_
          walk_at "zz"
          refine k q us H4 (s3.trans s4) h7 ?_
          rw [← ew]
          exact dps_keep (same_keep s4) h5
        · have e := of_decide_eq_false e
          rw [if_neg e] at ew
          have hlen : s'.1.length ≤ 2 * i + 1 := by
            have q1 := fl_len i s
            have q2 := W.few
            subst es
            split
            · show (fl i s).length ≤ _
              omega
            · omega
          walk_at "zz"
          rw [in_par]
          refine z_ite (fun e2 => ?_) (fun e2 => ?_)
          · have e2 := of_decide_eq_true e2
            rw [if_pos (by omega)] at es
            subst es
            walk_at "zz"
            refine ⟨g3.ty, ?_⟩
            walk_at "zz"
            refine z_kTup (by show 2 ≤ sizeLine; decide) fun t H4 ht s4 h4 => ?_
            walk_at "zz"
            refine z_append (d := wd ([c], i + 1)) (g3.same s4) (.tup (SqT.of h4) (.cons (.str _) (.cons (.int _) .nil))) rfl (by rw [List.length_map]; omega) fun H5 g5 a5 b5 => ?_
            walk_at "zz"
            have est : stp i c s = (fl i s ++ [([c], i + 1)], []) := if_pos e2
            rw [est] at ew
            refine ⟨(fl i s ++ [([c], i + 1)], []), _, _, rfl, a5 H (s3.trans s4) hp, ?_, Nat.zero_le _, ?_, ew, ?_⟩
            · rw [List.map_append]
              exact g5
            · simp
            · rw [List.length_append]
              show (fl i s).length + 1 ≤ _
              have q : (fl i s).length ≤ 2 * i + 1 := hlen
              omega
          · have e2 := of_decide_eq_false e2
            walk_at "zz"
            refine z_cutB (decide (c ≠ 32 ∧ s'.2 = [])) ?_ fun H4 s4 => ?_
            · walk_at "zz"
              rw [one_eq e_sp]
              refine z_ite (fun e3 => ?_) (fun e3 => ?_)
              · walk_at "zz"
                refine ⟨?_, Same.refl _⟩
                rw [stV_non, Bool.decide_and, decide_not, e3, Bool.true_and]
              · walk_at "zz"
                refine ⟨?_, Same.refl _⟩
                rw [Bool.decide_and, decide_not, e3, Bool.false_and]
            by_cases e32 : c = 32
            · rw [if_pos (by omega)] at es
              subst es
              refine z_ite (fun e3 => absurd e32 (of_decide_eq_true e3).1) (fun e3 => ?_)
              walk_at "zz"
              have est : stp i c s = (fl i s, []) := by
                unfold stp
                rw [if_neg e2, if_pos e32]
              rw [est] at ew
              exact ⟨(fl i s, []), _, _, rfl, s3.trans s4, g3.same s4, Nat.zero_le _, by simp, ew, by show (fl i s).length ≤ _; have q : (fl i s).length ≤ 2 * i + 1 := hlen; omega⟩
            · rw [if_neg (by omega)] at es
              subst es
              have est : stp i c s' = (s'.1, s'.2 ++ [c]) := by
                unfold stp
                rw [if_neg e2, if_neg e32]
              rw [est] at ew
              have hcur : s'.2 ++ [c] = ((tl z).take (i + 1)).drop (i + 1 - (s'.2 ++ [c]).length) := by
                have el : (s'.2 ++ [c]).length = s'.2.length + 1 := by simp
                rw [el, List.take_add_one, hc', Option.toList_some, show i + 1 - (s'.2.length + 1) = i - s'.2.length by omega, List.drop_append_of_le_length (by rw [List.length_take]; omega), ← W.cur]
              have hst : ∀ v3 v4 : Option V, ∀ v : V, v = stV (i + 1) (s'.2 ++ [c]) → (fun σ' H' => ∃ (s : F × List Nat) (x3 x4 : Option V), σ' = [some (.str z), some (.ref p), some (stV (i + 1) s.2), x3, x4] ∧ WAt K H H' z p (i + 1) s) [some (.str z), some (.ref p), some v, v3, v4] H4 := fun v3 v4 v ev =>
                ⟨(s'.1, s'.2 ++ [c]), v3, v4, by rw [ev], s3.trans s4, g3.same s4, by have := W.le; simp; omega, hcur, ew, by show s'.1.length ≤ _; have := W.few; omega⟩
              refine z_ite (fun e3 => ?_) (fun e3 => ?_)
              · have e3 := (of_decide_eq_true e3).2
                walk_at "zz"
                refine hst _ _ _ ?_
                unfold stV
                rw [if_neg (by simp), e3]
                simp
              · have e3 : s'.2 ≠ [] := fun q => of_decide_eq_false e3 ⟨e32, q⟩
                walk_at "zz"
                refine hst _ _ _ ?_
                unfold stV
                rw [if_neg e3, if_neg (show ¬ s'.2 ++ [c] = [] from fun q => List.cons_ne_nil _ _ (List.append_eq_nil_iff.mp q).2)]
                have el : (s'.2 ++ [c]).length = s'.2.length + 1 := by simp
                rw [el]
                congr 1
                omega
    · rintro σ' H' ⟨s, x3, x4, rfl, W⟩
      have en : z.cps.size = (tl z).length := by simp [tl]
      rw [en]
      rw [en] at W
      have ew := W.eq
      rw [wl_end (Nat.le_refl _)] at ew
      refine z_cut (fun σ3 H3 => ∃ v, σ3 = [some (.str z), some (.ref p), v, x3, x4] ∧ Same H H3 ∧ Grow K H3 p ((fl (tl z).length s).map wd)) ?_ ?_
      · walk_at "zz"
        rw [stV_non]
        refine z_ite (fun e => ?_) (fun e => ?_)
        · have e := of_decide_eq_false (not_t e)
          have est : stV (tl z).length s.2 = .int (((tl z).length - s.2.length : Nat) : Int) := if_neg e
          rw [est]
          walk_at "zz"
          refine ⟨W.g.ty, ?_⟩
          walk_at "zz"
          refine z_kTup (by show 2 ≤ sizeLine; decide) fun t H4 ht s4 h4 => ?_
          walk_at "zz"
          have W4 : WAt K H H4 z p (tl z).length s := ⟨W.s0.trans s4, W.g.same s4, W.le, W.cur, W.eq, W.few⟩
          refine flush_ok W4 hp (by omega) e ?_ h4 fun H5 s5 g5 => ?_
          · rw [cut_from]
            have q := W.cur
            rw [List.take_length] at q
            exact q.symm
          walk_at "zz"
          exact ⟨_, rfl, s5, g5⟩
        · have e := of_decide_eq_true (not_f e)
          walk_at "zz"
          refine ⟨_, rfl, W.s0, ?_⟩
          have ef : fl (tl z).length s = s.1 := if_pos e
          rw [ef]
          exact W.g
      · rintro σ3 H3 ⟨v, rfl, s3, g3⟩
        walk_at "zz"
        obtain ⟨us, h4, h5, h6⟩ := g3.sq
        refine z_tupleOfL h4 fun q H4 hq s4 h7 => ?_
        walk_at "zz"
        refine k q us H4 (s3.trans s4) h7 ?_
        rw [← ew]
        exact dps_keep (same_keep s4) h5
end
end K04

namespace K04
open PySem PySem.Spec PyProof.Rows L2 Nm
section
variable {P : Program} {w : World} {K : PySem.W.Frag} {mg : Str → Option Value} {base : Heap}
theorem ok_init (T : Tx P K mg) : FnOk P w K mg base CX0 1 T.ainit T.fdinit ["self", "maker", "parts"] (spMadeI K T.CM) := by
  refine T.Dinit.F.ok scinit (fun vs H Q E h => ?_) (fun cdv A outer s H vs Q E hr h => ?_)
  · obtain ⟨x, dx, p, m, ws, rfl, _⟩ := h
    rfl
  · obtain ⟨x, dx, p, m, ws, rfl, hx, hp, k⟩ := h
    have hu := hu_of hr
    refine ⟨_, pss_cons (ps_fld (pv 0) (pv 1) rfl)
(pss_one (ps_fld (pv 0) (pe_callTy call_tupleOf (by rfl) T.n_tuple (by decide +kernel) (pa_cons (pv 2) pa_nil)) rfl)), ?_⟩
    walk_at "z0"
    walk_at "zz"
    refine z_kSt hx T.MM.cl T.MM.nM (by decide) ?_
    walk_at "zz"
    have ne : ∀ {a : Addr}, H a = some (.tup ws) → a ≠ x := fun h e => by rw [e, hx] at h; cases h
    have hp1 : SqT K (upd H x (.ins T.CM dx (putF "maker" m []))) p ws := by
      rcases hp with (h | ⟨o, h⟩) | h
      · exact .inl (.inl (by rw [upd_ne (ne h)]; exact h))
      · exact .inl (.inr ⟨o, by rw [upd_ne (fun e => by rw [e, hx] at h; cases h)]; exact h⟩)
      · exact .inr h
    refine z_tupleOfT hp1 ?_
    walk_at "zz"
    refine z_kSt upd_same T.MM.cl T.MM.nP (by show 1 < 1000; decide) ?_
    walk_at "zz"
    refine k _ (putF "parts" (.ref p) (putF "maker" m [])) ?_ upd_same rfl rfl
    intro a o n e
    rw [upd_ne n, upd_ne n]
    exact e
/-- a pair of values that are asked whether they are equal -/
def PairAt (K : PySem.W.Frag) (C : Addr) (H : Hp) (y : V) (q : Nm.T × Nm.T) : Prop := ∃ r a b, y = .ref r ∧ SqT K H r [a, b] ∧ MadeAt K C H q.1 a ∧ MadeAt K C H q.2 b
def PairsAt (K : PySem.W.Frag) (C : Addr) (H : Hp) (ys : List V) (ps : List (Nm.T × Nm.T)) : Prop := ys.length = ps.length ∧ ∀ (i : Nat) (y : V) (q : Nm.T × Nm.T), ys[i]? = some y → ps[i]? = some q → PairAt K C H y q
theorem PairsAt.ki {C : Addr} {H H' : Hp} {ys : List V} {ps : List (Nm.T × Nm.T)} (k : KI K H H') (h : PairsAt K C H ys ps) : PairsAt K C H' ys ps := ⟨h.1, fun i y q e1 e2 => by
  obtain ⟨r, a, b, e, h1, h2, h3⟩ := h.2 i y q e1 e2
  exact ⟨r, a, b, e, k.tup _ _ h1, made_ki k h2, made_ki k h3⟩⟩
theorem PairsAt.app {C : Addr} {H : Hp} {ys zs : List V} {ps qs : List (Nm.T × Nm.T)} (h1 : PairsAt K C H ys ps) (h2 : PairsAt K C H zs qs) : PairsAt K C H (ys ++ zs) (ps ++ qs) := ⟨by rw [List.length_append, List.length_append, h1.1, h2.1], fun i y q e1 e2 => by
  by_cases c : i < ys.length
  · rw [List.getElem?_append_left c] at e1
    rw [List.getElem?_append_left (by rw [← h1.1]; exact c)] at e2
    exact h1.2 i y q e1 e2
  · rw [List.getElem?_append_right (by omega)] at e1
    rw [List.getElem?_append_right (by rw [← h1.1]; omega), ← h1.1] at e2
    exact h2.2 _ y q e1 e2⟩
theorem PairsAt.left {C : Addr} {H : Hp} {ys zs : List V} {ps qs : List (Nm.T × Nm.T)} (h : PairsAt K C H (ys ++ zs) (ps ++ qs)) (hl : ys.length = ps.length) : PairsAt K C H ys ps := ⟨hl, fun i y q e1 e2 => h.2 i y q (by rw [List.getElem?_append_left (List.getElem?_eq_some_iff.mp e1).1]; exact e1) (by rw [List.getElem?_append_left (List.getElem?_eq_some_iff.mp e2).1]; exact e2)⟩
def pairsSize (ps : List (Nm.T × Nm.T)) : Nat := (ps.map fun q => q.1.size).sum
theorem pairsSize_app (ps qs : List (Nm.T × Nm.T)) : pairsSize (ps ++ qs) = pairsSize ps + pairsSize qs := by unfold pairsSize; rw [List.map_append, List.sum_append]
theorem pairsSize_zip : ∀ (as bs : List Nm.T), pairsSize (as.zip bs) ≤ sizeAll as
  | [], _ => by simp [pairsSize]
  | a :: as, [] => by simp [pairsSize]
  | a :: as, b :: bs => by
    have := pairsSize_zip as bs
    unfold pairsSize at this ⊢
    rw [List.zip_cons_cons, List.map_cons, List.sum_cons, sizeAll]
    show a.size + _ ≤ _
    omega
theorem pairs_len (ps : List (Nm.T × Nm.T)) : ps.length ≤ pairsSize ps := by
  induction ps with
  | nil => exact Nat.le_refl _
  | cons q ps ih =>
    have := size_pos q.1
    unfold pairsSize at ih ⊢
    rw [List.map_cons, List.sum_cons, List.length_cons]
    omega
theorem all_zip : ∀ {as bs : List Nm.T}, as.length = bs.length → ((∀ q ∈ as.zip bs, q.1 = q.2) ↔ as = bs)
  | [], [], _ => by simp
  | [], b :: bs, h => by cases h
  | a :: as, [], h => by cases h
  | a :: as, b :: bs, h => by
    have ih := all_zip (as := as) (bs := bs) (by simpa using h)
    rw [List.zip_cons_cons, List.forall_mem_cons, ih, List.cons.injEq]
theorem zip_pairs {C : Addr} {H : Hp} {ps qs : List Nm.T} {xs ys zs : List V} (h1 : MadeAll K C H ps xs) (h2 : MadeAll K C H qs ys) (hl : ps.length = qs.length) (hz : zs.length = xs.length)
    (h : ∀ (i : Nat) (z : V), zs[i]? = some z → ∃ r a b, z = .ref r ∧ SqT K H r [a, b] ∧ xs[i]? = some a ∧ ys[i]? = some b) : PairsAt K C H zs (ps.zip qs) := ⟨by rw [hz, mades_len h1, List.length_zip, hl, Nat.min_self], fun i z q e1 e2 => by
  obtain ⟨r, a, b, e, ht, ea, eb⟩ := h i z e1
  obtain ⟨e3, e4⟩ := List.getElem?_zip_eq_some.mp e2
  obtain ⟨v, ev, hv⟩ := mades_at h1 e3
  obtain ⟨w, ew, hw⟩ := mades_at h2 e4
  rw [ea] at ev
  rw [eb] at ew
  cases ev
  cases ew
  exact ⟨r, a, b, e, ht, hv, hw⟩⟩
theorem ok_eq (T : Tx P K mg) : FnOk P w K mg base CX0 1 T.aeq T.fdeq ["self", "other"] (spEqT K T.CM) := by
  refine T.Deq.F.ok sceq (fun vs H Q E h => ?_) (fun cdv A outer s H vs Q E hr h => ?_)
  · obtain ⟨x, y, t, u, rfl, _⟩ := h
    rfl
  · obtain ⟨x, y, t, u, rfl, hx, hy, zt, zu, k⟩ := h
    have hu := hu_of hr
    refine ⟨_, pss_cons (ps_set (i := 2) sceq.nd rfl (Or.inl rfl) (pe_lst (pa_cons (pe_tup (pa_cons (pv 0) (pa_cons (pv 1) pa_nil))) pa_nil)))
(pss_cons (ps_while PassesOwn.never (pt_cmpR op_gt (pe_callB call_lenL (by rfl) T.n_len (by decide +kernel) (pa_cons (pv 2) pa_nil)) (pe_int) (nomark _))
(pss_cons (ps_asg (pe_bm0 PySem.F.plainAttrs_list PySem.F.slot_list_pop PySem.F.type_list_pop mt_pop (pv 2)) (pg_tup rfl (pgs_cons (pg_name (i := 3) sceq.nd rfl (Or.inl rfl)) (pgs_cons (pg_name (i := 4) sceq.nd rfl (Or.inl rfl)) pgs_nil))))
(pss_one (ps_if (pt_cut (PW.pt (pw_and (pt_val (pe_callB call_isi (by rfl) T.n_isinstance (by decide +kernel) (pa_cons (pv 3) (pa_cons (pe_glob rfl T.g_Made rel_ref) pa_nil)))) (pw_and1 (pt_val (pe_callB call_isi (by rfl) T.n_isinstance (by decide +kernel) (pa_cons (pv 4) (pa_cons (pe_glob rfl T.g_Made rel_ref) pa_nil))))))))
(pss_cons (ps_if (pt_cut (PW.pt (pw_or (pt_cmpR op_ne (pe_fld (pv 3) rfl) (pe_fld (pv 4) rfl) (nomark _)) (pw_or1 (pt_cmpR op_ne (pe_callB call_lenL (by rfl) T.n_len (by decide +kernel) (pa_cons (pe_fld (pv 3) rfl) pa_nil)) (pe_callB call_lenL (by rfl) T.n_len (by decide +kernel) (pa_cons (pe_fld (pv 4) rfl) pa_nil)) (nomark _))))))
(pss_one (ps_ret (pe_bl)))
(pss_nil))
(pss_one (ps_aug (i := 2) sceq.nd rfl (Or.inl rfl) (pe_lc (g := gTup K 2 (gCons (gName 5) (gCons (gName 6) gNil))) (own := [("a", 5), ("b", 6)]) rfl sceq.nd (RZ.pi_zipA rfl T.n_zip (pa_cons (pe_fld (pv 3) rfl) (pa_cons (pe_fld (pv 4) rfl) pa_nil))) (blkOk_by (own := [("a", 5), ("b", 6)]) (N := ["self", "other", "pairs", "one", "two", "a", "b"]) (sc := defScope seq) (by decide +kernel)) (fun _ _ _ _ _ => pg_tup rfl (pgs_cons (pg_name (i := 5) sceq.nd rfl (Or.inl rfl) (Or.inr rfl)) (pgs_cons (pg_name (i := 6) sceq.nd rfl (Or.inl rfl) (Or.inr rfl)) pgs_nil))) (fun _ _ _ _ _ => pts_nil) (fun _ _ _ _ _ => pe_tup (pa_cons (pv 5) (pa_cons (pv 6) pa_nil)))) iop_ext)))
(pss_one (ps_if (pt_cut (PW.pt (pw_or (pt_val (pe_callB call_isi (by rfl) T.n_isinstance (by decide +kernel) (pa_cons (pv 3) (pa_cons (pe_glob rfl T.g_Made rel_ref) pa_nil)))) (pw_or (pt_val (pe_callB call_isi (by rfl) T.n_isinstance (by decide +kernel) (pa_cons (pv 4) (pa_cons (pe_glob rfl T.g_Made rel_ref) pa_nil)))) (pw_or1 (pt_cmpR op_ne (pv 3) (pv 4) (nomark _)))))))
(pss_one (ps_ret (pe_bl)))
(pss_nil)))))))
(pss_one (ps_ret (pe_bl)))), ?_⟩
    walk_at "z0"
    walk_at "zz"
    refine z_kTup (line_ge (by simp)) fun q0 H0 n0 s0 h0 => ?_
    walk_at "zz"
    refine z_kLst (line_ge (by simp)) fun p H1 n1 s1 h1 => ?_
    walk_at "zz"
    have sH1 := s0.trans s1
    have pn : H p = none := by
      cases e : H p with
      | none => rfl
      | some o => rw [s0 _ _ e] at n1; cases n1
    refine f_whileL (fun m σ' H' => ∃ (v3 v4 : Option V) (ys : List V) (ps : List (Nm.T × Nm.T)), σ' = [some x, some y, some (.ref p), v3, v4, none, none] ∧ Same H H' ∧ H' p = some (.lst ys) ∧ PairsAt K T.CM H' ys ps ∧ m = pairsSize ps ∧ pairsSize ps ≤ 1000000 ∧ (t = u ↔ ∀ q ∈ ps, q.1 = q.2))
      (m0 := pairsSize [(t, u)]) ⟨_, _, _, [(t, u)], rfl, sH1, h1, ⟨rfl, fun i z q e1 e2 => ?_⟩, rfl, by simpa [pairsSize] using zt, by simp⟩ ?_
    · cases i with
      | zero =>
        cases e1
        cases e2
        exact ⟨_, _, _, rfl, SqT.of (s1 _ _ h0), made_same sH1 hx, made_same sH1 hy⟩
      | succ i => simp at e1
    · rintro m σ' H' ⟨v3, v4, ys, ps, rfl, sH, hp, hps, rfl, zps, heq⟩
      refine ⟨p, ys, rfl, hp, fun hne => ?_, fun he => ?_⟩
      · obtain ⟨ys', yl, rfl⟩ : ∃ ys' yl, ys = ys' ++ [yl] := ⟨_, _, (List.dropLast_concat_getLast hne).symm⟩
        have hpne : ps ≠ [] := by
          intro e
          rw [e] at hps
          have := hps.1
          simp at this
        obtain ⟨ps', ⟨a, b⟩, rfl⟩ : ∃ ps' pl, ps = ps' ++ [pl] := ⟨_, _, (List.dropLast_concat_getLast hpne).symm⟩
        have hl' : ys'.length = ps'.length := by
          have := hps.1
          simpa using this
        obtain ⟨r, va, vb, rfl, hr1, ha, hb⟩ := hps.2 ys'.length yl (a, b) (by simp) (by rw [hl']; simp)
        walk_at "zz"
        refine ⟨ty_lst hp, z_pop hp ?_⟩
        walk_at "zz"
        have kI : KI K H' (upd H' p (.lst ys')) := KI.lst hp
        have sH2 : Same H (upd H' p (.lst ys')) := Nm.Same.mut sH pn
        have hp2 : upd H' p (.lst ys') p = some (.lst ys') := upd_same
        have hps2 : PairsAt K T.CM (upd H' p (.lst ys')) ys' ps' := (hps.left hl').ki kI
        have hr2 := kI.tup _ _ hr1
        have ha2 : MadeAt K T.CM _ a va := made_ki kI ha
        have hb2 : MadeAt K T.CM _ b vb := made_ki kI hb
        generalize upd H' p (.lst ys') = H2 at sH2 hp2 hps2 hr2 ha2 hb2
        have zab : pairsSize (ps' ++ [(a, b)]) = pairsSize ps' + a.size := by rw [pairsSize_app]; simp [pairsSize]
        rw [zab] at zps
        have heq' : t = u ↔ (∀ q ∈ ps', q.1 = q.2) ∧ a = b := by
          rw [heq]
          refine ⟨fun h => ⟨fun q hq => h q (by simp [hq]), h (a, b) (by simp)⟩, fun ⟨h1, h2⟩ q hq => ?_⟩
          rcases List.mem_append.mp hq with h | h
          · exact h1 q h
          · rw [List.mem_singleton.mp h]
            exact h2
        have no : ∀ H3, Same H2 H3 → a ≠ b → Q (.bl false) H3 := fun H3 s3 ne => by
          have q := k H3 (sH2.trans s3)
          rw [show decide (t = u) = false from decide_eq_false fun e => ne (heq'.mp e).2] at q
          exact q
        have on : ∀ H3 v3 v4, Same H2 H3 → a = b → ∃ m', m' < pairsSize (ps' ++ [(a, b)]) ∧ ∃ (v5 v6 : Option V) (ys : List V) (ps : List (Nm.T × Nm.T)), ([some x, some y, some (V.ref p), v3, v4, none, none] : List (Option V)) = [some x, some y, some (V.ref p), v5, v6, none, none] ∧ Same H H3 ∧ H3 p = some (.lst ys) ∧ PairsAt K T.CM H3 ys ps ∧ m' = pairsSize ps ∧ pairsSize ps ≤ 1000000 ∧ (t = u ↔ ∀ q ∈ ps, q.1 = q.2) := fun H3 v3 v4 s3 e => by
          refine ⟨pairsSize ps', by rw [zab]; have := size_pos a; omega, v3, v4, ys', ps', rfl, sH2.trans s3, s3 _ _ hp2, hps2.ki (KI.keep (same_keep s3)), rfl, by omega, ?_⟩
          rw [heq']
          simp [e]
        refine z_gTup hr2 (by rfl) ?_
        walk_at "zz"
        refine z_cutB (a.isNode && b.isNode) ?_ fun H3 s3 => ?_
        · walk_at "zz"
          refine z_isMade T.MM ha2 ?_
          walk_at "zz"
          refine z_ite (fun e => ?_) (fun e => ?_)
          · walk_at "zz"
            refine z_isMade T.MM hb2 ?_
            walk_at "zz"
            exact ⟨by rw [e]; rfl, Same.refl _⟩
          · exact ⟨by rw [e]; rfl, Same.refl _⟩
        have ha3 := made_same s3 ha2
        have hb3 := made_same s3 hb2
        refine z_ite (fun ec => ?_) (fun ec => ?_)
        · cases a with
          | num n => simp [Nm.T.isNode] at ec
          | node m1 qs1 =>
            cases b with
            | num n => simp [Nm.T.isNode] at ec
            | node m2 qs2 =>
              refine z_seq ?_
              walk_at "zz"
              refine z_cutB (!decide (m1 = m2) || !decide (qs1.length = qs2.length)) ?_ fun H4 s4 => ?_
              · walk_at "zz"
                refine z_maker T.MM ha3 ?_
                walk_at "zz"
                refine z_maker T.MM hb3 ?_
                walk_at "zz"
                refine z_ite (fun e => ?_) (fun e => ?_)
                · exact ⟨by rw [e]; rfl, Same.refl _⟩
                · walk_at "zz"
                  refine z_parts T.MM ha3 fun p1 xs h1 h2 hl => ?_
                  walk_at "zz"
                  refine z_lenT h1 ?_
                  walk_at "zz"
                  refine z_parts T.MM hb3 fun p2 zs h3 h4 hl2 => ?_
                  walk_at "zz"
                  refine z_lenT h3 ?_
                  walk_at "zz"
                  refine ⟨?_, Same.refl _⟩
                  rw [e, hl, hl2, Bool.false_or]
                  congr 1
                  exact decide_eq_decide.mpr (by omega)
              have ha4 := made_same s4 ha3
              have hb4 := made_same s4 hb3
              refine z_ite (fun e => ?_) (fun e => ?_)
              · walk_at "zz"
                refine no H4 (s3.trans s4) fun q => ?_
                injection q with q1 q2
                subst q1 q2
                simp at e
              · walk_at "zz"
                rw [Bool.or_eq_false_iff] at e
                have em : m1 = m2 := of_decide_eq_true (not_f e.1)
                have el : qs1.length = qs2.length := of_decide_eq_true (not_f e.2)
                refine z_parts T.MM ha4 fun p1 xs h1 h2 hl => ?_
                walk_at "zz"
                refine z_parts T.MM hb4 fun p2 zs h3 h4 hl2 => ?_
                walk_at "zz"
                refine z_kZipT h1 h3 ?_
                have exz : xs.length = zs.length := by omega
                have qz := sizeAll_len qs1
                simp only [Nm.T.size] at zps
                refine l_gen (walk_zipT exz) (fun D i v H => ∃ r a b, v = .ref r ∧ SqT K H r [a, b] ∧ xs[i]? = some a ∧ zs[i]? = some b) (fun D i v H1 H2 s ⟨r, a, b, e, h, q⟩ => ⟨r, a, b, e, same_st s h, q⟩) (fun D i v H1 xs o hD hx ⟨r, a, b, e, h, q⟩ => ⟨r, a, b, e, (KI.lst hx).tup _ _ h, q⟩) (by omega) (fun H5 s5 => ⟨same_st s5 h1, same_st s5 h3⟩) ?_ ?_ mono_two
                · rintro D i z H5 H5' hD hD5 hi s5 ⟨r, a, b, rfl, hr, rfl, ea, eb⟩ Q' k'
                  refine z_gTup (SqT.of upd_same) rfl ?_
                  walk_at "zz"
                  refine ⟨rfl, ?_⟩
                  walk_at "zz"
                  refine z_kTup (line_ge (by simp)) fun r2 H6 nr s6 h6 => ?_
                  exact k' _ H6 ((Same.new hr).trans s6) ⟨r2, a, b, rfl, SqT.of h6, ea, eb⟩
                · intro D H5 ws hD s5 hD5 hlw hws
                  have s25 := (s3.trans s4).trans s5
                  have pw : PairsAt K T.CM H5 ws (qs1.zip qs2) := zip_pairs (mades_same s5 h2) (mades_same s5 h4) el hlw hws
                  have zl := pairs_len ps'
                  have zz1 := pairsSize_zip qs1 qs2
                  have hp5 := s25 _ _ hp2
                  refine z_iadd hp5 hD5 (by rw [sizeLine_eq]; have := hps2.1; omega) ?_
                  walk_at "zz"
                  have kI5 : KI K H5 (upd H5 p (.lst (ys' ++ ws))) := KI.lst hp5
                  refine ⟨pairsSize (ps' ++ qs1.zip qs2), ?_, _, _, ys' ++ ws, ps' ++ qs1.zip qs2, rfl, Nm.Same.mut (sH2.trans s25) pn, upd_same, ((hps2.ki (KI.keep (same_keep s25))).app pw).ki kI5, rfl, ?_, ?_⟩
                  · rw [pairsSize_app, zab, Nm.T.size]
                    omega
                  · rw [pairsSize_app]
                    omega
                  · rw [heq', Nm.T.node.injEq]
                    subst em
                    have az := all_zip el
                    constructor
                    · rintro ⟨h5, _, h6⟩ q hq
                      rcases List.mem_append.mp hq with h | h
                      · exact h5 q h
                      · exact az.mpr h6 q h
                    · intro h
                      exact ⟨fun q hq => h q (by simp [hq]), rfl, az.mp fun q hq => h q (by simp [hq])⟩
        · walk_at "zz"
          refine z_cutB (!decide (a = b)) ?_ fun H4 s4 => ?_
          · walk_at "zz"
            refine z_isMade T.MM ha3 ?_
            walk_at "zz"
            refine z_ite (fun ea => ?_) (fun ea => ?_)
            · refine ⟨?_, Same.refl _⟩
              rw [ea, Bool.true_and] at ec
              rw [decide_eq_false fun q => by rw [q, ec] at ea; cases ea]
              rfl
            · walk_at "zz"
              refine z_isMade T.MM hb3 ?_
              walk_at "zz"
              refine z_ite (fun eb => ?_) (fun eb => ?_)
              · refine ⟨?_, Same.refl _⟩
                rw [decide_eq_false fun q => by rw [q, eb] at ea; cases ea]
                rfl
              · cases a with
                | node m qs => cases ea
                | num n =>
                  cases b with
                  | node m qs => cases eb
                  | num l =>
                    rw [MadeAt] at ha3 hb3
                    subst ha3 hb3
                    walk_at "zz"
                    refine ⟨?_, Same.refl _⟩
                    congr 1
                    exact decide_eq_decide.mpr (by simp)
          refine z_ite (fun e => ?_) (fun e => ?_)
          · walk_at "zz"
            exact no H4 (s3.trans s4) (of_decide_eq_false (not_t e))
          · walk_at "zz"
            exact on H4 _ _ (s3.trans s4) (of_decide_eq_true (not_f e))
      · subst he
        have e0 : ps = [] := List.eq_nil_of_length_eq_zero hps.1.symm
        subst e0
        walk_at "zz"
        have q := k H' sH
        rw [show decide (t = u) = true from decide_eq_true (heq.mpr (by simp))] at q
        exact q
end
end K04
namespace K04
open PySem PySem.Spec PyProof.Rows L2 Nm
theorem depth_mem {t : Nm.T} {ts : List Nm.T} {n : Nat} (h : t ∈ ts) (hd : 1 + depthAll ts ≤ n + 1) : t.depth ≤ n := depthAll_iff.mp (by omega) t h
section
variable {P : Program} {w : World} {K : PySem.W.Frag} {mg : Str → Option Value} {base : Heap}
def spOwn (K : PySem.W.Frag) (C : Addr) (n : Nat) : Sp := fun vs H Q _ => ∃ (x : V) (t : Nm.T), vs = [x] ∧ MadeAt K C H t x ∧ t.depth ≤ n ∧ t.size ≤ 1000000 ∧ ∀ v H', Same H H' → Dp K (Nw H H') v t.own → Q v H'
theorem ok_own (T : Tx P K mg) : ∀ n, FnOk P w K mg base CX0 (0 + n + 1) T.aown T.fdown ["_law_value"] (spOwn K T.CM n) := by
  refine rec_ok 0 (spOwn K T.CM) fun n Gown => ?_
  refine T.Down.F.ok scown (fun vs H Q E h => ?_) (fun cdv A outer s H vs Q E hr h => ?_)
  · obtain ⟨x, t, rfl, _⟩ := h
    rfl
  · obtain ⟨x, t, rfl, hx, hd, hz, k⟩ := h
    have hrown := hr
    have hu := hu_of hr
    refine ⟨_, pss_cons (ps_if (pt_val (pe_callB call_isi (by rfl) T.n_isinstance (by decide +kernel) (pa_cons (pv 0) (pa_cons (pe_bltn (v := .ty "int") rfl T.n_int (by decide +kernel) rfl) pa_nil))))
(pss_one (ps_ret (pv 0)))
(pss_nil))
(pss_one (ps_ret (pe_tup (pa_cons (pe_fld (pv 0) rfl) (pa_cons (pe_lc (own := [("_law_part", 1)]) rfl scown.nd (pi_tup (pe_fld (pv 0) rfl)) (blkOk_by (own := [("_law_part", 1)]) (N := ["_law_value", "_law_part"]) (sc := defScope sown) (by decide +kernel)) (fun _ _ _ _ _ => pg_name (i := 1) scown.nd rfl (Or.inl rfl)) (fun _ _ _ _ _ => pts_nil) (fun _ _ _ _ _ => pe_callN T.Down Gown hrown pass0 (pa_cons (pv 1) pa_nil))) pa_nil))))), ?_⟩
    walk_at "z0"
    walk_at "zz"
    refine z_isInt T.MM hx ?_
    walk_at "zz"
    cases t with
    | num l =>
      refine iteT ?_
      walk_at "zz"
      rw [MadeAt] at hx
      subst hx
      exact k _ H (Same.refl _) (by rw [Nm.T.own]; exact .int l)
    | node m qs =>
      refine iteF ?_
      rw [Nm.T.depth] at hd
      rw [Nm.T.size] at hz
      obtain ⟨n, rfl⟩ : ∃ n', n = n' + 1 := ⟨n - 1, by omega⟩
      walk_at "zz"
      refine z_maker T.MM hx ?_
      walk_at "zz"
      refine z_parts T.MM hx fun pp ws h2 h3 hl => ?_
      refine z_kIT h2 ?_
      have qz := sizeAll_len qs
      refine l_gen walk_tup (fun D i v H1 => ∀ s, qs[i]? = some s → Dp K (del (Nw H H1) D) v s.own) (fun D i v H1 H2 s h q e => dp_keep (same_keep (del_mono (nw_mono s))) (h q e)) (fun D i v H1 xs o hD hx h q e => dp_keep (same_keep del_upd) (h q e)) (by omega) (fun H5 s5 => same_st s5 h2) ?_ ?_ mono_name
      · rintro D i z H5 H5' hD hD5 hi s5 ⟨eH, ez⟩ Q' k'
        subst eH
        refine ⟨rfl, ?_⟩
        walk_at "zz"
        obtain ⟨s, es⟩ : ∃ s, qs[i]? = some s := ⟨_, List.getElem?_eq_getElem (by omega)⟩
        obtain ⟨v', ev, hv⟩ := mades_at h3 es
        rw [ez] at ev
        cases ev
        have ms := List.mem_of_getElem? es
        refine ⟨z, s, rfl, made_same s5 hv, depth_mem ms hd, by have := size_mem ms; omega, fun v H6 s6 hv6 => k' v H6 s6 fun s' e' => ?_⟩
        rw [es] at e'
        cases e'
        exact dp_keep (same_keep (nw_del (dom_same s5) hD5)) hv6
      · intro D H5 ys hD s5 hD5 hly hys
        walk_at "zz"
        refine z_kTup (line_ge (by simp)) fun p H6 np s6 h6 => ?_
        walk_at "zz"
        refine k _ H6 (s5.trans s6) (own_mk (l := D) (vs := ys) (SqT.of (nw_at ?_ h6)) (SqL.of (nw_at hD (s6 _ _ hD5))) (dps_own (by omega) fun i v t e1 e2 => dp_keep (same_keep (del_sub.trans (nw_mono s6))) (hys i v e1 t e2)))
        cases e : H p with
        | none => rfl
        | some o => rw [s5 _ _ e] at np; cases np
end
end K04

namespace K04
open PySem PySem.Spec PyProof.Rows L2 Nm K3 LamX
theorem ext_keep {H H' : Hp} (e : ExtN H H') : Keep H H' := fun b o h z => e b o h fun ps q => by subst q; cases z
theorem same_ext {H H' : Hp} (s : Same H H') : ExtN H H' := fun b o h _ => s b o h
/-- all but these and tables of code objects stands -/
def Cg (S : List Addr) (H H' : Hp) : Prop := ∀ b o, b ∉ S → H b = some o → (∀ ps, o ≠ .tbl ps) → H' b = some o
theorem Cg.trans {S : List Addr} {H H1 H2 : Hp} (a : Cg S H H1) (b : Cg S H1 H2) : Cg S H H2 := fun x o n h z => b x o n (a x o n h z) z
theorem Cg.of {S : List Addr} {H H' : Hp} (e : ExtN H H') : Cg S H H' := fun b o _ h z => e b o h z
theorem Cg.ofBut {S : List Addr} {a : Addr} {H H' : Hp} (h : a ∈ S) (b : But a H H') : Cg S H H' := fun x o n q _ => b x o (fun e => n (e ▸ h)) q
theorem Cg.more {S S' : List Addr} {H H' : Hp} (h : ∀ x ∈ S, x ∈ S') (e : Cg S H H') : Cg S' H H' := fun b o n q z => e b o (fun m => n (h b m)) q z
/-- nothing stands there, but perhaps a table -/
def NT (H : Hp) (x : Addr) : Prop := ∀ o, H x = some o → ∃ ps, o = .tbl ps
theorem nt_none {H : Hp} {x : Addr} (h : H x = none) : NT H x := fun o e => by rw [h] at e; cases e
theorem Cg.ext {S : List Addr} {H0 H H' : Hp} (h : ∀ x ∈ S, NT H0 x) (e : ExtN H0 H) (c : Cg S H H') : ExtN H0 H' := fun b o q z => c b o (fun m => by obtain ⟨ps, e2⟩ := h b m o q; exact z ps e2) (e b o q z) z
mutual
theorem dp_sq {K : PySem.W.Frag} {H H' : Hp} (kl : ∀ a xs, SqL K H a xs → SqL K H' a xs) (kt : ∀ a xs, SqT K H a xs → SqT K H' a xs) : ∀ {v : V} {d : PyData}, Dp K H v d → Dp K H' v d
  | _, _, .non => .non
  | _, _, .bl b => .bl b
  | _, _, .int i => .int i
  | _, _, .str x => .str x
  | _, _, .lst h l => .lst (kl _ _ h) (dps_sq kl kt l)
  | _, _, .tup h l => .tup (kt _ _ h) (dps_sq kl kt l)
theorem dps_sq {K : PySem.W.Frag} {H H' : Hp} (kl : ∀ a xs, SqL K H a xs → SqL K H' a xs) (kt : ∀ a xs, SqT K H a xs → SqT K H' a xs) : ∀ {v : List V} {d : List PyData}, DpAll K H v d → DpAll K H' v d
  | _, _, .nil => .nil
  | _, _, .cons h l => .cons (dp_sq kl kt h) (dps_sq kl kt l)
end
/-- an object that is no list and no tuple changes -/
theorem sqT_but {K : PySem.W.Frag} {H H' : Hp} {x C dx : Addr} {fs : List (Str × V)} (hx : H x = some (.ins C dx fs)) (b : But x H H') : ∀ a xs, SqT K H a xs → SqT K H' a xs := fun a xs h => by
  rcases h with (h | ⟨o, h⟩) | h
  · exact .inl (.inl (b _ _ (fun e => by rw [e, hx] at h; cases h) h))
  · exact .inl (.inr ⟨o, b _ _ (fun e => by rw [e, hx] at h; cases h) h⟩)
  · exact .inr h
theorem sqL_but {K : PySem.W.Frag} {H H' : Hp} {x C dx : Addr} {fs : List (Str × V)} (hx : H x = some (.ins C dx fs)) (b : But x H H') : ∀ a xs, SqL K H a xs → SqL K H' a xs := fun a xs h => by
  rcases h with (h | ⟨o, h⟩) | h
  · exact .inl (.inl (b _ _ (fun e => by rw [e, hx] at h; cases h) h))
  · exact .inl (.inr ⟨o, b _ _ (fun e => by rw [e, hx] at h; cases h) h⟩)
  · exact .inr h
def colOf (f : F) (n : Nat) : Nat := match f[n]? with
  | some p => p.2
  | none => match f.getLast? with
    | none => 1
    | some p => p.2 + p.1.length
abbrev txt (w : List Nat) : Str := ⟨w.toArray⟩
def nextV (f : F) (n : Nat) : V := match f[n]? with
  | some p => .str (txt p.1)
  | none => .non
def wfs (p : Addr) (l : Int) (n : Nat) : List (Str × V) := [("found", .ref p), ("line", .int l), ("at", .int (n : Nat))]
/-- the walk over a line's words -/
def WalkAt (K : PySem.W.Frag) (C : Addr) (H : Hp) (a : Addr) (f : F) (l : Int) (n : Nat) : Prop := ∃ dx p us, H a = some (.ins C dx (wfs p l n)) ∧ SqT K H p us ∧ DpAll K H us (f.map wd)
theorem WalkAt.keep {K : PySem.W.Frag} {C : Addr} {H H' : Hp} {a : Addr} {f : F} {l : Int} {n : Nat} (k : Keep H H') (h : WalkAt K C H a f l n) : WalkAt K C H' a f l n := by
  obtain ⟨dx, p, us, h1, h2, h3⟩ := h
  exact ⟨dx, p, us, k _ _ h1 rfl, k.t h2, dps_keep k h3⟩
def badX (l : Int) (c : Nat) : HO := .xd [("column", .int (c : Nat)), ("line", .int l)]
theorem z_kFld {K : PySem.W.Frag} {H : Hp} {Q : VK} {a C dx : Addr} {fs : List (Str × V)} {fl : Str} {v : V} (h : H a = some (.ins C dx fs)) (c : L2.Cls K C) (n : L2.NoAttr K C fl) (e : fs.lookup fl = some v) (q : Q v H) : kFld K fl Q (.ref a) H := ⟨a, C, dx, fs, v, rfl, h, c, n, e, q⟩
def kMeth (C : Addr) (m : Str) (sp : Sp) (dvs : List V) (E : XK) (σ : L2.St) (t : TA) (Q : VK) : VK := fun x H1 => ∃ a dx fs, x = .ref a ∧ H1 a = some (.ins C dx fs) ∧ fs.lookup m = none ∧ t σ H1 fun vs H2 => sp (x :: (vs ++ dvs)) H2 Q E
theorem z_meth {C : Addr} {m : Str} {sp : Sp} {dvs : List V} {E : XK} {σ : L2.St} {H : Hp} {ta : TE} {t : TA} {Q : VK} (h : ta σ H (kMeth C m sp dvs E σ t Q)) : tMeth C m sp dvs E ta t σ H Q := h
theorem z_kMeth {C a dx : Addr} {fs : List (Str × V)} {m : Str} {sp : Sp} {dvs : List V} {E : XK} {σ : L2.St} {H : Hp} {t : TA} {Q : VK} (h : H a = some (.ins C dx fs)) (e : fs.lookup m = none) (q : t σ H fun vs H2 => sp (.ref a :: (vs ++ dvs)) H2 Q E) : kMeth C m sp dvs E σ t Q (.ref a) H := ⟨a, dx, fs, rfl, h, e, q⟩
theorem wd_at {K : PySem.W.Frag} {H : Hp} : ∀ {us : List V} {f : F}, DpAll K H us (f.map wd) → us.length = f.length ∧ ∀ (i : Nat) (q : List Nat × Nat), f[i]? = some q → ∃ r, us[i]? = some (.ref r) ∧ SqT K H r [.str (txt q.1), .int (q.2 : Nat)]
  | us, [], h => by
    cases h
    exact ⟨rfl, fun i q e => by simp at e⟩
  | us, q :: f, h => by
    cases h with
    | cons h1 h2 =>
      obtain ⟨l, g⟩ := wd_at h2
      refine ⟨by rw [List.length_cons, List.length_cons, l], fun i q' e => ?_⟩
      cases i with
      | zero =>
        cases e
        cases h1 with
        | tup ht hs =>
          cases hs with
          | cons a1 hs => cases hs with
            | cons a2 hs =>
              cases hs
              cases a1
              cases a2
              exact ⟨_, rfl, ht⟩
      | succ i => exact g i q' e
section
variable {P : Program} {w : World} {K : PySem.W.Frag} {mg : Str → Option Value} {base : Heap}
/-- __init__ from a list of parts -/
def spMadeL (K : PySem.W.Frag) (C : Addr) : Sp := fun vs H Q _ => ∃ (x dx p : Addr) (m : V) (ws : List V), vs = [.ref x, m, .ref p] ∧ H x = some (.ins C dx []) ∧ H p = some (.lst ws) ∧
  ∀ fs q H', But x H H' → H' x = some (.ins C dx fs) → fs.lookup ("maker" : Str) = some m → fs.lookup ("parts" : Str) = some (V.ref q) → SqT K H' q ws → Q .non H'
theorem ok_initL (T : Tx P K mg) : FnOk P w K mg base CX0 1 T.ainit T.fdinit ["self", "maker", "parts"] (spMadeL K T.CM) := by
  refine T.Dinit.F.ok scinit (fun vs H Q E h => ?_) (fun cdv A outer s H vs Q E hr h => ?_)
  · obtain ⟨x, dx, p, m, ws, rfl, _⟩ := h
    rfl
  · obtain ⟨x, dx, p, m, ws, rfl, hx, hp, k⟩ := h
    have hu := hu_of hr
    refine ⟨_, pss_cons (ps_fld (pv 0) (pv 1) rfl)
(pss_one (ps_fld (pv 0) (pe_callTy call_tupleOf (by rfl) T.n_tuple (by decide +kernel) (pa_cons (pv 2) pa_nil)) rfl)), ?_⟩
    walk_at "z0"
    walk_at "zz"
    refine z_kSt hx T.MM.cl T.MM.nM (by decide) ?_
    walk_at "zz"
    have hp1 : (upd H x (.ins T.CM dx (putF "maker" m []))) p = some (.lst ws) := by
      rw [upd_ne (fun e => by rw [e, hx] at hp; cases hp)]
      exact hp
    refine z_tupleOfL (SqL.of hp1) fun q H2 nq s2 h2 => ?_
    walk_at "zz"
    refine z_kSt (s2 _ _ upd_same) T.MM.cl T.MM.nP (by show 1 < 1000; decide) ?_
    walk_at "zz"
    refine k (putF "parts" (.ref q) (putF "maker" m [])) q _ ?_ upd_same rfl rfl ?_
    · intro a o n e
      rw [upd_ne n]
      refine s2 _ _ ?_
      rw [upd_ne n]
      exact e
    · refine SqT.of ?_
      rw [upd_ne (fun e => by rw [e] at nq; rw [upd_same] at nq; cases nq)]
      exact h2
theorem z_madeL {C p : Addr} {E : XK} {H : Hp} {Q : VK} {m : V} {ws : List V} (h : H p = some (.lst ws)) (k : ∀ x fs q dx H', H x = none → Same H H' → H' x = some (.ins C dx fs) → fs.lookup ("maker" : Str) = some m → fs.lookup ("parts" : Str) = some (V.ref q) → SqT K H' q ws → Q (.ref x) H') : kMade C (spMadeL K C) E Q [m, .ref p] H := by
  intro x dx hx hdx hne
  refine ⟨x, dx, p, m, ws, rfl, upd_same, ?_, fun fs q H' b h1 h2 h3 h4 => ⟨rfl, k x fs q dx H' hx ?_ h1 h2 h3 h4⟩⟩
  · rw [upd_ne (ne_of_none h hx), upd_ne (ne_of_none h hdx)]
    exact h
  · intro a o e
    refine b a o (ne_of_none e hx) ?_
    rw [upd_ne (ne_of_none e hx), upd_ne (ne_of_none e hdx)]
    exact e
/-- LineWalk.__init__ -/
def spWinit (K : PySem.W.Frag) (C : Addr) : Sp := fun vs H Q _ => ∃ (x dx : Addr) (z : Str) (l : Int), vs = [.ref x, .str z, .int l] ∧ H x = some (.ins C dx []) ∧ z.length ≤ 100000 ∧ ∀ H', But x H H' → WalkAt K C H' x (words (tl z)) l 0 → Q .non H'
theorem ok_winit (T : Tx P K mg) : FnOk P w K mg base CX0 2 T.awinit T.fdwinit ["self", "line_text", "line"] (spWinit K T.CW) := by
  have Gwords : FnOk P w K mg base CX0 1 T.awords T.fdwords ["line"] (spWords K) := ok_words T
  refine T.Dwinit.F.ok scwinit (fun vs H Q E h => ?_) (fun cdv A outer s H vs Q E hr h => ?_)
  · obtain ⟨x, dx, z, l, rfl, _⟩ := h
    rfl
  · obtain ⟨x, dx, z, l, rfl, hx, hz, k⟩ := h
    have hu := hu_of hr
    have hrwords := hr
    refine ⟨_, pss_cons (ps_fld (pv 0) (pe_callN T.Dwords Gwords hrwords pass0 (pa_cons (pv 1) pa_nil)) rfl)
(pss_cons (ps_fld (pv 0) (pv 2) rfl)
(pss_one (ps_fld (pv 0) (pe_int) rfl))), ?_⟩
    walk_at "z0"
    walk_at "zz"
    refine ⟨z, rfl, hz, fun p us H1 s1 h1 hd => ?_⟩
    walk_at "zz"
    refine z_kSt (s1 _ _ hx) T.cW T.nW_found (by decide) ?_
    walk_at "zz"
    refine z_kSt upd_same T.cW T.nW_line (by show 1 < 1000; decide) ?_
    walk_at "zz"
    refine z_kSt upd_same T.cW T.nW_at (by show 2 < 1000; decide) ?_
    walk_at "zz"
    have hpx : p ≠ x := fun e => by
      have q := s1 _ _ hx
      rw [← e, h1] at q
      cases q
    have bb : But x H1 (upd (upd (upd H1 x (.ins T.CW dx (putF "found" (.ref p) []))) x (.ins T.CW dx (putF "line" (.int l) (putF "found" (.ref p) [])))) x (.ins T.CW dx (putF "at" (.int 0) (putF "line" (.int l) (putF "found" (.ref p) []))))) := fun b o n e => by
      rw [upd_ne n, upd_ne n, upd_ne n]
      exact e
    have i1 := s1 _ _ hx
    refine k _ (fun b o n e => bb b o n (s1 _ _ e)) ⟨dx, p, us, upd_same, SqT.of (bb _ _ hpx h1), ?_⟩
    exact dps_sq (sqL_but i1 bb) (sqT_but i1 bb) hd
end
end K04

namespace K04
open PySem PySem.Spec PyProof.Rows L2 Nm K3 LamX
theorem z_notNon {x : V} {H : Hp} {Q : VK} (h : x ≠ .non) (q : Q (.bl false) H) : nIsN x .non H Q := ⟨rfl, by rw [decide_eq_false h]; exact q⟩
theorem at_neg1 {α : Type} {xs : List α} {n : Nat} {x : α} (hl : xs.length = n + 1) (h : xs[n]? = some x) : atI xs (-1) = some x := by
  unfold atI ixN
  rw [if_neg (by decide), if_pos (by omega)]
  show xs[_]? = some x
  rw [← h]
  congr 1
  omega
section
variable {P : Program} {w : World} {K : PySem.W.Frag} {mg : Str → Option Value} {base : Heap}
def spNext (K : PySem.W.Frag) (C : Addr) : Sp := fun vs H Q _ => ∃ (a : Addr) (f : F) (l : Int) (n : Nat), vs = [.ref a] ∧ WalkAt K C H a f l n ∧ f.length ≤ 400000 ∧ ∀ H', Same H H' → Q (nextV f n) H'
theorem ok_next (T : Tx P K mg) : FnOk P w K mg base CX0 1 T.anext T.fdnext ["self"] (spNext K T.CW) := by
  refine T.Dnext.F.ok scnext (fun vs H Q E h => ?_) (fun cdv A outer s H vs Q E hr h => ?_)
  · obtain ⟨a, f, l, n, rfl, _⟩ := h
    rfl
  · obtain ⟨a, f, l, n, rfl, ⟨dx, p, us, ha, hp, hd⟩, hl, k⟩ := h
    have hu := hu_of hr
    obtain ⟨lus, hw⟩ := wd_at hd
    refine ⟨_, pss_one (ps_ret (pe_cut (pe_ifExp (pt_cmpR op_lt (pe_fld (pv 0) rfl) (pe_callB call_lenL (by rfl) T.n_len (by decide +kernel) (pa_cons (pe_fld (pv 0) rfl) pa_nil)) (nomark _)) (pe_ix ix_tup (pe_ix ix_tup (pe_fld (pv 0) rfl) (pe_fld (pv 0) rfl) (fun _ _ => rfl)) (pe_int) (fun _ _ => rfl)) (pe_non)))), ?_⟩
    walk_at "z0"
    walk_at "zz"
    refine z_cutV (nextV f n) ?_ fun H' s => ?_
    · walk_at "zz"
      refine z_kFld ha T.cW T.nW_at rfl ?_
      walk_at "zz"
      refine z_kFld ha T.cW T.nW_found rfl ?_
      walk_at "zz"
      refine z_lenT hp ?_
      walk_at "zz"
      refine z_ite (fun e => ?_) (fun e => ?_)
      · have e := of_decide_eq_true e
        obtain ⟨q, hq⟩ : ∃ q, f[n]? = some q := ⟨_, List.getElem?_eq_getElem (by omega)⟩
        obtain ⟨r, e1, h1⟩ := hw n q hq
        walk_at "zz"
        refine z_kFld ha T.cW T.nW_found rfl ?_
        walk_at "zz"
        refine z_kFld ha T.cW T.nW_at rfl ?_
        walk_at "zz"
        refine z_ixT hp (at_of rfl e1) ?_
        walk_at "zz"
        refine z_ixT h1 rfl ?_
        refine ⟨?_, Same.refl _⟩
        unfold nextV
        rw [hq]
      · have e := of_decide_eq_false e
        walk_at "zz"
        refine ⟨?_, Same.refl _⟩
        unfold nextV
        rw [List.getElem?_eq_none (by omega)]
    · walk_at "zz"
      exact k H' s
def spRefuse (K : PySem.W.Frag) (C CB : Addr) : Sp := fun vs H Q E => ∃ (a : Addr) (f : F) (l : Int) (n : Nat), vs = [.ref a] ∧ WalkAt K C H a f l n ∧ f.length ≤ 400000 ∧ (∀ q ∈ f, q.1.length ≤ 1000000) ∧ SeqAt.shaped (.tuple (f.map wd)) = true ∧
  ∀ d H', H d = none → Same H H' → H' d = some (badX l (colOf f n)) → E (.ref CB) (some d) H'
theorem ok_refuse (T : Tx P K mg) : FnOk P w K mg base (L2.CX P w) 3 T.arefuse T.fdrefuse ["self"] (spRefuse K T.CW T.CBadText) := by
  refine T.Drefuse.F.okX screfuse (fun vs H Q E h => ?_) (fun cdv A outer s H vs Q E hr h => ?_)
  · obtain ⟨a, f, l, n, rfl, _⟩ := h
    rfl
  · obtain ⟨a, f, l, n, rfl, ⟨dx, p, us, ha, hp, hd⟩, hl, hq, hsh, k⟩ := h
    have hu := hu_of hr
    obtain ⟨lus, hw⟩ := wd_at hd
    refine ⟨_, pss_cons (ps_if (pt_cmpR op_lt (pe_fld (pv 0) rfl) (pe_callB call_lenL (by rfl) T.n_len (by decide +kernel) (pa_cons (pe_fld (pv 0) rfl) pa_nil)) (nomark _))
(pss_one (ps_raiseE rfl T.EBadText (by decide) hr (takes_of rfl rfl rfl rfl) (pa_cons (pe_fld (pv 0) rfl) (pa_cons (pe_ix ix_tup (pe_ix ix_tup (pe_fld (pv 0) rfl) (pe_fld (pv 0) rfl) (fun _ _ => rfl)) (pe_int) (fun _ _ => rfl)) pa_nil))))
(pss_nil))
(pss_cons (ps_if (pt_cmpR (op_eqD hr.units) (pe_fld (pv 0) rfl) (pe_tup pa_nil) (nomark _))
(pss_one (ps_raiseE rfl T.EBadText (by decide) hr (takes_of rfl rfl rfl rfl) (pa_cons (pe_fld (pv 0) rfl) (pa_cons (pe_int) pa_nil))))
(pss_nil))
(pss_cons (ps_asg (pe_ix ix_tup (pe_fld (pv 0) rfl) (pe_un un_neg (pe_int)) (fun _ _ => rfl)) (pg_tup rfl (pgs_cons (pg_name (i := 1) screfuse.nd rfl (Or.inl rfl)) (pgs_cons (pg_name (i := 2) screfuse.nd rfl (Or.inl rfl)) pgs_nil))))
(pss_one (ps_raiseE rfl T.EBadText (by decide) hr (takes_of rfl rfl rfl rfl) (pa_cons (pe_fld (pv 0) rfl) (pa_cons (pe_op op_add (pv 2) (pe_callB call_lenS (by rfl) T.n_len (by decide +kernel) (pa_cons (pv 1) pa_nil))) pa_nil)))))), ?_⟩
    walk_at "z0"
    walk_at "zz"
    refine z_kFld ha T.cW T.nW_at rfl ?_
    walk_at "zz"
    refine z_kFld ha T.cW T.nW_found rfl ?_
    walk_at "zz"
    refine z_lenT hp ?_
    walk_at "zz"
    refine z_ite (fun e => ?_) (fun e => ?_)
    · have e := of_decide_eq_true e
      obtain ⟨q, hq⟩ : ∃ q, f[n]? = some q := ⟨_, List.getElem?_eq_getElem (by omega)⟩
      obtain ⟨r, e1, h1⟩ := hw n q hq
      walk_at "zz"
      refine z_kFld ha T.cW T.nW_line rfl ?_
      walk_at "zz"
      refine z_kFld ha T.cW T.nW_found rfl ?_
      walk_at "zz"
      refine z_kFld ha T.cW T.nW_at rfl ?_
      walk_at "zz"
      refine z_ixT hp (at_of rfl e1) ?_
      walk_at "zz"
      refine z_ixT h1 rfl ?_
      walk_at "zz"
      refine z_kErr rfl fun d H1 nd s1 hd1 => ?_
      refine k d H1 nd s1 ?_
      rw [hd1]
      unfold badX colOf
      rw [hq]
      rfl
    · have e := of_decide_eq_false e
      have en : f[n]? = none := List.getElem?_eq_none (by omega)
      walk_at "zz"
      refine z_kFld ha T.cW T.nW_found rfl ?_
      walk_at "zz"
      refine z_kTup (line_ge (by simp)) fun e0 H1 n1 s1 h1 => ?_
      refine z_eqD (d := .tuple (f.map wd)) (e := .tuple []) (.tup (same_st s1 hp) (dps_keep (same_keep s1) hd)) (.tup (SqT.of h1) .nil) hsh (by decide) ?_
      have ee : PyData.eqv (.tuple (f.map wd)) (.tuple []) = decide (f = []) := by
        rw [show PyData.eqv (.tuple (f.map wd)) (.tuple []) = PyData.eqvAll (f.map wd) [] from rfl, eqvAll_nil]
        exact decide_eq_decide.mpr (by simp)
      rw [ee]
      walk_at "zz"
      have ha1 := s1 _ _ ha
      refine z_ite (fun e2 => ?_) (fun e2 => ?_)
      · have e2 := of_decide_eq_true e2
        walk_at "zz"
        refine z_kFld ha1 T.cW T.nW_line rfl ?_
        walk_at "zz"
        refine z_kErr rfl fun d H2 nd s2 hd2 => ?_
        refine k d H2 (dom_same s1 _ nd) (s1.trans s2) ?_
        rw [hd2]
        unfold badX colOf
        subst e2
        rfl
      · have e2 := of_decide_eq_false e2
        walk_at "zz"
        refine z_kFld ha1 T.cW T.nW_found rfl ?_
        walk_at "zz"
        obtain ⟨f', q, rfl⟩ : ∃ f' q, f = f' ++ [q] := ⟨_, _, (List.dropLast_concat_getLast e2).symm⟩
        obtain ⟨r, e3, h3⟩ := hw f'.length q (by simp)
        rw [List.length_append, List.length_singleton] at lus
        refine z_ixT (same_st s1 hp) (v := .ref r) (at_neg1 lus e3) ?_
        walk_at "zz"
        refine z_gTup (same_st s1 h3) rfl ?_
        walk_at "zz"
        refine z_kFld ha1 T.cW T.nW_line rfl ?_
        walk_at "zz"
        have lq : (txt q.1).length = q.1.length := by rw [str_len, tl_mk]
        refine z_lenS (line_ge (by rw [lq]; exact hq q (by simp))) ?_
        walk_at "zz"
        refine z_kErr rfl fun d H2 nd s2 hd2 => ?_
        refine k d H2 (dom_same s1 _ nd) (s1.trans s2) ?_
        rw [hd2, lq]
        unfold badX colOf
        rw [en, List.getLast?_concat]
        rfl
def spEnd (K : PySem.W.Frag) (C CB : Addr) : Sp := fun vs H Q E => ∃ (a : Addr) (f : F) (l : Int) (n : Nat), vs = [.ref a] ∧ WalkAt K C H a f l n ∧ f.length ≤ 400000 ∧ (∀ q ∈ f, q.1.length ≤ 1000000) ∧ SeqAt.shaped (.tuple (f.map wd)) = true ∧
  (f[n]? = none → Q .non H) ∧ ∀ d H', f[n]? ≠ none → H d = none → Same H H' → H' d = some (badX l (colOf f n)) → E (.ref CB) (some d) H'
theorem ok_nend (T : Tx P K mg) : FnOk P w K mg base (L2.CX P w) 4 T.anend T.fdnend ["self"] (spEnd K T.CW T.CBadText) := by
  have Grefuse : FnOk P w K mg base (L2.CX P w) 3 T.arefuse T.fdrefuse ["self"] (spRefuse K T.CW T.CBadText) := ok_refuse T
  refine T.Dnend.F.okX scnend (fun vs H Q E h => ?_) (fun cdv A outer s H vs Q E hr h => ?_)
  · obtain ⟨a, f, l, n, rfl, _⟩ := h
    rfl
  · obtain ⟨a, f, l, n, rfl, hW, hl, hq, hsh, k1, k2⟩ := h
    have ⟨dx, p, us, ha, hp, hd⟩ := hW
    have hu := hu_of hr
    have hrrefuse := hr
    obtain ⟨lus, hw⟩ := wd_at hd
    refine ⟨_, pss_one (ps_if (pt_cmpR op_lt (pe_fld (pv 0) rfl) (pe_callB call_lenL (by rfl) T.n_len (by decide +kernel) (pa_cons (pe_fld (pv 0) rfl) pa_nil)) (nomark _))
(pss_one (ps_expr (pe_meth0 (pv 0) T.cW T.mW_refuse Grefuse hrrefuse T.Drefuse.b .nil (passX (takes_of rfl rfl rfl rfl)))))
(pss_nil)), ?_⟩
    walk_at "z0"
    walk_at "zz"
    refine z_kFld ha T.cW T.nW_at rfl ?_
    walk_at "zz"
    refine z_kFld ha T.cW T.nW_found rfl ?_
    walk_at "zz"
    refine z_lenT hp ?_
    walk_at "zz"
    refine z_ite (fun e => ?_) (fun e => ?_)
    · have e := of_decide_eq_true e
      have en : f[n]? ≠ none := fun h => by
        rw [List.getElem?_eq_none_iff] at h
        omega
      walk_at "zz"
      refine z_meth ?_
      walk_at "zz"
      refine z_kMeth ha rfl ?_
      exact ⟨a, f, l, n, rfl, hW, hl, hq, hsh, fun d H' nd s h => k2 d H' en nd s h⟩
    · have e := of_decide_eq_false e
      walk_at "zz"
      exact k1 (List.getElem?_eq_none (by omega))
end
end K04

namespace K04
open PySem PySem.Spec PyProof.Rows L2 Nm K3 LamX
def spTaken (K : PySem.W.Frag) (C CB : Addr) : TLam := fun tl ws H Q E => ∃ (a : Addr) (f : F) (l : Int) (n : Nat) (g : List Nat → Bool), ws = [.ref a] ∧ WalkAt K C H a f l n ∧ f.length ≤ 400000 ∧ (∀ q ∈ f, q.1.length ≤ 1000000) ∧ SeqAt.shaped (.tuple (f.map wd)) = true ∧
  (∀ q H1 (R : VK), f[n]? = some q → Same H H1 → (∀ H2, Same H1 H2 → R (.bl (g q.1)) H2) → tl (.str (txt q.1)) H1 R) ∧
  (∀ q H2, f[n]? = some q → g q.1 = true → But a H H2 → WalkAt K C H2 a f l (n + 1) → Q (.str (txt q.1)) H2) ∧
  (∀ d H2, (∀ q, f[n]? = some q → g q.1 = false) → H d = none → Same H H2 → H2 d = some (badX l (colOf f n)) → E (.ref CB) (some d) H2)
theorem taken_gives (X : Cx) (T : Tx X.prog X.K X.mg) (q : Str) (cdv : Value) : Gives X ["self", "is_right", "word"] "LineWalk.taken" (defScope staken) T.ataken cdv (defBody staken) 1 "is_right" q 3 (spTaken X.K T.CW T.CBadText) := by
  intro f c' s H E Q ws tl hr hact hc h
  obtain ⟨a, fs, l, n, g, rfl, hW, hl, hq, hsh, ht, k1, k2⟩ := h
  have ⟨dx, p, us, ha, hp, hd⟩ := hW
  have Gnext : FnOk X.prog X.w X.K X.mg X.base CX0 1 T.anext T.fdnext ["self"] (spNext X.K T.CW) := ok_next T
  have Grefuse : FnOk X.prog X.w X.K X.mg X.base (L2.CX X.prog X.w) 3 T.arefuse T.fdrefuse ["self"] (spRefuse X.K T.CW T.CBadText) := ok_refuse T
  have hrnext := hr.mono (j := 1) (by decide)
  have hrrefuse := hr.mono (j := 3) (by decide)
  have hu := hu_of hr
  rw [show ([V.ref a] ++ [V.ref f]) = [V.ref a, V.ref f] from rfl]
  refine ⟨_, pss_cons (ps_set (i := 2) sctaken.nd rfl (Or.inl rfl) (pe_meth0 (pv 0) T.cW T.mW_next Gnext hrnext T.Dnext.b .nil pass0))
(pss_cut (ps_if (pt_cut (PW.pt (pw_or (pt_cmpR op_isNn (pv 2) (pe_non) (nomark _)) (pw_or1 (pt_not (pt_val (hact _ _ _ _ (pv 2) rfl)))))))
(pss_one (ps_expr (pe_meth0 (pv 0) T.cW T.mW_refuse Grefuse hrrefuse T.Drefuse.b .nil (passX (takes_of rfl rfl rfl rfl)))))
(pss_nil))
(pss_cons (ps_fldaug (pv 0) (pe_int) in_add)
(pss_one (ps_ret (pv 2))))), ?_⟩
  walk_at "z0"
  walk_at "zz"
  refine z_meth ?_
  walk_at "zz"
  refine z_kMeth ha rfl ?_
  refine ⟨a, fs, l, n, rfl, hW, hl, fun H1 s1 => ?_⟩
  walk_at "zz"
  refine z_cut (fun σ' H' => σ' = [some (.ref a), some (.ref f), some (nextV fs n)] ∧ Same H H' ∧ ∃ q, fs[n]? = some q ∧ g q.1 = true) ?_ ?_
  · walk_at "zz"
    have hW1 := hW.keep (same_keep s1)
    have ha1 := s1 _ _ ha
    cases e : fs[n]? with
    | none =>
      have en : nextV fs n = .non := by unfold nextV; rw [e]
      rw [en]
      refine z_cutB true ?_ fun H2 s2 => ?_
      · walk_at "zz"
        exact ⟨rfl, Same.refl _⟩
      walk_at "zz"
      refine z_meth ?_
      walk_at "zz"
      refine z_kMeth (s2 _ _ ha1) rfl ?_
      exact ⟨a, fs, l, n, rfl, hW1.keep (same_keep s2), hl, hq, hsh, fun d H3 nd s3 h3 => k2 d H3 (fun q h => by rw [e] at h; cases h) (dom_same (s1.trans s2) _ nd) (s1.trans (s2.trans s3)) h3⟩
    | some w =>
      have en : nextV fs n = .str (txt w.1) := by unfold nextV; rw [e]
      rw [en]
      refine z_cutB (!g w.1) ?_ fun H2 s2 => ?_
      · walk_at "zz"
        refine ⟨rfl, ?_⟩
        walk_at "zz"
        refine ⟨s1 _ _ hc, ht w H1 _ e s1 fun H2 s2 => ?_⟩
        exact ⟨_, rfl, rfl, s2⟩
      refine z_ite (fun eg => ?_) (fun eg => ?_)
      · walk_at "zz"
        refine z_meth ?_
        walk_at "zz"
        refine z_kMeth (s2 _ _ ha1) rfl ?_
        exact ⟨a, fs, l, n, rfl, hW1.keep (same_keep s2), hl, hq, hsh, fun d H3 nd s3 h3 => k2 d H3 (fun q h => by rw [e] at h; cases h; exact not_t eg) (dom_same (s1.trans s2) _ nd) (s1.trans (s2.trans s3)) h3⟩
      · walk_at "zz"
        exact ⟨rfl, s1.trans s2, w, rfl, not_f eg⟩
  · rintro σ' H' ⟨rfl, sH, w, e, eg⟩
    have en : nextV fs n = .str (txt w.1) := by unfold nextV; rw [e]
    rw [en]
    have ha' := sH _ _ ha
    walk_at "zz"
    refine ⟨_, rfl, a, T.CW, dx, _, _, rfl, ha', T.cW, T.nW_at, rfl, ?_⟩
    walk_at "zz"
    refine ⟨_, _, rfl, rfl, dx, _, ha', by show 3 < 1000; decide, ?_⟩
    walk_at "zz"
    have b : But a H (upd H' a (.ins T.CW dx (putF "at" (.int ((n : Int) + 1)) (wfs p l n)))) := fun b o nb hb => by
      rw [upd_ne nb]
      exact sH _ _ hb
    refine k1 w _ e eg b ⟨dx, p, us, ?_, sqT_but ha b _ _ hp, dps_sq (sqL_but ha b) (sqT_but ha b) hd⟩
    rw [upd_same]
    rfl
def kLamM (C : Addr) (m : Str) (T : List (Addr × Str)) (TT : TLam) (E : XK) (tb : TE) (js : List Nat) (σ : L2.St) (Q : VK) : VK := fun x H1 => ∃ a dx fs, x = .ref a ∧ H1 a = some (.ins C dx fs) ∧ fs.lookup m = none ∧ Tabs T H1 ∧
  ∀ H2, ExtN H1 H2 → Tabs T H2 → TT (fun v H' Q' => tb (lamS σ js v) H' Q') [.ref a] H2 Q E
theorem z_lamM {C : Addr} {m : Str} {T : List (Addr × Str)} {TT : TLam} {E : XK} {ta tb : TE} {js : List Nat} {σ : L2.St} {H : Hp} {Q : VK} (h : ta σ H (kLamM C m T TT E tb js σ Q)) : tLamM C m T TT E ta tb js σ H Q := h
theorem z_kLamM {C a dx : Addr} {fs : List (Str × V)} {m : Str} {T : List (Addr × Str)} {TT : TLam} {E : XK} {tb : TE} {js : List Nat} {σ : L2.St} {H : Hp} {Q : VK} (h : H a = some (.ins C dx fs)) (e : fs.lookup m = none) (ht : Tabs T H)
    (k : ∀ H2, ExtN H H2 → Tabs T H2 → TT (fun v H' Q' => tb (lamS σ js v) H' Q') [.ref a] H2 Q E) : kLamM C m T TT E tb js σ Q (.ref a) H := ⟨a, dx, fs, rfl, h, e, ht, k⟩
theorem tabs_same {T : List (Addr × Str)} {H H' : Hp} (t : Tabs T H) (s : Same H H') : Tabs T H' := t.ext s
theorem tabs_but {T : List (Addr × Str)} {H H' : Hp} {a C dx : Addr} {fs : List (Str × V)} (t : Tabs T H) (ha : H a = some (.ins C dx fs)) (b : But a H H') : Tabs T H' := fun p hp => by
  obtain ⟨ps, h1, h2, h3⟩ := t p hp
  refine ⟨ps, b _ _ (fun e => by rw [e, ha] at h1; cases h1) h1, h2, fun pos cv hc => ?_⟩
  obtain ⟨c, e1, e2⟩ := h3 pos cv hc
  exact ⟨c, e1, b _ _ (fun e => by rw [e, ha] at e2; unfold CodeO at e2; cases e2) e2⟩
section
variable {P : Program} {w : World} {K : PySem.W.Frag} {mg : Str → Option Value} {base : Heap}
/-- the tables of the makers of lambdas -/
def tabs (T : Tx P K mg) : List (Addr × Str) := [(T.Pneed, ("LineWalk.need" : Str) ++ ".<locals>." ++ "<lambda>"), (T.Pbegun, ("begun" : Str) ++ ".<locals>." ++ "<lambda>")]
theorem tabs1 (T : Tx P K mg) : ∀ p ∈ tabs T, p.1 = T.Pneed → p.2 = ("LineWalk.need" : Str) ++ ".<locals>." ++ "<lambda>" := fun p hp e => by
  rcases List.mem_cons.mp hp with rfl | hp
  · rfl
  rcases List.mem_cons.mp hp with rfl | hp
  · exact absurd e.symm T.hP1
  cases hp
theorem tabs2 (T : Tx P K mg) : ∀ p ∈ tabs T, p.1 = T.Pbegun → p.2 = ("begun" : Str) ++ ".<locals>." ++ "<lambda>" := fun p hp e => by
  rcases List.mem_cons.mp hp with rfl | hp
  · exact absurd e T.hP1
  rcases List.mem_cons.mp hp with rfl | hp
  · rfl
  cases hp
/-- the words that a walk may stand over -/
structure WOk (f : F) : Prop where
  few : f.length ≤ 400000
  short : ∀ q ∈ f, q.1.length ≤ 1000000
  sh : SeqAt.shaped (.tuple (f.map wd)) = true
def spNeed (T : Tx P K mg) : Sp := fun vs H Q E => ∃ (a : Addr) (z : Str) (f : F) (l : Int) (n : Nat), vs = [.ref a, .str z] ∧ WalkAt K T.CW H a f l n ∧ WOk f ∧ Tabs (tabs T) H ∧
  (∀ q H2, f[n]? = some q → txt q.1 = z → Cg [a] H H2 → Tabs (tabs T) H2 → WalkAt K T.CW H2 a f l (n + 1) → Q .non H2) ∧
  (∀ d H2, (∀ q, f[n]? = some q → txt q.1 ≠ z) → ExtN H H2 → Tabs (tabs T) H2 → H2 d = some (badX l (colOf f n)) → E (.ref T.CBadText) (some d) H2)
theorem ok_need (T : Tx P K mg) (TB : TabB base mg T.cneed T.Pneed) : FnOk P w K mg base (L2.CX P w) 6 T.aneed T.fdneed ["self", "told"] (spNeed T) := by
  refine okC T.Dneed.F T.hcneed scneed (fun vs H Q E h => ?_) (fun A outer s H vs Q E hr h => ?_)
  · obtain ⟨a, z, f, l, n, rfl, _⟩ := h
    rfl
  · obtain ⟨a, z, f, l, n, rfl, hW, hok, hT, k1, k2⟩ := h
    have ⟨dx, p, us, ha, hp, hd⟩ := hW
    have hu := hu_of hr
    refine ⟨_, pss_one (ps_expr (pe_lamMF (js := [1]) (p := "word") (k := 3) (i := 1) (an := "is_right") (pv 0) T.cW T.mW_taken T.Dtaken rfl sctaken rfl (Or.inl rfl) (by decide) (by decide) (fun cdv => taken_gives (cxOf (L2.CX P w) P w K mg base ["self", "told"] "LineWalk.need" (defScope sneed) T.aneed (.ref T.cneed) A outer s H E) T _ cdv) TB rfl (.head _) (tabs1 T) hr
      ⟨rfl, rfl, rfl, by decide +kernel, rfl, by (intro y hy e; rcases List.mem_cons.mp hy with rfl | hy; (· cases e); rcases List.mem_cons.mp hy with rfl | hy; (· exact .inl rfl); cases hy), fun j hj => by rw [List.mem_singleton] at hj; subst hj; exact ⟨_, rfl, rfl⟩⟩ rfl (fun _ _ _ _ _ _ => rfl)
      (fun A outer s H f c' hr2 => pe_cmpR op_eq (pv 0) (pv 1) (nomark _)) (passX (takes_of rfl rfl rfl rfl)))), ?_⟩
    walk_at "z0"
    walk_at "zz"
    refine z_lamM ?_
    walk_at "zz"
    refine z_kLamM ha rfl hT fun H1 e1 hT1 => ?_
    have hT1 : Tabs (tabs T) H1 := hT1
    have hW1 := hW.keep (ext_keep e1)
    have ⟨dx1, p1, us1, ha1, _, _⟩ := hW1
    refine ⟨a, f, l, n, fun x => decide (txt x = z), rfl, hW1, hok.few, hok.short, hok.sh, fun q H2 R e s2 k => ?_, fun q H2 e eg b hW2 => ?_, fun d H2 hn nd s2 h2 => ?_⟩
    · walk_at "zz"
      exact k H2 (Same.refl _)
    · walk_at "zz"
      exact k1 q H2 e (of_decide_eq_true eg) ((Cg.of e1).trans (Cg.ofBut (by simp) b)) (tabs_but hT1 ha1 b) hW2
    · exact k2 d H2 (fun q e => of_decide_eq_false (hn q e)) (e1.trans (same_ext s2)) (tabs_same hT1 s2) h2
end
end K04

namespace K04
open PySem PySem.Spec PyProof.Rows L2 Nm K3 LamX
inductive BRes where
  | num (i : Int) (n : Nat)
  | leaf (m : Str) (n : Nat)
  | push (m : Str) (b : Bool) (n : Nat)
  | bad (c : Nat)
def intOf (w : List Nat) : Int := (PySem.intText? (txt w)).getD 0
def isW (f : F) (n : Nat) (w : List Nat) : Bool := decide ((f[n]?).map Prod.fst = some w)
def begB (f : F) (n : Nat) (emp : Bool) : BRes :=
  let inner := isW f n [40]
  let n1 := if inner then n + 1 else n
  match f[n1]? with
  | none => .bad (colOf f n1)
  | some q =>
    if isNum q.1 || isBig q.1 then
      if isNum q.1 then
        if inner then (if isW f (n1 + 1) [41] then .num (intOf q.1) (n1 + 2) else .bad (colOf f (n1 + 1))) else .num (intOf q.1) (n1 + 1)
      else if !inner && !emp then .leaf (txt q.1) (n1 + 1) else .push (txt q.1) inner (n1 + 1)
    else .bad (colOf f n1)
theorem e_lp : tl "(" = [40] := by decide +kernel
theorem e_rp : tl ")" = [41] := by decide +kernel
theorem txt_tl {w : List Nat} {z : Str} : txt w = z ↔ w = tl z := by
  rw [str_eq, tl_mk]
theorem next_is {f : F} {n : Nat} {z : Str} {k : List Nat} (h : tl z = k) : decide (nextV f n = .str z) = isW f n k := by
  unfold nextV isW
  refine decide_eq_decide.mpr ?_
  cases f[n]? with
  | none => simp
  | some q =>
    show V.str (txt q.1) = V.str z ↔ some q.1 = some k
    rw [← h, Option.some.injEq, ← txt_tl]
    simp
theorem isW_at {f : F} {n : Nat} {k : List Nat} (h : isW f n k = true) : ∃ q, f[n]? = some q ∧ q.1 = k := by
  have h := of_decide_eq_true h
  cases e : f[n]? with
  | none => rw [e] at h; cases h
  | some q => rw [e] at h; exact ⟨q, rfl, Option.some.inj h⟩
theorem next_scal {f : F} {n : Nat} {z : Str} : scal (nextV f n) (.str z) = true := by
  unfold nextV
  cases f[n]? with
  | none => rfl
  | some q => rfl
theorem num_len {w : List Nat} (h : isNum w = true) : (txt w).length ≤ 640 := by
  rw [str_len, tl_mk]
  unfold isNum at h
  simp only [Bool.and_eq_true, decide_eq_true_eq] at h
  have h2 := h.1.1.2
  unfold digs at h2
  split at h2
  · rw [List.length_drop] at h2
    omega
  · omega
def IntOk : Prop := ∀ w : List Nat, isNum w = true → ∃ i, PySem.intText? (txt w) = some i
theorem tabs_lst {T : List (Addr × Str)} {H H' : Hp} {a : Addr} {xs : List V} (t : Tabs T H) (ha : H a = some (.lst xs)) (b : But a H H') : Tabs T H' := fun p hp => by
  obtain ⟨ps, h1, h2, h3⟩ := t p hp
  refine ⟨ps, b _ _ (fun e => by rw [e, ha] at h1; cases h1) h1, h2, fun pos cv hc => ?_⟩
  obtain ⟨c, e1, e2⟩ := h3 pos cv hc
  exact ⟨c, e1, b _ _ (fun e => by rw [e, ha] at e2; unfold CodeO at e2; cases e2) e2⟩
/-- nothing that is known stands there, but perhaps a table -/
def Fresh (T : List (Addr × Str)) (H : Hp) (q : Addr) : Prop := (∀ o, H q = some o → ∃ ps, o = .tbl ps) ∧ ∀ p ∈ T, p.1 ≠ q
theorem fresh_cg {T : List (Addr × Str)} {H H' : Hp} {a q : Addr} (h : H' q = none) (t : Tabs T H') (c : Cg [a] H H') (ha : H' a ≠ none) : Fresh T H q := by
  refine ⟨fun o e => ?_, fun p hp e => ?_⟩
  · apply Classical.byContradiction
    intro n
    have := c q o (by rw [List.mem_singleton]; intro e2; rw [e2] at h; exact ha h) e fun ps e3 => n ⟨ps, e3⟩
    rw [h] at this
    cases this
  · obtain ⟨ps, h1, _⟩ := t p hp
    rw [e, h] at h1
    cases h1
/-- words stand where tuples stand -/
theorem dps_wd {K : PySem.W.Frag} {H H' : Hp} (kt : ∀ a xs, SqT K H a xs → SqT K H' a xs) : ∀ {us : List V} {f : F}, DpAll K H us (f.map wd) → DpAll K H' us (f.map wd)
  | us, [], h => by cases h; exact .nil
  | us, q :: f, h => by
    cases h with
    | cons h1 h2 =>
      cases h1 with
      | tup ht hs =>
        cases hs with
        | cons a1 hs => cases hs with
          | cons a2 hs =>
            cases hs
            cases a1
            cases a2
            exact .cons (.tup (kt _ _ ht) (.cons (.str _) (.cons (.int _) .nil))) (dps_wd kt h2)
section
variable {P : Program} {w : World} {K : PySem.W.Frag} {mg : Str → Option Value} {base : Heap}
def spBegun (T : Tx P K mg) : Sp := fun vs H Q E => ∃ (a p : Addr) (f : F) (l : Int) (n : Nat) (fr : List V), vs = [.ref a, .ref p] ∧ WalkAt K T.CW H a f l n ∧ WOk f ∧ (∀ q ∈ f, q.1.length ≤ 100000) ∧ Tabs (tabs T) H ∧ H p = some (.lst fr) ∧ fr.length ≤ 1000000 ∧
  (∀ i n' H2, begB f n (decide (fr = [])) = .num i n' → Cg [a] H H2 → Tabs (tabs T) H2 → WalkAt K T.CW H2 a f l n' → Q (.int i) H2) ∧
  (∀ m n' v H2, begB f n (decide (fr = [])) = .leaf m n' → Cg [a] H H2 → Tabs (tabs T) H2 → WalkAt K T.CW H2 a f l n' → MadeAt K T.CM H2 (.node m []) v → Q v H2) ∧
  (∀ m b n' r q H2, begB f n (decide (fr = [])) = .push m b n' → Cg [a, p] H H2 → Tabs (tabs T) H2 → WalkAt K T.CW H2 a f l n' → H2 p = some (.lst (fr ++ [.ref r])) → SqT K H2 r [.str m, .ref q, .bl b] → H2 q = some (.lst []) → Fresh (tabs T) H q → Q .non H2) ∧
  (∀ c d H2, begB f n (decide (fr = [])) = .bad c → Cg [a] H H2 → Tabs (tabs T) H2 → H2 d = some (badX l c) → E (.ref T.CBadText) (some d) H2)
theorem ok_begun (T : Tx P K mg) (hI : IntOk) (TN : TabB base mg T.cneed T.Pneed) (TB : TabB base mg T.cbegun T.Pbegun) : FnOk P w K mg base (L2.CX P w) 7 T.abegun T.fdbegun ["walk", "frames"] (spBegun T) := by
  have Gnext : FnOk P w K mg base CX0 1 T.anext T.fdnext ["self"] (spNext K T.CW) := ok_next T
  have Gneed : FnOk P w K mg base (L2.CX P w) 6 T.aneed T.fdneed ["self", "told"] (spNeed T) := ok_need T TN
  have Gnumber : FnOk P w K mg base CX0 1 T.anumber T.fdnumber ["word"] (spW isNum) := ok_number T
  have Gbig : FnOk P w K mg base CX0 2 T.abig T.fdbig ["word"] (spW isBig) := ok_big T
  have Ginit : FnOk P w K mg base CX0 1 T.ainit T.fdinit ["self", "maker", "parts"] (spMadeI K T.CM) := ok_init T
  refine okC T.Dbegun.F T.hcbegun scbegun (fun vs H Q E h => ?_) (fun A outer s H vs Q E hr h => ?_)
  · obtain ⟨a, p, f, l, n, fr, rfl, _⟩ := h
    rfl
  · obtain ⟨a, p, f, l, n, fr, rfl, hW, hok, hqs, hT, hp, hfr, k1, k2, k3, k4⟩ := h
    have ⟨dx, pw, us, ha, _, _⟩ := hW
    have hu := hu_of hr
    have hrnext := hr.mono (j := 1) (by decide)
    have hrneed := hr
    have hrnumber := hrnext
    have hrinit := hr.mono (j := 2) (by decide)
    have nap : a ≠ p := fun e => by rw [e, hp] at ha; cases ha
    refine ⟨_, pss_cons (ps_set (i := 2) scbegun.nd rfl (Or.inl rfl) (pe_cmpR op_eq (pe_meth0 (pv 0) T.cW T.mW_next Gnext hrnext T.Dnext.b .nil pass0) (pe_str) (nomark _)))
(pss_cut (ps_if (pt_val (pv 2))
(pss_one (ps_expr (pe_meth (pv 0) T.cW T.mW_need Gneed hrneed T.Dneed.b .nil (passX (takes_of rfl rfl rfl rfl)) (pa_cons (pe_str) pa_nil))))
(pss_nil))
(pss_cons (ps_set (i := 3) scbegun.nd rfl (Or.inl rfl) (pe_lamMF (js := []) (p := "word") (k := 3) (i := 1) (an := "is_right") (pv 0) T.cW T.mW_taken T.Dtaken rfl sctaken rfl (Or.inl rfl) (by decide) (by decide) (fun cdv => taken_gives (cxOf (L2.CX P w) P w K mg base ["walk", "frames", "is_inner", "word"] "begun" (defScope sbegun) T.abegun (.ref T.cbegun) A outer s H E) T _ cdv) TB rfl (.tail _ (.head _)) (tabs2 T) (hr.mono (j := 5) (by decide)) (lam1_by (sc := defScope sbegun) (N := ["walk", "frames", "is_inner", "word"]) (by decide +kernel) (fun j hj => by cases hj)) rfl (fun _ _ _ _ _ _ => rfl) (fun A outer s H f c' hr2 => pe_or (pe_callN T.Dnumber Gnumber (hr2.mono (j := 1) (by decide)) pass0 (pa_cons (pv 0) pa_nil)) (pe_one (pe_callN T.Dbig Gbig (hr2.mono (j := 2) (by decide)) pass0 (pa_cons (pv 0) pa_nil)))) (passX (takes_of rfl rfl rfl rfl))))
(pss_cons (ps_if (pt_val (pe_callN T.Dnumber Gnumber hrnumber pass0 (pa_cons (pv 3) pa_nil)))
(pss_cut (ps_if (pt_val (pv 2))
(pss_one (ps_expr (pe_meth (pv 0) T.cW T.mW_need Gneed hrneed T.Dneed.b .nil (passX (takes_of rfl rfl rfl rfl)) (pa_cons (pe_str) pa_nil))))
(pss_nil))
(pss_one (ps_ret (pe_callTy call_int_str (by rfl) T.n_int (by decide +kernel) (pa_cons (pv 3) pa_nil)))))
(pss_nil))
(pss_cons (ps_if (pt_cut (PW.pt (pw_and (pt_not (pt_val (pv 2))) (pw_and1 (pt_cmpR (op_neN (Nat.lt_of_succ_lt hu)) (pv 1) (pe_lst pa_nil) (nomark _))))))
(pss_one (ps_ret (pe_make T.M_Made Ginit hrinit rfl T.g_Made T.Dinit.b .nil pass0 (pa_cons (pv 3) (pa_cons (pe_tup pa_nil) pa_nil)))))
(pss_nil))
(pss_cons (ps_expr (pe_bm PySem.F.plainAttrs_list PySem.F.slot_list_append PySem.F.type_list_append mt_append (pv 1) (pa_cons (pe_tup (pa_cons (pv 3) (pa_cons (pe_lst pa_nil) (pa_cons (pv 2) pa_nil)))) pa_nil)))
(pss_one (ps_ret (pe_non)))))))), ?_⟩
    walk_at "z0"
    walk_at "zz"
    refine z_meth ?_
    walk_at "zz"
    refine z_kMeth ha rfl ?_
    refine ⟨a, f, l, n, rfl, hW, hok.few, fun H1 s1 => ?_⟩
    walk_at "zz"
    refine z_eq next_scal ?_
    rw [next_is e_lp]
    walk_at "zz"
    have hT1 := tabs_same hT s1
    have hW1 := hW.keep (same_keep s1)
    have ha1 := s1 _ _ ha
    have hp1 := s1 _ _ hp
    have key : ∀ (inner : Bool) (n1 : Nat), isW f n [40] = inner → (if inner = true then n + 1 else n) = n1 → begB f n (decide (fr = [])) = (match f[n1]? with
        | none => .bad (colOf f n1)
        | some q => if isNum q.1 || isBig q.1 then
            if isNum q.1 then (if inner then (if isW f (n1 + 1) [41] then .num (intOf q.1) (n1 + 2) else .bad (colOf f (n1 + 1))) else .num (intOf q.1) (n1 + 1))
            else if !inner && !decide (fr = []) then .leaf (txt q.1) (n1 + 1) else .push (txt q.1) inner (n1 + 1)
          else .bad (colOf f n1)) := fun inner n1 e1 e2 => by
      subst e1
      subst e2
      rfl
    generalize ei : isW f n [40] = inner at *
    refine z_cut (fun σ' H' => ∃ n1, (if inner = true then n + 1 else n) = n1 ∧ σ' = [some (.ref a), some (.ref p), some (.bl inner), none] ∧ Cg [a] H H' ∧ Tabs (tabs T) H' ∧ WalkAt K T.CW H' a f l n1) ?_ ?_
    · walk_at "zz"
      refine z_ite (fun e => ?_) (fun e => ?_)
      · subst e
        walk_at "zz"
        refine z_meth ?_
        walk_at "zz"
        refine z_kMeth ha1 rfl ?_
        walk_at "zz"
        obtain ⟨q0, eq0, eq1⟩ := isW_at ei
        refine ⟨a, "(", f, l, n, rfl, hW1, hok, hT1, fun q H2 e1 e2 c2 hT2 hW2 => ?_, fun d H2 hn => absurd (txt_tl.mpr (by rw [eq1, e_lp])) (hn q0 eq0)⟩
        walk_at "zz"
        exact ⟨_, rfl, rfl, (Cg.of (same_ext s1)).trans c2, hT2, hW2⟩
      · subst e
        walk_at "zz"
        exact ⟨_, rfl, rfl, Cg.of (same_ext s1), hT1, hW1⟩
    rintro σ' H2 ⟨n1, en1, rfl, c2, hT2, hW2⟩
    have ke := key inner n1 rfl en1
    have ⟨dx2, pw2, us2, ha2, _, _⟩ := hW2
    have hp2 : H2 p = some (.lst fr) := c2 p _ (by simp [nap.symm]) hp (fun ps e => by cases e)
    walk_at "zz"
    refine z_lamM ?_
    walk_at "zz"
    refine z_kLamM ha2 rfl hT2 fun H3 e3 hT3 => ?_
    have hT3 : Tabs (tabs T) H3 := hT3
    have hW3 := hW2.keep (ext_keep e3)
    have ⟨dx3, pw3, us3, ha3, _, _⟩ := hW3
    have c3 := c2.trans (Cg.of e3)
    refine ⟨a, f, l, n1, fun x => isNum x || isBig x, rfl, hW3, hok.few, hok.short, hok.sh, fun q H4 R e s4 k => ?_, fun q H4 e eg b4 hW4 => ?_, fun d H4 hn nd s4 h4 => ?_⟩
    · have lq : (txt q.1).length ≤ 100000 := by rw [str_len, tl_mk]; exact hqs q (List.mem_of_getElem? e)
      walk_at "zz"
      refine ⟨_, rfl, lq, fun b H5 eb s5 => ?_⟩
      rw [tl_mk] at eb
      subst eb
      walk_at "zz"
      refine z_ite (fun e1 => ?_) (fun e1 => ?_)
      · have : R (.bl (isNum q.1 || isBig q.1)) H5 := k H5 s5
        rw [e1, Bool.true_or] at this
        exact this
      · walk_at "zz"
        refine ⟨_, rfl, lq, fun b H6 eb s6 => ?_⟩
        rw [tl_mk] at eb
        subst eb
        have : R (.bl (isNum q.1 || isBig q.1)) H6 := k H6 (s5.trans s6)
        rw [e1, Bool.false_or] at this
        exact this
    · have ke : begB f n (decide (fr = [])) = _ := ke
      rw [e] at ke
      simp only [eg, if_true] at ke
      have lq : (txt q.1).length ≤ 100000 := by rw [str_len, tl_mk]; exact hqs q (List.mem_of_getElem? e)
      have hT4 := tabs_but hT3 ha3 b4
      have c4 : Cg [a] H H4 := c3.trans (Cg.ofBut (by simp) b4)
      have ⟨dx4, pw4, us4, ha4, _, _⟩ := hW4
      walk_at "zz"
      refine ⟨_, rfl, lq, fun b H5 eb s5 => ?_⟩
      rw [tl_mk] at eb
      subst eb
      walk_at "zz"
      have hT5 := tabs_same hT4 s5
      have hW5 := hW4.keep (same_keep s5)
      have c5 := c4.trans (Cg.of (same_ext s5))
      have ha5 := s5 _ _ ha4
      refine z_ite (fun e1 => ?_) (fun e1 => ?_)
      · simp only [e1, if_true] at ke
        obtain ⟨i, hi⟩ := hI _ e1
        have ii : intOf q.1 = i := by unfold intOf; rw [hi]; rfl
        have l640 : (txt q.1).length ≤ 640 := num_len e1
        refine z_cut (fun σ' H' => ∃ n2, begB f n (decide (fr = [])) = .num i n2 ∧ σ' = [some (.ref a), some (.ref p), some (.bl inner), some (.str (txt q.1))] ∧ Cg [a] H H' ∧ Tabs (tabs T) H' ∧ WalkAt K T.CW H' a f l n2) ?_ ?_
        · walk_at "zz"
          refine z_ite (fun e2 => ?_) (fun e2 => ?_)
          · subst e2
            simp only [if_true] at ke
            walk_at "zz"
            refine z_meth ?_
            walk_at "zz"
            refine z_kMeth ha5 rfl ?_
            walk_at "zz"
            refine ⟨a, ")", f, l, n1 + 1, rfl, hW5, hok, hT5, fun q' H6 e3 e4 c6 hT6 hW6 => ?_, fun d H6 hn c6 hT6 h6 => ?_⟩
            · walk_at "zz"
              refine ⟨_, ?_, rfl, c5.trans c6, hT6, hW6⟩
              have : isW f (n1 + 1) [41] = true := by
                unfold isW
                rw [e3]
                refine decide_eq_true ?_
                show some q'.1 = some [41]
                rw [txt_tl.mp e4, e_rp]
              rw [ke, this, ii]
              rfl
            · refine k4 _ d H6 ?_ (c5.trans (Cg.of c6)) hT6 h6
              have : isW f (n1 + 1) [41] = false := by
                rw [Bool.eq_false_iff]
                intro h
                obtain ⟨q', e3, e4⟩ := isW_at h
                exact hn q' e3 (txt_tl.mpr (by rw [e4, e_rp]))
              rw [ke, this]
              rfl
          · subst e2
            walk_at "zz"
            exact ⟨_, by rw [ke, ii]; rfl, rfl, c5, hT5, hW5⟩
        · rintro σ' H6 ⟨n2, kn, rfl, c6, hT6, hW6⟩
          walk_at "zz"
          refine ⟨_, i, rfl, hi, l640, ?_⟩
          walk_at "zz"
          exact k1 i n2 H6 kn c6 hT6 hW6
      · simp only [e1, Bool.false_eq_true, if_false] at ke
        walk_at "zz"
        refine z_cutB (!inner && !decide (fr = [])) ?_ fun H6 s6 => ?_
        · walk_at "zz"
          cases inner with
          | true =>
            walk_at "zz"
            exact ⟨rfl, Same.refl _⟩
          | false =>
            walk_at "zz"
            refine z_kLst (line_ge (by simp)) fun l0 H6 n6 s6 h6 => ?_
            refine z_neNL (SqL.of (s6 _ _ (c5 p _ (by simp [nap.symm]) hp fun ps e => by cases e))) (SqL.of h6) ?_
            walk_at "zz"
            exact ⟨rfl, s6⟩
        have hT6 := tabs_same hT5 s6
        have hW6 := hW5.keep (same_keep s6)
        have c6 := c5.trans (Cg.of (same_ext s6))
        have hp6 : H6 p = some (.lst fr) := c6 p _ (by simp [nap.symm]) hp fun ps e => by cases e
        refine z_ite (fun e2 => ?_) (fun e2 => ?_)
        · rw [e2] at ke
          walk_at "zz"
          refine z_kTup (line_ge (by simp)) fun e0 H7 n7 s7 h7 => ?_
          walk_at "zz"
          refine z_made (SqT.of h7) fun x dx fs H8 nx s8 h8 h9 h10 => ?_
          walk_at "zz"
          have s78 := s7.trans s8
          refine k2 (txt q.1) (n1 + 1) _ H8 ?_ (c6.trans (Cg.of (same_ext s78))) (tabs_same hT6 s78) (hW6.keep (same_keep s78)) (made_mk h8 h9 h10 (SqT.of (s8 _ _ h7)) (by rw [MadeAll]))
          rw [ke]
          rfl
        · rw [e2] at ke
          walk_at "zz"
          refine ⟨ty_lst hp6, ?_⟩
          walk_at "zz"
          refine z_kLst (line_ge (by simp)) fun q0 H7 n7 s7 h7 => ?_
          walk_at "zz"
          refine z_kTup (line_ge (by simp)) fun r H8 n8 s8 h8 => ?_
          walk_at "zz"
          have s78 := s7.trans s8
          have hp8 := s78 _ _ hp6
          refine z_app hp8 (by rw [sizeLine_eq]; omega) ?_
          walk_at "zz"
          have b9 : But p H8 (upd H8 p (.lst (fr ++ [.ref r]))) := fun b o nb h => by rw [upd_ne nb]; exact h
          have h9 : (upd H8 p (.lst (fr ++ [.ref r]))) p = some (.lst (fr ++ [.ref r])) := upd_same
          generalize upd H8 p (.lst (fr ++ [.ref r])) = H9 at b9 h9 ⊢
          have c9 : Cg [p] H6 H9 := (Cg.of (same_ext s78)).trans (Cg.ofBut (by simp) b9)
          have nr : r ≠ p := fun e => by rw [e] at n8; rw [s7 _ _ hp6] at n8; cases n8
          have nq : q0 ≠ p := fun e => by rw [e] at n7; rw [hp6] at n7; cases n7
          have ⟨dx8, pw8, us8, ha8, hpw8, hd8⟩ := hW6.keep (same_keep s78)
          have lt8 : ∀ b xs, SqT K H8 b xs → SqT K H9 b xs := fun b xs h => by
            rcases h with (h | ⟨o, h⟩) | h
            · exact .inl (.inl (b9 _ _ (fun e => by rw [e, hp8] at h; cases h) h))
            · exact .inl (.inr ⟨o, b9 _ _ (fun e => by rw [e, hp8] at h; cases h) h⟩)
            · exact .inr h
          refine k3 (txt q.1) inner (n1 + 1) r q0 H9 ?_ (c6.more (by simp) |>.trans (c9.more (by simp))) (tabs_lst (tabs_same hT6 s78) hp8 b9) ⟨dx8, pw8, us8, b9 _ _ nap ha8, lt8 _ _ hpw8, dps_wd lt8 hd8⟩ h9 (lt8 _ _ (SqT.of h8)) (b9 _ _ nq (s8 _ _ h7)) (fresh_cg n7 hT6 c6 (by obtain ⟨_, _, _, h, _⟩ := hW6; rw [h]; simp))
          rw [ke]
          rfl
    · refine k4 (colOf f n1) d H4 ?_ (c3.trans (Cg.of (same_ext s4))) (tabs_same hT3 s4) h4
      rw [ke]
      cases e : f[n1]? with
      | none => rfl
      | some q =>
        have := hn q e
        show (if isNum q.1 || isBig q.1 then _ else BRes.bad (colOf f n1)) = _
        rw [show (isNum q.1 || isBig q.1) = false from this]
        rfl
end
end K04

namespace K04
open PySem PySem.Spec PyProof.Rows L2 Nm K3 LamX
/-! the reader as a machine; the innermost frame stands ahead -/
abbrev Fr := Str × List Nm.T × Bool
inductive Step where
  | fin (t : Nm.T)
  | bad (c : Nat)
  | next (n : Nat) (fr : List Fr) (d : Option Nm.T)
inductive Out where
  | ok (t : Nm.T)
  | bad (c : Nat)
/-- the frame's end is here -/
def ends (f : F) (n : Nat) (b : Bool) : Bool := if b then isW f n [41] else decide (f[n]? = none)
def stepV (f : F) (n : Nat) (fr : List Fr) (d : Option Nm.T) : Step :=
  match d with
  | some t => match fr with
    | [] => match f[n]? with
      | none => .fin t
      | some _ => .bad (colOf f n)
    | (m, ps, b) :: r => .next n ((m, ps ++ [t], b) :: r) none
  | none =>
    match fr with
    | (m, ps, b) :: r =>
      if ends f n b then .next (if b then n + 1 else n) r (some (.node m ps))
      else match begB f n false with
        | .num i n' => .next n' fr (some (.num i))
        | .leaf m' n' => .next n' fr (some (.node m' []))
        | .push m' b' n' => .next n' ((m', [], b') :: fr) none
        | .bad c => .bad c
    | [] => match begB f n true with
        | .num i n' => .next n' fr (some (.num i))
        | .leaf m' n' => .next n' fr (some (.node m' []))
        | .push m' b' n' => .next n' ((m', [], b') :: fr) none
        | .bad c => .bad c
def meas (f : F) (n : Nat) (fr : List Fr) (d : Option Nm.T) : Nat := 3 * (f.length - n) + 2 * fr.length + (if d.isSome then 1 else 0)
def begN : BRes → Option Nat
  | .num _ n => some n
  | .leaf _ n => some n
  | .push _ _ n => some n
  | .bad _ => none
theorem isW_lt {f : F} {n : Nat} {k : List Nat} (h : isW f n k = true) : n < f.length := by
  obtain ⟨q, e, _⟩ := isW_at h
  exact (List.getElem?_eq_some_iff.mp e).1
theorem beg_n {f : F} {n n' : Nat} {e : Bool} (h : begN (begB f n e) = some n') : n < n' ∧ n' ≤ f.length := by
  unfold begB at h
  dsimp only at h
  generalize hn : (if isW f n [40] = true then n + 1 else n) = n1 at h
  have h1 : n ≤ n1 := by rw [← hn]; split <;> omega
  cases eq : f[n1]? with
  | none => rw [eq] at h; cases h
  | some q =>
    have hl : n1 < f.length := (List.getElem?_eq_some_iff.mp eq).1
    rw [eq] at h
    dsimp only at h
    split at h
    · split at h
      · split at h
        · split at h
          · rename_i h3
            have := isW_lt h3
            cases h
            omega
          · cases h
        · cases h
          omega
      · split at h
        · cases h
          omega
        · cases h
          omega
    · cases h
theorem step_less {f : F} {n n' : Nat} {fr fr' : List Fr} {d d' : Option Nm.T} (h : stepV f n fr d = .next n' fr' d') : meas f n' fr' d' < meas f n fr d := by
  unfold stepV at h
  cases d with
  | some t =>
    cases fr with
    | nil => dsimp only at h; cases e : f[n]? with
      | none => rw [e] at h; cases h
      | some q => rw [e] at h; cases h
    | cons x r =>
      obtain ⟨m, ps, b⟩ := x
      cases h
      unfold meas
      simp
  | none =>
    cases fr with
    | nil =>
      dsimp only at h
      cases e : begB f n true with
      | num i k =>
        have := beg_n (n' := k) (by rw [e]; rfl)
        rw [e] at h
        cases h
        unfold meas
        simp
        omega
      | leaf m k =>
        have := beg_n (n' := k) (by rw [e]; rfl)
        rw [e] at h
        cases h
        unfold meas
        simp
        omega
      | push m b k =>
        have := beg_n (n' := k) (by rw [e]; rfl)
        rw [e] at h
        cases h
        unfold meas
        simp
        omega
      | bad c => rw [e] at h; cases h
    | cons x r =>
      obtain ⟨m, ps, b⟩ := x
      dsimp only at h
      split at h
      · cases h
        unfold meas
        simp
        split <;> omega
      · cases e : begB f n false with
        | num i k =>
          have := beg_n (n' := k) (by rw [e]; rfl)
          rw [e] at h
          cases h
          unfold meas
          simp
          omega
        | leaf m k =>
          have := beg_n (n' := k) (by rw [e]; rfl)
          rw [e] at h
          cases h
          unfold meas
          simp
          omega
        | push m b k =>
          have := beg_n (n' := k) (by rw [e]; rfl)
          rw [e] at h
          cases h
          unfold meas
          simp
          omega
        | bad c => rw [e] at h; cases h
/-- what the reader comes to -/
def res (f : F) (n : Nat) (fr : List Fr) (d : Option Nm.T) : Out :=
  match h : stepV f n fr d with
  | .fin t => .ok t
  | .bad c => .bad c
  | .next n' fr' d' => res f n' fr' d'
termination_by meas f n fr d
decreasing_by exact step_less h
theorem res_eq (f : F) (n : Nat) (fr : List Fr) (d : Option Nm.T) : res f n fr d = (match stepV f n fr d with
  | .fin t => .ok t
  | .bad c => .bad c
  | .next n' fr' d' => res f n' fr' d') := by
  rw [res]
  split <;> rename_i h <;> rw [h]
def cnt (fr : List Fr) (d : Option Nm.T) : Nat := fr.length + (fr.map fun x => x.2.1.length).sum + (if d.isSome then 1 else 0)
/-! heaps in which some lists and the walk change -/
def Sft (S : List Addr) (H : Hp) : Prop := ∀ x ∈ S, (∃ C dx fs, H x = some (.ins C dx fs) ∧ fs.lookup ("maker" : Str) = none) ∨ ∃ xs, H x = some (.lst xs)
section
variable {K : PySem.W.Frag} {H H' : Hp} {S : List Addr}
theorem sqT_cg (s : Sft S H) (c : Cg S H H') {a : Addr} {xs : List V} (h : SqT K H a xs) : SqT K H' a xs := by
  rcases h with (h | ⟨o, h⟩) | h
  · refine .inl (.inl (c _ _ (fun m => ?_) h fun ps e => by cases e))
    rcases s _ m with ⟨C, dx, fs, e, _⟩ | ⟨ys, e⟩ <;> rw [e] at h <;> cases h
  · refine .inl (.inr ⟨o, c _ _ (fun m => ?_) h fun ps e => by cases e⟩)
    rcases s _ m with ⟨C, dx, fs, e, _⟩ | ⟨ys, e⟩ <;> rw [e] at h <;> cases h
  · exact .inr h
mutual
theorem made_cg (s : Sft S H) (c : Cg S H H') {C : Addr} : ∀ {t : Nm.T} {v : V}, MadeAt K C H t v → MadeAt K C H' t v
  | .num n, v, h => by
    rw [MadeAt] at h ⊢
    exact h
  | .node m ps, v, h => by
    rw [MadeAt] at h ⊢
    obtain ⟨a, dx, p, vs, fs, h1, h2, h3, h4, h5, h6⟩ := h
    refine ⟨a, dx, p, vs, fs, h1, c _ _ (fun e => ?_) h2 (fun ps e => by cases e), h3, h4, sqT_cg s c h5, mades_cg s c h6⟩
    rcases s _ e with ⟨C', dx', fs', e', e2⟩ | ⟨ys, e'⟩
    · rw [e'] at h2
      cases h2
      rw [e2] at h3
      cases h3
    · rw [e'] at h2
      cases h2
theorem mades_cg (s : Sft S H) (c : Cg S H H') {C : Addr} : ∀ {ts : List Nm.T} {vs : List V}, MadeAll K C H ts vs → MadeAll K C H' ts vs
  | [], vs, h => by
    rw [MadeAll] at h ⊢
    exact h
  | t :: ts, vs, h => by
    rw [MadeAll] at h ⊢
    obtain ⟨v, ws, h1, h2, h3⟩ := h
    exact ⟨v, ws, h1, made_cg s c h2, mades_cg s c h3⟩
end
/-- the frames: the list's items, the frames' lists of parts -/
def FrsAt (K : PySem.W.Frag) (C : Addr) (H : Hp) : List Fr → List V → List Addr → Prop
  | [], vs, qs => vs = [] ∧ qs = []
  | (m, ps, b) :: r, vs, qs => ∃ (vs' : List V) (r' q : Addr) (qs' : List Addr) (ws : List V), vs = vs' ++ [.ref r'] ∧ qs = q :: qs' ∧ SqT K H r' [.str m, .ref q, .bl b] ∧ H q = some (.lst ws) ∧ MadeAll K C H ps ws ∧ q ∉ qs' ∧ FrsAt K C H r vs' qs'
theorem frs_cg (s : Sft S H) (c : Cg S H H') {C : Addr} : ∀ {fr : List Fr} {vs : List V} {qs : List Addr}, (∀ q ∈ qs, q ∉ S) → FrsAt K C H fr vs qs → FrsAt K C H' fr vs qs
  | [], vs, qs, _, h => h
  | (m, ps, b) :: r, vs, qs, hq, h => by
    obtain ⟨vs', r', q, qs', ws, e1, e2, h1, h2, h3, h4, h5⟩ := h
    subst e2
    exact ⟨vs', r', q, qs', ws, e1, rfl, sqT_cg s c h1, c _ _ (hq q (by simp)) h2 (fun ps e => by cases e), mades_cg s c h3, h4, frs_cg s c (fun x hx => hq x (by simp [hx])) h5⟩
theorem frs_len {C : Addr} : ∀ {fr : List Fr} {vs : List V} {qs : List Addr}, FrsAt K C H fr vs qs → vs.length = fr.length
  | [], vs, qs, h => by rw [h.1]; rfl
  | (m, ps, b) :: r, vs, qs, h => by
    obtain ⟨vs', r', q, qs', ws, e1, e2, h1, h2, h3, h4, h5⟩ := h
    rw [e1, List.length_append, frs_len h5]
    rfl
theorem frs_lst {C : Addr} : ∀ {fr : List Fr} {vs : List V} {qs : List Addr}, FrsAt K C H fr vs qs → ∀ q ∈ qs, ∃ ws, H q = some (.lst ws)
  | [], vs, qs, h => by rw [h.2]; intro q hq; cases hq
  | (m, ps, b) :: r, vs, qs, h => by
    obtain ⟨vs', r', q, qs', ws, e1, e2, h1, h2, h3, h4, h5⟩ := h
    subst e2
    intro x hx
    rcases List.mem_cons.mp hx with e | hx
    · exact ⟨ws, e ▸ h2⟩
    · exact frs_lst h5 x hx
theorem tabs_cg {T : List (Addr × Str)} {p : Addr} {xs : List V} (t : Tabs T H) (ha : H p = some (.lst xs)) (b : But p H H') : Tabs T H' := tabs_lst t ha b
theorem walk_but {C a p : Addr} {f : F} {l : Int} {n : Nat} {xs : List V} (h : WalkAt K C H a f l n) (hp : H p = some (.lst xs)) (b : But p H H') : WalkAt K C H' a f l n := by
  obtain ⟨dx, pw, us, h1, h2, h3⟩ := h
  have lt : ∀ b' xs', SqT K H b' xs' → SqT K H' b' xs' := fun b' xs' h => sqT_cg (S := [p]) (fun x hx => by rw [List.mem_singleton] at hx; rw [hx]; exact .inr ⟨_, hp⟩) (Cg.ofBut (by simp) b) h
  exact ⟨dx, pw, us, b _ _ (fun e => by rw [e, hp] at h1; cases h1) h1, lt _ _ h2, dps_wd lt h3⟩
end
end K04

namespace K04
open PySem PySem.Spec PyProof.Rows L2 Nm K3 LamX
theorem f_whileT {σ : L2.St} {H : Hp} {D : Ends} {tb : TS} (W : Nat → L2.St → Hp → Prop) {m0 : Nat} (h0 : W m0 σ H) (hs : ∀ m σ H, W m σ H → tb { D with nx := fun σ' H' => ∃ m', m' < m ∧ W m' σ' H', ct := fun σ' H' => ∃ m', m' < m ∧ W m' σ' H', bk := D.nx } σ H) :
    tWhile (tB (tC (.bl true))) tb D σ H := by
  refine ⟨W, ⟨m0, h0⟩, fun m σ H w => ?_⟩
  exact ⟨true, rfl, iteT ⟨_, fun _ _ z => z, hs m σ H w⟩⟩
theorem z_winit {K : PySem.W.Frag} {C : Addr} {E : XK} {H : Hp} {Q : VK} {z : Str} {l : Int} (hz : z.length ≤ 100000) (k : ∀ x H', H x = none → Same H H' → WalkAt K C H' x (words (tl z)) l 0 → Q (.ref x) H') : kMade C (spWinit K C) E Q [.str z, .int l] H := by
  intro x dx hx hdx hne
  refine ⟨x, dx, z, l, rfl, upd_same, hz, fun H' b hW => ⟨rfl, k x H' hx (fun a o e => ?_) hW⟩⟩
  refine b a o (ne_of_none e hx) ?_
  rw [upd_ne (ne_of_none e hx), upd_ne (ne_of_none e hdx)]
  exact e
/-- the words of a text of few signs -/
theorem words_few (z : List Nat) : ∀ (r : List Nat) (k : Nat) (s : F × List Nat), (wl r k s).length ≤ s.1.length + 2 * r.length + 1
  | [], k, s => by
    show (fl k s).length ≤ _
    have := fl_len k s
    simp
    omega
  | c :: r, k, s => by
    unfold wl
    split
    · have := fl_len k s
      rw [List.length_cons]
      omega
    · have ih := words_few z r (k + 1) (stp k c s)
      have h1 := fl_len k s
      have : (stp k c s).1.length ≤ s.1.length + 2 := by
        unfold stp
        split
        · simp
          omega
        · split
          · show (fl k s).length ≤ _
            omega
          · show s.1.length ≤ _
            omega
      rw [List.length_cons]
      omega
def endsF (f : F) (n : Nat) : List Fr → Bool
  | [] => false
  | x :: _ => ends f n x.2.2
theorem next_scal0 {f : F} {n : Nat} : scal (nextV f n) .non = true := by
  unfold nextV
  cases f[n]? with
  | none => rfl
  | some q => rfl
theorem next_no {f : F} {n : Nat} : decide (nextV f n = .non) = decide (f[n]? = none) := by
  unfold nextV
  refine decide_eq_decide.mpr ?_
  cases f[n]? with
  | none => simp
  | some q => simp
section
variable {P : Program} {w : World} {K : PySem.W.Frag} {mg : Str → Option Value} {base : Heap}
def spFrom (T : Tx P K mg) : Sp := fun vs H Q E => ∃ (z : Str), vs = [.str z] ∧ z.length ≤ 100000 ∧ WOk (words (tl z)) ∧ (∀ q ∈ words (tl z), q.1.length ≤ 100000) ∧ Tabs (tabs T) H ∧
  (∀ t v H', res (words (tl z)) 0 [] none = .ok t → ExtN H H' → Tabs (tabs T) H' → MadeAt K T.CM H' t v → Q v H') ∧
  (∀ c d H', res (words (tl z)) 0 [] none = .bad c → ExtN H H' → Tabs (tabs T) H' → H' d = some (badX 1 c) → E (.ref T.CBadText) (some d) H')
/-- what is done -/
def DoneAt (K : PySem.W.Frag) (C : Addr) (H : Hp) : Option Nm.T → V → Prop
  | none, v => v = .non
  | some t, v => MadeAt K C H t v
theorem made_non {C : Addr} {H : Hp} {t : Nm.T} {v : V} (h : MadeAt K C H t v) : decide (v = .non) = false := by
  cases t with
  | num n => rw [MadeAt] at h; rw [h]; rfl
  | node m ps => rw [MadeAt] at h; obtain ⟨a, dx, p, vs, fs, h1, _⟩ := h; rw [h1]; rfl
theorem fresh0 {T : List (Addr × Str)} {H0 H : Hp} {q : Addr} (e : ExtN H0 H) (h : Fresh T H q) : NT H0 q := fun o e0 => by
  apply Classical.byContradiction
  intro ht
  have := e q o e0 fun ps e2 => ht ⟨ps, e2⟩
  exact ht (h.1 o this)
structure VAt (T : Tx P K mg) (H0 H : Hp) (f : F) (a p : Addr) (n : Nat) (fr : List Fr) (d : Option Nm.T) (v : V) : Prop where
  ex : ExtN H0 H
  tb : Tabs (tabs T) H
  wk : WalkAt K T.CW H a f 1 n
  frs : ∃ vs qs, H p = some (.lst vs) ∧ FrsAt K T.CM H fr vs qs ∧ p ∉ qs ∧ ∀ q ∈ qs, NT H0 q
  dn : DoneAt K T.CM H d v
  ct : cnt fr d ≤ n
  le : n ≤ f.length
theorem sft1 {C a : Addr} {H : Hp} {f : F} {l : Int} {n : Nat} (h : WalkAt K C H a f l n) : Sft [a] H := fun x hx => by
  rw [List.mem_singleton] at hx
  subst hx
  obtain ⟨dx, p, us, h1, _⟩ := h
  exact .inl ⟨_, _, _, h1, rfl⟩
theorem sftL {p : Addr} {H : Hp} {xs : List V} (h : H p = some (.lst xs)) : Sft [p] H := fun x hx => by
  rw [List.mem_singleton] at hx
  subst hx
  exact .inr ⟨_, h⟩
theorem ok_vfrom (T : Tx P K mg) (hI : IntOk) (TN : TabB base mg T.cneed T.Pneed) (TB : TabB base mg T.cbegun T.Pbegun) : FnOk P w K mg base (L2.CX P w) 8 T.avfrom T.fdvfrom ["text"] (spFrom T) := by
  have Gnext : FnOk P w K mg base CX0 1 T.anext T.fdnext ["self"] (spNext K T.CW) := ok_next T
  have Gneed : FnOk P w K mg base (L2.CX P w) 6 T.aneed T.fdneed ["self", "told"] (spNeed T) := ok_need T TN
  have Gnend : FnOk P w K mg base (L2.CX P w) 4 T.anend T.fdnend ["self"] (spEnd K T.CW T.CBadText) := ok_nend T
  have Gbegun : FnOk P w K mg base (L2.CX P w) 7 T.abegun T.fdbegun ["walk", "frames"] (spBegun T) := ok_begun T hI TN TB
  have Gwinit : FnOk P w K mg base CX0 2 T.awinit T.fdwinit ["self", "line_text", "line"] (spWinit K T.CW) := ok_winit T
  have Ginit : FnOk P w K mg base CX0 1 T.ainit T.fdinit ["self", "maker", "parts"] (spMadeL K T.CM) := ok_initL T
  refine T.Dvfrom.F.okX scvfrom (fun vs H Q E h => ?_) (fun cdv A outer s H vs Q E hr h => ?_)
  · obtain ⟨z, rfl, _⟩ := h
    rfl
  · obtain ⟨z, rfl, hz, hok, hqs, hT, k1, k2⟩ := h
    have hu := hu_of hr
    have hrnext := hr.mono (j := 1) (by decide)
    have hrneed := hr.mono (j := 6) (by decide)
    have hrnend := hr.mono (j := 4) (by decide)
    have hrbegun := hr
    have hrwinit := hr.mono (j := 3) (by decide)
    have hrinit := hr.mono (j := 2) (by decide)
    refine ⟨_, pss_cons (ps_if (pt_not (pt_val (pe_callB call_isi (by rfl) T.n_isinstance (by decide +kernel) (pa_cons (pv 0) (pa_cons (pe_bltn (v := .ty "str") rfl T.n_str (by decide +kernel) rfl) pa_nil)))))
(pss_one (ps_raiseE rfl T.EBadText (by decide) hr (takes_of rfl rfl rfl rfl) (pa_cons (pe_int) (pa_cons (pe_int) pa_nil))))
(pss_nil))
(pss_cons (ps_par3 rfl scvfrom.nd (i := 1) (j := 2) (l := 3) rfl rfl rfl (by decide) (by decide) (by decide) rfl rfl rfl (pa_cons (pe_make T.M_LineWalk Gwinit hrwinit rfl T.g_LineWalk T.Dwinit.b .nil pass0 (pa_cons (pv 0) (pa_cons (pe_int) pa_nil))) (pa_cons (pe_lst pa_nil) (pa_cons (pe_non) pa_nil))) (by rfl))
(pss_one (ps_while (passes_of rfl) (pt_val (pe_bl))
(pss_one (ps_if (pt_cmpR op_notNn (pv 3) (pe_non) (nomark _))
(pss_cons (ps_if (pt_cmpR (op_eqN (Nat.lt_of_succ_lt hu)) (pv 2) (pe_lst pa_nil) (nomark _))
(pss_cons (ps_expr (pe_meth0 (pv 1) T.cW T.mW_nend Gnend hrnend T.Dnend.b .nil (passX (takes_of rfl rfl rfl rfl))))
(pss_one (ps_ret (pv 3))))
(pss_nil))
(pss_cons (ps_expr (pe_bm PySem.F.plainAttrs_list PySem.F.slot_list_append PySem.F.type_list_append mt_append (pe_ix ix_tup (pe_ix ix_list (pv 2) (pe_un un_neg (pe_int)) (fun _ _ => rfl)) (pe_int) (fun _ _ => rfl)) (pa_cons (pv 3) pa_nil)))
(pss_one (ps_set (i := 3) scvfrom.nd rfl (Or.inl rfl) (pe_non)))))
(pss_one (ps_if (pt_cut (PW.pt (pw_and (pt_cmpR (op_neN (Nat.lt_of_succ_lt hu)) (pv 2) (pe_lst pa_nil) (nomark _)) (pw_and1 (pt_cmpR op_eq (pe_meth0 (pv 1) T.cW T.mW_next Gnext hrnext T.Dnext.b .nil pass0) (pe_cut (pe_ifExp (pt_val (pe_ix ix_tup (pe_ix ix_list (pv 2) (pe_un un_neg (pe_int)) (fun _ _ => rfl)) (pe_int) (fun _ _ => rfl))) (pe_str) (pe_non))) (nomark _))))))
(pss_cons (ps_asg (pe_bm0 PySem.F.plainAttrs_list PySem.F.slot_list_pop PySem.F.type_list_pop mt_pop (pv 2)) (pg_tup rfl (pgs_cons (pg_name (i := 4) scvfrom.nd rfl (Or.inl rfl)) (pgs_cons (pg_name (i := 5) scvfrom.nd rfl (Or.inl rfl)) (pgs_cons (pg_name (i := 6) scvfrom.nd rfl (Or.inl rfl)) pgs_nil)))))
(pss_cut (ps_if (pt_val (pv 6))
(pss_one (ps_expr (pe_meth (pv 1) T.cW T.mW_need Gneed hrneed T.Dneed.b .nil (passX (takes_of rfl rfl rfl rfl)) (pa_cons (pe_str) pa_nil))))
(pss_nil))
(pss_one (ps_set (i := 3) scvfrom.nd rfl (Or.inl rfl) (pe_make T.M_Made Ginit hrinit rfl T.g_Made T.Dinit.b .nil pass0 (pa_cons (pv 4) (pa_cons (pv 5) pa_nil)))))))
(pss_one (ps_set (i := 3) scvfrom.nd rfl (Or.inl rfl) (pe_callN T.Dbegun Gbegun hrbegun (passX (takes_of rfl rfl rfl rfl)) (pa_cons (pv 1) (pa_cons (pv 2) pa_nil)))))))))))), ?_⟩
    walk_at "z0"
    walk_at "zz"
    refine z_isi (ClsV.ty "str") (.base (.str _)) (b := true) (kit_ty (r := true) (by decide +kernel)) ?_
    walk_at "zz"
    refine z_winit hz fun a H1 na s1 hW1 => ?_
    walk_at "zz"
    refine z_kLst (line_ge (by simp)) fun p H2 np s2 hp2 => ?_
    walk_at "zz"
    have hW2 := hW1.keep (same_keep s2)
    have ha0 : NT H a := nt_none na
    have hp0 : NT H p := nt_none (dom_same s1 _ np)
    have nap : a ≠ p := fun e => by obtain ⟨_, _, _, h, _⟩ := hW1; rw [e, np] at h; cases h
    generalize words (tl z) = f at hok hqs k1 k2 hW1 hW2
    refine f_whileT (fun m σ' H' => ∃ (n : Nat) (fr : List Fr) (d : Option Nm.T) (v : V) (x4 x5 x6 : Option V), m = meas f n fr d ∧ σ' = [some (.str z), some (.ref a), some (.ref p), some v, x4, x5, x6] ∧ VAt T H H' f a p n fr d v ∧ res f n fr d = res f 0 [] none) ⟨0, [], none, .non, none, none, none, rfl, rfl, ⟨same_ext (s1.trans s2), tabs_same hT (s1.trans s2), hW2, ⟨[], [], hp2, ⟨rfl, rfl⟩, by simp, by simp⟩, rfl, by simp [cnt], Nat.zero_le _⟩, rfl⟩ ?_
    rintro m σ' H3 ⟨n, fr, d, v, x4, x5, x6, rfl, rfl, hV, hres⟩
    obtain ⟨ex3, tb3, wk3, ⟨vs, qs, hp3, hfr3, hpq, hq0⟩, dn3, ct3, le3⟩ := hV
    have ⟨dxa, pwa, usa, ha3, _, _⟩ := wk3
    have lvs := frs_len hfr3
    have hst := res_eq f n fr d
    rw [hres] at hst
    walk_at "zz"
    cases d with
    | some t =>
      have dn3 : MadeAt K T.CM H3 t v := dn3
      rw [made_non dn3]
      walk_at "zz"
      refine z_kLst (line_ge (by simp)) fun l0 H4 n4 s4 h4 => ?_
      refine z_eqNL (SqL.of (s4 _ _ hp3)) (SqL.of h4) ?_
      walk_at "zz"
      have e4 := ex3.trans (same_ext s4)
      have t4 := tabs_same tb3 s4
      have w4 := wk3.keep (same_keep s4)
      have ha4 := s4 _ _ ha3
      cases fr with
      | nil =>
        have evs : vs = [] := hfr3.1
        subst evs
        rw [show decide (([] : List V) = []) = true from rfl]
        walk_at "zz"
        refine z_meth ?_
        walk_at "zz"
        refine z_kMeth ha4 rfl ?_
        refine ⟨a, f, 1, n, rfl, w4, hok.few, hok.short, hok.sh, fun e => ?_, fun d H5 e nd s5 h5 => ?_⟩
        · walk_at "zz"
          unfold stepV at hst
          rw [e] at hst
          exact k1 t v H4 hst e4 t4 (made_same s4 dn3)
        · unfold stepV at hst
          cases e2 : f[n]? with
          | none => exact absurd e2 e
          | some q =>
            rw [e2] at hst
            exact k2 _ d H5 hst (e4.trans (same_ext s5)) (tabs_same t4 s5) h5
      | cons x r =>
        obtain ⟨m, ps, b⟩ := x
        obtain ⟨vs', r', q, qs', ws, e1, e2, h1, h2, h3, h5, h6⟩ := hfr3
        subst e1 e2
        rw [show decide (vs' ++ [V.ref r'] = []) = false from by simp]
        walk_at "zz"
        have hp4 := s4 _ _ hp3
        refine z_ixL (SqL.of hp4) (at_neg1 (n := vs'.length) (x := V.ref r') (by simp) (by simp)) ?_
        walk_at "zz"
        refine z_ixT (same_st s4 h1) rfl ?_
        have hq4 := s4 _ _ h2
        have lws := mades_len h3
        refine ⟨ty_lst hq4, ?_⟩
        walk_at "zz"
        have lps : ws.length ≤ 400000 := by
          have := hok.few
          simp [cnt] at ct3
          omega
        refine z_app hq4 (by rw [sizeLine_eq]; omega) ?_
        walk_at "zz"
        have b5 : But q H4 (upd H4 q (.lst (ws ++ [v]))) := But.upd
        have hq5 : (upd H4 q (.lst (ws ++ [v]))) q = some (.lst (ws ++ [v])) := upd_same
        generalize upd H4 q (.lst (ws ++ [v])) = H5 at b5 hq5 ⊢
        have c5 : Cg [q] H4 H5 := Cg.ofBut (by simp) b5
        have s5 : Sft [q] H4 := sftL hq4
        have nqp : p ≠ q := fun e => hpq (by rw [e]; simp)
        unfold stepV at hst
        refine ⟨_, step_less (f := f) (n := n) (fr := (m, ps, b) :: r) (d := some t) (n' := n) (fr' := (m, ps ++ [t], b) :: r) (d' := none) rfl, n, (m, ps ++ [t], b) :: r, none, .non, _, _, _, rfl, rfl, ⟨Cg.ext (by simp; exact hq0 q (by simp)) e4 c5, tabs_lst t4 hq4 b5, walk_but w4 hq4 b5, ⟨_, _, b5 _ _ nqp hp4, ⟨vs', r', q, qs', ws ++ [v], rfl, rfl, sqT_cg s5 c5 (same_st s4 h1), hq5, mades_app (mades_cg s5 c5 (mades_same s4 h3)) (by rw [MadeAll]; exact ⟨v, [], rfl, made_cg s5 c5 (made_same s4 dn3), by rw [MadeAll]⟩), h5, frs_cg s5 c5 (fun x hx e => by rw [List.mem_singleton] at e; exact h5 (e ▸ hx)) (frs_cg (S := []) (fun x hx => by cases hx) (Cg.of (same_ext s4)) (fun _ _ h => by cases h) h6)⟩, hpq, hq0⟩, rfl, ?_, le3⟩, hst.symm⟩
        simp [cnt] at ct3 ⊢
        omega
    | none =>
      have ev : v = .non := dn3
      subst ev
      walk_at "zz"
      refine z_cutB (endsF f n fr) ?_ fun H4 s4 => ?_
      · walk_at "zz"
        refine z_kLst (line_ge (by simp)) fun l0 H4 n4 s4 h4 => ?_
        refine z_neNL (SqL.of (s4 _ _ hp3)) (SqL.of h4) ?_
        cases fr with
        | nil =>
          have evs : vs = [] := hfr3.1
          subst evs
          rw [show decide (([] : List V) = []) = true from rfl]
          walk_at "zz"
          exact ⟨rfl, s4⟩
        | cons x r =>
          obtain ⟨m, ps, b⟩ := x
          obtain ⟨vs', r', q, qs', ws, e1, e2, h1, h2, h3, h5, h6⟩ := hfr3
          subst e1 e2
          rw [show decide (vs' ++ [V.ref r'] = []) = false from by simp]
          walk_at "zz"
          refine z_meth ?_
          walk_at "zz"
          refine z_kMeth (s4 _ _ ha3) rfl ?_
          refine ⟨a, f, 1, n, rfl, wk3.keep (same_keep s4), hok.few, fun H5 s5 => ?_⟩
          walk_at "zz"
          have s45 := s4.trans s5
          refine z_cutV (if b = true then V.str ")" else .non) ?_ fun H6 s6 => ?_
          · walk_at "zz"
            refine z_ixL (SqL.of (s45 _ _ hp3)) (at_neg1 (n := vs'.length) (x := V.ref r') (by simp) (by simp)) ?_
            walk_at "zz"
            refine z_ixT (same_st s45 h1) rfl ?_
            walk_at "zz"
            refine z_ite (fun e => ?_) (fun e => ?_)
            · subst e
              walk_at "zz"
              exact ⟨rfl, Same.refl _⟩
            · subst e
              walk_at "zz"
              exact ⟨rfl, Same.refl _⟩
          cases b with
          | true =>
            rw [if_pos rfl]
            refine z_eq next_scal ?_
            rw [next_is e_rp]
            exact ⟨_, rfl, rfl, s45.trans s6⟩
          | false =>
            rw [if_neg (by simp)]
            refine z_eq next_scal0 ?_
            rw [next_no]
            exact ⟨_, rfl, rfl, s45.trans s6⟩
      have e4 := ex3.trans (same_ext s4)
      have t4 := tabs_same tb3 s4
      have w4 := wk3.keep (same_keep s4)
      have ha4 := s4 _ _ ha3
      have hp4 := s4 _ _ hp3
      have hfr4 : FrsAt K T.CM H4 fr vs qs := frs_cg (S := []) (fun x hx => by cases hx) (Cg.of (same_ext s4)) (fun _ _ h => by cases h) hfr3
      refine z_ite (fun eb => ?_) (fun eb => ?_)
      · cases fr with
        | nil => cases eb
        | cons x r =>
          obtain ⟨m, ps, b⟩ := x
          have eb : ends f n b = true := eb
          obtain ⟨vs', r', q, qs', ws, e1, e2, h1, h2, h3, h5, h6⟩ := hfr4
          subst e1 e2
          have nqp : q ≠ p := fun e => hpq (by rw [e]; simp)
          have stepN : stepV f n ((m, ps, b) :: r) none = .next (if b then n + 1 else n) r (some (.node m ps)) := by
            unfold stepV
            dsimp only
            rw [if_pos eb]
          rw [stepN] at hst
          walk_at "zz"
          refine ⟨ty_lst hp4, z_pop hp4 ?_⟩
          have b5 : But p H4 (upd H4 p (.lst vs')) := But.upd
          have hp5 : (upd H4 p (.lst vs')) p = some (.lst vs') := upd_same
          generalize upd H4 p (.lst vs') = H5 at b5 hp5 ⊢
          have c5 : Cg [p] H4 H5 := Cg.ofBut (by simp) b5
          have s5 : Sft [p] H4 := sftL hp4
          refine z_gTup (sqT_cg s5 c5 h1) rfl ?_
          walk_at "zz"
          have e5 := Cg.ext (by simp; exact hp0) e4 c5
          have t5 := tabs_lst t4 hp4 b5
          have w5 := walk_but w4 hp4 b5
          have hq5 := b5 _ _ nqp h2
          have hm5 := mades_cg s5 c5 h3
          have hfr5 : FrsAt K T.CM H5 r vs' qs' := frs_cg s5 c5 (fun x hx e => by rw [List.mem_singleton] at e; exact hpq (by rw [← e]; simp [hx])) h6
          refine z_cut (fun σ' H' => σ' = [some (.str z), some (.ref a), some (.ref p), some .non, some (.str m), some (.ref q), some (.bl b)] ∧ Cg [a] H5 H' ∧ Tabs (tabs T) H' ∧ WalkAt K T.CW H' a f 1 (if b then n + 1 else n)) ?_ ?_
          · walk_at "zz"
            have ⟨dx5, pw5, us5, ha5, _, _⟩ := w5
            refine z_ite (fun e => ?_) (fun e => ?_)
            · subst e
              obtain ⟨q0, eq0, eq1⟩ := isW_at eb
              walk_at "zz"
              refine z_meth ?_
              walk_at "zz"
              refine z_kMeth ha5 rfl ?_
              walk_at "zz"
              refine ⟨a, ")", f, 1, n, rfl, w5, hok, t5, fun q' H6 g1 g2 c6 hT6 hW6 => ?_, fun d H6 hn => absurd (txt_tl.mpr (by rw [eq1, e_rp])) (hn q0 eq0)⟩
              walk_at "zz"
              exact ⟨rfl, c6, hT6, hW6⟩
            · subst e
              walk_at "zz"
              exact ⟨rfl, Cg.of (ExtN.refl _), t5, w5⟩
          · rintro σ' H6 ⟨rfl, c6, t6, w6⟩
            have s6 := sft1 w5
            have nap5 : ∀ x ∈ p :: q :: qs', x ∉ [a] := fun x hx e => by
              rw [List.mem_singleton] at e
              subst e
              have ⟨dx5, pw5, us5, ha5, _, _⟩ := w5
              rcases List.mem_cons.mp hx with rfl | hx
              · rw [ha5] at hp5; cases hp5
              rcases List.mem_cons.mp hx with rfl | hx
              · rw [ha5] at hq5; cases hq5
              obtain ⟨ws', hw⟩ := frs_lst hfr5 x hx
              rw [ha5] at hw
              cases hw
            have hp6 := c6 _ _ (nap5 p (by simp)) hp5 fun ps e => by cases e
            have hq6 := c6 _ _ (nap5 q (by simp)) hq5 fun ps e => by cases e
            have hm6 := mades_cg s6 c6 hm5
            have hfr6 := frs_cg s6 c6 (fun x hx => nap5 x (by simp [hx])) hfr5
            walk_at "zz"
            refine z_madeL hq6 fun x fs q2 dx H7 nx s7 h7 h8 h9 h10 => ?_
            walk_at "zz"
            refine ⟨_, step_less stepN, _, r, some (.node m ps), _, _, _, _, rfl, rfl, ⟨(Cg.ext (by simp; exact ha0) e5 c6).trans (same_ext s7), tabs_same t6 s7, w6.keep (same_keep s7), ⟨vs', qs', s7 _ _ hp6, frs_cg (S := []) (fun x hx => by cases hx) (Cg.of (same_ext s7)) (fun _ _ h => by cases h) hfr6, fun h => hpq (by simp [h]), fun x hx => hq0 x (by simp [hx])⟩, made_mk h7 h8 h9 h10 (mades_same s7 hm6), ?_, ?_⟩, hst.symm⟩
            · simp [cnt] at ct3 ⊢
              split <;> omega
            · cases b with
              | true => exact isW_lt eb
              | false => exact le3
      · have hbg : stepV f n fr none = (match begB f n (decide (vs = [])) with
            | .num i n' => .next n' fr (some (.num i))
            | .leaf m' n' => .next n' fr (some (.node m' []))
            | .push m' b' n' => .next n' ((m', [], b') :: fr) none
            | .bad c => .bad c) := by
          cases fr with
          | nil =>
            have evs : vs = [] := hfr4.1
            subst evs
            rfl
          | cons x r =>
            obtain ⟨m, ps, b⟩ := x
            obtain ⟨vs', r', q, qs', ws, e1, e2, h1, h2, h3, h5, h6⟩ := hfr4
            subst e1
            have eb : ends f n b = false := eb
            rw [show decide (vs' ++ [V.ref r'] = []) = false from by simp]
            unfold stepV
            dsimp only
            rw [if_neg (by rw [eb]; simp)]
            all_goals (cases begB f n false <;> rfl)
        rw [hbg] at hst
        have nap4 : ∀ x ∈ p :: qs, x ∉ [a] := fun x hx e => by
          rw [List.mem_singleton] at e
          subst e
          rcases List.mem_cons.mp hx with rfl | hx
          · rw [ha4] at hp4; cases hp4
          obtain ⟨ws', hw⟩ := frs_lst hfr4 x hx
          rw [ha4] at hw
          cases hw
        have sf := sft1 w4
        have lfr : fr.length ≤ 400000 := by
          have := hok.few
          simp [cnt] at ct3
          omega
        have fin : ∀ {n' : Nat} {t : Nm.T} {v' : V} {H5 : Hp}, begN (begB f n (decide (vs = []))) = some n' → stepV f n fr none = .next n' fr (some t) → res f 0 [] none = res f n' fr (some t) → Cg [a] H4 H5 → Tabs (tabs T) H5 → WalkAt K T.CW H5 a f 1 n' → MadeAt K T.CM H5 t v' →
            ∃ m', m' < meas f n fr none ∧ ∃ (n : Nat) (fr : List Fr) (d : Option Nm.T) (v : V) (y4 y5 y6 : Option V), m' = meas f n fr d ∧ [some (.str z), some (.ref a), some (.ref p), some v', x4, x5, x6] = [some (.str z), some (.ref a), some (.ref p), some v, y4, y5, y6] ∧ VAt T H H5 f a p n fr d v ∧ res f n fr d = res f 0 [] none := fun {n' t v' H5} hn hs hr' c5 t5 w5 m5 => by
          obtain ⟨g1, g2⟩ := beg_n hn
          refine ⟨_, step_less hs, n', fr, some t, v', _, _, _, rfl, rfl, ⟨Cg.ext (by simp; exact ha0) e4 c5, t5, w5, ⟨vs, qs, c5 _ _ (nap4 p (by simp)) hp4 (fun ps e => by cases e), frs_cg sf c5 (fun x hx => nap4 x (by simp [hx])) hfr4, hpq, hq0⟩, m5, ?_, g2⟩, hr'.symm⟩
          simp [cnt] at ct3 ⊢
          omega
        walk_at "zz"
        refine ⟨a, p, f, 1, n, vs, rfl, w4, hok, hqs, t4, hp4, by omega, fun i n' H5 eB c5 t5 w5 => ?_, fun m n' v' H5 eB c5 t5 w5 m5 => ?_, fun m b n' r q H5 eB c5 t5 w5 g1 g2 g3 g4 => ?_, fun c d H5 eB c5 t5 h5 => ?_⟩
        · rw [eB] at hst hbg
          walk_at "zz"
          exact fin (by rw [eB]; rfl) hbg hst c5 t5 w5 (by rw [MadeAt])
        · rw [eB] at hst hbg
          walk_at "zz"
          exact fin (by rw [eB]; rfl) hbg hst c5 t5 w5 m5
        · obtain ⟨gn1, gn2⟩ := beg_n (n' := n') (by rw [eB]; rfl)
          rw [eB] at hst hbg
          walk_at "zz"
          have sf2 : Sft [a, p] H4 := fun x hx => by
            rcases List.mem_cons.mp hx with rfl | hx
            · exact sf _ (by simp)
            · exact sftL hp4 x hx
          have nq : q ∉ qs := fun h => by
            obtain ⟨ws', hw⟩ := frs_lst hfr4 q h
            obtain ⟨ps, e⟩ := g4.1 _ hw
            cases e
          have nqp : p ≠ q := fun e => by
            obtain ⟨ps, e'⟩ := g4.1 _ (e ▸ hp4)
            cases e'
          refine ⟨_, step_less hbg, n', (m, [], b) :: fr, none, .non, _, _, _, rfl, rfl, ⟨Cg.ext (by simp; exact ⟨ha0, hp0⟩) e4 c5, t5, w5, ⟨vs ++ [.ref r], q :: qs, g1, ⟨vs, r, q, qs, [], rfl, rfl, g2, g3, by rw [MadeAll], nq, frs_cg sf2 c5 (fun x hx e => ?_) hfr4⟩, ?_, ?_⟩, rfl, ?_, gn2⟩, hst.symm⟩
          · rcases List.mem_cons.mp e with e | e
            · exact nap4 x (by simp [hx]) (by simp [e])
            · rw [List.mem_singleton] at e
              exact hpq (e ▸ hx)
          · intro h
            rcases List.mem_cons.mp h with e | e
            · exact nqp e
            · exact hpq e
          · intro x hx
            rcases List.mem_cons.mp hx with rfl | hx
            · exact fresh0 e4 g4
            · exact hq0 x hx
          · simp [cnt] at ct3 ⊢
            omega
        · rw [eB] at hst
          exact k2 c d H5 hst (Cg.ext (by simp; exact ha0) e4 c5) t5 h5
end
end K04

/-! k04, the plain law: the machine (res) and the law's own reading (rd) answer alike, also with the place. -/
namespace K04
open PySem L2 Nm K3
/-- the parts, read one by one by r -/
def rdL (f : F) (r : Nat → Option Nm.T × Nat) (inner : Bool) : Nat → Nat → List Nm.T → Option (List Nm.T) × Nat
  | 0, n, acc => (some acc, n)
  | lap + 1, n, acc => if (isW f n [41] && inner) || decide (f[n]? = none) then (some acc, n) else match r n with
    | (some t, n') => rdL f r inner lap n' (acc ++ [t])
    | (none, n') => (none, n')
/-- the law's own reading: the value, if any, and where it stands then -/
def rd (f : F) : Nat → Nat → Bool → Option Nm.T × Nat
  | 0, n, _ => (none, n)
  | k + 1, n, atom =>
    let inner := isW f n [40]
    let n1 := if inner then n + 1 else n
    match f[n1]? with
    | none => (none, n1)
    | some q =>
      if isNum q.1 then
        if inner then (if isW f (n1 + 1) [41] then (some (.num (intOf q.1)), n1 + 2) else (none, n1 + 1)) else (some (.num (intOf q.1)), n1 + 1)
      else if isBig q.1 then
        match (if !atom || inner then rdL f (fun m => rd f k m true) inner (f.length + 1) (n1 + 1) [] else (some [], n1 + 1)) with
        | (none, n2) => (none, n2)
        | (some ps, n2) => if inner then (if isW f n2 [41] then (some (.node (txt q.1) ps), n2 + 1) else (none, n2)) else (some (.node (txt q.1) ps), n2)
      else (none, n1)
/-- what the machine comes to, once the reading is done -/
def goOn (f : F) (fr : List Fr) : Option Nm.T × Nat → Out
  | (some t, n) => res f n fr (some t)
  | (none, n) => .bad (colOf f n)
theorem res_bad {f : F} {n : Nat} {fr : List Fr} {d : Option Nm.T} {c : Nat} (h : stepV f n fr d = .bad c) : res f n fr d = .bad c := by rw [res_eq, h]
theorem res_next {f : F} {n n' : Nat} {fr fr' : List Fr} {d d' : Option Nm.T} (h : stepV f n fr d = .next n' fr' d') : res f n fr d = res f n' fr' d' := by rw [res_eq, h]
theorem step_begN {f : F} {n : Nat} {m : Str} {acc : List Nm.T} {b : Bool} {r : List Fr} (he : ends f n b = false) : stepV f n ((m, acc, b) :: r) none = (match begB f n false with
        | .num i n' => .next n' ((m, acc, b) :: r) (some (.num i))
        | .leaf m' n' => .next n' ((m, acc, b) :: r) (some (.node m' []))
        | .push m' b' n' => .next n' ((m', [], b') :: (m, acc, b) :: r) none
        | .bad c => .bad c) := by
  unfold stepV
  dsimp only
  rw [if_neg (by rw [he]; simp)]
  all_goals (cases begB f n false <;> rfl)
theorem rdL_le {f : F} {r : Nat → Option Nm.T × Nat} {inner : Bool} (hr : ∀ n t n', r n = (some t, n') → n < n' ∧ n' ≤ f.length) : ∀ (lap n : Nat) (acc ps : List Nm.T) (n' : Nat), n ≤ f.length → rdL f r inner lap n acc = (some ps, n') → n ≤ n' ∧ n' ≤ f.length
  | 0, n, acc, ps, n', hn, h => by cases h; exact ⟨Nat.le_refl _, hn⟩
  | lap + 1, n, acc, ps, n', hn, h => by
    unfold rdL at h
    split at h
    · cases h; exact ⟨Nat.le_refl _, hn⟩
    · cases e : r n with
      | mk o n1 =>
        rw [e] at h
        cases o with
        | none => cases h
        | some t =>
          obtain ⟨g1, g2⟩ := hr n t n1 e
          obtain ⟨g3, g4⟩ := rdL_le hr lap n1 _ ps n' g2 h
          exact ⟨by omega, g4⟩
theorem rd_adv (f : F) : ∀ (k n : Nat) (a : Bool) (t : Nm.T) (n' : Nat), rd f k n a = (some t, n') → n < n' ∧ n' ≤ f.length
  | 0, n, a, t, n', h => by cases h
  | k + 1, n, a, t, n', h => by
    have ih : ∀ n t n', rd f k n true = (some t, n') → n < n' ∧ n' ≤ f.length := fun n t n' h => rd_adv f k n true t n' h
    unfold rd at h
    dsimp only at h
    generalize hn : (if isW f n [40] = true then n + 1 else n) = n1 at h
    have h1 : n ≤ n1 := by rw [← hn]; split <;> omega
    cases eq : f[n1]? with
    | none => rw [eq] at h; cases h
    | some q =>
      have hl : n1 < f.length := (List.getElem?_eq_some_iff.mp eq).1
      rw [eq] at h
      dsimp only at h
      split at h
      · split at h
        · split at h
          · rename_i h3
            have := isW_lt h3
            cases h
            omega
          · cases h
        · cases h
          omega
      · split at h
        · cases e : (if (!a || isW f n [40]) = true then rdL f (fun m => rd f k m true) (isW f n [40]) (f.length + 1) (n1 + 1) [] else (some [], n1 + 1)) with
          | mk o n2 =>
            rw [e] at h
            cases o with
            | none => cases h
            | some ps =>
              have h2 : n1 + 1 ≤ n2 ∧ n2 ≤ f.length := by
                split at e
                · exact rdL_le ih _ _ _ _ _ hl e
                · cases e
                  omega
              dsimp only at h
              split at h
              · split at h
                · rename_i h3
                  have := isW_lt h3
                  cases h
                  omega
                · cases h
              · cases h
                omega
        · cases h
/-- where a frame is done -/
def close (f : F) (m : Str) (b : Bool) (r : List Fr) : Option (List Nm.T) × Nat → Out
  | (some ps, n) => if b then (if isW f n [41] then res f (n + 1) r (some (.node m ps)) else .bad (colOf f n)) else res f n r (some (.node m ps))
  | (none, n) => .bad (colOf f n)
theorem beg_none {f : F} {n : Nat} {e : Bool} (h : f[n]? = none) : begB f n e = .bad (colOf f n) := by
  have h0 : isW f n [40] = false := by
    unfold isW
    rw [h]
    rfl
  unfold begB
  dsimp only
  rw [h0]
  simp only [Bool.false_eq_true, if_false]
  rw [h]
/-- the parts of a frame, read one by one -/
theorem res_parts {f : F} {k : Nat} (hk : ∀ n m acc b r, f.length - n < k → ends f n b = false → res f n ((m, acc, b) :: r) none = goOn f ((m, acc, b) :: r) (rd f k n true)) (m : Str) (b : Bool) (r : List Fr) :
    ∀ (lap n : Nat) (acc : List Nm.T), f.length - n < lap → f.length - n < k → n ≤ f.length → res f n ((m, acc, b) :: r) none = close f m b r (rdL f (fun n => rd f k n true) b lap n acc)
  | 0, n, acc, h, _, _ => absurd h (by omega)
  | lap + 1, n, acc, hl, hkn, hn => by
    unfold rdL
    by_cases hb : ((isW f n [41] && b) || decide (f[n]? = none)) = true
    · rw [if_pos hb]
      unfold close
      cases b with
      | true =>
        show _ = (if isW f n [41] = true then res f (n + 1) r (some (Nm.T.node m acc)) else Out.bad (colOf f n))
        by_cases hw : isW f n [41] = true
        · rw [if_pos hw]
          refine res_next ?_
          unfold stepV
          dsimp only
          rw [if_pos (show ends f n true = true from hw)]
          rfl
        · rw [if_neg hw]
          have hw : isW f n [41] = false := by simpa using hw
          rw [hw, Bool.false_and, Bool.false_or] at hb
          have en := of_decide_eq_true hb
          refine res_bad ?_
          rw [step_begN (show ends f n true = false from hw), beg_none en]
      | false =>
        show _ = res f n r (some (Nm.T.node m acc))
        rw [Bool.and_false, Bool.false_or] at hb
        refine res_next ?_
        unfold stepV
        dsimp only
        rw [if_pos (show ends f n false = true from hb)]
        rfl
    · rw [if_neg hb]
      have he : ends f n b = false := by
        have hb : ((isW f n [41] && b) || decide (f[n]? = none)) = false := by simpa using hb
        rw [Bool.or_eq_false_iff] at hb
        unfold ends
        cases b with
        | true => rw [if_pos rfl]; simpa using hb.1
        | false => rw [if_neg (by simp)]; exact hb.2
      rw [hk n m acc b r hkn he]
      cases e : rd f k n true with
      | mk o n' =>
        cases o with
        | none => rfl
        | some t =>
          obtain ⟨g1, g2⟩ := rd_adv f k n true t n' e
          show res f n' ((m, acc, b) :: r) (some t) = _
          rw [res_next (n' := n') (fr' := (m, acc ++ [t], b) :: r) (d' := none) (by unfold stepV; rfl)]
          exact res_parts hk m b r lap n' (acc ++ [t]) (by omega) (by omega) g2
/-- the machine and the own reading answer alike -/
theorem res_rd (f : F) : ∀ (k n : Nat) (m : Str) (acc : List Nm.T) (b : Bool) (r : List Fr), f.length - n < k → ends f n b = false → res f n ((m, acc, b) :: r) none = goOn f ((m, acc, b) :: r) (rd f k n true)
  | 0, n, m, acc, b, r, hk, _ => absurd hk (by omega)
  | k + 1, n, m, acc, b, r, hk, he => by
    have ih := fun n m acc b r h1 h2 => res_rd f k n m acc b r h1 h2
    have hs := step_begN (m := m) (acc := acc) (r := r) he
    unfold rd
    dsimp only
    generalize ei : isW f n [40] = inner
    generalize en : (if inner = true then n + 1 else n) = n1
    have hbeg : begB f n false = (match f[n1]? with
        | none => .bad (colOf f n1)
        | some q => if isNum q.1 || isBig q.1 then
            if isNum q.1 then (if inner then (if isW f (n1 + 1) [41] then .num (intOf q.1) (n1 + 2) else .bad (colOf f (n1 + 1))) else .num (intOf q.1) (n1 + 1))
            else if !inner && !false then .leaf (txt q.1) (n1 + 1) else .push (txt q.1) inner (n1 + 1)
          else .bad (colOf f n1)) := by
      subst ei
      subst en
      rfl
    cases eq : f[n1]? with
    | none =>
      rw [eq] at hbeg
      rw [hbeg] at hs
      exact res_bad hs
    | some q =>
      have hl : n1 < f.length := (List.getElem?_eq_some_iff.mp eq).1
      have h1 : n ≤ n1 := by rw [← en]; split <;> omega
      rw [eq] at hbeg
      dsimp only at hbeg ⊢
      by_cases hn : isNum q.1 = true
      · rw [hn, Bool.true_or, if_pos rfl, if_pos rfl] at hbeg
        rw [if_pos hn]
        cases inner with
        | true =>
          rw [if_pos rfl] at hbeg
          rw [if_pos rfl]
          by_cases h2 : isW f (n1 + 1) [41] = true
          · rw [if_pos h2] at hbeg
            rw [if_pos h2]
            rw [hbeg] at hs
            exact res_next hs
          · rw [if_neg h2] at hbeg
            rw [if_neg h2]
            rw [hbeg] at hs
            exact res_bad hs
        | false =>
          rw [if_neg (by simp)] at hbeg
          rw [if_neg (by simp)]
          rw [hbeg] at hs
          exact res_next hs
      · have hn' : isNum q.1 = false := by simpa using hn
        rw [hn', Bool.false_or] at hbeg
        simp only [Bool.false_eq_true, if_false] at hbeg
        rw [if_neg hn]
        by_cases hb : isBig q.1 = true
        · rw [if_pos hb] at hbeg
          rw [if_pos hb]
          cases inner with
          | true =>
            rw [if_neg (by simp)] at hbeg
            rw [hbeg] at hs
            rw [if_pos (by simp), res_next hs]
            rw [res_parts ih (txt q.1) true ((m, acc, b) :: r) (f.length + 1) (n1 + 1) [] (by omega) (by omega) (by omega)]
            cases rdL f (fun m => rd f k m true) true (f.length + 1) (n1 + 1) [] with
            | mk o n2 =>
              cases o with
              | none => rfl
              | some ps =>
                show (if isW f n2 [41] = true then res f (n2 + 1) ((m, acc, b) :: r) (some (.node (txt q.1) ps)) else Out.bad (colOf f n2)) = goOn f ((m, acc, b) :: r) (if isW f n2 [41] = true then (some (.node (txt q.1) ps), n2 + 1) else (none, n2))
                split <;> rfl
          | false =>
            rw [if_pos (by simp)] at hbeg
            rw [hbeg] at hs
            rw [if_neg (by simp), res_next hs]
            rfl
        · rw [if_neg hb] at hbeg
          rw [if_neg hb]
          rw [hbeg] at hs
          exact res_bad hs
/-- the whole text's answer -/
def due (f : F) : Out := match rd f (f.length + 1) 0 false with
  | (none, n) => .bad (colOf f n)
  | (some t, n) => match f[n]? with
    | none => .ok t
    | some _ => .bad (colOf f n)
theorem res_top {f : F} {n : Nat} {t : Nm.T} : res f n [] (some t) = (match f[n]? with
    | none => .ok t
    | some _ => .bad (colOf f n)) := by
  cases e : f[n]? with
  | none => rw [res_eq]; unfold stepV; dsimp only; rw [e]
  | some q => refine res_bad ?_; unfold stepV; dsimp only; rw [e]
theorem res_due (f : F) : res f 0 [] none = due f := by
  have ih := fun n m acc b r h1 h2 => res_rd f f.length n m acc b r h1 h2
  have hs : stepV f 0 [] none = (match begB f 0 true with
        | .num i n' => .next n' [] (some (.num i))
        | .leaf m' n' => .next n' [] (some (.node m' []))
        | .push m' b' n' => .next n' [(m', [], b')] none
        | .bad c => .bad c) := by
    unfold stepV
    dsimp only
    all_goals (cases begB f 0 true <;> rfl)
  unfold due rd
  dsimp only
  generalize ei : isW f 0 [40] = inner
  generalize en : (if inner = true then 0 + 1 else 0) = n1
  have hbeg : begB f 0 true = (match f[n1]? with
      | none => .bad (colOf f n1)
      | some q => if isNum q.1 || isBig q.1 then
          if isNum q.1 then (if inner then (if isW f (n1 + 1) [41] then .num (intOf q.1) (n1 + 2) else .bad (colOf f (n1 + 1))) else .num (intOf q.1) (n1 + 1))
          else if !inner && !true then .leaf (txt q.1) (n1 + 1) else .push (txt q.1) inner (n1 + 1)
        else .bad (colOf f n1)) := by
    subst ei
    subst en
    rfl
  cases eq : f[n1]? with
  | none =>
    rw [eq] at hbeg
    rw [hbeg] at hs
    exact res_bad hs
  | some q =>
    have hl : n1 < f.length := (List.getElem?_eq_some_iff.mp eq).1
    rw [eq] at hbeg
    dsimp only at hbeg ⊢
    by_cases hn : isNum q.1 = true
    · rw [hn, Bool.true_or, if_pos rfl, if_pos rfl] at hbeg
      rw [if_pos hn]
      cases inner with
      | true =>
        rw [if_pos rfl] at hbeg
        rw [if_pos rfl]
        by_cases h2 : isW f (n1 + 1) [41] = true
        · rw [if_pos h2] at hbeg
          rw [if_pos h2]
          rw [hbeg] at hs
          rw [res_next hs]
          exact res_top
        · rw [if_neg h2] at hbeg
          rw [if_neg h2]
          rw [hbeg] at hs
          exact res_bad hs
      | false =>
        rw [if_neg (by simp)] at hbeg
        rw [if_neg (by simp)]
        rw [hbeg] at hs
        rw [res_next hs]
        exact res_top
    · have hn' : isNum q.1 = false := by simpa using hn
      rw [hn', Bool.false_or] at hbeg
      simp only [Bool.false_eq_true, if_false] at hbeg
      rw [if_neg hn]
      by_cases hb : isBig q.1 = true
      · rw [if_pos hb] at hbeg
        rw [if_pos hb, if_pos (by simp)]
        rw [if_neg (by simp)] at hbeg
        rw [hbeg] at hs
        rw [res_next hs, res_parts ih (txt q.1) inner [] (f.length + 1) (n1 + 1) [] (by omega) (by omega) (by omega)]
        cases rdL f (fun m => rd f f.length m true) inner (f.length + 1) (n1 + 1) [] with
        | mk o n2 =>
          cases o with
          | none => rfl
          | some ps =>
            cases inner with
            | true =>
              show (if isW f n2 [41] = true then res f (n2 + 1) [] (some (.node (txt q.1) ps)) else Out.bad (colOf f n2)) = _
              dsimp only
              rw [if_pos rfl]
              split
              · exact res_top
              · rfl
            | false =>
              show res f n2 [] (some (.node (txt q.1) ps)) = _
              dsimp only
              rw [if_neg (by simp)]
              exact res_top
      · rw [if_neg hb] at hbeg
        rw [if_neg hb]
        rw [hbeg] at hs
        exact res_bad hs
end K04

namespace K04
open PySem PySem.Spec PyProof.Rows L2 Nm K3 LamX
def sgKv : List (Key × V) := [(.inr "big", .str ⟨BIG.toArray⟩), (.inr "small", .str ⟨SMALL.toArray⟩), (.inr "all", .str ⟨LATER.toArray⟩)]
theorem sg_big : valV sgKv (.inr "big") = some (.str ⟨BIG.toArray⟩) := by kernel_rfl
theorem sg_small : valV sgKv (.inr "small") = some (.str ⟨SMALL.toArray⟩) := by kernel_rfl
theorem sg_all : valV sgKv (.inr "all") = some (.str ⟨LATER.toArray⟩) := by kernel_rfl
theorem sg_merge : mergeK [] sgKv = sgKv := by kernel_rfl
theorem in_kept (z : Str) : inV (.str z) [.str "kind", .str "fun", .str "let", .str "in"] = decide (tl z ∈ kept) := by
  have e : ∀ x : Str, eqV (.str x) (.str z) = decide (tl z = tl x) := fun x => by
    show (x == z) = _
    rw [Bool.beq_eq_decide_eq]
    exact decide_eq_decide.mpr (by rw [str_eq]; exact eq_comm)
  show ([V.str "kind", V.str "fun", V.str "let", V.str "in"].any fun x => eqV x (.str z)) = _
  simp only [List.any_cons, List.any_nil, Bool.or_false, e, kept, List.mem_cons, List.not_mem_nil, or_false, Bool.decide_or]
end K04
local macro_rules | `(tactic| walk_at "z1") => `(tactic| ((with_reducible refine' z_kGetS ?zk ?zl ?_); (case zk => walk_at "hp"); (case zl => first | exact K04.sg_big | exact K04.sg_small | exact K04.sg_all)))
namespace K04
open PySem PySem.Spec PyProof.Rows L2 Nm K3 LamX
section
variable {P : Program} {w : World} {K : PySem.W.Frag} {mg : Str → Option Value} {base : Heap}
def spSigns : Sp := fun vs H Q _ => vs = [] ∧ ∀ d H', Same H H' → H' d = some (.dK sgKv) → Q (.ref d) H'
theorem ok_signs (T : Tx P K mg) : FnOk P w K mg base CX0 1 T.asigns T.fdsigns [] spSigns := by
  refine T.Dsigns.F.ok scsigns (fun vs H Q E h => ?_) (fun cdv A outer s H vs Q E hr h => ?_)
  · obtain ⟨rfl, _⟩ := h
    rfl
  · obtain ⟨rfl, k⟩ := h
    refine ⟨_, pss_cons (ps_asg (pe_tup (pa_cons (pe_str) (pa_cons (pe_str) pa_nil))) (pg_tup rfl (pgs_cons (pg_name (i := 0) scsigns.nd rfl (Or.inl rfl)) (pgs_cons (pg_name (i := 1) scsigns.nd rfl (Or.inl rfl)) pgs_nil))))
(pss_one (ps_ret (pe_disp (pps_cons (pe_str) (pv 0) (pps_cons (pe_str) (pv 1) (pps_cons (pe_str) (pe_op op_addS (pe_op op_addS (pv 0) (pv 1)) (pe_str)) (pps_nil)))) (by rfl) (by rfl) (fun z => by cases z) (by decide)))), ?_⟩
    walk_at "z0"
    walk_at "zz"
    refine z_kTup (by show 2 ≤ sizeLine; decide) fun t H0 ht s0 h0 => ?_
    walk_at "zz"
    refine z_gTup (SqT.of h0) rfl ?_
    walk_at "zz"
    refine z_disp fun p H1 hp s1 h1 => ?_
    walk_at "zz"
    refine z_kDisp sgKv ?_ h1 (by decide) fun H2 b2 h2 => ?_
    · kernel_rfl
    walk_at "zz"
    exact k p H2 (s0.trans (b2.same s1 hp)) (by rw [h2, sg_merge])
def spLWords (K : PySem.W.Frag) : Sp := fun vs H Q _ => ∃ z : Str, vs = [.str z] ∧ z.length ≤ 100000 ∧ ∀ p H', Same H H' → Grow K H' p ((words (tl z)).map wd) → Q (.ref p) H'
/-- what is known at turn i of the law's own reading -/
structure LAt (K : PySem.W.Frag) (H H' : Hp) (z : Str) (p : Addr) (i : Nat) (s : F × List Nat) : Prop where
  s0 : Same H H'
  g : Grow K H' p (s.1.map wd)
  le : s.2.length ≤ i
  eq : wl ((tl z ++ [32]).drop i) i s = words (tl z)
  few : s.1.length ≤ 2 * i
  fin : i = (tl z).length + 1 → s.2 = []
theorem wl_app (r : List Nat) : ∀ (k : Nat) (s : F × List Nat), wl (r ++ [32]) k s = wl r k s := by
  induction r with
  | nil =>
    intro k s
    show (if 32 = 59 then fl k s else wl [] (k + 1) (stp k 32 s)) = fl k s
    rw [if_neg (by decide)]
    show fl (k + 1) (stp k 32 s) = fl k s
    unfold stp
    rw [if_neg (by decide), if_pos rfl]
    rfl
  | cons c r ih =>
    intro k s
    show (if c = 59 then fl k s else wl (r ++ [32]) (k + 1) (stp k c s)) = (if c = 59 then fl k s else wl r (k + 1) (stp k c s))
    rw [ih]
theorem ok_lwords (T : Tx P K mg) : FnOk P w K mg base CX0 1 T.alwords T.fdlwords ["_law_line"] (spLWords K) := by
  refine T.Dlwords.F.ok sclwords (fun vs H Q E h => ?_) (fun cdv A outer s H vs Q E hr h => ?_)
  · obtain ⟨z, rfl, _⟩ := h
    rfl
  · obtain ⟨z, rfl, hz, k⟩ := h
    refine ⟨_, pss_cons (ps_par rfl sclwords.nd (i := 1) (j := 2) rfl rfl (by decide) rfl rfl (pa_cons (pe_lst pa_nil) (pa_cons (pe_str) pa_nil)) (by rfl))
(pss_cons (ps_for PassesOwn.never rfl (pi_enumS rfl T.n_enumerate (pa_cons (pe_op op_addS (pv 0) (pe_str)) pa_nil)) (pg_tup rfl (pgs_cons (pg_name (i := 3) sclwords.nd rfl (Or.inl rfl)) (pgs_cons (pg_name (i := 4) sclwords.nd rfl (Or.inl rfl)) pgs_nil)))
(pss_cut (ps_if (pt_cut (PW.pt (pw_and (pt_cmpR op_inC (pv 4) (pe_str) (by rfl)) (pw_and1 (pt_cmpR op_ne (pv 2) (pe_str) (nomark _))))))
(pss_cons (ps_expr (pe_bm PySem.F.plainAttrs_list PySem.F.slot_list_append PySem.F.type_list_append mt_append (pv 1) (pa_cons (pe_tup (pa_cons (pv 2) (pa_cons (pe_op op_sub (pe_op op_add (pv 3) (pe_int)) (pe_callB call_lenS (by rfl) T.n_len (by decide +kernel) (pa_cons (pv 2) pa_nil))) pa_nil))) pa_nil)))
(pss_one (ps_set (i := 2) sclwords.nd rfl (Or.inl rfl) (pe_str))))
(pss_nil))
(pss_cons (ps_if (pt_cmpR op_eq (pv 4) (pe_str) (nomark _))
(pss_one (ps_ret (pv 1)))
(pss_nil))
(pss_one (ps_if (pt_cmpR op_inC (pv 4) (pe_str) (by rfl))
(pss_one (ps_expr (pe_bm PySem.F.plainAttrs_list PySem.F.slot_list_append PySem.F.type_list_append mt_append (pv 1) (pa_cons (pe_tup (pa_cons (pv 4) (pa_cons (pe_op op_add (pv 3) (pe_int)) pa_nil))) pa_nil))))
(pss_one (ps_if (pt_cmpR op_ne (pv 4) (pe_str) (nomark _))
(pss_one (ps_set (i := 2) sclwords.nd rfl (Or.inl rfl) (pe_op op_addS (pv 2) (pv 4))))
(pss_nil))))))))
(pss_one (ps_ret (pv 1)))), ?_⟩
    walk_at "z0"
    walk_at "zz"
    refine z_kLst (Nat.zero_le _) fun p H1 hp s1 h1 => ?_
    walk_at "zz"
    have zl := str_len z
    have e0 : tl "" = [] := by decide +kernel
    refine z_addS ?_ ?_
    · refine line_ge ?_
      rw [str_len (" " : Str), e_sp]
      show z.length + 1 ≤ _
      omega
    walk_at "zz"
    generalize hzz : z ++ (" " : Str) = zz
    have ez : tl zz = tl z ++ [32] := by rw [← hzz, tl_app, e_sp]
    have en : zz.cps.size = (tl zz).length := by simp [tl]
    have hlen : (tl zz).length ≤ 100001 := by
      rw [ez, List.length_append]
      show (tl z).length + 1 ≤ _
      omega
    refine f_enumS (fun i σ' H' => ∃ (s : F × List Nat) (x : Str) (x3 x4 : Option V), tl x = s.2 ∧ σ' = [some (.str z), some (.ref p), some (.str x), x3, x4] ∧ LAt K H H' z p i s) ⟨([], []), "", none, none, e0, rfl, s1, grow_nil h1, Nat.le_refl _, ?_, Nat.zero_le _, fun q => rfl⟩ ?_ ?_
    · show wl (tl z ++ [32]) 0 ([], []) = _
      rw [wl_app]
      rfl
    · rintro i c σ' H' H2 hc ⟨s, x, x3, x4, ex, rfl, W⟩ s2
      have hc' : (tl zz)[i]? = some c := by simpa using hc
      have hi : i < (tl zz).length := (List.getElem?_eq_some_iff.mp hc').1
      have ew := W.eq
      rw [← ez, wl_drop hc'] at ew
      have h32 : i = (tl z).length → c = 32 := fun q => by
        rw [ez, q, List.getElem?_append_right (Nat.le_refl _), Nat.sub_self] at hc'
        exact (Option.some.inj hc').symm
      refine z_cut (fun σ3 H3 => ∃ (s' : F × List Nat) (x' : Str), tl x' = s'.2 ∧ σ3 = [some (.str z), some (.ref p), some (.str x'), some (.int (i : Nat)), some (.str ⟨#[c]⟩)] ∧ Same H H3 ∧ Grow K H3 p (s'.1.map wd) ∧ s' = (if c = 32 ∨ c = 40 ∨ c = 41 ∨ c = 59 then (fl i s, []) else s)) ?_ ?_
      · walk_at "zz"
        refine z_cutB (decide ((c = 32 ∨ c = 40 ∨ c = 41 ∨ c = 59) ∧ s.2 ≠ [])) ?_ fun H3 s3 => ?_
        · walk_at "zz"
          rw [in_sep]
          refine z_ite (fun e => ?_) (fun e => ?_)
          · walk_at "zz"
            refine ⟨?_, Same.refl _⟩
            rw [txt_eq e0, ex, Bool.decide_and, e, Bool.true_and, decide_not]
          · refine ⟨?_, Same.refl _⟩
            rw [Bool.decide_and, e, Bool.false_and]
        have g3 := (W.g.same s2).same s3
        have s03 := (W.s0.trans s2).trans s3
        refine z_ite (fun e => ?_) (fun e => ?_)
        · have e := of_decide_eq_true e
          walk_at "zz"
          refine ⟨g3.ty, ?_⟩
          walk_at "zz"
          have xl := str_len x
          rw [ex] at xl
          refine z_lenS (line_ge (by have := W.le; omega)) ?_
          walk_at "zz"
          refine z_kTup (by show 2 ≤ sizeLine; decide) fun t H4 ht s4 h4 => ?_
          walk_at "zz"
          have hfl : fl i s = s.1 ++ [(s.2, i + 1 - s.2.length)] := if_neg e.2
          refine z_append (d := wd (s.2, i + 1 - s.2.length)) (g3.same s4) ?_ rfl (by rw [List.length_map]; have := W.few; omega) fun H5 g5 a5 b5 => ?_
          · have e1 : ((i + 1 - s.2.length : Nat) : Int) = (i : Int) + 1 - (x.length : Int) := by have := W.le; omega
            have e2 : (⟨s.2.toArray⟩ : Str) = x := str_ext (by rw [tl_mk, ex])
            unfold wd
            show Dp K H4 (.ref t) (.tuple [.str ⟨s.2.toArray⟩, .int ((i + 1 - s.2.length : Nat) : Int)])
            rw [e1, e2]
            exact .tup (SqT.of h4) (.cons (.str _) (.cons (.int _) .nil))
          walk_at "zz"
          refine ⟨(fl i s, []), "", e0, rfl, a5 H (s03.trans s4) hp, ?_, by rw [if_pos e.1]⟩
          show Grow K H5 p ((fl i s).map wd)
          rw [hfl, List.map_append]
          exact g5
        · have e := of_decide_eq_false e
          walk_at "zz"
          by_cases ec : c = 32 ∨ c = 40 ∨ c = 41 ∨ c = 59
          · have e2 : s.2 = [] := Classical.byContradiction fun q => e ⟨ec, q⟩
            refine ⟨(fl i s, []), x, by rw [ex, e2], rfl, s03, ?_, by rw [if_pos ec]⟩
            have ef : fl i s = s.1 := if_pos e2
            rw [ef]
            exact g3
          · exact ⟨s, x, ex, rfl, s03, g3, by rw [if_neg ec]⟩
      · rintro σ3 H3 ⟨s', x', ex', rfl, s3, g3, es⟩
        walk_at "zz"
        rw [one_eq e_semi]
        refine z_ite (fun e => ?_) (fun e => ?_)
        · have e := of_decide_eq_true e
          rw [if_pos e] at ew
          rw [if_pos (by omega)] at es
          subst es
          walk_at "zz"
          refine k p _ s3 ?_
          rw [← ew]
          exact g3
        · have e := of_decide_eq_false e
          rw [if_neg e] at ew
          have hl2 : s'.1.length ≤ 2 * i + 1 := by
            have q1 := fl_len i s
            have q2 := W.few
            subst es
            split
            · show (fl i s).length ≤ _
              omega
            · omega
          walk_at "zz"
          rw [in_par]
          refine z_ite (fun e2 => ?_) (fun e2 => ?_)
          · have e2 := of_decide_eq_true e2
            rw [if_pos (by omega)] at es
            subst es
            walk_at "zz"
            refine ⟨g3.ty, ?_⟩
            walk_at "zz"
            refine z_kTup (by show 2 ≤ sizeLine; decide) fun t H4 ht s4 h4 => ?_
            walk_at "zz"
            refine z_append (d := wd ([c], i + 1)) (g3.same s4) (.tup (SqT.of h4) (.cons (.str _) (.cons (.int _) .nil))) rfl (by rw [List.length_map]; omega) fun H5 g5 a5 b5 => ?_
            walk_at "zz"
            have est : stp i c s = (fl i s ++ [([c], i + 1)], []) := if_pos e2
            rw [est, ez] at ew
            refine ⟨(fl i s ++ [([c], i + 1)], []), x', _, _, ex', rfl, a5 H (s3.trans s4) hp, ?_, Nat.zero_le _, ew, ?_, fun _ => rfl⟩
            · rw [List.map_append]
              exact g5
            · rw [List.length_append]
              show (fl i s).length + 1 ≤ _
              have q : (fl i s).length ≤ 2 * i + 1 := hl2
              omega
          · have e2 := of_decide_eq_false e2
            walk_at "zz"
            rw [one_eq e_sp]
            refine z_ite (fun e3 => ?_) (fun e3 => ?_)
            · have e32 := of_decide_eq_false (not_t e3)
              rw [if_neg (by omega)] at es
              subst es
              have xl := str_len x'
              rw [ex'] at xl
              walk_at "zz"
              refine z_addS (line_ge ?_) ?_
              · have := W.le
                show x'.length + 1 ≤ _
                omega
              walk_at "zz"
              have est : stp i c s' = (s'.1, s'.2 ++ [c]) := by
                unfold stp
                rw [if_neg e2, if_neg e32]
              rw [est, ez] at ew
              refine ⟨(s'.1, s'.2 ++ [c]), x' ++ ⟨#[c]⟩, _, _, ?_, rfl, s3, g3, ?_, ew, ?_, fun q => absurd (h32 (by omega)) e32⟩
              · rw [tl_app, ex']
              · have := W.le
                simp
                omega
              · have := W.few
                show s'.1.length ≤ _
                omega
            · have e32 := of_decide_eq_true (not_f e3)
              rw [if_pos (by omega)] at es
              subst es
              walk_at "zz"
              have est : stp i c s = (fl i s, []) := by
                unfold stp
                rw [if_neg e2, if_pos e32]
              rw [est, ez] at ew
              exact ⟨(fl i s, []), x', _, _, ex', rfl, s3, g3, Nat.zero_le _, ew, by show (fl i s).length ≤ _; have q : (fl i s).length ≤ 2 * i + 1 := hl2; omega, fun _ => rfl⟩
    · rintro σ' H' ⟨s, x, x3, x4, ex, rfl, W⟩
      walk_at "zz"
      refine k p _ W.s0 ?_
      have ew := W.eq
      rw [en, ← ez, wl_end (Nat.le_refl _)] at ew
      have e2 : s.2 = [] := W.fin (by rw [en, ez, List.length_append]; rfl)
      have ef : fl (tl zz).length s = s.1 := if_pos e2
      rw [← ew, ef]
      exact W.g
def spKind : Sp := fun vs H Q _ => ∃ z : Str, vs = [.str z] ∧ z.length ≤ 100000 ∧ tl z ≠ [] ∧ ∀ x H', Same H H' → tl x = lkind (tl z) → Q (.str x) H'
theorem ok_kind (T : Tx P K mg) : FnOk P w K mg base CX0 2 T.akind T.fdkind ["_law_word"] spKind := by
  have Gsigns : FnOk P w K mg base CX0 1 T.asigns T.fdsigns [] spSigns := ok_signs T
  refine T.Dkind.F.ok sckind (fun vs H Q E h => ?_) (fun cdv A outer s H vs Q E hr h => ?_)
  · obtain ⟨z, rfl, _⟩ := h
    rfl
  · obtain ⟨z, rfl, hz, hne, k⟩ := h
    have hu := hu_of hr
    have hrsigns := hr
    refine ⟨_, pss_cons (ps_set (i := 1) sckind.nd rfl (Or.inr rfl) (pe_callN0 T.Dsigns Gsigns hrsigns pass0))
(pss_cons (ps_if (pt_cmpR op_in_seq (pv 0) (pe_lst (pa_cons (pe_str) (pa_cons (pe_str) (pa_cons (pe_str) (pa_cons (pe_str) pa_nil))))) (by rfl))
(pss_one (ps_ret (pv 0)))
(pss_nil))
(pss_cut (ps_if (pt_cut (PW.pt (pw_and (pt_cmpR op_inC (pe_ix ix_str (pv 0) (pe_int) (fun _ _ => rfl)) (pe_op op_addS (pe_dget hu (pv 1) (pe_str) (fun _ _ => rfl)) (pe_dget hu (pv 1) (pe_str) (fun _ _ => rfl))) (by rfl)) (pw_and1 (pt_cmpR op_le (pe_callB call_lenS (by rfl) T.n_len (by decide +kernel) (pa_cons (pv 0) pa_nil)) (pe_int) (nomark _))))))
(pss_one (ps_if (pt_cmpR (op_eqD hr.units) (pe_lc (own := [("_law_sign", 3)]) rfl sckind.nd (pi_str (pv 0)) (blkOk_by (own := [("_law_sign", 3)]) (N := ["_law_word", "_law_signs_here", "_law_digits", "_law_sign"]) (sc := defScope skind) (by decide +kernel)) (fun _ _ _ _ _ => pg_name (i := 3) sckind.nd rfl (Or.inl rfl)) (fun _ _ _ _ _ => pts_one (pt_cmpR op_notInC (pv 3) (pe_dget hu (pv 1) (pe_str) (fun _ _ => rfl)) (by rfl))) (fun _ _ _ _ _ => pe_int)) (pe_lst pa_nil) (nomark _))
(pss_one (ps_ret (pe_cut (pe_ifExp (pt_cmpR op_inC (pe_ix ix_str (pv 0) (pe_int) (fun _ _ => rfl)) (pe_dget hu (pv 1) (pe_str) (fun _ _ => rfl)) (by rfl)) (pe_str) (pe_str)))))
(pss_nil)))
(pss_nil))
(pss_cons (ps_set (i := 2) sckind.nd rfl (Or.inl rfl) (pe_cut (pe_ifExp (pt_cmpR op_eq (pe_ix ix_str (pv 0) (pe_int) (fun _ _ => rfl)) (pe_str) (nomark _)) (pe_slice sl_str (pv 0) (po_some (pe_int)) po_none) (pv 0))))
(pss_cut (ps_if (pt_cut (PW.pt (pw_and (pt_cmpR op_ne (pv 2) (pe_str) (nomark _)) (pw_and (pt_cmpR op_le (pe_callB call_lenS (by rfl) T.n_len (by decide +kernel) (pa_cons (pv 2) pa_nil)) (pe_int) (nomark _)) (pw_and1 (pt_cmpR (op_eqD hr.units) (pe_lc (own := [("_law_sign", 3)]) rfl sckind.nd (pi_str (pv 2)) (blkOk_by (own := [("_law_sign", 3)]) (N := ["_law_word", "_law_signs_here", "_law_digits", "_law_sign"]) (sc := defScope skind) (by decide +kernel)) (fun _ _ _ _ _ => pg_name (i := 3) sckind.nd rfl (Or.inl rfl)) (fun _ _ _ _ _ => pts_one (pt_cmpR op_notInC (pv 3) (pe_str) (by rfl))) (fun _ _ _ _ _ => pe_int)) (pe_lst pa_nil) (nomark _)))))))
(pss_one (ps_if (pt_cut (PW.pt (pw_or (pt_cmpR op_eq (pv 0) (pe_str) (nomark _)) (pw_or1 (pt_cmpR op_ne (pe_ix ix_str (pv 2) (pe_int) (fun _ _ => rfl)) (pe_str) (nomark _))))))
(pss_one (ps_ret (pe_str)))
(pss_nil)))
(pss_nil))
(pss_one (ps_ret (pe_op op_addS (pe_str) (pv 0)))))))), ?_⟩
    walk_at "z0"
    walk_at "zz"
    refine ⟨rfl, fun d H1 s1 h1 => ?_⟩
    walk_at "zz"
    refine z_kLst (by show 4 ≤ sizeLine; decide) fun p H2 hp s2 h2 => ?_
    walk_at "zz"
    refine z_inL (SqL.of h2) rfl rfl ?_
    rw [if_neg Bool.false_ne_true, in_kept]
    walk_at "zz"
    have zl := str_len z
    have hlen : 1 ≤ z.length := by
      have := List.length_pos_iff.mpr hne
      omega
    refine z_ite (fun e => ?_) (fun e => ?_)
    · walk_at "zz"
      refine k z H2 (s1.trans s2) ?_
      unfold lkind
      rw [if_pos (of_decide_eq_true e)]
    have e := of_decide_eq_false e
    walk_at "zz"
    have eBS : ∀ c, decide (c ∈ (((⟨BIG.toArray⟩ : Str) ++ (⟨SMALL.toArray⟩ : Str) : Str)).cps.toList) = decide (c ∈ BIG ++ SMALL) := fun c => decide_eq_decide.mpr (by show c ∈ tl _ ↔ _; rw [tl_app, tl_mk, tl_mk])
    have eL : tl (⟨LATER.toArray⟩ : Str) = LATER := tl_mk _
    have eD : tl "0123456789" = DIG := rfl
    have e48 : tl "0" = [48] := by decide +kernel
    have e45 : tl "-" = [45] := by decide +kernel
    have e0 : tl "" = [] := by decide +kernel
    -- the first question: a name
    refine z_cut (fun σ' H' => σ' = [some (.str z), some (.ref d), none, none] ∧ Same H H' ∧ H' d = some (.dK sgKv) ∧ ¬ ((((tl z).headD 0 ∈ BIG ++ SMALL ∧ (tl z).length ≤ 24) ∧ (tl z).filter (fun c => !decide (c ∈ LATER)) = []))) ?_ ?_
    · refine z_ifS ?_
      refine z_cutB (decide ((tl z).headD 0 ∈ BIG ++ SMALL ∧ (tl z).length ≤ 24)) ?_ fun H3 s3 => ?_
      · walk_at "zz"
        refine z_ixS (line_ge (by omega)) (head_at hlen) ?_
        walk_at "zz"
        rw [eBS]
        refine z_ite (fun e1 => ?_) (fun e1 => ?_)
        · walk_at "zz"
          refine ⟨?_, Same.refl _⟩
          rw [Bool.decide_and, e1, Bool.true_and]
          exact decide_eq_decide.mpr (by omega)
        · refine ⟨?_, Same.refl _⟩
          rw [Bool.decide_and, e1, Bool.false_and]
      have hd3 : H3 d = some (.dK sgKv) := s3 _ _ (s2 _ _ h1)
      have s03 := (s1.trans s2).trans s3
      refine z_ite (fun e1 => ?_) (fun e1 => ?_)
      · have e1 := of_decide_eq_true e1
        refine z_ifS (z_test (z_noneOf (x := ⟨LATER.toArray⟩) hz (fun R q => ?_) (fun c H4 s4 R q => ?_) (by simp) fun H4 s4 => z_kT ?_))
        · walk_at "zz"
          exact q
        · walk_at "zz"
          exact q
        · rw [eL]
          refine z_ite (fun e2 => ?_) (fun e2 => ?_)
          · have e2 := of_decide_eq_true e2
            walk_at "zz"
            have ek : lkind (tl z) = if (tl z).headD 0 ∈ BIG then tl "big" else tl "small" := by
              unfold lkind
              rw [if_neg e, if_pos ⟨e1, e2⟩]
            refine z_cutE (fun v H' => Same H4 H' ∧ ∃ x, v = .str x ∧ tl x = lkind (tl z)) ?_ ?_
            · walk_at "zz"
              refine z_ixS (line_ge (by omega)) (head_at hlen) ?_
              walk_at "zz"
              refine z_ite (fun e3 => ?_) (fun e3 => ?_)
              · have e3 : (tl z).headD 0 ∈ tl ⟨BIG.toArray⟩ := of_decide_eq_true e3
                rw [tl_mk] at e3
                walk_at "zz"
                exact ⟨Same.refl _, _, rfl, by rw [ek, if_pos e3]⟩
              · have e3 : ¬ (tl z).headD 0 ∈ tl ⟨BIG.toArray⟩ := of_decide_eq_false e3
                rw [tl_mk] at e3
                walk_at "zz"
                exact ⟨Same.refl _, _, rfl, by rw [ek, if_neg e3]⟩
            · rintro v H' ⟨s5, x, rfl, ex⟩
              walk_at "zz"
              exact k x H' ((s03.trans s4).trans s5) ex
          · have e2 := of_decide_eq_false e2
            walk_at "zz"
            exact ⟨rfl, s03.trans s4, s4 _ _ hd3, fun q => e2 q.2⟩
      · have e1 := of_decide_eq_false e1
        walk_at "zz"
        exact ⟨rfl, s03, hd3, fun q => e1 q.1⟩
    · rintro σ' H3 ⟨rfl, s3, h3, hn⟩
      walk_at "zz"
      generalize hdz : (if (tl z).headD 0 = 45 then (tl z).drop 1 else tl z) = dl
      have hdl : dl.length ≤ (tl z).length := by
        rw [← hdz]
        split
        · rw [List.length_drop]
          omega
        · exact Nat.le_refl _
      have ek : lkind (tl z) = if (dl ≠ [] ∧ dl.length ≤ 400 ∧ dl.filter (fun c => !decide (c ∈ DIG)) = []) ∧ (tl z = [48] ∨ dl.headD 0 ≠ 48) then tl "number" else tl "word " ++ tl z := by
        unfold lkind
        rw [if_neg e, if_neg hn]
        simp only [hdz]
      refine z_cutV (.str ⟨dl.toArray⟩) ?_ fun H4 s4 => ?_
      · walk_at "zz"
        refine z_ixS (line_ge (by omega)) (head_at hlen) ?_
        walk_at "zz"
        rw [one_eq e45]
        refine z_ite (fun e1 => ?_) (fun e1 => ?_)
        · have e1 := of_decide_eq_true e1
          walk_at "zz"
          refine ⟨congrArg V.str (str_ext ?_), Same.refl _⟩
          rw [tl_mk, ← hdz, if_pos e1]
          exact cut_from z 1
        · have e1 := of_decide_eq_false e1
          walk_at "zz"
          refine ⟨congrArg V.str (str_ext ?_), Same.refl _⟩
          rw [tl_mk, ← hdz, if_neg e1]
      generalize hg : (⟨dl.toArray⟩ : Str) = dz
      have ed : tl dz = dl := by rw [← hg, tl_mk]
      have dlen := str_len dz
      rw [ed] at dlen
      walk_at "zz"
      refine z_cut (fun σ' H' => σ' = [some (.str z), some (.ref d), some (.str dz), none] ∧ Same H H' ∧ ¬ ((dl ≠ [] ∧ dl.length ≤ 400 ∧ dl.filter (fun c => !decide (c ∈ DIG)) = []) ∧ (tl z = [48] ∨ dl.headD 0 ≠ 48))) ?_ ?_
      · refine z_ifS ?_
        refine z_cutB (decide (dl ≠ [] ∧ dl.length ≤ 400 ∧ dl.filter (fun c => !decide (c ∈ DIG)) = [])) ?_ fun H5 s5 => ?_
        · walk_at "zz"
          rw [txt_eq e0, ed]
          refine z_ite (fun e1 => ?_) (fun e1 => ?_)
          · have e1 := of_decide_eq_false (not_t e1)
            walk_at "zz"
            refine z_ite (fun e2 => ?_) (fun e2 => ?_)
            · have e2 := of_decide_eq_true e2
              refine z_test (z_noneOf (z := dz) (x := "0123456789") (by omega) (fun R q => ?_) (fun c H5 s5 R q => ?_) (by simp) fun H5 s5 => z_kT ?_)
              · walk_at "zz"
                exact q
              · walk_at "zz"
                exact q
              · rw [eD, ed]
                refine ⟨decide_eq_decide.mpr ?_, s5⟩
                constructor
                · intro q
                  exact ⟨e1, by omega, q⟩
                · intro q
                  exact q.2.2
            · have e2 := of_decide_eq_false e2
              refine ⟨(decide_eq_false ?_).symm, Same.refl _⟩
              intro q
              exact e2 (by omega)
          · have e1 := of_decide_eq_true (not_f e1)
            refine ⟨(decide_eq_false ?_).symm, Same.refl _⟩
            intro q
            exact q.1 e1
        have s05 := (s3.trans s4).trans s5
        refine z_ite (fun e1 => ?_) (fun e1 => ?_)
        · have e1 := of_decide_eq_true e1
          have hdlen : 1 ≤ dz.length := by
            have := List.length_pos_iff.mpr e1.1
            omega
          refine z_ifS ?_
          refine z_cutB (decide (tl z = [48] ∨ dl.headD 0 ≠ 48)) ?_ fun H6 s6 => ?_
          · walk_at "zz"
            rw [txt_eq e48]
            refine z_ite (fun e2 => ?_) (fun e2 => ?_)
            · refine ⟨(decide_eq_true ?_).symm, Same.refl _⟩
              exact .inl (of_decide_eq_true e2)
            · have e2 := of_decide_eq_false e2
              walk_at "zz"
              refine z_ixS (line_ge (by omega)) (head_at hdlen) ?_
              walk_at "zz"
              rw [one_eq e48, ed]
              refine ⟨?_, Same.refl _⟩
              rw [← decide_not]
              refine decide_eq_decide.mpr ?_
              exact ⟨fun q => .inr q, fun q => q.resolve_left e2⟩
          refine z_ite (fun e2 => ?_) (fun e2 => ?_)
          · have e2 := of_decide_eq_true e2
            walk_at "zz"
            refine k _ H6 (s05.trans s6) ?_
            rw [ek, if_pos ⟨e1, e2⟩]
          · have e2 := of_decide_eq_false e2
            walk_at "zz"
            exact ⟨rfl, s05.trans s6, fun q => e2 q.2⟩
        · have e1 := of_decide_eq_false e1
          walk_at "zz"
          exact ⟨rfl, s05, fun q => e1 q.1⟩
      · rintro σ' H5 ⟨rfl, s5, hn2⟩
        walk_at "zz"
        refine z_addS ?_ ?_
        · refine line_ge ?_
          have e5 : ("word " : Str).length = 5 := by decide +kernel
          omega
        walk_at "zz"
        refine k _ H5 s5 ?_
        rw [ek, if_neg hn2, tl_app]
end
end K04

namespace K04
open PySem PySem.Spec PyProof.Rows L2 Nm K3 LamX
/-- the state of the law's own reading -/
def stKv (l : Addr) (n : Int) : List (Key × V) := [(.inr "words", .ref l), (.inr "at", .int n)]
theorem st_words {l : Addr} {n : Int} : valV (stKv l n) (.inr "words") = some (.ref l) := by kernel_rfl
theorem st_at {l : Addr} {n : Int} : valV (stKv l n) (.inr "at") = some (.int n) := by kernel_rfl
theorem st_put {l : Addr} {n z : Int} : putK (stKv l n) (.inr "at") (.int z) = stKv l z := by kernel_rfl
/-- the words of a line, none of them empty -/
structure WsOk (f : F) : Prop where
  few : f.length ≤ 400000
  ne : ∀ q ∈ f, q.1 ≠ []
  len : ∀ q ∈ f, q.1.length ≤ 100000
def StAt (K : PySem.W.Frag) (H : Hp) (d l : Addr) (f : F) (n : Nat) : Prop := ∃ us, H d = some (.dK (stKv l (n : Nat))) ∧ H l = some (.lst us) ∧ DpAll K H us (f.map wd)
theorem StAt.same {K : PySem.W.Frag} {H H' : Hp} {d l : Addr} {f : F} {n : Nat} (s : Same H H') (h : StAt K H d l f n) : StAt K H' d l f n := by
  obtain ⟨us, h1, h2, h3⟩ := h
  exact ⟨us, s _ _ h1, s _ _ h2, dps_keep (same_keep s) h3⟩
def kindV (f : F) (n : Nat) : V := match f[n]? with
  | some q => .str (txt (lkind q.1))
  | none => .non
section
variable {P : Program} {w : World} {K : PySem.W.Frag} {mg : Str → Option Value} {base : Heap}
def spSeen (K : PySem.W.Frag) : Sp := fun vs H Q _ => ∃ (d l : Addr) (f : F) (n : Nat), vs = [.ref d] ∧ StAt K H d l f n ∧ WsOk f ∧ ∀ H', Same H H' → Q (kindV f n) H'
theorem ok_seen (T : Tx P K mg) : FnOk P w K mg base CX0 3 T.aseen T.fdseen ["_law_state"] (spSeen K) := by
  have Gkind : FnOk P w K mg base CX0 2 T.akind T.fdkind ["_law_word"] spKind := ok_kind T
  refine T.Dseen.F.ok scseen (fun vs H Q E h => ?_) (fun cdv A outer s H vs Q E hr h => ?_)
  · obtain ⟨d, l, f, n, rfl, _⟩ := h
    rfl
  · obtain ⟨d, l, f, n, rfl, ⟨us, hd, hl, hds⟩, hok, k⟩ := h
    have hu := hu_of hr
    have hrkind := hr
    obtain ⟨lus, hw⟩ := wd_at hds
    refine ⟨_, pss_one (ps_ret (pe_cut (pe_ifExp (pt_cmpR op_lt (pe_dget hu (pv 0) (pe_str) (fun _ _ => rfl)) (pe_callB call_lenL (by rfl) T.n_len (by decide +kernel) (pa_cons (pe_dget hu (pv 0) (pe_str) (fun _ _ => rfl)) pa_nil)) (nomark _)) (pe_callN T.Dkind Gkind hrkind pass0 (pa_cons (pe_ix ix_tup (pe_ix ix_list (pe_dget hu (pv 0) (pe_str) (fun _ _ => rfl)) (pe_dget hu (pv 0) (pe_str) (fun _ _ => rfl)) (fun _ _ => rfl)) (pe_int) (fun _ _ => rfl)) pa_nil)) (pe_non)))), ?_⟩
    walk_at "z0"
    walk_at "zz"
    refine z_cutV (kindV f n) ?_ fun H' s => ?_
    · walk_at "zz"
      refine z_kGetS hd st_at ?_
      walk_at "zz"
      refine z_kGetS hd st_words ?_
      walk_at "zz"
      refine z_lenL (SqL.of hl) ?_
      walk_at "zz"
      refine z_ite (fun e => ?_) (fun e => ?_)
      · have e := of_decide_eq_true e
        obtain ⟨q, hq⟩ : ∃ q, f[n]? = some q := ⟨_, List.getElem?_eq_getElem (by omega)⟩
        obtain ⟨r, e1, h1⟩ := hw n q hq
        have mq := List.mem_of_getElem? hq
        walk_at "zz"
        refine z_kGetS hd st_words ?_
        walk_at "zz"
        refine z_kGetS hd st_at ?_
        walk_at "zz"
        refine z_ixL (SqL.of hl) (at_of rfl e1) ?_
        walk_at "zz"
        refine z_ixT h1 rfl ?_
        walk_at "zz"
        refine ⟨txt q.1, rfl, by rw [str_len]; exact hok.len q mq, hok.ne q mq, fun x H1 s1 ex => ?_⟩
        refine ⟨?_, s1⟩
        unfold kindV
        rw [hq]
        exact congrArg V.str (str_ext ex)
      · have e := of_decide_eq_false e
        walk_at "zz"
        refine ⟨?_, Same.refl _⟩
        unfold kindV
        rw [List.getElem?_eq_none (by omega)]
    · walk_at "zz"
      exact k H' s
/-- _law_take(state, [kind]) -/
def spTake (K : PySem.W.Frag) : Sp := fun vs H Q _ => ∃ (d l p : Addr) (z : Str) (f : F) (n : Nat), vs = [.ref d, .ref p] ∧ StAt K H d l f n ∧ WsOk f ∧ H p = some (.lst [.str z]) ∧
  (kindV f n = .str z → ∀ H', But d H H' → StAt K H' d l f (n + 1) → Q (.bl true) H') ∧ (kindV f n ≠ .str z → ∀ H', Same H H' → Q (.bl false) H')
theorem st_move {H : Hp} {d : Addr} {f : F} {l : Addr} {us : List V} {n : Nat} (hd : H d = some (.dK (stKv l (n : Nat)))) (hl : H l = some (.lst us)) (hds : DpAll K H us (f.map wd)) : StAt K (upd H d (.dK (stKv l ((n : Nat) + 1)))) d l f (n + 1) := by
  have b : But d H (upd H d (.dK (stKv l ((n : Nat) + 1)))) := But.upd
  refine ⟨us, ?_, b _ _ (fun e => by rw [e, hd] at hl; cases hl) hl, dps_keep (b.keep hd) hds⟩
  rw [upd_same]
  rfl
theorem ok_take (T : Tx P K mg) : FnOk P w K mg base CX0 4 T.atake T.fdtake ["_law_state", "_law_kinds"] (spTake K) := by
  have Gseen : FnOk P w K mg base CX0 3 T.aseen T.fdseen ["_law_state"] (spSeen K) := ok_seen T
  refine T.Dtake.F.ok sctake (fun vs H Q E h => ?_) (fun cdv A outer s H vs Q E hr h => ?_)
  · obtain ⟨d, l, p, z, f, n, rfl, _⟩ := h
    rfl
  · obtain ⟨d, l, p, z, f, n, rfl, hst, hok, hp, k1, k2⟩ := h
    have hu := hu_of hr
    have hrseen := hr
    refine ⟨_, pss_cons (ps_if (pt_cmpR op_notIn_seq (pe_callN T.Dseen Gseen hrseen pass0 (pa_cons (pv 0) pa_nil)) (pv 1) (by rfl))
(pss_one (ps_ret (pe_bl)))
(pss_nil))
(pss_cons (ps_dput hu (pv 0) (pe_str) (pe_op op_add (pe_dget hu (pv 0) (pe_str) (fun _ _ => rfl)) (pe_int)) rfl)
(pss_one (ps_ret (pe_bl)))), ?_⟩
    walk_at "z0"
    walk_at "zz"
    refine ⟨d, l, f, n, rfl, hst, hok, fun H1 s1 => ?_⟩
    walk_at "zz"
    have fl : flatV (kindV f n) = true := by
      unfold kindV
      cases f[n]? <;> rfl
    refine z_inL (SqL.of (s1 _ _ hp)) fl rfl ?_
    have ei : inV (kindV f n) [V.str z] = decide (kindV f n = .str z) := by
      unfold kindV
      cases f[n]? with
      | none => rfl
      | some q =>
        show ((z == txt (lkind q.1)) || false) = _
        rw [Bool.or_false, Bool.beq_eq_decide_eq]
        refine decide_eq_decide.mpr ⟨fun h => by rw [h], fun h => by injection h with h; exact h.symm⟩
    rw [if_pos rfl, ei]
    walk_at "zz"
    obtain ⟨us, hd, hl, hds⟩ := hst.same s1
    refine z_ite (fun e => ?_) (fun e => ?_)
    · have e := of_decide_eq_false (not_t e)
      walk_at "zz"
      exact k2 e H1 s1
    · have e := of_decide_eq_true (not_f e)
      walk_at "zz"
      refine z_kGetS hd st_at ?_
      walk_at "zz"
      refine z_kPutS hd (by show 2 ≤ 1000; decide) ?_
      rw [st_put]
      walk_at "zz"
      exact k1 e _ (fun b o nb hb => by rw [upd_ne nb]; exact s1 _ _ hb) (st_move hd hl hds)
end
end K04

namespace K04
open PySem PySem.Spec PyProof.Rows L2 Nm K3 LamX
section
variable {P : Program} {w : World} {K : PySem.W.Frag} {mg : Str → Option Value} {base : Heap}
def spColumn (K : PySem.W.Frag) : Sp := fun vs H Q _ => ∃ (d l : Addr) (f : F) (n : Nat), vs = [.ref d] ∧ StAt K H d l f n ∧ WsOk f ∧ SeqAt.shaped (.list (f.map wd)) = true ∧ ∀ H', Same H H' → Q (.int (colOf f n : Nat)) H'
theorem ok_column (T : Tx P K mg) : FnOk P w K mg base CX0 1 T.acolumn T.fdcolumn ["_law_state"] (spColumn K) := by
  refine T.Dcolumn.F.ok sccolumn (fun vs H Q E h => ?_) (fun cdv A outer s H vs Q E hr h => ?_)
  · obtain ⟨d, l, f, n, rfl, _⟩ := h
    rfl
  · obtain ⟨d, l, f, n, rfl, ⟨us, hd, hl, hds⟩, hok, hsh, k⟩ := h
    have hu := hu_of hr
    obtain ⟨lus, hw⟩ := wd_at hds
    refine ⟨_, pss_cons (ps_if (pt_cmpR op_lt (pe_dget hu (pv 0) (pe_str) (fun _ _ => rfl)) (pe_callB call_lenL (by rfl) T.n_len (by decide +kernel) (pa_cons (pe_dget hu (pv 0) (pe_str) (fun _ _ => rfl)) pa_nil)) (nomark _))
(pss_one (ps_ret (pe_ix ix_tup (pe_ix ix_list (pe_dget hu (pv 0) (pe_str) (fun _ _ => rfl)) (pe_dget hu (pv 0) (pe_str) (fun _ _ => rfl)) (fun _ _ => rfl)) (pe_int) (fun _ _ => rfl))))
(pss_nil))
(pss_cons (ps_if (pt_cmpR (op_eqD hr.units) (pe_dget hu (pv 0) (pe_str) (fun _ _ => rfl)) (pe_lst pa_nil) (nomark _))
(pss_one (ps_ret (pe_int)))
(pss_nil))
(pss_one (ps_ret (pe_op op_add (pe_ix ix_tup (pe_ix ix_list (pe_dget hu (pv 0) (pe_str) (fun _ _ => rfl)) (pe_un un_neg (pe_int)) (fun _ _ => rfl)) (pe_int) (fun _ _ => rfl)) (pe_callB call_lenS (by rfl) T.n_len (by decide +kernel) (pa_cons (pe_ix ix_tup (pe_ix ix_list (pe_dget hu (pv 0) (pe_str) (fun _ _ => rfl)) (pe_un un_neg (pe_int)) (fun _ _ => rfl)) (pe_int) (fun _ _ => rfl)) pa_nil)))))), ?_⟩
    walk_at "z0"
    walk_at "zz"
    refine z_kGetS hd st_at ?_
    walk_at "zz"
    refine z_kGetS hd st_words ?_
    walk_at "zz"
    refine z_lenL (SqL.of hl) ?_
    walk_at "zz"
    refine z_ite (fun e => ?_) (fun e => ?_)
    · have e := of_decide_eq_true e
      obtain ⟨q, hq⟩ : ∃ q, f[n]? = some q := ⟨_, List.getElem?_eq_getElem (by omega)⟩
      obtain ⟨r, e1, h1⟩ := hw n q hq
      walk_at "zz"
      refine z_kGetS hd st_words ?_
      walk_at "zz"
      refine z_kGetS hd st_at ?_
      walk_at "zz"
      refine z_ixL (SqL.of hl) (at_of rfl e1) ?_
      walk_at "zz"
      refine z_ixT h1 rfl ?_
      walk_at "zz"
      have ec : colOf f n = q.2 := by unfold colOf; rw [hq]
      rw [← ec]
      exact k H (Same.refl _)
    · have e := of_decide_eq_false e
      have en : f[n]? = none := List.getElem?_eq_none (by omega)
      walk_at "zz"
      refine z_kGetS hd st_words ?_
      walk_at "zz"
      refine z_kLst (line_ge (by simp)) fun e0 H1 n1 s1 h1 => ?_
      refine z_eqD (d := .list (f.map wd)) (e := .list []) (.lst (SqL.of (s1 _ _ hl)) (dps_keep (same_keep s1) hds)) (.lst (SqL.of h1) .nil) hsh (by decide) ?_
      have ee : PyData.eqv (.list (f.map wd)) (.list []) = decide (f = []) := by
        rw [eqv_list_nil]
        exact decide_eq_decide.mpr (by simp)
      rw [ee]
      walk_at "zz"
      have hd1 := s1 _ _ hd
      have hl1 := s1 _ _ hl
      refine z_ite (fun e2 => ?_) (fun e2 => ?_)
      · have e2 := of_decide_eq_true e2
        walk_at "zz"
        subst e2
        exact k H1 s1
      · have e2 := of_decide_eq_false e2
        obtain ⟨f', q, rfl⟩ : ∃ f' q, f = f' ++ [q] := ⟨_, _, (List.dropLast_concat_getLast e2).symm⟩
        obtain ⟨r, e3, h3⟩ := hw f'.length q (by simp)
        rw [List.length_append, List.length_singleton] at lus
        walk_at "zz"
        refine z_kGetS hd1 st_words ?_
        walk_at "zz"
        refine z_ixL (SqL.of hl1) (at_neg1 lus e3) ?_
        walk_at "zz"
        refine z_ixT (same_st s1 h3) rfl ?_
        walk_at "zz"
        refine z_kGetS hd1 st_words ?_
        walk_at "zz"
        refine z_ixL (SqL.of hl1) (at_neg1 lus e3) ?_
        walk_at "zz"
        refine z_ixT (same_st s1 h3) rfl ?_
        walk_at "zz"
        have lq : (txt q.1).length = q.1.length := by rw [str_len]
        refine z_lenS (line_ge (by rw [lq]; have := hok.len q (by simp); omega)) ?_
        walk_at "zz"
        have ec : ((q.2 : Nat) : Int) + ((txt q.1).length : Int) = ((colOf (f' ++ [q]) n : Nat) : Int) := by
          unfold colOf
          rw [en, List.getLast?_concat, lq]
          simp
        rw [ec]
        exact k H1 s1
end
end K04

/-! k04, the plain law: kinds of words told as texts; the fuel of the own reading does not matter. -/
namespace K04
open PySem L2 Nm K3
theorem word_inj {a b : List Nat} (h : tl "word " ++ a = tl "word " ++ b) : a = b := List.append_cancel_left h
theorem lkind_par {w : List Nat} {c : Nat} (hw : w ≠ []) (hc : c = 40 ∨ c = 41) : lkind w = tl "word " ++ [c] ↔ w = [c] := by
  have ek : ∀ w ∈ kept, ∀ c : Nat, w ≠ tl "word " ++ [c] := by
    intro w hw c h
    have e : tl "word " = [119, 111, 114, 100, 32] := by decide +kernel
    have hl : ∀ w ∈ kept, w.length ≤ 4 := by decide +kernel
    have := hl w hw
    rw [h, e] at this
    simp at this
  have aux : ∀ (P : Prop) [Decidable P], (if P then tl "number" else tl "word " ++ w) = tl "word " ++ [c] → w = [c] := by
    intro P _ h
    split at h
    · exact absurd h.symm (word_ne [c]).2.2
    · exact word_inj h
  constructor
  · intro h
    unfold lkind at h
    split at h
    · rename_i hk
      exact absurd h (ek w hk c)
    · split at h
      · split at h
        · exact absurd h.symm (word_ne [c]).1
        · exact absurd h.symm (word_ne [c]).2.1
      · exact aux _ h
  · intro h
    subst h
    rcases hc with rfl | rfl <;> decide +kernel
theorem kind_num {f : F} {n : Nat} {q : List Nat × Nat} (e : f[n]? = some q) (hq : q.1 ≠ []) : (kindV f n = .str "number") ↔ isNum q.1 = true := by
  obtain ⟨_, _, h⟩ := kinds hq
  unfold kindV
  rw [e, h]
  show V.str (txt (lkind q.1)) = V.str "number" ↔ _
  rw [decide_eq_true_iff, V.str.injEq]
  exact txt_tl
theorem kind_big {f : F} {n : Nat} {q : List Nat × Nat} (e : f[n]? = some q) (hq : q.1 ≠ []) : (kindV f n = .str "big") ↔ isBig q.1 = true := by
  obtain ⟨h, _, _⟩ := kinds hq
  unfold kindV
  rw [e, h]
  show V.str (txt (lkind q.1)) = V.str "big" ↔ _
  rw [decide_eq_true_iff, V.str.injEq]
  exact txt_tl
theorem kind_lp {f : F} {n : Nat} (hq : ∀ q ∈ f, q.1 ≠ []) : (kindV f n = .str "word (") ↔ isW f n [40] = true := by
  unfold kindV isW
  cases e : f[n]? with
  | none => simp
  | some q =>
    show V.str (txt (lkind q.1)) = V.str "word (" ↔ decide (some q.1 = some [40]) = true
    have e1 : tl "word (" = tl "word " ++ [40] := by decide +kernel
    rw [decide_eq_true_iff, V.str.injEq, Option.some.injEq, ← lkind_par (hq q (List.mem_of_getElem? e)) (.inl rfl), ← e1]
    exact txt_tl
theorem kind_rp {f : F} {n : Nat} (hq : ∀ q ∈ f, q.1 ≠ []) : (kindV f n = .str "word )") ↔ isW f n [41] = true := by
  unfold kindV isW
  cases e : f[n]? with
  | none => simp
  | some q =>
    show V.str (txt (lkind q.1)) = V.str "word )" ↔ decide (some q.1 = some [41]) = true
    have e1 : tl "word )" = tl "word " ++ [41] := by decide +kernel
    rw [decide_eq_true_iff, V.str.injEq, Option.some.injEq, ← lkind_par (hq q (List.mem_of_getElem? e)) (.inr rfl), ← e1]
    exact txt_tl
theorem rdL_congr {f : F} {r r' : Nat → Option Nm.T × Nat} {inner : Bool} {n0 : Nat} (hr : ∀ n t n', r n = (some t, n') → n < n') (h : ∀ m, n0 ≤ m → r m = r' m) : ∀ (lap n : Nat) (acc : List Nm.T), n0 ≤ n → rdL f r inner lap n acc = rdL f r' inner lap n acc
  | 0, _, _, _ => rfl
  | lap + 1, n, acc, hn => by
    unfold rdL
    rw [← h n hn]
    split
    · rfl
    · cases e : r n with
      | mk o n1 =>
        cases o with
        | none => rfl
        | some t => exact rdL_congr hr h lap n1 _ (Nat.le_trans hn (Nat.le_of_lt (hr n t n1 e)))
/-- fuel enough is fuel enough -/
theorem rd_fuel (f : F) : ∀ (k k' n : Nat) (a : Bool), f.length - n < k → f.length - n < k' → rd f k n a = rd f k' n a
  | 0, _, _, _, h, _ => absurd h (by omega)
  | _ + 1, 0, _, _, _, h => absurd h (by omega)
  | k + 1, k' + 1, n, a, h, h' => by
    unfold rd
    dsimp only
    generalize hn : (if isW f n [40] = true then n + 1 else n) = n1
    have h1 : n ≤ n1 := by rw [← hn]; split <;> omega
    cases eq : f[n1]? with
    | none => rfl
    | some q =>
      have hl : n1 < f.length := (List.getElem?_eq_some_iff.mp eq).1
      dsimp only
      rw [rdL_congr (n0 := n1 + 1) (r := fun m => rd f k m true) (r' := fun m => rd f k' m true) (fun n t n' e => (rd_adv f k n true t n' e).1) (fun m hm => rd_fuel f k k' m true (by omega) (by omega)) (f.length + 1) (n1 + 1) [] (Nat.le_refl _)]
end K04

namespace K04
open PySem PySem.Spec PyProof.Rows L2 Nm K3 LamX
section
variable {P : Program} {w : World} {K : PySem.W.Frag} {mg : Str → Option Value} {base : Heap}
/-- _law_take(state, [kind]), told once: b, whether the word there is of this kind -/
def spTake1 (K : PySem.W.Frag) : Sp := fun vs H Q _ => ∃ (d l p : Addr) (z : Str) (f : F) (n : Nat) (b : Bool), vs = [.ref d, .ref p] ∧ StAt K H d l f n ∧ WsOk f ∧ H p = some (.lst [.str z]) ∧ ((kindV f n = .str z) ↔ b = true) ∧
  ∀ H', But d H H' → StAt K H' d l f (if b then n + 1 else n) → Q (.bl b) H'
theorem ok_take1 (T : Tx P K mg) : FnOk P w K mg base CX0 4 T.atake T.fdtake ["_law_state", "_law_kinds"] (spTake1 K) := by
  refine (ok_take T).imp fun vs H Q E h => ?_
  obtain ⟨d, l, p, z, f, n, b, rfl, hst, hok, hp, hb, k⟩ := h
  refine ⟨d, l, p, z, f, n, rfl, hst, hok, hp, fun e H' b1 st => ?_, fun e H' s => ?_⟩
  · have := hb.mp e
    subst this
    exact k H' b1 st
  · have : b = false := by
      cases b with
      | false => rfl
      | true => exact absurd (hb.mpr rfl) e
    subst this
    exact k H' (same_but s) (hst.same s)
end
end K04

namespace K04
open PySem PySem.Spec PyProof.Rows L2 Nm K3 LamX
def numAt (f : F) (n : Nat) : Bool := match f[n]? with
  | some q => isNum q.1
  | none => false
def bigAt (f : F) (n : Nat) : Bool := match f[n]? with
  | some q => isBig q.1
  | none => false
theorem num_iff {f : F} {n : Nat} (ok : WsOk f) : (kindV f n = .str "number") ↔ numAt f n = true := by
  unfold numAt
  cases e : f[n]? with
  | none => unfold kindV; rw [e]; simp
  | some q => exact kind_num e (ok.ne q (List.mem_of_getElem? e))
theorem big_iff {f : F} {n : Nat} (ok : WsOk f) : (kindV f n = .str "big") ↔ bigAt f n = true := by
  unfold bigAt
  cases e : f[n]? with
  | none => unfold kindV; rw [e]; simp
  | some q => exact kind_big e (ok.ne q (List.mem_of_getElem? e))
theorem noLs_wd : ∀ f : F, noLs (f.map wd) = true
  | [] => rfl
  | q :: f => by
    show (noL (wd q) && noLs (f.map wd)) = true
    rw [noLs_wd f]
    rfl
theorem ownAll_app : ∀ a b : List Nm.T, ownAll (a ++ b) = ownAll a ++ ownAll b
  | [], b => by rw [List.nil_append, ownAll, List.nil_append]
  | t :: a, b => by rw [List.cons_append, ownAll, ownAll, ownAll_app a b, List.cons_append]
/-- what the reading leaves behind -/
def RdAt (K : PySem.W.Frag) (H H' : Hp) (d l : Addr) (f : F) (v : V) : Option Nm.T × Nat → Prop
  | (none, n) => v = .non ∧ StAt K H' d l f n
  | (some t, n) => StAt K H' d l f n ∧ ∃ p x, v = .ref p ∧ H' p = some (.lst [x]) ∧ Dp K (Nw H H') x t.own
section
variable {P : Program} {w : World} {K : PySem.W.Frag} {mg : Str → Option Value} {base : Heap}
def spRead (K : PySem.W.Frag) (k : Nat) : Sp := fun vs H Q _ => ∃ (d l : Addr) (atom : Bool) (f : F) (n : Nat), vs = [.ref d, .bl atom] ∧ StAt K H d l f n ∧ WsOk f ∧ f.length - n ≤ k ∧
  ∀ v H', But d H H' → RdAt K H H' d l f v (rd f (f.length + 1) n atom) → Q v H'
theorem ok_read (T : Tx P K mg) : ∀ k, FnOk P w K mg base CX0 (4 + k + 1) T.aread T.fdread ["_law_state", "_law_is_atom"] (spRead K k) := by
  have Gtake : FnOk P w K mg base CX0 4 T.atake T.fdtake ["_law_state", "_law_kinds"] (spTake1 K) := ok_take1 T
  have Gseen : FnOk P w K mg base CX0 3 T.aseen T.fdseen ["_law_state"] (spSeen K) := ok_seen T
  refine rec_ok 4 (spRead K) fun k Gread => ?_
  refine T.Dread.F.ok scread (fun vs H Q E h => ?_) (fun cdv A outer s H vs Q E hr h => ?_)
  · obtain ⟨d, l, atom, f, n, rfl, _⟩ := h
    rfl
  · obtain ⟨d, l, atom, f, n, rfl, st, ok, hk, kk⟩ := h
    have hu := hu_of hr
    have hrtake := hr.mono (j := 4) (by omega)
    have hrseen := hr.mono (j := 3) (by omega)
    have hrread := hr
    refine ⟨_, pss_cons (ps_set (i := 2) scread.nd rfl (Or.inl rfl) (pe_callN T.Dtake Gtake hrtake pass0 (pa_cons (pv 0) (pa_cons (pe_lst (pa_cons (pe_str) pa_nil)) pa_nil))))
(pss_cons (ps_set (i := 3) scread.nd rfl (Or.inl rfl) (pe_dget hu (pv 0) (pe_str) (fun _ _ => rfl)))
(pss_cons (ps_if (pt_val (pe_callN T.Dtake Gtake hrtake pass0 (pa_cons (pv 0) (pa_cons (pe_lst (pa_cons (pe_str) pa_nil)) pa_nil))))
(pss_cons (ps_if (pt_cut (PW.pt (pw_and (pt_val (pv 2)) (pw_and1 (pt_not (pt_val (pe_callN T.Dtake Gtake hrtake pass0 (pa_cons (pv 0) (pa_cons (pe_lst (pa_cons (pe_str) pa_nil)) pa_nil)))))))))
(pss_one (ps_ret (pe_non)))
(pss_nil))
(pss_one (ps_ret (pe_lst (pa_cons (pe_callTy call_int_str (by rfl) T.n_int (by decide +kernel) (pa_cons (pe_ix ix_tup (pe_ix ix_list (pe_dget hu (pv 0) (pe_str) (fun _ _ => rfl)) (pv 3) (fun _ _ => rfl)) (pe_int) (fun _ _ => rfl)) pa_nil)) pa_nil)))))
(pss_nil))
(pss_cons (ps_if (pt_not (pt_val (pe_callN T.Dtake Gtake hrtake pass0 (pa_cons (pv 0) (pa_cons (pe_lst (pa_cons (pe_str) pa_nil)) pa_nil)))))
(pss_one (ps_ret (pe_non)))
(pss_nil))
(pss_cons (ps_set (i := 4) scread.nd rfl (Or.inl rfl) (pe_lst pa_nil))
(pss_cut (ps_if (pt_cut (PW.pt (pw_or (pt_not (pt_val (pv 1))) (pw_or1 (pt_val (pv 2))))))
(pss_one (ps_for PassesOwn.never rfl (pi_range1 rfl T.n_range (pa_cons (pe_op op_add (pe_callB call_lenL (by rfl) T.n_len (by decide +kernel) (pa_cons (pe_dget hu (pv 0) (pe_str) (fun _ _ => rfl)) pa_nil)) (pe_int)) pa_nil)) (pg_name (i := 5) scread.nd rfl (Or.inl rfl))
(pss_cons (ps_if (pt_cut (PW.pt (pw_or (pt_cut (PW.pt (pw_and (pt_cmpR op_eq (pe_callN T.Dseen Gseen hrseen pass0 (pa_cons (pv 0) pa_nil)) (pe_str) (nomark _)) (pw_and1 (pt_val (pv 2)))))) (pw_or1 (pt_cmpR op_isNn (pe_callN T.Dseen Gseen hrseen pass0 (pa_cons (pv 0) pa_nil)) (pe_non) (nomark _))))))
(pss_one ps_break)
(pss_nil))
(pss_cons (ps_set (i := 6) scread.nd rfl (Or.inl rfl) (pe_callN T.Dread Gread hrread pass0 (pa_cons (pv 0) (pa_cons (pe_bl) pa_nil))))
(pss_cons (ps_if (pt_cmpR op_isNn (pv 6) (pe_non) (nomark _))
(pss_one (ps_ret (pe_non)))
(pss_nil))
(pss_one (ps_expr (pe_bm PySem.F.plainAttrs_list PySem.F.slot_list_append PySem.F.type_list_append mt_append (pv 4) (pa_cons (pe_ix ix_list (pv 6) (pe_int) (fun _ _ => rfl)) pa_nil)))))))))
(pss_nil))
(pss_cons (ps_if (pt_cut (PW.pt (pw_and (pt_val (pv 2)) (pw_and1 (pt_not (pt_val (pe_callN T.Dtake Gtake hrtake pass0 (pa_cons (pv 0) (pa_cons (pe_lst (pa_cons (pe_str) pa_nil)) pa_nil)))))))))
(pss_one (ps_ret (pe_non)))
(pss_nil))
(pss_one (ps_ret (pe_lst (pa_cons (pe_tup (pa_cons (pe_ix ix_tup (pe_ix ix_list (pe_dget hu (pv 0) (pe_str) (fun _ _ => rfl)) (pv 3) (fun _ _ => rfl)) (pe_int) (fun _ _ => rfl)) (pa_cons (pv 4) pa_nil))) pa_nil)))))))))), ?_⟩
    walk_at "z0"
    walk_at "zz"
    refine z_kLst (line_ge (by simp)) fun p1 H1 n1' s1 h1 => ?_
    walk_at "zz"
    refine ⟨d, l, p1, "word (", f, n, isW f n [40], rfl, st.same s1, ok, h1, kind_lp ok.ne, fun H2 b2 st2 => ?_⟩
    have b02 : But d H H2 := (same_but s1).trans b2
    have hrd : rd f (f.length + 1) n atom = rd f (f.length + 1) n atom := rfl
    conv at hrd => rhs; unfold rd
    dsimp only at hrd
    generalize ei : isW f n [40] = inner at st2 hrd ⊢
    generalize en : (if inner = true then n + 1 else n) = n1 at st2 hrd
    have h01 : n ≤ n1 := by rw [← en]; split <;> omega
    obtain ⟨us2, hd2, hl2, hds2⟩ := st2
    walk_at "zz"
    refine z_kGetS hd2 st_at ?_
    walk_at "zz"
    refine z_kLst (line_ge (by simp)) fun p3 H3 n3 s3 h3 => ?_
    walk_at "zz"
    have st3 : StAt K H3 d l f n1 := StAt.same s3 ⟨us2, hd2, hl2, hds2⟩
    refine ⟨d, l, p3, "number", f, n1, numAt f n1, rfl, st3, ok, h3, num_iff ok, fun H4 b4 st4 => ?_⟩
    have b04 : But d H H4 := b02.trans ((same_but s3).trans b4)
    walk_at "zz"
    refine z_ite (fun eN => ?_) (fun eN => ?_)
    · obtain ⟨q, eq, hq⟩ : ∃ q, f[n1]? = some q ∧ isNum q.1 = true := by
        unfold numAt at eN
        cases e : f[n1]? with
        | none => rw [e] at eN; cases eN
        | some q => rw [e] at eN; exact ⟨q, rfl, eN⟩
      rw [eN, if_pos rfl] at st4
      rw [eq] at hrd
      dsimp only at hrd
      rw [if_pos hq] at hrd
      walk_at "zz"
      refine z_cutT (fun b H' => b = (inner && !isW f (n1 + 1) [41]) ∧ But d H H' ∧ StAt K H' d l f (if inner && isW f (n1 + 1) [41] then n1 + 2 else n1 + 1)) ?_ ?_
      · walk_at "zz"
        cases inner with
        | false =>
          walk_at "zz"
          exact ⟨rfl, b04, st4⟩
        | true =>
          walk_at "zz"
          refine z_kLst (line_ge (by simp)) fun p5 H5 n5 s5 h5 => ?_
          walk_at "zz"
          refine ⟨d, l, p5, "word )", f, n1 + 1, isW f (n1 + 1) [41], rfl, st4.same s5, ok, h5, kind_rp ok.ne, fun H6 b6 st6 => ?_⟩
          refine ⟨_, rfl, by simp, b04.trans ((same_but s5).trans b6), ?_⟩
          rw [Bool.true_and]
          exact st6
      rintro b H5 ⟨rfl, b05, st5⟩
      refine z_ite (fun e => ?_) (fun e => ?_)
      · rw [Bool.and_eq_true] at e
        have ei := e.1
        subst ei
        have e2 : isW f (n1 + 1) [41] = false := by simpa using e.2
        rw [if_pos rfl, e2, if_neg (by simp)] at hrd
        rw [e2] at st5
        walk_at "zz"
        refine kk _ H5 b05 ?_
        rw [hrd]
        exact ⟨rfl, st5⟩
      · obtain ⟨i, hi⟩ := num_int hq
        have ii : intOf q.1 = i := by
          unfold intOf
          rw [show PySem.intText? (txt q.1) = some i from hi]
          rfl
        obtain ⟨us5, hd5, hl5, hds5⟩ := st5
        obtain ⟨lus5, hw5⟩ := wd_at hds5
        obtain ⟨r, er, hr5⟩ := hw5 n1 q eq
        walk_at "zz"
        refine z_kGetS hd5 st_words ?_
        walk_at "zz"
        refine z_ixL (SqL.of hl5) (at_of rfl er) ?_
        walk_at "zz"
        refine z_ixT hr5 rfl ?_
        walk_at "zz"
        refine ⟨_, i, rfl, hi, num_len hq, ?_⟩
        walk_at "zz"
        refine z_kLst (line_ge (by simp)) fun p6 H6 n6 s6 h6 => ?_
        walk_at "zz"
        refine kk _ H6 (b05.trans (same_but s6)) ?_
        have st6 : StAt K H6 d l f (if inner && isW f (n1 + 1) [41] then n1 + 2 else n1 + 1) := StAt.same s6 ⟨us5, hd5, hl5, hds5⟩
        have hrd2 : rd f (f.length + 1) n atom = (some (.num i), if inner && isW f (n1 + 1) [41] then n1 + 2 else n1 + 1) := by
          rw [hrd, ii]
          cases inner with
          | false => rfl
          | true =>
            cases e3 : isW f (n1 + 1) [41] with
            | true => rfl
            | false => rw [e3] at e; cases e
        rw [hrd2]
        exact ⟨st6, p6, _, rfl, h6, by rw [Nm.T.own]; exact .int i⟩
    · rw [eN, if_neg (by simp)] at st4
      walk_at "zz"
      refine z_kLst (line_ge (by simp)) fun p5 H5 n5 s5 h5 => ?_
      walk_at "zz"
      refine ⟨d, l, p5, "big", f, n1, bigAt f n1, rfl, st4.same s5, ok, h5, big_iff ok, fun H6 b6 st6 => ?_⟩
      have b06 : But d H H6 := b04.trans ((same_but s5).trans b6)
      walk_at "zz"
      refine z_ite (fun eB => ?_) (fun eB => ?_)
      · have eB := not_t eB
        rw [eB, if_neg (by simp)] at st6
        walk_at "zz"
        refine kk _ H6 b06 ?_
        have : rd f (f.length + 1) n atom = (none, n1) := by
          rw [hrd]
          cases e : f[n1]? with
          | none => rfl
          | some q =>
            dsimp only
            unfold numAt at eN
            unfold bigAt at eB
            rw [e] at eN eB
            have eN : isNum q.1 = false := eN
            have eB : isBig q.1 = false := eB
            rw [if_neg (by rw [eN]; simp), if_neg (by rw [eB]; simp)]
        rw [this]
        exact ⟨rfl, st6⟩
      · have eB := not_f eB
        obtain ⟨q, eq, hb⟩ : ∃ q, f[n1]? = some q ∧ isBig q.1 = true := by
          unfold bigAt at eB
          cases e : f[n1]? with
          | none => rw [e] at eB; cases eB
          | some q => rw [e] at eB; exact ⟨q, rfl, eB⟩
        have hnn : isNum q.1 = false := by
          unfold numAt at eN
          rw [eq] at eN
          exact eN
        have hl1 : n1 < f.length := (List.getElem?_eq_some_iff.mp eq).1
        rw [eB, if_pos rfl] at st6
        rw [eq] at hrd
        dsimp only at hrd
        rw [if_neg (by rw [hnn]; simp), if_pos hb] at hrd
        walk_at "zz"
        refine z_kLst (line_ge (by simp)) fun D H7 nD s7 h7 => ?_
        walk_at "zz"
        have b07 : But d H H7 := b06.trans (same_but s7)
        have hd0 : H d ≠ none := by
          obtain ⟨_, q, _⟩ := st
          rw [q]
          simp
        have dm6 : Dom H H6 := dom_but b06 (by obtain ⟨_, q, _⟩ := st6; rw [q]; simp)
        have hD0 : H D = none := dm6 _ nD
        have ndD : d ≠ D := fun e => by rw [← e] at hD0; exact hd0 hD0
        have st7 := st6.same s7
        obtain ⟨RL, hRL⟩ : ∃ RL, RL = rdL f (fun m => rd f f.length m true) inner (f.length + 1) (n1 + 1) [] := ⟨_, rfl⟩
        refine z_cut (fun σ' H' => ∃ (ps : List Nm.T) (n2 : Nat) (xs : List V) (v5 v6 : Option V), σ' = [some (.ref d), some (.bl atom), some (.bl inner), some (.int (n1 : Nat)), some (.ref D), v5, v6] ∧ But d H H' ∧ StAt K H' d l f n2 ∧ H' D = some (.lst xs) ∧ DpAll K (del (Nw H H') D) xs (ownAll ps) ∧ (if (!atom || inner) = true then RL else (some [], n1 + 1)) = (some ps, n2)) ?_ ?_
        · walk_at "zz"
          refine z_cutB (!atom || inner) ?_ fun H8 s8 => ?_
          · walk_at "zz"
            cases atom with
            | false =>
              walk_at "zz"
              exact ⟨rfl, Same.refl _⟩
            | true =>
              walk_at "zz"
              exact ⟨rfl, Same.refl _⟩
          have st8 := st7.same s8
          have b08 : But d H H8 := b07.trans (same_but s8)
          have hD8 := s8 _ _ h7
          refine z_ite (fun eL => ?_) (fun eL => ?_)
          · obtain ⟨us8, hd8, hl8, hds8⟩ := st8
            obtain ⟨lus8, hw8⟩ := wd_at hds8
            walk_at "zz"
            refine z_kGetS hd8 st_words ?_
            walk_at "zz"
            refine z_lenL (SqL.of hl8) ?_
            walk_at "zz"
            have fw := ok.few
            refine z_kIR1 (by omega) (by omega) ?_
            have eN : ((us8.length : Int) + 1).toNat = f.length + 1 := by omega
            rw [eN]
            refine f_range (fun i σ' H' => ∃ (ps : List Nm.T) (n2 : Nat) (xs : List V) (v5 v6 : Option V), σ' = [some (.ref d), some (.bl atom), some (.bl inner), some (.int (n1 : Nat)), some (.ref D), v5, v6] ∧ But d H H' ∧ StAt K H' d l f n2 ∧ H' D = some (.lst xs) ∧ DpAll K (del (Nw H H') D) xs (ownAll ps) ∧ ps.length ≤ i ∧ n1 + 1 ≤ n2 ∧ n2 ≤ f.length ∧ rdL f (fun m => rd f f.length m true) inner (f.length + 1 - i) n2 ps = RL) ⟨[], n1 + 1, [], none, none, rfl, b08, ⟨us8, hd8, hl8, hds8⟩, hD8, by rw [ownAll]; exact .nil, Nat.le_refl _, Nat.le_refl _, hl1, hRL.symm⟩ ?_ ?_
            · rintro i σ' H9 hi ⟨ps, n2, xs, v5, v6, rfl, b9, st9, hD9, hps, hpi, hn1, hn2, hr9⟩
              obtain ⟨lap, elap⟩ : ∃ lap, f.length + 1 - i = lap + 1 := ⟨f.length - i, by omega⟩
              rw [elap] at hr9
              unfold rdL at hr9
              walk_at "zz"
              refine z_cutT (fun b H' => b = ((isW f n2 [41] && inner) || decide (f[n2]? = none)) ∧ Same H9 H') ?_ ?_
              · walk_at "zz"
                refine z_cutT (fun b H' => b = (isW f n2 [41] && inner) ∧ Same H9 H') ?_ ?_
                · walk_at "zz"
                  refine ⟨d, l, f, n2, rfl, st9, ok, fun H10 s10 => ?_⟩
                  walk_at "zz"
                  have sc : ∀ z : Str, scal (kindV f n2) (.str z) = true := fun z => by unfold kindV; cases f[n2]? <;> rfl
                  refine z_eq (sc _) ?_
                  have ek : decide (kindV f n2 = .str "word )") = isW f n2 [41] := by
                    rw [Bool.eq_iff_iff, decide_eq_true_iff]
                    exact kind_rp ok.ne
                  rw [ek]
                  refine ⟨_, rfl, ?_⟩
                  refine z_ite (fun e => ?_) (fun e => ?_)
                  · walk_at "zz"
                    exact ⟨by rw [e, Bool.true_and], s10⟩
                  · exact ⟨by rw [e, Bool.false_and], s10⟩
                rintro b H10 ⟨rfl, s10⟩
                refine z_ite (fun e => ?_) (fun e => ?_)
                · exact ⟨by rw [e, Bool.true_or], s10⟩
                · walk_at "zz"
                  refine ⟨d, l, f, n2, rfl, st9.same s10, ok, fun H11 s11 => ?_⟩
                  walk_at "zz"
                  refine ⟨?_, s10.trans s11⟩
                  rw [e, Bool.false_or]
                  refine decide_eq_decide.mpr ?_
                  unfold kindV
                  cases f[n2]? with
                  | none => simp
                  | some q => simp
              rintro b H10 ⟨rfl, s10⟩
              have b10 := b9.trans (same_but s10)
              have st10 := st9.same s10
              have hD10 := s10 _ _ hD9
              have hps10 := dps_keep (same_keep (del_mono (D := D) (nw_mono (H0 := H) s10))) hps
              refine z_ite (fun e => ?_) (fun e => ?_)
              · rw [if_pos e] at hr9
                walk_at "zz"
                exact ⟨ps, n2, xs, _, _, rfl, b10, st10, hD10, hps10, by rw [if_pos eL, ← hr9]⟩
              · rw [if_neg (by rw [e]; simp)] at hr9
                obtain ⟨k', rfl⟩ : ∃ k', k = k' + 1 := ⟨k - 1, by omega⟩
                walk_at "zz"
                refine ⟨d, l, true, f, n2, rfl, st10, ok, by omega, fun v H11 b11 hR => ?_⟩
                rw [rd_fuel f (f.length + 1) f.length n2 true (by omega) (by omega)] at hR
                cases er : rd f f.length n2 true with
                | mk o n3 =>
                  rw [er] at hR hr9
                  cases o with
                  | none =>
                    obtain ⟨rfl, st11⟩ := hR
                    walk_at "zz"
                    refine z_ite (fun e => ?_) (fun e => by simp at e)
                    walk_at "zz"
                    rw [if_pos eL, ← hRL, ← hr9] at hrd
                    refine kk _ H11 (b10.trans b11) ?_
                    rw [hrd]
                    exact ⟨rfl, st11⟩
                  | some t =>
                    obtain ⟨st11, p, x, rfl, hp, hx⟩ := hR
                    have hD11 := b11 _ _ ndD.symm hD10
                    have n3l := (rd_adv f _ _ _ _ _ er)
                    obtain ⟨lps, _⟩ := dps_own_at hps10
                    walk_at "zz"
                    refine z_ite (fun e => by simp at e) (fun e => ?_)
                    walk_at "zz"
                    refine ⟨ty_lst hD11, ?_⟩
                    walk_at "zz"
                    refine z_ixL (SqL.of hp) rfl ?_
                    walk_at "zz"
                    refine z_app hD11 (by rw [sizeLine_eq]; omega) ?_
                    walk_at "zz"
                    have b011 : But d H H11 := b10.trans b11
                    have hl0 : H l ≠ none := by
                      obtain ⟨_, _, q, _⟩ := st
                      rw [q]
                      simp
                    have nlD : l ≠ D := fun e => by rw [← e] at hD0; exact hl0 hD0
                    have dm10 : Dom H H10 := dom_but b10 (by obtain ⟨_, q, _⟩ := st10; rw [q]; simp)
                    refine ⟨ps ++ [t], n3, xs ++ [x], _, _, rfl, fun a o hne e => ?_, ?_, upd_same, ?_, ?_, by omega, n3l.2, by rw [show f.length + 1 - (i + 1) = lap by omega]; exact hr9⟩
                    · rw [upd_ne (ne_of_none e hD0)]
                      exact b011 _ _ hne e
                    · obtain ⟨us11, hd11, hl11, hds11⟩ := st11
                      refine ⟨us11, by rw [upd_ne ndD]; exact hd11, by rw [upd_ne nlD]; exact hl11, dps_kt (KT.upd hD11) (noLs_wd f) hds11⟩
                    · rw [ownAll_app]
                      refine dps_app (dps_keep (same_keep ((del_mono (nw_but b11 hd0)).trans del_upd)) hps10) ?_
                      rw [ownAll, ownAll]
                      exact .cons (dp_keep (same_keep ((nw_del dm10 (by rw [hD10]; simp)).trans del_upd)) hx) .nil
                    · rw [List.length_append, List.length_singleton]
                      omega
            · rintro σ' H9 ⟨ps, n2, xs, v5, v6, rfl, b9, st9, hD9, hps, _, _, _, hr9⟩
              walk_at "zz"
              rw [Nat.sub_self] at hr9
              exact ⟨ps, n2, xs, _, _, rfl, b9, st9, hD9, hps, by rw [if_pos eL, ← hr9]; rfl⟩
          · walk_at "zz"
            exact ⟨[], n1 + 1, [], _, _, rfl, b08, st8, hD8, by rw [ownAll]; exact .nil, by rw [if_neg (by rw [eL]; simp)]⟩
        · rintro σ' H8 ⟨ps, n2, xs, v5, v6, rfl, b8, st8, hD8, hps, hRn⟩
          rw [← hRL, hRn] at hrd
          dsimp only at hrd
          walk_at "zz"
          refine z_cutT (fun b H' => b = (inner && !isW f n2 [41]) ∧ But d H8 H' ∧ StAt K H' d l f (if inner && isW f n2 [41] then n2 + 1 else n2)) ?_ ?_
          · walk_at "zz"
            cases inner with
            | false =>
              walk_at "zz"
              exact ⟨rfl, But.refl _ _, st8⟩
            | true =>
              walk_at "zz"
              refine z_kLst (line_ge (by simp)) fun p9 H9 n9 s9 h9 => ?_
              walk_at "zz"
              refine ⟨d, l, p9, "word )", f, n2, isW f n2 [41], rfl, st8.same s9, ok, h9, kind_rp ok.ne, fun H10 b10 st10 => ?_⟩
              refine ⟨_, rfl, by simp, (same_but s9).trans b10, ?_⟩
              rw [Bool.true_and]
              exact st10
          rintro b H9 ⟨rfl, b9, st9⟩
          refine z_ite (fun e => ?_) (fun e => ?_)
          · rw [Bool.and_eq_true] at e
            have ei := e.1
            subst ei
            have e2 : isW f n2 [41] = false := by simpa using e.2
            rw [if_pos rfl, e2, if_neg (by simp)] at hrd
            rw [e2] at st9
            walk_at "zz"
            refine kk _ H9 (b8.trans b9) ?_
            rw [hrd]
            exact ⟨rfl, st9⟩
          · obtain ⟨us9, hd9, hl9, hds9⟩ := st9
            obtain ⟨lus9, hw9⟩ := wd_at hds9
            obtain ⟨r, er, hr9⟩ := hw9 n1 q eq
            walk_at "zz"
            refine z_kGetS hd9 st_words ?_
            walk_at "zz"
            refine z_ixL (SqL.of hl9) (at_of rfl er) ?_
            walk_at "zz"
            refine z_ixT hr9 rfl ?_
            walk_at "zz"
            refine z_kTup (line_ge (by simp)) fun q10 H10 n10 s10 h10 => ?_
            walk_at "zz"
            refine z_kLst (line_ge (by simp)) fun p11 H11 n11 s11 h11 => ?_
            walk_at "zz"
            have b911 : But d H8 H11 := b9.trans (same_but (s10.trans s11))
            refine kk _ H11 (b8.trans b911) ?_
            have hrd2 : rd f (f.length + 1) n atom = (some (.node (txt q.1) ps), if inner && isW f n2 [41] then n2 + 1 else n2) := by
              rw [hrd]
              cases inner with
              | false => rfl
              | true =>
                cases e3 : isW f n2 [41] with
                | true => rfl
                | false => rw [e3] at e; cases e
            rw [hrd2]
            refine ⟨StAt.same (s10.trans s11) ⟨us9, hd9, hl9, hds9⟩, p11, _, rfl, h11, own_mk (l := D) (vs := xs) (SqT.of (nw_at ?_ (s11 _ _ h10))) (SqL.of (nw_at hD0 (b911 _ _ ndD.symm hD8))) (dps_keep (same_keep (del_sub.trans (nw_but b911 hd0))) hps)⟩
            exact dom_but (b8.trans b9) (by rw [hd9]; simp) _ n10
end
end K04

/-! k04, the plain law: the words of a value's text. -/
namespace K04
open PySem PySem.Spec PyProof.Rows L2 Nm K3
mutual
/-- the words of a value's text -/
def tk : Nm.T → Bool → List (List Nat)
  | .num n, _ => [ni n]
  | .node m ps, part => if part && !ps.isEmpty then [40] :: (tl m :: tks ps) ++ [[41]] else tl m :: tks ps
def tks : List Nm.T → List (List Nat)
  | [] => []
  | t :: ts => tk t true ++ tks ts
end
mutual
/-- numbers and names that are such as words -/
def okT : Nm.T → Prop
  | .num n => n.natAbs < 10 ^ 400
  | .node m ps => isBig (tl m) = true ∧ isNum (tl m) = false ∧ tl m ≠ [40] ∧ tl m ≠ [41] ∧ okTs ps
def okTs : List Nm.T → Prop
  | [] => True
  | t :: ts => okT t ∧ okTs ts
end

theorem ni_no {n : Int} {c : Nat} (h : c = 40 ∨ c = 41) : ni n ≠ [c] := by
  intro e
  unfold ni at e
  split at e
  · injection e with e1 e2
    omega
  · have := dg_all n.natAbs c (by rw [e]; simp)
    omega

theorem big_ok {w : List Nat} (h1 : w ≠ []) (h2 : w.length ≤ 24) (h3 : w.headD 0 ∈ BIG) (h4 : ∀ c ∈ w, c ∈ LATER) : isBig w = true := by
  unfold isBig named
  simp only [Bool.and_eq_true, decide_eq_true_eq, List.all_eq_true]
  exact ⟨⟨⟨List.length_pos_iff.mpr h1, h2⟩, h3⟩, h4⟩
theorem big_inv {w : List Nat} (h : isBig w = true) : 1 ≤ w.length ∧ w.length ≤ 24 ∧ w.headD 0 ∈ BIG ∧ ∀ c ∈ w, c ∈ LATER := by
  unfold isBig named at h
  simp only [Bool.and_eq_true, decide_eq_true_eq, List.all_eq_true] at h
  exact ⟨h.1.1.1, h.1.1.2, h.1.2, h.2⟩
theorem big_later : ∀ c ∈ BIG, c ∈ LATER := by decide +kernel
theorem dig_later : ∀ c : Nat, 48 ≤ c ∧ c ≤ 57 → c ∈ LATER := by
  intro c h
  have : ∀ d : Nat, d < 10 → 48 + d ∈ LATER := by decide +kernel
  have := this (c - 48) (by omega)
  rw [show 48 + (c - 48) = c by omega] at this
  exact this
theorem big_no {w : List Nat} (h : isBig w = true) : isNum w = false ∧ w ≠ [40] ∧ w ≠ [41] := by
  obtain ⟨h1, h2, h3, h4⟩ := big_inv h
  have hb : ∀ c ∈ BIG, 65 ≤ c := by decide +kernel
  have h5 := hb _ h3
  cases w with
  | nil => simp at h1
  | cons a r =>
    have h5 : 65 ≤ a := h5
    refine ⟨?_, fun e => by injection e with e; omega, fun e => by injection e with e; omega⟩
    unfold isNum
    have ed : digs (a :: r) = a :: r := by
      unfold digs
      rw [if_neg]
      intro e
      have e : [a] = [45] := e
      injection e with e
      omega
    rw [ed]
    have : ((a :: r).all fun c => decide (c ∈ DIG)) = false := by
      rw [Bool.eq_false_iff]
      intro h
      have := digits_of.mp h a (by simp)
      omega
    rw [this]
    simp
theorem ok_name {m : Str} (h : isBig (tl m) = true) {ps : List Nm.T} (hp : okTs ps) : okT (.node m ps) := by
  rw [okT]
  exact ⟨h, (big_no h).1, (big_no h).2.1, (big_no h).2.2, hp⟩

def flu (cur : List Nat) : List (List Nat) := if cur = [] then [] else [cur]
/-- the words alone -/
def wf : List Nat → List Nat → List (List Nat)
  | [], cur => flu cur
  | c :: r, cur => if c = 59 then flu cur else if c = 40 ∨ c = 41 then flu cur ++ [c] :: wf r [] else if c = 32 then flu cur ++ wf r [] else wf r (cur ++ [c])
theorem fl_fst (k : Nat) (s : F × List Nat) : (fl k s).map Prod.fst = s.1.map Prod.fst ++ flu s.2 := by
  unfold fl flu
  split
  · simp
  · simp
theorem wl_fst : ∀ (r : List Nat) (k : Nat) (s : F × List Nat), (wl r k s).map Prod.fst = s.1.map Prod.fst ++ wf r s.2
  | [], k, s => fl_fst k s
  | c :: r, k, s => by
    unfold wl wf
    split
    · exact fl_fst k s
    · rw [wl_fst r]
      unfold stp
      split
      · rw [List.map_append, fl_fst, List.append_assoc, List.append_assoc]
        rfl
      · split
        · show (fl k s).map Prod.fst ++ _ = _
          rw [fl_fst, List.append_assoc]
        · rfl
theorem words_fst (z : List Nat) : (words z).map Prod.fst = wf z [] := wl_fst z 0 ([], [])
def plain (c : Nat) : Prop := c ≠ 32 ∧ c ≠ 40 ∧ c ≠ 41 ∧ c ≠ 59
theorem wf_plain : ∀ (w r cur : List Nat), (∀ c ∈ w, plain c) → wf (w ++ r) cur = wf r (cur ++ w)
  | [], r, cur, _ => by simp
  | c :: w, r, cur, h => by
    obtain ⟨h1, h2, h3, h4⟩ := h c (by simp)
    show (if c = 59 then _ else if c = 40 ∨ c = 41 then _ else if c = 32 then _ else wf (w ++ r) (cur ++ [c])) = _
    rw [if_neg h4, if_neg (by omega), if_neg h1, wf_plain w r _ fun d hd => h d (by simp [hd]), List.append_assoc]
    rfl
/-- a word ends here -/
def brk (r : List Nat) : Prop := r = [] ∨ ∃ c r', r = c :: r' ∧ ¬ plain c
theorem wf_brk {r : List Nat} (h : brk r) (cur : List Nat) : wf r cur = flu cur ++ wf r [] := by
  rcases h with rfl | ⟨c, r', rfl, h⟩
  · simp [wf, flu]
  · unfold wf
    by_cases h1 : c = 59
    · rw [if_pos h1, if_pos h1]; simp [flu]
    · rw [if_neg h1, if_neg h1]
      by_cases h2 : c = 40 ∨ c = 41
      · rw [if_pos h2, if_pos h2]; simp [flu]
      · rw [if_neg h2, if_neg h2]
        by_cases h3 : c = 32
        · rw [if_pos h3, if_pos h3]; simp [flu]
        · exact absurd ⟨h3, by omega, by omega, h1⟩ h
theorem wf_word {w r : List Nat} (hp : ∀ c ∈ w, plain c) (hw : w ≠ []) (hb : brk r) : wf (w ++ r) [] = w :: wf r [] := by
  rw [wf_plain w r [] hp, List.nil_append, wf_brk hb, flu, if_neg hw]
  rfl
theorem wf_sp (r : List Nat) : wf (32 :: r) [] = wf r [] := by
  show (if (32 : Nat) = 59 then _ else if (32 : Nat) = 40 ∨ (32 : Nat) = 41 then _ else if (32 : Nat) = 32 then flu [] ++ wf r [] else _) = _
  rw [if_neg (by decide), if_neg (by decide), if_pos rfl]
  rfl
theorem wf_par {c : Nat} (h : c = 40 ∨ c = 41) (r : List Nat) : wf (c :: r) [] = [c] :: wf r [] := by
  rw [wf, if_neg (by omega), if_pos h]
  rfl
theorem brk_cons {c : Nat} {r : List Nat} (h : ¬ plain c) : brk (c :: r) := .inr ⟨c, r, rfl, h⟩
mutual
/-- a value's text -/
def wt : Nm.T → Bool → List Nat
  | .num n, _ => ni n
  | .node m ps, part => if part && !ps.isEmpty then 40 :: (tl m ++ wts ps) ++ [41] else tl m ++ wts ps
def wts : List Nm.T → List Nat
  | [] => []
  | t :: ts => 32 :: wt t true ++ wts ts
end
theorem ni_plain (n : Int) : ∀ c ∈ ni n, plain c := fun c hc => by
  unfold ni at hc
  unfold plain
  split at hc
  · rcases List.mem_cons.mp hc with rfl | hc
    · omega
    · have := dg_all _ c hc
      omega
  · have := dg_all _ c hc
    omega
theorem ni_ne (n : Int) : ni n ≠ [] := by
  unfold ni
  split
  · simp
  · exact dg_ne _
theorem later_plain : ∀ c ∈ LATER, plain c ∧ c < 128 := by unfold plain; decide +kernel
theorem big_all {w : List Nat} (h : isBig w = true) : (∀ c ∈ w, c ∈ LATER) ∧ w ≠ [] := by
  unfold isBig named at h
  simp only [Bool.and_eq_true, decide_eq_true_eq, List.all_eq_true] at h
  exact ⟨h.2, List.length_pos_iff.mp h.1.1.1⟩
theorem big_plain {w : List Nat} (h : isBig w = true) : ∀ c ∈ w, plain c := fun c hc => (later_plain c ((big_all h).1 c hc)).1
theorem brk_wts (ts : List Nm.T) {r : List Nat} (h : brk r) : brk (wts ts ++ r) := by
  cases ts with
  | nil => rw [wts]; exact h
  | cons t ts => rw [wts]; exact brk_cons (by unfold plain; simp)
mutual
theorem wf_wt : ∀ (t : Nm.T) (part : Bool), okT t → ∀ r, brk r → wf (wt t part ++ r) [] = tk t part ++ wf r []
  | .num n, part, hk, r, hb => by
    rw [wt, tk, wf_word (ni_plain n) (ni_ne n) hb]
    rfl
  | .node m ps, part, hk, r, hb => by
    rw [okT] at hk
    obtain ⟨h1, h2, h3, h4, h5⟩ := hk
    rw [wt, tk]
    cases part && !ps.isEmpty with
    | true =>
      rw [if_pos rfl, if_pos rfl]
      rw [List.cons_append, List.cons_append, List.cons_append, wf_par (.inl rfl), List.append_assoc, List.append_assoc]
      rw [show ([41] ++ r : List Nat) = 41 :: r from rfl, wf_word (big_plain h1) (big_all h1).2 (brk_wts ps (brk_cons (c := 41) (by unfold plain; simp)))]
      rw [wf_wts ps h5 _ (brk_cons (by unfold plain; simp)), wf_par (.inr rfl)]
      simp
    | false =>
      rw [if_neg (by simp), if_neg (by simp), List.append_assoc, wf_word (big_plain h1) (big_all h1).2 (brk_wts ps hb), wf_wts ps h5 r hb]
      rfl
theorem wf_wts : ∀ (ts : List Nm.T), okTs ts → ∀ r, brk r → wf (wts ts ++ r) [] = tks ts ++ wf r []
  | [], _, r, _ => by rw [wts, tks]; rfl
  | t :: ts, hk, r, hb => by
    rw [okTs] at hk
    rw [wts, tks, List.cons_append, List.cons_append, wf_sp, List.append_assoc, wf_wt t true hk.1 _ (brk_wts ts hb), wf_wts ts hk.2 r hb, List.append_assoc]
end
theorem wf_top (t : Nm.T) (hk : okT t) : wf (wt t false) [] = tk t false := by
  have := wf_wt t false hk [] (.inl rfl)
  rw [List.append_nil] at this
  rw [this]
  simp [wf, flu]

/-! what a walk asks of the words -/
theorem wf_sub : ∀ (x cur : List Nat), ∀ w ∈ wf x cur, (∀ c ∈ w, c ∈ cur ∨ c ∈ x) ∧ w.length ≤ cur.length + x.length
  | [], cur, w, h => by
    unfold wf flu at h
    split at h
    · cases h
    · rw [List.mem_singleton] at h
      subst h
      exact ⟨fun c hc => .inl hc, by omega⟩
  | c :: x, cur, w, h => by
    have hf : ∀ w ∈ flu cur, (∀ d ∈ w, d ∈ cur ∨ d ∈ c :: x) ∧ w.length ≤ cur.length + (c :: x).length := fun w h => by
      unfold flu at h
      split at h
      · cases h
      · rw [List.mem_singleton] at h
        subst h
        exact ⟨fun c hc => .inl hc, by omega⟩
    have hx : ∀ w ∈ wf x [], (∀ d ∈ w, d ∈ cur ∨ d ∈ c :: x) ∧ w.length ≤ cur.length + (c :: x).length := fun w h => by
      obtain ⟨h1, h2⟩ := wf_sub x [] w h
      refine ⟨fun d hd => ?_, by rw [List.length_cons]; simp at h2; omega⟩
      rcases h1 d hd with q | q
      · cases q
      · exact .inr (by simp [q])
    unfold wf at h
    split at h
    · exact hf w h
    · split at h
      · rcases List.mem_append.mp h with q | q
        · exact hf w q
        · rcases List.mem_cons.mp q with rfl | q
          · refine ⟨fun d hd => .inr ?_, by simp; omega⟩
            rw [List.mem_singleton] at hd
            rw [hd]
            simp
          · exact hx w q
      · split at h
        · rcases List.mem_append.mp h with q | q
          · exact hf w q
          · exact hx w q
        · obtain ⟨h1, h2⟩ := wf_sub x (cur ++ [c]) w h
          refine ⟨fun d hd => ?_, by rw [List.length_append, List.length_singleton] at h2; rw [List.length_cons]; omega⟩
          rcases h1 d hd with q | q
          · rcases List.mem_append.mp q with q | q
            · exact .inl q
            · rw [List.mem_singleton] at q
              exact .inr (by simp [q])
          · exact .inr (by simp [q])
theorem words_sub {z : List Nat} {q : List Nat × Nat} (h : q ∈ words z) : (∀ c ∈ q.1, c ∈ z) ∧ q.1.length ≤ z.length := by
  have : q.1 ∈ wf z [] := by rw [← words_fst]; exact List.mem_map.mpr ⟨q, h, rfl⟩
  obtain ⟨h1, h2⟩ := wf_sub z [] q.1 this
  refine ⟨fun c hc => ?_, by simpa using h2⟩
  rcases h1 c hc with q | q
  · cases q
  · exact q
theorem wok_of {z : List Nat} (hl : z.length ≤ 100000) (hc : ∀ c ∈ z, c < 1114112) : WOk (words z) ∧ ∀ q ∈ words z, q.1.length ≤ 100000 := by
  have hq : ∀ q ∈ words z, q.1.length ≤ 100000 := fun q h => Nat.le_trans (words_sub h).2 hl
  refine ⟨⟨?_, fun q h => Nat.le_trans (hq q h) (by decide), ?_⟩, hq⟩
  · have := words_few z z 0 ([], [])
    show (wl z 0 ([], [])).length ≤ _
    simp at this
    omega
  · refine shaped_tup (n := 1) (by decide) fun d hd => ?_
    obtain ⟨q, hq', rfl⟩ := List.mem_map.mp hd
    have hs : PyData.strOk (txt q.1) = true := by
      unfold PyData.strOk
      rw [← Array.all_toList]
      exact List.all_eq_true.mpr fun c hc' => decide_eq_true (hc c ((words_sub hq').1 c hc'))
    unfold wd
    refine ⟨?_, ?_⟩
    · simp only [PyData.canLay0, PyData.canLayAll0, hs, Bool.and_self]
    · simp only [PyData.depth, PyData.depthAll]
      decide

theorem tl_join1 : ∀ (z : Str) (zs : List Str), tl (Txt.join " " (z :: zs)) = tl z ++ (zs.map fun y => 32 :: tl y).flatten := by
  have key : ∀ (zs : List Str) (z : Str), tl (Str.join " " (z :: zs)) = tl z ++ (zs.map fun y => 32 :: tl y).flatten := by
    intro zs
    induction zs with
    | nil => intro z; simp [Str.join]
    | cons y r ih =>
      intro z
      show tl (z ++ (" " : Str) ++ Str.join " " (y :: r)) = _
      rw [tl_app, tl_app, e_sp, ih]
      simp
  intro z zs
  unfold Txt.join
  rw [StrLaws.glued_eq_join]
  exact key zs z
theorem wts_flat : ∀ ps : List Nm.T, wts ps = (ps.map fun p => 32 :: wt p true).flatten
  | [] => by rw [wts]; rfl
  | p :: ps => by rw [wts, wts_flat ps]; rfl
theorem sum_wts : ∀ qs : List Nm.T, ((qs.map fun u => txt (wt u true)).map (·.length)).sum ≤ (wts qs).length
  | [] => by simp
  | a :: l => by
    have ih := sum_wts l
    have : (txt (wt a true)).length = (wt a true).length := by rw [str_len]
    rw [wts, List.map_cons, List.map_cons, List.sum_cons, this, List.length_append, List.length_cons]
    omega
mutual
theorem wt_len : ∀ (t : Nm.T) (b : Bool), okT t → (wt t b).length + 1 ≤ 403 * t.size
  | .num n, b, h => by
    rw [okT] at h
    rw [wt, Nm.T.size]
    have := dg_len 399 n.natAbs h
    unfold ni
    split
    · rw [List.length_cons]; omega
    · omega
  | .node m ps, b, h => by
    rw [okT] at h
    have hm : (tl m).length ≤ 24 := by
      have := h.1
      unfold isBig named at this
      simp only [Bool.and_eq_true, decide_eq_true_eq] at this
      exact this.1.1.2
    have hs := wts_len ps h.2.2.2.2
    rw [wt, Nm.T.size]
    split
    · rw [List.length_append, List.length_cons, List.length_append, List.length_singleton]
      omega
    · rw [List.length_append]
      omega
theorem wts_len : ∀ (ts : List Nm.T), okTs ts → (wts ts).length ≤ 403 * sizeAll ts
  | [], _ => by rw [wts]; simp
  | t :: ts, h => by
    rw [okTs] at h
    have h1 := wt_len t true h.1
    have h2 := wts_len ts h.2
    have := size_pos t
    rw [wts, sizeAll, List.length_append, List.length_cons]
    omega
end

theorem sizeAll_le {b : Nat} : ∀ {ts : List Nm.T}, (∀ t ∈ ts, t.size ≤ b) → sizeAll ts ≤ b * ts.length
  | [], _ => by rw [sizeAll]; exact Nat.zero_le _
  | t :: ts, h => by
    have h1 := h t (by simp)
    have h2 := sizeAll_le (ts := ts) fun u hu => h u (by simp [hu])
    rw [sizeAll, List.length_cons, Nat.mul_succ]
    omega
theorem okTs_of : ∀ {ts : List Nm.T}, (∀ t ∈ ts, okT t) → okTs ts
  | [], _ => by rw [okTs]; trivial
  | t :: ts, h => by
    rw [okTs]
    exact ⟨h t (by simp), okTs_of fun u hu => h u (by simp [hu])⟩
theorem okV_big {m : Str} (h : isBig (tl m) = true) : okV 24 (.str m) = true := by
  obtain ⟨h1, h2, h3, h4⟩ := big_inv h
  show (decide (m.length ≤ 24) && PyData.strOk m) = true
  rw [decide_eq_true (by rw [str_len]; exact h2), Bool.true_and]
  exact strOk_iff.mpr fun c hc => Nat.lt_trans (later_plain c (h4 c hc)).2 (by decide)

end K04

/-! k04, the plain law: spoilt texts; how many words a text has, and how deep its value can be. -/
namespace K04
open PySem PySem.Spec PyProof.Rows L2 Nm K3
theorem wf_two : ∀ (x y cur : List Nat), (wf (x ++ 32 :: y) cur).length ≤ (wf x cur).length + (wf y []).length
  | [], y, cur => by
    show (if (32 : Nat) = 59 then flu cur else if (32 : Nat) = 40 ∨ (32 : Nat) = 41 then flu cur ++ [32] :: wf y [] else if (32 : Nat) = 32 then flu cur ++ wf y [] else wf y (cur ++ [32])).length ≤ (flu cur).length + _
    rw [if_neg (by decide), if_neg (by decide), if_pos rfl, List.length_append]
    exact Nat.le_refl _
  | c :: x, y, cur => by
    have ih := fun cur => wf_two x y cur
    show (if c = 59 then flu cur else if c = 40 ∨ c = 41 then flu cur ++ [c] :: wf (x ++ 32 :: y) [] else if c = 32 then flu cur ++ wf (x ++ 32 :: y) [] else wf (x ++ 32 :: y) (cur ++ [c])).length ≤ (if c = 59 then flu cur else if c = 40 ∨ c = 41 then flu cur ++ [c] :: wf x [] else if c = 32 then flu cur ++ wf x [] else wf x (cur ++ [c])).length + (wf y []).length
    split
    · omega
    · split
      · have := ih []
        simp only [List.length_append, List.length_cons]
        omega
      · split
        · have := ih []
          simp only [List.length_append]
          omega
        · exact ih _
theorem wf_bl (k : Nat) (r : List Nat) : wf (List.replicate k 32 ++ r) [] = wf r [] := by
  induction k with
  | zero => rfl
  | succ k ih => rw [List.replicate_succ, List.cons_append, wf_sp, ih]
/-- the words in a text -/
def cw (z : Str) : Nat := (wf (tl z) []).length
/-- the parentheses that open -/
def c40 (z : Str) : Nat := (tl z).count 40
def glueL (k : Nat) (zs : List Str) : List Nat := (zs.map fun y => List.replicate (k + 1) 32 ++ tl y).flatten
theorem wf_glue (k : Nat) : ∀ (zs : List Str) (x : List Nat), (wf (x ++ glueL k zs) []).length ≤ (wf x []).length + (zs.map cw).sum
  | [], x => by simp [glueL]
  | y :: zs, x => by
    have ih := wf_glue k zs (tl y)
    have e : x ++ glueL k (y :: zs) = x ++ 32 :: (List.replicate k 32 ++ (tl y ++ glueL k zs)) := by
      unfold glueL
      rw [List.map_cons, List.flatten_cons, List.replicate_succ]
      simp
    have := wf_two x (List.replicate k 32 ++ (tl y ++ glueL k zs)) []
    rw [wf_bl] at this
    rw [e, List.map_cons, List.sum_cons]
    unfold cw at ih ⊢
    omega
theorem glue_len (k : Nat) : ∀ zs : List Str, (glueL k zs).length = (zs.map fun y => y.length + (k + 1)).sum
  | [] => rfl
  | y :: zs => by
    have ih := glue_len k zs
    unfold glueL at ih ⊢
    rw [List.map_cons, List.flatten_cons, List.map_cons, List.sum_cons, List.length_append, ih, List.length_append, List.length_replicate, str_len]
    omega
theorem glue_40 (k : Nat) : ∀ zs : List Str, (glueL k zs).count 40 = (zs.map c40).sum
  | [] => rfl
  | y :: zs => by
    have ih := glue_40 k zs
    have e : (List.replicate (k + 1) 32).count 40 = 0 := List.count_eq_zero.mpr fun h => by
      have := (List.mem_replicate.mp h).2
      omega
    unfold glueL at ih ⊢
    rw [List.map_cons, List.flatten_cons, List.map_cons, List.sum_cons, List.count_append, ih, List.count_append, e]
    unfold c40
    omega
theorem glue_mem (k : Nat) : ∀ (zs : List Str), ∀ c ∈ glueL k zs, c = 32 ∨ ∃ y ∈ zs, c ∈ tl y
  | [], c, h => by cases h
  | y :: zs, c, h => by
    have ih := glue_mem k zs c
    unfold glueL at ih h
    rw [List.map_cons, List.flatten_cons, List.mem_append, List.mem_append] at h
    rcases h with (h | h) | h
    · exact .inl (List.mem_replicate.mp h).2
    · exact .inr ⟨y, by simp, h⟩
    · rcases ih h with q | ⟨u, hu, q⟩
      · exact .inl q
      · exact .inr ⟨u, by simp [hu], q⟩
/-- the words joined, with k + 1 blanks between two of them -/
theorem tl_joinS {sep : Str} {k : Nat} (hs : tl sep = List.replicate (k + 1) 32) : ∀ (z : Str) (zs : List Str), tl (Txt.join sep (z :: zs)) = tl z ++ glueL k zs := by
  have key : ∀ (zs : List Str) (z : Str), tl (Str.join sep (z :: zs)) = tl z ++ glueL k zs := by
    intro zs
    induction zs with
    | nil => intro z; simp [Str.join, glueL]
    | cons y r ih =>
      intro z
      show tl (z ++ sep ++ Str.join sep (y :: r)) = _
      rw [tl_app, tl_app, hs, ih]
      unfold glueL
      simp
  intro z zs
  unfold Txt.join
  rw [StrLaws.glued_eq_join]
  exact key zs z
/-- what is known of the words of a lap, spoilt n times -/
structure WsB (n : Nat) (ws : List Str) : Prop where
  ln : (ws.map fun y => y.length + 2).sum ≤ 50000 + 500 * n
  cw : (ws.map cw).sum ≤ 120 + 2 * n
  c40 : (ws.map c40).sum ≤ 13 + n
  ch : ∀ z ∈ ws, ∀ c ∈ tl z, c < 128
theorem sum_le_len (g : Str → Nat) : ∀ ws : List Str, (∀ z, 2 ≤ g z) → 2 * ws.length ≤ (ws.map g).sum
  | [], _ => Nat.le_refl _
  | z :: ws, h => by
    have := sum_le_len g ws h
    have := h z
    rw [List.map_cons, List.sum_cons, List.length_cons]
    omega
theorem WsB.few {n : Nat} {ws : List Str} (h : WsB n ws) : ws.length ≤ 25000 + 250 * n := by
  have := sum_le_len (fun y => y.length + 2) ws (fun z => Nat.le_add_left _ _)
  have := h.ln
  omega
/-- what comes of a word put in, put out, or the rest turned -/
def Spoil (ws : List Str) (odd : Str) (zs : List Str) : Prop := ∃ a, zs = ws.take a ++ ws.drop (a + 1) ∨ zs = ws.take a ++ [odd] ++ ws.drop (a + 1) ∨ zs = ws.take a ++ [odd] ++ ws.drop a ∨ zs = ws.take a ++ (ws.drop a).reverse
theorem sum_tail (g : Str → Nat) (l : List Str) : (l.tail.map g).sum ≤ (l.map g).sum := by
  cases l with
  | nil => exact Nat.le_refl _
  | cons a l =>
    rw [List.tail_cons, List.map_cons, List.sum_cons]
    omega
theorem spoil_sum (g : Str → Nat) {ws zs : List Str} {odd : Str} (h : Spoil ws odd zs) : (zs.map g).sum ≤ (ws.map g).sum + g odd := by
  obtain ⟨a, h⟩ := h
  have e : (ws.map g).sum = ((ws.take a).map g).sum + ((ws.drop a).map g).sum := by
    rw [← List.sum_append, ← List.map_append, List.take_append_drop]
  have e2 : ((ws.drop (a + 1)).map g).sum ≤ ((ws.drop a).map g).sum := by
    rw [← List.tail_drop]
    exact sum_tail g _
  have e3 : ((ws.drop a).reverse.map g).sum = ((ws.drop a).map g).sum := ((List.reverse_perm _).map g).sum_nat
  rcases h with rfl | rfl | rfl | rfl
  · rw [List.map_append, List.sum_append]
    omega
  · rw [List.map_append, List.map_append, List.sum_append, List.sum_append, List.map_cons, List.map_nil, List.sum_cons, List.sum_nil]
    omega
  · rw [List.map_append, List.map_append, List.sum_append, List.sum_append, List.map_cons, List.map_nil, List.sum_cons, List.sum_nil]
    omega
  · rw [List.map_append, List.sum_append]
    omega
theorem spoil_mem {ws zs : List Str} {odd : Str} (h : Spoil ws odd zs) : ∀ z ∈ zs, z ∈ ws ∨ z = odd := by
  obtain ⟨a, h⟩ := h
  intro z hz
  have h1 : ∀ z ∈ ws.take a, z ∈ ws := fun z hz => List.mem_of_mem_take hz
  have h2 : ∀ b, ∀ z ∈ ws.drop b, z ∈ ws := fun b z hz => List.mem_of_mem_drop hz
  rcases h with rfl | rfl | rfl | rfl
  · rcases List.mem_append.mp hz with q | q
    · exact .inl (h1 z q)
    · exact .inl (h2 _ z q)
  · rcases List.mem_append.mp hz with q | q
    · rcases List.mem_append.mp q with q | q
      · exact .inl (h1 z q)
      · exact .inr (List.mem_singleton.mp q)
    · exact .inl (h2 _ z q)
  · rcases List.mem_append.mp hz with q | q
    · rcases List.mem_append.mp q with q | q
      · exact .inl (h1 z q)
      · exact .inr (List.mem_singleton.mp q)
    · exact .inl (h2 _ z q)
  · rcases List.mem_append.mp hz with q | q
    · exact .inl (h1 z q)
    · exact .inl (h2 _ z (List.mem_reverse.mp q))
/-- a word put in -/
structure OddOk (z : Str) : Prop where
  ln : z.length ≤ 401
  cw : cw z ≤ 2
  c40 : c40 z ≤ 1
  ch : ∀ c ∈ tl z, c < 128
theorem WsB.spoil {n : Nat} {ws zs : List Str} {odd : Str} (h : WsB n ws) (ho : OddOk odd) (s : Spoil ws odd zs) : WsB (n + 1) zs := by
  have h1 := spoil_sum (fun y => y.length + 2) s
  have h2 := spoil_sum K04.cw s
  have h3 := spoil_sum K04.c40 s
  refine ⟨?_, ?_, ?_, fun z hz => ?_⟩
  · have := h.ln; have := ho.ln; omega
  · have := h.cw; have := ho.cw; omega
  · have := h.c40; have := ho.c40; omega
  · rcases spoil_mem s z hz with q | q
    · exact h.ch z q
    · subst q; exact ho.ch
theorem WsB.more {n m : Nat} {ws : List Str} (h : WsB n ws) (hm : n ≤ m) : WsB m ws := ⟨by have := h.ln; omega, by have := h.cw; omega, by have := h.c40; omega, h.ch⟩
mutual
/-- the parentheses that open in a value's text -/
def pc : Nm.T → Bool → Nat
  | .num _, _ => 0
  | .node _ ps, part => (if part && !ps.isEmpty then 1 else 0) + pcs ps
def pcs : List Nm.T → Nat
  | [] => 0
  | t :: ts => pc t true + pcs ts
end
theorem no40 {w : List Nat} (h : ∀ c ∈ w, plain c) : w.count 40 = 0 := List.count_eq_zero.mpr fun q => (h 40 q).2.1 rfl
mutual
theorem tk_40 : ∀ (t : Nm.T) (b : Bool), okT t → ((tk t b).map fun w => w.count 40).sum = pc t b
  | .num n, b, h => by
    rw [tk, pc]
    simp [no40 (ni_plain n)]
  | .node m ps, b, h => by
    rw [okT] at h
    have hm := no40 (big_plain h.1)
    have ih := tks_40 ps h.2.2.2.2
    rw [tk, pc]
    cases b && !ps.isEmpty with
    | true =>
      rw [if_pos rfl, if_pos rfl]
      simp only [List.map_append, List.map_cons, List.map_nil, List.sum_append, List.sum_cons, List.sum_nil, List.cons_append, hm, ih]
      have e1 : List.count 40 [40] = 1 := by decide
      have e2 : List.count 40 [41] = 0 := by decide
      omega
    | false =>
      rw [if_neg (by simp), if_neg (by simp)]
      simp only [List.map_cons, List.sum_cons, hm, ih]
theorem tks_40 : ∀ (ts : List Nm.T), okTs ts → ((tks ts).map fun w => w.count 40).sum = pcs ts
  | [], _ => by rw [tks, pcs]; rfl
  | t :: ts, h => by
    rw [okTs] at h
    rw [tks, pcs, List.map_append, List.sum_append, tk_40 t true h.1, tks_40 ts h.2]
end
mutual
theorem tk_len : ∀ (t : Nm.T) (b : Bool), (tk t b).length ≤ 3 * t.size
  | .num n, b => by rw [tk, Nm.T.size]; simp
  | .node m ps, b => by
    have ih := tks_len ps
    rw [tk, Nm.T.size]
    split
    · simp only [List.length_append, List.length_cons, List.length_nil]
      omega
    · simp only [List.length_cons]
      omega
theorem tks_len : ∀ (ts : List Nm.T), (tks ts).length ≤ 3 * sizeAll ts
  | [] => by rw [tks]; exact Nat.zero_le _
  | t :: ts => by
    have h1 := tk_len t true
    have h2 := tks_len ts
    rw [tks, sizeAll, List.length_append]
    omega
end
/-- one word of a value's text -/
def TokOk (w : List Nat) : Prop := w.length ≤ 401 ∧ (wf w []).length ≤ 1 ∧ ∀ c ∈ w, c < 128
theorem wf_one {w : List Nat} (hp : ∀ c ∈ w, plain c) (hw : w ≠ []) : (wf w []).length ≤ 1 := by
  have := wf_word hp hw (r := []) (.inl rfl)
  rw [List.append_nil] at this
  rw [this]
  simp [wf, flu]
theorem tok_par {c : Nat} (h : c = 40 ∨ c = 41) : TokOk [c] := by
  refine ⟨by simp, ?_, fun d hd => ?_⟩
  · rw [wf_par h]
    simp [wf, flu]
  · rw [List.mem_singleton] at hd
    omega
theorem tok_num {n : Int} (h : n.natAbs < 10 ^ 400) : TokOk (ni n) := by
  refine ⟨?_, wf_one (ni_plain n) (ni_ne n), fun c hc => ?_⟩
  · have := dg_len 399 n.natAbs h
    unfold ni
    split
    · rw [List.length_cons]; omega
    · omega
  · unfold ni at hc
    split at hc
    · rcases List.mem_cons.mp hc with rfl | hc
      · omega
      · have := dg_all _ c hc
        omega
    · have := dg_all _ c hc
      omega
theorem tok_name {w : List Nat} (h : isBig w = true) : TokOk w :=
  ⟨by have := (big_inv h).2.1; omega, wf_one (big_plain h) (big_all h).2, fun c hc => (later_plain c ((big_all h).1 c hc)).2⟩
mutual
theorem tk_ok : ∀ (t : Nm.T) (b : Bool), okT t → ∀ w ∈ tk t b, TokOk w
  | .num n, b, h, w, hw => by
    rw [okT] at h
    rw [tk, List.mem_singleton] at hw
    subst hw
    exact tok_num h
  | .node m ps, b, h, w, hw => by
    rw [okT] at h
    have ih := tks_ok ps h.2.2.2.2
    rw [tk] at hw
    split at hw
    · simp only [List.cons_append, List.mem_cons, List.mem_append, List.not_mem_nil, or_false] at hw
      rcases hw with rfl | rfl | q | rfl
      · exact tok_par (.inl rfl)
      · exact tok_name h.1
      · exact ih w q
      · exact tok_par (.inr rfl)
    · simp only [List.mem_cons] at hw
      rcases hw with rfl | q
      · exact tok_name h.1
      · exact ih w q
theorem tks_ok : ∀ (ts : List Nm.T), okTs ts → ∀ w ∈ tks ts, TokOk w
  | [], _, w, hw => by rw [tks] at hw; cases hw
  | t :: ts, h, w, hw => by
    rw [okTs] at h
    rw [tks, List.mem_append] at hw
    rcases hw with q | q
    · exact tk_ok t true h.1 w q
    · exact tks_ok ts h.2 w q
end
theorem sum_le_mul {α : Type} (g : α → Nat) (b : Nat) : ∀ l : List α, (∀ x ∈ l, g x ≤ b) → (l.map g).sum ≤ b * l.length
  | [], _ => Nat.zero_le _
  | x :: l, h => by
    have h1 := h x (by simp)
    have h2 := sum_le_mul g b l fun y hy => h y (by simp [hy])
    rw [List.map_cons, List.sum_cons, List.length_cons, Nat.mul_succ]
    omega
/-- the words of a drawn value -/
theorem wsb_of {t : Nm.T} (hk : okT t) (hz : t.size ≤ 40) (hp : pc t false ≤ 13) : WsB 0 ((tk t false).map txt) := by
  have h1 := tk_ok t false hk
  have h2 := tk_len t false
  have e : ∀ w, tl (txt w) = w := tl_mk
  refine ⟨?_, ?_, ?_, fun z hz c hc => ?_⟩
  · rw [List.map_map]
    have := sum_le_mul ((fun y : Str => y.length + 2) ∘ txt) 403 (tk t false) fun w hw => by
      show (txt w).length + 2 ≤ 403
      rw [str_len, e]
      have := (h1 w hw).1
      omega
    omega
  · rw [List.map_map]
    have := sum_le_mul (cw ∘ txt) 1 (tk t false) fun w hw => by
      show (wf (tl (txt w)) []).length ≤ 1
      rw [e]
      exact (h1 w hw).2.1
    omega
  · rw [List.map_map]
    have e2 : (c40 ∘ txt) = fun w : List Nat => w.count 40 := by
      funext w
      show (tl (txt w)).count 40 = w.count 40
      rw [e]
    rw [e2, tk_40 t false hk]
    omega
  · obtain ⟨w, hw, rfl⟩ := List.mem_map.mp hz
    rw [e] at hc
    exact (h1 w hw).2.2 c hc
/-! the text put together -/
theorem tail_len {x : List Nat} {y : List Nat} (h : y = [] ∨ y = [32] ∨ y = [32, 59, 32, 120]) : (wf (x ++ y) []).length ≤ (wf x []).length ∧ y.length ≤ 4 ∧ y.count 40 = 0 ∧ ∀ c ∈ y, c < 128 := by
  rcases h with rfl | rfl | rfl
  · refine ⟨by simp, by decide, by decide, fun c hc => by cases hc⟩
  · refine ⟨?_, by decide, by decide, by decide⟩
    have := wf_two x [] []
    simp only [wf, flu] at this
    simpa using this
  · refine ⟨?_, by decide, by decide, by decide⟩
    have := wf_two x [59, 32, 120] []
    have e : wf [59, 32, 120] [] = [] := by decide +kernel
    rw [e] at this
    simpa using this
structure TxB (z : List Nat) : Prop where
  l : z.length ≤ 100000
  w : (wf z []).length ≤ 200
  p : z.count 40 ≤ 20
  c : ∀ c ∈ z, c < 128
theorem join_b {ws : List Str} {sep : Str} {k : Nat} (hk : k ≤ 1) (hs : tl sep = List.replicate (k + 1) 32) (h : WsB 2 ws) : (tl (Txt.join sep ws)).length ≤ 51000 ∧ (wf (tl (Txt.join sep ws)) []).length ≤ 124 ∧ (tl (Txt.join sep ws)).count 40 ≤ 15 ∧ ∀ c ∈ tl (Txt.join sep ws), c < 128 := by
  have h1 := h.ln
  have h2 := h.cw
  have h3 := h.c40
  cases ws with
  | nil =>
    have e : tl (Txt.join sep []) = [] := by
      unfold Txt.join
      rw [StrLaws.glued_eq_join]
      rfl
    rw [e]
    exact ⟨by simp, by simp [wf, flu], by simp, fun c hc => by cases hc⟩
  | cons z zs =>
    rw [tl_joinS hs]
    rw [List.map_cons, List.sum_cons] at h1 h2 h3
    have g1 := glue_len k zs
    have g2 := wf_glue k zs (tl z)
    have g3 := glue_40 k zs
    have g4 : (zs.map fun y => y.length + (k + 1)).sum ≤ (zs.map fun y => y.length + 2).sum := by
      clear h h1 h2 h3 g1 g2 g3
      induction zs with
      | nil => exact Nat.le_refl _
      | cons a l ih =>
        rw [List.map_cons, List.map_cons, List.sum_cons, List.sum_cons]
        omega
    refine ⟨?_, ?_, ?_, fun c hc => ?_⟩
    · rw [List.length_append, g1, ← str_len]
      omega
    · unfold cw at h2
      have : (zs.map cw).sum = (zs.map fun z => (wf (tl z) []).length).sum := rfl
      omega
    · rw [List.count_append, g3]
      unfold c40 at h3
      have : (zs.map c40).sum = (zs.map fun z => (tl z).count 40).sum := rfl
      omega
    · rcases List.mem_append.mp hc with q | q
      · exact h.ch z (by simp) c q
      · rcases glue_mem k zs c q with q | ⟨y, hy, q⟩
        · omega
        · exact h.ch y (by simp [hy]) c q
theorem txb_of {ws : List Str} {sep : Str} {k r : Nat} {y : List Nat} (hk : k ≤ 1) (hr : r ≤ 1) (hs : tl sep = List.replicate (k + 1) 32) (hy : y = [] ∨ y = [32] ∨ y = [32, 59, 32, 120]) (h : WsB 2 ws) : TxB (List.replicate r 32 ++ tl (Txt.join sep ws) ++ y) := by
  obtain ⟨j1, j2, j3, j4⟩ := join_b hk hs h
  obtain ⟨t1, t2, t3, t4⟩ := tail_len (x := List.replicate r 32 ++ tl (Txt.join sep ws)) hy
  rw [wf_bl] at t1
  refine ⟨?_, by omega, ?_, fun c hc => ?_⟩
  · rw [List.length_append, List.length_append, List.length_replicate]
    omega
  · have e : (List.replicate r 32).count 40 = 0 := List.count_eq_zero.mpr fun h => by
      have := (List.mem_replicate.mp h).2
      omega
    rw [List.count_append, List.count_append]
    omega
  · rcases List.mem_append.mp hc with q | q
    · rcases List.mem_append.mp q with q | q
      · have := (List.mem_replicate.mp q).2
        omega
      · exact j4 c q
    · exact t4 c q
/-! the value read -/
def cP (f : F) (n : Nat) : Nat := ((f.drop n).filter fun q => decide (q.1 = [40])).length
theorem cP_mono {f : F} {n m : Nat} (h : n ≤ m) : cP f m ≤ cP f n := by
  unfold cP
  refine List.Sublist.length_le (List.Sublist.filter _ ?_)
  rw [show m = n + (m - n) by omega, ← List.drop_drop]
  exact List.drop_sublist _ _
theorem cP_par {f : F} {n : Nat} (h : isW f n [40] = true) : cP f n = cP f (n + 1) + 1 := by
  unfold isW at h
  have h := of_decide_eq_true h
  cases e : f[n]? with
  | none => rw [e] at h; cases h
  | some q =>
    rw [e] at h
    have eq : q.1 = [40] := Option.some.inj h
    obtain ⟨hl, hq⟩ := List.getElem?_eq_some_iff.mp e
    unfold cP
    rw [List.drop_eq_getElem_cons hl, hq, List.filter_cons, if_pos (decide_eq_true eq), List.length_cons]
theorem sizeAll_app : ∀ a b : List Nm.T, sizeAll (a ++ b) = sizeAll a + sizeAll b
  | [], b => by rw [List.nil_append, sizeAll]; omega
  | t :: a, b => by
    rw [List.cons_append, sizeAll, sizeAll, sizeAll_app a b]
    omega
theorem rdL_bnd {f : F} {r : Nat → Option Nm.T × Nat} {inner : Bool} {n0 D : Nat} (hr : ∀ m t m', n0 ≤ m → r m = (some t, m') → t.good = true ∧ t.depth ≤ D ∧ t.size + m ≤ m') : ∀ (lap n : Nat) (acc ps : List Nm.T) (n' : Nat), n0 ≤ n → (∀ t ∈ acc, t.good = true ∧ t.depth ≤ D) → sizeAll acc + n0 ≤ n → rdL f r inner lap n acc = (some ps, n') → (∀ t ∈ ps, t.good = true ∧ t.depth ≤ D) ∧ sizeAll ps + n0 ≤ n'
  | 0, n, acc, ps, n', hn, ha, hz, h => by cases h; exact ⟨ha, hz⟩
  | lap + 1, n, acc, ps, n', hn, ha, hz, h => by
    unfold rdL at h
    split at h
    · cases h; exact ⟨ha, hz⟩
    · cases e : r n with
      | mk o n1 =>
        rw [e] at h
        cases o with
        | none => cases h
        | some t =>
          obtain ⟨g1, g2, g3⟩ := hr n t n1 hn e
          refine rdL_bnd hr lap n1 _ ps n' (by omega) (fun u hu => ?_) ?_ h
          · rcases List.mem_append.mp hu with q | q
            · exact ha u q
            · rw [List.mem_singleton] at q
              subst q
              exact ⟨g1, g2⟩
          · rw [sizeAll_app, sizeAll, sizeAll]
            omega
theorem rd_bnd (f : F) : ∀ (k n : Nat) (a : Bool) (t : Nm.T) (n' : Nat), rd f k n a = (some t, n') → t.good = true ∧ t.depth ≤ (if a then 1 else 2) + cP f n ∧ t.size + n ≤ n'
  | 0, n, a, t, n', h => by cases h
  | k + 1, n, a, t, n', h => by
    have ih : ∀ m t m', rd f k m true = (some t, m') → t.good = true ∧ t.depth ≤ 1 + cP f m ∧ t.size + m ≤ m' := fun m t m' h => rd_bnd f k m true t m' h
    have ha : 1 ≤ (if a then 1 else 2 : Nat) := by cases a <;> decide
    unfold rd at h
    dsimp only at h
    generalize ei : isW f n [40] = inner at h
    generalize hn : (if inner = true then n + 1 else n) = n1 at h
    have h1 : n ≤ n1 := by rw [← hn]; split <;> omega
    cases eq : f[n1]? with
    | none => rw [eq] at h; cases h
    | some q =>
      rw [eq] at h
      dsimp only at h
      have one : ∀ i : Int, (Nm.T.num i).good = true ∧ (Nm.T.num i).depth ≤ (if a then 1 else 2) + cP f n ∧ (Nm.T.num i).size = 1 := fun i => ⟨rfl, by rw [Nm.T.depth]; omega, by rw [Nm.T.size]⟩
      split at h
      · split at h
        · split at h
          · cases h
            obtain ⟨o1, o2, o3⟩ := one (intOf q.1)
            exact ⟨o1, o2, by omega⟩
          · cases h
        · cases h
          obtain ⟨o1, o2, o3⟩ := one (intOf q.1)
          exact ⟨o1, o2, by omega⟩
      · split at h
        · rename_i hb
          have hg : okV 24 (.str (txt q.1)) = true := okV_big (by rw [tl_mk]; exact hb)
          cases e : (if (!a || inner) = true then rdL f (fun m => rd f k m true) inner (f.length + 1) (n1 + 1) [] else (some [], n1 + 1)) with
          | mk o n2 =>
            rw [e] at h
            cases o with
            | none => cases h
            | some ps =>
              have key : (∀ t ∈ ps, t.good = true ∧ t.depth + 1 ≤ (if a then 1 else 2) + cP f n) ∧ sizeAll ps + (n1 + 1) ≤ n2 := by
                split at e
                · rename_i hai
                  obtain ⟨b1, b2⟩ := rdL_bnd (n0 := n1 + 1) (D := 1 + cP f (n1 + 1)) (fun m t m' hm hq => by
                    obtain ⟨g1, g2, g3⟩ := ih m t m' hq
                    have := cP_mono (f := f) hm
                    exact ⟨g1, by omega, g3⟩) _ _ [] ps n2 (Nat.le_refl _) (fun t h => by cases h) (by rw [sizeAll]; omega) e
                  refine ⟨fun t ht => ⟨(b1 t ht).1, ?_⟩, b2⟩
                  have := (b1 t ht).2
                  cases inner with
                  | true =>
                    rw [if_pos rfl] at hn
                    have := cP_par ei
                    have := cP_mono (f := f) (n := n + 1) (m := n1 + 1) (by omega)
                    omega
                  | false =>
                    have ea : a = false := by simpa using hai
                    subst ea
                    have := cP_mono (f := f) (n := n) (m := n1 + 1) (by omega)
                    simp only [Bool.false_eq_true, if_false]
                    omega
                · cases e
                  exact ⟨fun t h => (by cases h), by rw [sizeAll]; omega⟩
              have fin : ∀ n3, n2 ≤ n3 → (Nm.T.node (txt q.1) ps).good = true ∧ (Nm.T.node (txt q.1) ps).depth ≤ (if a then 1 else 2) + cP f n ∧ (Nm.T.node (txt q.1) ps).size + n ≤ n3 := fun n3 h3 => by
                obtain ⟨k1, k2⟩ := key
                refine ⟨?_, ?_, ?_⟩
                · rw [Nm.T.good, hg, goodAll_iff.mpr fun t h => (k1 t h).1]
                  rfl
                · rw [Nm.T.depth]
                  have : depthAll ps ≤ (if a then 1 else 2) + cP f n - 1 := depthAll_iff.mpr fun t h => by have := (k1 t h).2; omega
                  omega
                · rw [Nm.T.size]
                  omega
              dsimp only at h
              split at h
              · split at h
                · cases h
                  exact fin _ (by omega)
                · cases h
              · cases h
                exact fin _ (by omega)
        · cases h
theorem wf_40 : ∀ (x cur : List Nat), cur ≠ [40] → ((wf x cur).filter fun w => decide (w = [40])).length ≤ x.count 40
  | [], cur, h => by
    unfold wf flu
    split
    · exact Nat.zero_le _
    · rw [List.filter_cons, if_neg (by simpa using h)]
      exact Nat.zero_le _
  | c :: x, cur, h => by
    have hf : ((flu cur).filter fun w => decide (w = [40])) = [] := by
      unfold flu
      split
      · rfl
      · rw [List.filter_cons, if_neg (by simpa using h)]
        rfl
    have i0 := wf_40 x [] (by simp)
    have hc : x.count 40 ≤ (c :: x).count 40 := List.Sublist.count_le _ (List.sublist_cons_self c x)
    unfold wf
    split
    · rw [hf]; exact Nat.zero_le _
    · split
      · rw [List.filter_append, hf, List.nil_append, List.filter_cons]
        split
        · rename_i q
          have q : [c] = [40] := of_decide_eq_true q
          injection q with q
          subst q
          rw [List.length_cons, List.count_cons_self]
          omega
        · omega
      · split
        · rw [List.filter_append, hf, List.nil_append]
          omega
        · rename_i h1 h2 h3
          refine Nat.le_trans (wf_40 x (cur ++ [c]) fun e => ?_) hc
          cases cur with
          | nil =>
            injection e with e
            omega
          | cons a l => simp at e
theorem cP_words (z : List Nat) : cP (words z) 0 ≤ z.count 40 := by
  have := wf_40 z [] (by simp)
  rw [← words_fst, List.filter_map, List.length_map] at this
  unfold cP
  rw [List.drop_zero]
  exact this
theorem wf_ne : ∀ (x cur : List Nat), ∀ w ∈ wf x cur, w ≠ []
  | [], cur, w, h => by
    unfold wf flu at h
    split at h
    · cases h
    · rw [List.mem_singleton] at h
      subst h
      assumption
  | c :: x, cur, w, h => by
    have hf : ∀ w ∈ flu cur, w ≠ [] := fun w h => by
      unfold flu at h
      split at h
      · cases h
      · rw [List.mem_singleton] at h
        subst h
        assumption
    unfold wf at h
    split at h
    · exact hf w h
    · split at h
      · rcases List.mem_append.mp h with q | q
        · exact hf w q
        · rcases List.mem_cons.mp q with rfl | q
          · simp
          · exact wf_ne x [] w q
      · split at h
        · rcases List.mem_append.mp h with q | q
          · exact hf w q
          · exact wf_ne x [] w q
        · exact wf_ne x _ w h
theorem words_ne {z : List Nat} : ∀ q ∈ words z, q.1 ≠ [] := fun q h => wf_ne z [] q.1 (by rw [← words_fst]; exact List.mem_map.mpr ⟨q, h, rfl⟩)
/-- the answer, as data -/
def ansD : Out → PyData
  | .ok t => .tuple [.str "value", t.own]
  | .bad c => .tuple [.str "bad", .int (c : Nat)]
theorem due_bnd {z : List Nat} (h : TxB z) : SeqAt.shaped (ansD (due (words z))) = true ∧ ∀ t, due (words z) = .ok t → t.depth ≤ 22 ∧ t.size ≤ 200 := by
  have key : ∀ t, due (words z) = .ok t → t.good = true ∧ t.depth ≤ 22 ∧ t.size ≤ 200 := by
    intro t e
    unfold due at e
    cases er : rd (words z) ((words z).length + 1) 0 false with
    | mk o n =>
      rw [er] at e
      cases o with
      | none => cases e
      | some u =>
        obtain ⟨g1, g2, g3⟩ := rd_bnd _ _ _ _ _ _ er
        have g4 := (rd_adv _ _ _ _ _ _ er).2
        have g5 := cP_words z
        have g6 := h.p
        have g7 : (words z).length ≤ 200 := by
          have := h.w
          rw [← words_fst, List.length_map] at this
          exact this
        dsimp only at e
        split at e
        · cases e
          simp only [Bool.false_eq_true, if_false] at g2
          exact ⟨g1, by omega, by omega⟩
        · cases e
  refine ⟨?_, fun t e => (key t e).2⟩
  cases e : due (words z) with
  | ok t =>
    obtain ⟨k1, k2, k3⟩ := key t e
    obtain ⟨l1, l2⟩ := own_lay t k1
    unfold SeqAt.shaped ansD
    have hs : PyData.strOk "value" = true := by decide +kernel
    simp only [PyData.canLay0, PyData.canLayAll0, l1, hs, Bool.and_self, Bool.true_and]
    refine decide_eq_true ?_
    simp only [PyData.depth, PyData.depthAll]
    omega
  | bad c =>
    unfold SeqAt.shaped ansD
    have hs : PyData.strOk "bad" = true := by decide +kernel
    simp only [PyData.canLay0, PyData.canLayAll0, hs, Bool.and_self, Bool.true_and]
    refine decide_eq_true ?_
    simp only [PyData.depth, PyData.depthAll]
    decide
end K04

namespace K04
open PySem PySem.Spec PyProof.Rows L2 Nm K3 LamX
theorem shaped_list {l : List PyData} (h : SeqAt.shaped (.tuple l) = true) : SeqAt.shaped (.list l) = true := by
  unfold SeqAt.shaped at h ⊢
  simp only [PyData.canLay0, PyData.depth] at h ⊢
  exact h
theorem txb_ok {z : List Nat} (h : TxB z) : WsOk (words z) ∧ WOk (words z) ∧ (∀ q ∈ words z, q.1.length ≤ 100000) ∧ (words z).length ≤ 200 := by
  obtain ⟨w1, w2⟩ := wok_of h.l fun c hc => by have := h.c c hc; omega
  exact ⟨⟨w1.few, words_ne, w2⟩, w1, w2, by have := h.w; rw [← words_fst, List.length_map] at this; exact this⟩
theorem st_mergeK {p : Addr} : mergeK [] (stKv p 0) = stKv p 0 := by kernel_rfl
section
variable {P : Program} {w : World} {K : PySem.W.Frag} {mg : Str → Option Value} {base : Heap}
def spDue (K : PySem.W.Frag) : Sp := fun vs H Q _ => ∃ (z : Str), vs = [.str z] ∧ TxB (tl z) ∧ ∀ v H', Same H H' → Dp K H' v (ansD (due (words (tl z)))) → Q v H'
theorem ok_due (T : Tx P K mg) : FnOk P w K mg base CX0 206 T.adue T.fddue ["_law_text"] (spDue K) := by
  have Glwords : FnOk P w K mg base CX0 1 T.alwords T.fdlwords ["_law_line"] (spLWords K) := ok_lwords T
  have Gread : FnOk P w K mg base CX0 205 T.aread T.fdread ["_law_state", "_law_is_atom"] (spRead K 200) := ok_read T 200
  have Gcolumn : FnOk P w K mg base CX0 1 T.acolumn T.fdcolumn ["_law_state"] (spColumn K) := ok_column T
  refine T.Ddue.F.ok scdue (fun vs H Q E h => ?_) (fun cdv A outer s H vs Q E hr h => ?_)
  · obtain ⟨z, rfl, _⟩ := h
    rfl
  · obtain ⟨z, rfl, hz, kk⟩ := h
    have hu := hu_of hr
    have hrlwords := hr.mono (j := 1) (by decide)
    have hrcolumn := hrlwords
    have hrread := hr
    obtain ⟨ok, wok, wlen, wfew⟩ := txb_ok hz
    refine ⟨_, pss_cons (ps_set (i := 1) scdue.nd rfl (Or.inl rfl) (pe_disp (pps_cons (pe_str) (pe_callN T.Dlwords Glwords hrlwords pass0 (pa_cons (pv 0) pa_nil)) (pps_cons (pe_str) (pe_int) (pps_nil))) (by rfl) (by rfl) (fun z => by cases z) (by decide)))
(pss_cons (ps_set (i := 2) scdue.nd rfl (Or.inl rfl) (pe_callN T.Dread Gread hrread pass0 (pa_cons (pv 1) (pa_cons (pe_bl) pa_nil))))
(pss_cons (ps_if (pt_cut (PW.pt (pw_or (pt_cmpR op_isNn (pv 2) (pe_non) (nomark _)) (pw_or1 (pt_cmpR op_lt (pe_dget hu (pv 1) (pe_str) (fun _ _ => rfl)) (pe_callB call_lenL (by rfl) T.n_len (by decide +kernel) (pa_cons (pe_dget hu (pv 1) (pe_str) (fun _ _ => rfl)) pa_nil)) (nomark _))))))
(pss_one (ps_ret (pe_tup (pa_cons (pe_str) (pa_cons (pe_callN T.Dcolumn Gcolumn hrcolumn pass0 (pa_cons (pv 1) pa_nil)) pa_nil)))))
(pss_nil))
(pss_one (ps_ret (pe_tup (pa_cons (pe_str) (pa_cons (pe_ix ix_list (pv 2) (pe_int) (fun _ _ => rfl)) pa_nil))))))), ?_⟩
    walk_at "z0"
    walk_at "zz"
    refine z_disp fun d H1 nd s1 h1 => ?_
    walk_at "zz"
    refine ⟨z, rfl, by rw [str_len]; exact hz.l, fun l H2 s2 g2 => ?_⟩
    walk_at "zz"
    obtain ⟨us, hl2, hds2⟩ := g2.ex
    generalize words (tl z) = f at ok wok wlen wfew kk hds2
    refine z_kDisp (stKv l 0) ?_ (s2 _ _ h1) (by show 2 ≤ 15; decide) fun H3 b3 h3 => ?_
    · kernel_rfl
    rw [st_mergeK] at h3
    have hd2 := s2 _ _ h1
    have s03 : Same H H3 := b3.same (s1.trans s2) nd
    have st3 : StAt K H3 d l f 0 := ⟨us, h3, b3 _ _ (fun e => by rw [e, hd2] at hl2; cases hl2) hl2, dps_keep (b3.keep hd2) hds2⟩
    walk_at "zz"
    refine ⟨d, l, false, f, 0, rfl, st3, ok, by omega, fun v H4 b4 hR => ?_⟩
    have s04 : Same H H4 := b4.same s03 nd
    have bad : ∀ n, StAt K H4 d l f n → due f = .bad (colOf f n) → ∀ Q' : VK, (∀ H5 x, Same H4 H5 → x = V.int (colOf f n : Nat) → Q' x H5) → True := fun _ _ _ _ _ => trivial
    walk_at "zz"
    cases er : rd f (f.length + 1) 0 false with
    | mk o n =>
      rw [er] at hR
      cases o with
      | none =>
        obtain ⟨rfl, st4⟩ := hR
        have ed : due f = .bad (colOf f n) := by unfold due; rw [er]
        refine z_cutT (fun b H' => b = true ∧ H' = H4) ?_ ?_
        · walk_at "zz"
          refine z_ite (fun e => ?_) (fun e => by simp at e)
          exact ⟨rfl, rfl⟩
        rintro b H5 ⟨rfl, rfl⟩
        walk_at "zz"
        refine ⟨d, l, f, n, rfl, st4, ok, shaped_list wok.sh, fun H6 s6 => ?_⟩
        walk_at "zz"
        refine z_kTup (line_ge (by simp)) fun q H7 n7 s7 h7 => ?_
        walk_at "zz"
        refine kk _ H7 (s04.trans (s6.trans s7)) ?_
        rw [ed]
        exact .tup (SqT.of h7) (.cons (.str _) (.cons (.int _) .nil))
      | some t =>
        obtain ⟨st4, p, x, rfl, hp, hx⟩ := hR
        obtain ⟨us4, hd4, hl4, hds4⟩ := st4
        obtain ⟨lus4, _⟩ := wd_at hds4
        have st4 : StAt K H4 d l f n := ⟨us4, hd4, hl4, hds4⟩
        refine z_cutT (fun b H' => b = decide (n < f.length) ∧ H' = H4) ?_ ?_
        · walk_at "zz"
          refine z_ite (fun e => by simp at e) (fun e => ?_)
          walk_at "zz"
          refine z_kGetS hd4 st_at ?_
          walk_at "zz"
          refine z_kGetS hd4 st_words ?_
          walk_at "zz"
          refine z_lenL (SqL.of hl4) ?_
          walk_at "zz"
          exact ⟨decide_eq_decide.mpr (by omega), rfl⟩
        rintro b H5 ⟨rfl, rfl⟩
        refine z_ite (fun e => ?_) (fun e => ?_)
        · have e := of_decide_eq_true e
          have ed : due f = .bad (colOf f n) := by
            unfold due
            rw [er]
            dsimp only
            rw [List.getElem?_eq_getElem e]
          walk_at "zz"
          refine ⟨d, l, f, n, rfl, st4, ok, shaped_list wok.sh, fun H6 s6 => ?_⟩
          walk_at "zz"
          refine z_kTup (line_ge (by simp)) fun q H7 n7 s7 h7 => ?_
          walk_at "zz"
          refine kk _ H7 (s04.trans (s6.trans s7)) ?_
          rw [ed]
          exact .tup (SqT.of h7) (.cons (.str _) (.cons (.int _) .nil))
        · have e := of_decide_eq_false e
          have ed : due f = .ok t := by
            unfold due
            rw [er]
            dsimp only
            rw [List.getElem?_eq_none (by omega)]
          walk_at "zz"
          refine z_ixL (SqL.of hp) rfl ?_
          walk_at "zz"
          refine z_kTup (line_ge (by simp)) fun q H7 n7 s7 h7 => ?_
          walk_at "zz"
          refine kk _ H7 (s04.trans s7) ?_
          rw [ed]
          exact .tup (SqT.of h7) (.cons (.str _) (.cons (dp_keep (same_keep (nw_sub.trans s7)) hx) .nil))
def spTold (T : Tx P K mg) : Sp := fun vs H Q _ => ∃ (z : Str), vs = [.str z] ∧ TxB (tl z) ∧ Tabs (tabs T) H ∧ ∀ v H', ExtN H H' → Tabs (tabs T) H' → Dp K H' v (ansD (due (words (tl z)))) → Q v H'
theorem ok_told (T : Tx P K mg) (hI : IntOk) (TN : TabB base mg T.cneed T.Pneed) (TB : TabB base mg T.cbegun T.Pbegun) : FnOk P w K mg base CX0 24 T.atold T.fdtold ["_law_text"] (spTold T) := by
  have Gown : FnOk P w K mg base CX0 23 T.aown T.fdown ["_law_value"] (spOwn K T.CM 22) := ok_own T 22
  have Gvfrom : FnOk P w K mg base (L2.CX P w) 8 T.avfrom T.fdvfrom ["text"] (spFrom T) := ok_vfrom T hI TN TB
  refine T.Dtold.F.ok sctold (fun vs H Q E h => ?_) (fun cdv A outer s H vs Q E hr h => ?_)
  · obtain ⟨z, rfl, _⟩ := h
    rfl
  · obtain ⟨z, rfl, hz, hT, kk⟩ := h
    have hu := hu_of hr
    have hrown := hr
    have hrvfrom := hr.mono (j := 8) (by decide)
    obtain ⟨ok, wok, wlen, wfew⟩ := txb_ok hz
    obtain ⟨_, db⟩ := due_bnd hz
    refine ⟨_, pss_one (ps_clauses rfl rfl sctold.nd L2.takes0 (fun W pn xe tk _ => pss_one (ps_ret (pe_tup (pa_cons (pe_str) (pa_cons (pe_callN T.Down Gown hrown pass0 (pa_cons (pe_callS Gvfrom hrvfrom rfl T.Dvfrom.g T.Dvfrom.F.kp T.Dvfrom.b (fun σ => passAt tk σ) (pa_cons (pv 0) pa_nil)) pa_nil)) pa_nil)))))
(.cons ⟨rfl, by decide, .inl T.EBadText.gC⟩ (i := 1) rfl rfl (fun a oe cls d pn hz hf => pss_one (ps_ret (pe_cut (pe_ifExp (pt_cmpR (by exact op_eqD hr.units : OpR _ (compareOp .Eq) (rEqD K)) (pe_ofE T.EBadText (f := "line") (by decide) hz hf (pv 1)) (pe_int) (nomark _)) (pe_tup (pa_cons (pe_str) (pa_cons (pe_ofE T.EBadText (f := "column") (by decide) hz hf (pv 1)) pa_nil))) (pe_tup (pa_cons (pe_str) (pa_cons (pe_ofE T.EBadText (f := "line") (by decide) hz hf (pv 1)) pa_nil)))))))
(.nil))), ?_⟩
    walk_at "z0"
    walk_at "zz"
    refine ⟨z, rfl, by rw [str_len]; exact hz.l, wok, wlen, hT, fun t v H1 er e1 t1 m1 => ?_, fun c d H1 er e1 t1 hd => ?_⟩
    · rw [res_due] at er
      obtain ⟨td, tz⟩ := db t er
      walk_at "zz"
      refine ⟨v, t, rfl, m1, td, by omega, fun o H2 s2 ho => ?_⟩
      walk_at "zz"
      refine z_kTup (line_ge (by simp)) fun q H3 n3 s3 h3 => ?_
      walk_at "zz"
      refine kk _ H3 (e1.trans (same_ext (s2.trans s3))) (tabs_same t1 (s2.trans s3)) ?_
      rw [er]
      exact .tup (SqT.of h3) (.cons (.str _) (.cons (dp_keep (same_keep (nw_sub.trans s3)) ho) .nil))
    · rw [res_due] at er
      refine z_takes T.x_BadText_BadText fun a ha => ?_
      dsimp only [endsAt]
      walk_at "zz"
      refine z_cutE (fun v H' => Same H1 H' ∧ Dp K H' v (ansD (.bad c))) ?_ ?_
      · walk_at "zz"
        refine z_kOfE (v := .int 1) hd (by rfl) ?_
        walk_at "zz"
        refine z_eqD (d := .int 1) (e := .int 1) (.int 1) (.int 1) (by decide) (by decide) ?_
        rw [show PyData.eqv (.int 1) (.int 1) = true from rfl]
        walk_at "zz"
        refine z_kOfE (v := .int (c : Nat)) hd (by rfl) ?_
        walk_at "zz"
        refine z_kTup (line_ge (by simp)) fun q H3 n3 s3 h3 => ?_
        exact ⟨s3, .tup (SqT.of h3) (.cons (.str _) (.cons (.int _) .nil))⟩
      · rintro v H2 ⟨s2, hv⟩
        walk_at "zz"
        refine kk _ H2 (e1.trans (same_ext s2)) (tabs_same t1 s2) ?_
        rw [er]
        exact hv
def odds : List Str := ["(", ")", "Nil", "x", "-0", "007", "12", "=", "Cons", mulS "A" 25, mulS "1" 401, "let", "()", "-"]
theorem odds_ok : ∀ z ∈ odds, OddOk z := by
  have h : ∀ z ∈ odds, (z.length ≤ 401 ∧ cw z ≤ 2) ∧ (c40 z ≤ 1 ∧ ∀ c ∈ tl z, c < 128) := by decide +kernel
  intro z hz
  obtain ⟨⟨h1, h2⟩, h3, h4⟩ := h z hz
  exact ⟨h1, h2, h3, h4⟩
def spSpoilt (K : PySem.W.Frag) : Sp := fun vs H Q _ => ∃ (d c p : Addr) (m : Nat) (ws : List Str), vs = [.ref d, .ref p] ∧ Pen K H d c (m + 3) ∧ H p = some (.lst (ws.map V.str)) ∧ ws.length ≤ 100000 ∧
  ∀ odd zs q H', OddOk odd → Spoil ws odd zs → But d H H' → Pen K H' d c m → H' q = some (.lst (zs.map V.str)) → Q (.ref q) H'
theorem ok_spoilt (T : Tx P K mg) : FnOk P w K mg base CX0 3 T.aspoilt T.fdspoilt ["_law_pen_here", "_law_words_here"] (spSpoilt K) := by
  have Gdraw : FnOk P w K mg base CX0 1 T.adraw T.fddraw ["_law_pen_here", "_law_many"] (spDraw K) := ok_draw T
  have Gpick : FnOk P w K mg base CX0 2 T.apick T.fdpick ["_law_pen_here", "_law_some"] (spPick K) := ok_pick T
  refine T.Dspoilt.F.ok scspoilt (fun vs H Q E h => ?_) (fun cdv A outer s H vs Q E hr h => ?_)
  · obtain ⟨d, c, p, m, ws, rfl, _⟩ := h
    rfl
  · obtain ⟨d, c, p, m, ws, rfl, p0, hp, hw, kk⟩ := h
    have hu := hu_of hr
    have hrdraw := hr.mono (j := 1) (by decide)
    have hrpick := hr.mono (j := 2) (by decide)
    have npd : p ≠ d := fun e => by
      obtain ⟨_, _, _, _, _, q, _⟩ := p0
      rw [e, q] at hp
      cases hp
    refine ⟨_, pss_cons (ps_set (i := 2) scspoilt.nd rfl (Or.inl rfl) (pe_callN T.Ddraw Gdraw hrdraw pass0 (pa_cons (pv 0) (pa_cons (pe_op op_add (pe_callB call_lenL (by rfl) T.n_len (by decide +kernel) (pa_cons (pv 1) pa_nil)) (pe_int)) pa_nil))))
(pss_cons (ps_set (i := 3) scspoilt.nd rfl (Or.inl rfl) (pe_callN T.Dpick Gpick hrpick pass0 (pa_cons (pv 0) (pa_cons (pe_lst (pa_cons (pe_str) (pa_cons (pe_str) (pa_cons (pe_str) (pa_cons (pe_str) (pa_cons (pe_str) (pa_cons (pe_str) (pa_cons (pe_str) (pa_cons (pe_str) (pa_cons (pe_str) (pa_cons (pe_op op_mulS (pe_str) (pe_int)) (pa_cons (pe_op op_mulS (pe_str) (pe_int)) (pa_cons (pe_str) (pa_cons (pe_str) (pa_cons (pe_str) pa_nil))))))))))))))) pa_nil))))
(pss_cons (ps_set (i := 4) scspoilt.nd rfl (Or.inl rfl) (pe_callN T.Ddraw Gdraw hrdraw pass0 (pa_cons (pv 0) (pa_cons (pe_int) pa_nil))))
(pss_cons (ps_if (pt_cut (PW.pt (pw_and (pt_cmpR op_eq (pv 4) (pe_int) (nomark _)) (pw_and1 (pt_cmpR op_lt (pv 2) (pe_callB call_lenL (by rfl) T.n_len (by decide +kernel) (pa_cons (pv 1) pa_nil)) (nomark _))))))
(pss_one (ps_ret (pe_op op_catL (pe_slice sl_list (pv 1) po_none (po_some (pv 2))) (pe_slice sl_list (pv 1) (po_some (pe_op op_add (pv 2) (pe_int))) po_none))))
(pss_nil))
(pss_cons (ps_if (pt_cmpR op_eq (pv 4) (pe_int) (nomark _))
(pss_one (ps_ret (pe_op op_catL (pe_op op_catL (pe_slice sl_list (pv 1) po_none (po_some (pv 2))) (pe_lst (pa_cons (pv 3) pa_nil))) (pe_slice sl_list (pv 1) (po_some (pe_op op_add (pv 2) (pe_int))) po_none))))
(pss_nil))
(pss_cons (ps_if (pt_cmpR op_eq (pv 4) (pe_int) (nomark _))
(pss_one (ps_ret (pe_op op_catL (pe_op op_catL (pe_slice sl_list (pv 1) po_none (po_some (pv 2))) (pe_lst (pa_cons (pv 3) pa_nil))) (pe_slice sl_list (pv 1) (po_some (pv 2)) po_none))))
(pss_nil))
(pss_one (ps_ret (pe_op op_catL (pe_slice sl_list (pv 1) po_none (po_some (pv 2))) (pe_revL (pe_slice sl_list (pv 1) (po_some (pv 2)) po_none)))))))))), ?_⟩
    walk_at "z0"
    walk_at "zz"
    refine z_lenL (SqL.of hp) ?_
    walk_at "zz"
    rw [List.length_map]
    refine use_draw (m := m + 2) p0 (by omega) (by omega) fun r H1 r0 r1 b1 p1 => ?_
    obtain ⟨a, rfl, ha⟩ : ∃ a : Nat, r = (a : Nat) ∧ a ≤ ws.length := ⟨r.toNat, by omega, by omega⟩
    walk_at "zz"
    refine z_kLst (line_ge (by simp)) fun l2 H2 n2 s2 h2 => ?_
    walk_at "zz"
    refine ⟨d, c, l2, m + 1, _, rfl, p1.same s2, SqL.of h2, by simp, by simp, fun v H3 hv b3 p3 => ?_⟩
    obtain ⟨odd, rfl, ho⟩ : ∃ o : Str, v = .str o ∧ OddOk o := by
      have : v ∈ odds.map V.str := hv
      obtain ⟨o, h1, h2⟩ := List.mem_map.mp this
      exact ⟨o, h2.symm, odds_ok o h1⟩
    walk_at "zz"
    refine use_draw (m := m) p3 (by omega) (by omega) fun way H4 w0 w1 b4 p4 => ?_
    walk_at "zz"
    have b04 : But d H H4 := b1.trans ((same_but s2).trans (b3.trans b4))
    have hp4 := b04 _ _ npd hp
    have ct : cutV (ws.map V.str) none (some (a : Nat)) = (ws.take a).map V.str := by
      rw [cutV_to, List.map_take]
    have cf : ∀ b : Nat, cutV (ws.map V.str) (some (b : Nat)) none = (ws.drop b).map V.str := fun b => by
      rw [cutV_from, List.map_drop]
    have lz : ∀ k : Nat, ((ws.take a).map V.str).length + k ≤ 100000 + k := fun k => by
      rw [List.length_map, List.length_take]
      omega
    have ld : ∀ b : Nat, ((ws.drop b).map V.str).length ≤ 100000 := fun b => by
      rw [List.length_map, List.length_drop]
      omega
    have ea : ((a : Nat) : Int) + 1 = ((a + 1 : Nat) : Int) := by omega
    refine z_cutT (fun b H' => H' = H4) ?_ ?_
    · walk_at "zz"
      refine z_ite (fun e => ?_) (fun e => ?_)
      · walk_at "zz"
        refine z_lenL (SqL.of hp4) ?_
        walk_at "zz"
        rfl
      · rfl
    rintro b H5 rfl
    refine z_ite (fun _ => ?_) (fun _ => ?_)
    · walk_at "zz"
      refine z_slL (SqL.of hp4) fun q1 H6 n6 s6 h6 => ?_
      rw [ct] at h6
      walk_at "zz"
      refine z_slL (SqL.of (s6 _ _ hp4)) fun q2 H7 n7 s7 h7 => ?_
      rw [ea, cf] at h7
      walk_at "zz"
      refine z_catL (s7 _ _ h6) h7 (by rw [sizeLine_eq]; have := lz 100000; have := ld (a + 1); omega) fun q3 H8 n8 s8 h8 => ?_
      walk_at "zz"
      have s48 := s6.trans (s7.trans s8)
      refine kk odd _ q3 H8 ho ⟨a, .inl rfl⟩ (b04.trans (same_but s48)) (p4.same s48) ?_
      rw [h8, List.map_append]
    walk_at "zz"
    refine z_ite (fun _ => ?_) (fun _ => ?_)
    · walk_at "zz"
      refine z_slL (SqL.of hp4) fun q1 H6 n6 s6 h6 => ?_
      rw [ct] at h6
      walk_at "zz"
      refine z_kLst (line_ge (by simp)) fun q4 H9 n9 s9 h9 => ?_
      walk_at "zz"
      refine z_catL (s9 _ _ h6) h9 (by rw [sizeLine_eq]; have := lz 100000; simp only [List.length_cons, List.length_nil]; omega) fun q5 H10 n10 s10 h10 => ?_
      walk_at "zz"
      refine z_slL (SqL.of (s10 _ _ (s9 _ _ (s6 _ _ hp4)))) fun q2 H7 n7 s7 h7 => ?_
      rw [ea, cf] at h7
      walk_at "zz"
      refine z_catL (s7 _ _ h10) h7 (by rw [sizeLine_eq, List.length_append]; have := lz 100000; have := ld (a + 1); simp only [List.length_cons, List.length_nil]; omega) fun q3 H8 n8 s8 h8 => ?_
      walk_at "zz"
      have s48 := s6.trans (s9.trans (s10.trans (s7.trans s8)))
      refine kk odd _ q3 H8 ho ⟨a, .inr (.inl rfl)⟩ (b04.trans (same_but s48)) (p4.same s48) ?_
      rw [h8, List.map_append, List.map_append]
      rfl
    walk_at "zz"
    refine z_ite (fun _ => ?_) (fun _ => ?_)
    · walk_at "zz"
      refine z_slL (SqL.of hp4) fun q1 H6 n6 s6 h6 => ?_
      rw [ct] at h6
      walk_at "zz"
      refine z_kLst (line_ge (by simp)) fun q4 H9 n9 s9 h9 => ?_
      walk_at "zz"
      refine z_catL (s9 _ _ h6) h9 (by rw [sizeLine_eq]; have := lz 100000; simp only [List.length_cons, List.length_nil]; omega) fun q5 H10 n10 s10 h10 => ?_
      walk_at "zz"
      refine z_slL (SqL.of (s10 _ _ (s9 _ _ (s6 _ _ hp4)))) fun q2 H7 n7 s7 h7 => ?_
      rw [cf] at h7
      walk_at "zz"
      refine z_catL (s7 _ _ h10) h7 (by rw [sizeLine_eq, List.length_append]; have := lz 100000; have := ld a; simp only [List.length_cons, List.length_nil]; omega) fun q3 H8 n8 s8 h8 => ?_
      walk_at "zz"
      have s48 := s6.trans (s9.trans (s10.trans (s7.trans s8)))
      refine kk odd _ q3 H8 ho ⟨a, .inr (.inr (.inl rfl))⟩ (b04.trans (same_but s48)) (p4.same s48) ?_
      rw [h8, List.map_append, List.map_append]
      rfl
    · walk_at "zz"
      refine z_slL (SqL.of hp4) fun q1 H6 n6 s6 h6 => ?_
      rw [ct] at h6
      walk_at "zz"
      refine z_slL (SqL.of (s6 _ _ hp4)) fun q2 H7 n7 s7 h7 => ?_
      rw [cf] at h7
      walk_at "zz"
      refine z_kRevL (SqL.of h7) fun q4 H9 n9 s9 h9 => ?_
      walk_at "zz"
      refine z_catL (s9 _ _ (s7 _ _ h6)) h9 (by rw [sizeLine_eq, List.length_reverse]; have := lz 100000; have := ld a; omega) fun q3 H8 n8 s8 h8 => ?_
      walk_at "zz"
      have s48 := s6.trans (s7.trans (s9.trans s8))
      refine kk odd _ q3 H8 ho ⟨a, .inr (.inr (.inr rfl))⟩ (b04.trans (same_but s48)) (p4.same s48) ?_
      rw [h8, List.map_append, List.map_reverse]
end
end K04

namespace K04
open PySem PySem.Spec PyProof.Rows L2 Nm K3 LamX
/-- [.. for x in list] whose items are drawn; each costs at most `cost` draws -/
theorem l_genDL {te : TE} {σ : L2.St} {H : Hp} {Q : VK} {K : PySem.W.Frag} {i0 : Nat} {d c a : Addr} {m : Nat} {xs : List V} (cost : Nat) (P : Addr → V → Hp → Prop) (hS : ∀ D v H1 H2, But d H1 H2 → P D v H1 → P D v H2) (hL : ∀ D v H1 (xs : List V) (o : HO), H D = none → H1 D = some (.lst xs) → P D v H1 → P D v (upd H1 D o)) (hn : xs.length ≤ 1000) (hp : Pen K H d c (m + cost * xs.length)) (hG : ∀ H1, But d H H1 → SqL K H1 a xs)
    (he : ∀ D (i : Nat) x H1 j, H D = none → H1 D ≠ none → xs[i]? = some x → But d H H1 → Dom H H1 → Pen K H1 d c (j + cost) → ∀ Q' : VK, (∀ v H2, But d H1 H2 → P D v H2 → Pen K H2 d c j → Q' v H2) → te ((σ.set i0 none).set i0 (some x)) H1 Q')
    (k : ∀ D H' ys, H D = none → But d H H' → Pen K H' d c m → ys.length = xs.length → (∀ y ∈ ys, P D y H') → H' D = some (.lst ys) → Q (.ref D) H') : kLc (gName i0) tYes te [i0] σ Q (Itl K a) H := fun D hD => by
  have nd : D ≠ d := hp.ne hD
  refine lc_it walk_list (Pv := fun i H1 => But d H H1 ∧ i ≤ xs.length ∧ Pen K H1 d c (m + cost * (xs.length - i)) ∧ ∃ ys : List V, H1 D = some (.lst ys) ∧ ys.length = i ∧ ∀ y ∈ ys, P D y H1) ⟨same_but (Same.new hD), Nat.zero_le _, ?_, [], upd_same, rfl, fun _ h => by cases h⟩ (fun i H1 _ ⟨b, _⟩ => hG H1 b) ?_ ?_
  · exact hp.mut hD hp
  · rintro i x H1 H1' hi ⟨b1, _, p1, ys, h1, hl, hpr⟩ ⟨eH, ex⟩
    subst eH
    refine ⟨set_none_twice, ?_⟩
    refine z_tYes (iteT ?_)
    have e1 : m + cost * (xs.length - i) = m + cost * (xs.length - (i + 1)) + cost := by
      have e2 : xs.length - i = (xs.length - (i + 1)) + 1 := by omega
      rw [e2, Nat.mul_add, Nat.mul_one, Nat.add_assoc]
    rw [e1] at p1
    have hd1 : H1' d ≠ none := by
      obtain ⟨_, _, _, _, _, q, _⟩ := p1
      rw [q]
      simp
    refine he D i x _ _ hD (by rw [h1]; simp) ex b1 (dom_but b1 hd1) p1 _ fun v H2 b2 hv p2 => ?_
    have h2 := b2 _ _ nd h1
    refine ⟨ys, h2, ?_, fun a o hne e => ?_, hi, ?_, ys ++ [v], upd_same, by simp [hl], ?_⟩
    · rw [sizeLine_eq]
      omega
    · rw [upd_ne (ne_of_none e hD)]
      exact b2 _ _ hne (b1 _ _ hne e)
    · exact hp.mut hD p2
    · intro y hy
      rcases List.mem_append.mp hy with q | q
      · exact hL D y H2 _ _ hD h2 (hS D y _ H2 b2 (hpr y q))
      · rw [List.mem_singleton.mp q]
        exact hL D v H2 _ _ hD h2 hv
  · rintro H1 ⟨b1, _, p1, ys, h1, hl, hpr⟩
    rw [Nat.sub_self, Nat.mul_zero, Nat.add_zero] at p1
    exact k D H1 ys hD b1 p1 hl hpr h1
/-! drawn values -/
def bnd : Nat → Nat
  | 0 => 1
  | n + 1 => 1 + 3 * bnd n
theorem bnd_pos : ∀ n, 1 ≤ bnd n
  | 0 => Nat.le_refl _
  | n + 1 => by rw [bnd]; omega
def pb : Nat → Nat
  | 0 => 0
  | n + 1 => 1 + 3 * pb n
def cost : Nat → Nat
  | 0 => 4
  | n + 1 => 4 + 3 * cost n
theorem cost_ge : ∀ n, 4 ≤ cost n
  | 0 => Nat.le_refl _
  | n + 1 => by rw [cost]; omega
structure Small (n : Nat) (t : Nm.T) : Prop where
  d : t.depth ≤ n + 1
  z : t.size ≤ bnd n
  g : t.good = true
  o : okT t
  p : pc t true ≤ pb n
theorem small_num (n : Nat) {l : Int} (h : l.natAbs < 10 ^ 400) : Small n (.num l) := ⟨by rw [Nm.T.depth]; omega, by rw [Nm.T.size]; exact bnd_pos n, rfl, by rw [okT]; exact h, by rw [pc]; omega⟩
theorem small_leaf (n : Nat) {m : Str} (h : isBig (tl m) = true) : Small n (.node m []) :=
  ⟨by rw [Nm.T.depth, depthAll]; omega, by rw [Nm.T.size, sizeAll]; exact bnd_pos n, by rw [Nm.T.good, okV_big h]; rfl, ok_name h (by rw [okTs]; trivial), by rw [pc, pcs]; simp⟩
theorem pcs_le {b : Nat} : ∀ {ts : List Nm.T}, (∀ t ∈ ts, pc t true ≤ b) → pcs ts ≤ b * ts.length
  | [], _ => by rw [pcs]; exact Nat.zero_le _
  | t :: ts, h => by
    have h1 := h t (by simp)
    have h2 := pcs_le (ts := ts) fun u hu => h u (by simp [hu])
    rw [pcs, List.length_cons, Nat.mul_succ]
    omega
theorem small_node {n : Nat} {m : Str} {ts : List Nm.T} (h : isBig (tl m) = true) (hl : ts.length ≤ 3) (ht : ∀ t ∈ ts, Small n t) : Small (n + 1) (.node m ts) := by
  refine ⟨?_, ?_, ?_, ok_name h (okTs_of fun t q => (ht t q).o), ?_⟩
  · rw [Nm.T.depth]
    have : depthAll ts ≤ n + 1 := depthAll_iff.mpr fun t h => (ht t h).d
    omega
  · rw [Nm.T.size, bnd]
    have h1 := sizeAll_le (b := bnd n) fun t h => (ht t h).z
    have h2 : bnd n * ts.length ≤ bnd n * 3 := Nat.mul_le_mul_left _ hl
    omega
  · rw [Nm.T.good, okV_big h, goodAll_iff.mpr fun t h => (ht t h).g]
    rfl
  · rw [pc, pb]
    have h1 := pcs_le (b := pb n) fun t h => (ht t h).p
    have h2 : pb n * ts.length ≤ pb n * 3 := Nat.mul_le_mul_left _ hl
    have h3 : (if (true && !ts.isEmpty) = true then 1 else 0) ≤ 1 := by split <;> decide
    omega
theorem pc_le (t : Nm.T) : pc t false ≤ pc t true := by
  cases t with
  | num n => rw [pc, pc]; exact Nat.le_refl _
  | node m ps =>
    rw [pc, pc]
    simp
/-! the kinds -/
def MkD (q : Str × List Str) : PyData := .tuple [.str q.1, .list (q.2.map .str)]
def kdKv (a b : Addr) : List (Key × V) := [(.inr "List", .ref a), (.inr "Tree", .ref b)]
def listM : List (Str × List Str) := [("Nil", []), ("Cons", ["Num", "List"])]
def treeM : List (Str × List Str) := [("Tip", []), ("Fork", ["Tree", "Num", "Tree"])]
theorem kd_list {a b : Addr} : valV (kdKv a b) (.inr "List") = some (.ref a) := by kernel_rfl
theorem kd_tree {a b : Addr} : valV (kdKv a b) (.inr "Tree") = some (.ref b) := by kernel_rfl
theorem kd_merge {a b : Addr} : mergeK [] (kdKv a b) = kdKv a b := by kernel_rfl
/-- the dict of the kinds -/
def KdAt (K : PySem.W.Frag) (H : Hp) (kd : Addr) : Prop := ∃ a b, H kd = some (.dK (kdKv a b)) ∧ Dp K H (.ref a) (.list (listM.map MkD)) ∧ Dp K H (.ref b) (.list (treeM.map MkD))
theorem KdAt.but {K : PySem.W.Frag} {H H' : Hp} {d c kd : Addr} {m : Nat} (h : KdAt K H kd) (p : Pen K H d c m) (n : kd ≠ d) (b : But d H H') : KdAt K H' kd := by
  obtain ⟨x, y, h1, h2, h3⟩ := h
  exact ⟨x, y, b _ _ n h1, dp_keep (p.keep b) h2, dp_keep (p.keep b) h3⟩
theorem KdAt.same {K : PySem.W.Frag} {H H' : Hp} {kd : Addr} (h : KdAt K H kd) (s : Same H H') : KdAt K H' kd := by
  obtain ⟨x, y, h1, h2, h3⟩ := h
  exact ⟨x, y, s _ _ h1, dp_keep (same_keep s) h2, dp_keep (same_keep s) h3⟩
section
variable {P : Program} {w : World} {K : PySem.W.Frag} {mg : Str → Option Value} {base : Heap}
theorem okTs_mem : ∀ {ts : List Nm.T}, okTs ts → ∀ t ∈ ts, okT t
  | t :: ts, h, u, hu => by
    rw [okTs] at h
    rcases List.mem_cons.mp hu with e | hu
    · rw [e]; exact h.1
    · exact okTs_mem h.2 u hu
theorem log_small {n : Nat} (h : n < 10 ^ 400) : n.log2 < 1920 := by
  have : n.log2 ≤ 1919 := by
    by_cases h0 : n = 0
    · rw [h0]; decide
    · have := (Nat.log2_lt h0 (k := 1920)).mpr (Nat.lt_trans h (by decide +kernel))
      omega
  omega
def spVT (K : PySem.W.Frag) (n : Nat) : Sp := fun vs H Q _ => ∃ (x : V) (o : Bool) (t : Nm.T), vs = [x, .bl o] ∧ Dp K H x t.own ∧ t.depth ≤ n ∧ okT t ∧ t.size ≤ 2000 ∧ ∀ H', Same H H' → Q (.str (txt (wt t (!o)))) H'
theorem ok_vtext (T : Tx P K mg) : ∀ n, FnOk P w K mg base CX0 (1 + n + 1) T.avtext T.fdvtext ["_law_value", "_law_is_outer"] (spVT K n) := by
  refine rec_ok 1 (spVT K) fun n Gvtext => ?_
  refine T.Dvtext.F.ok scvtext (fun vs H Q E h => ?_) (fun cdv A outer s H vs Q E hr h => ?_)
  · obtain ⟨x, o, t, rfl, _⟩ := h
    rfl
  · obtain ⟨x, o, t, rfl, hx, hd, hok, hz, k⟩ := h
    have hrvtext := hr
    have hu := hu_of hr
    refine ⟨_, pss_cons (ps_if (pt_val (pe_callB call_isi (by rfl) T.n_isinstance (by decide +kernel) (pa_cons (pv 0) (pa_cons (pe_bltn (v := .ty "int") rfl T.n_int (by decide +kernel) rfl) pa_nil))))
(pss_one (ps_ret (pe_callTy call_strI (by rfl) T.n_str (by decide +kernel) (pa_cons (pv 0) pa_nil))))
(pss_nil))
(pss_cons (ps_set (i := 2) scvtext.nd rfl (Or.inl rfl) (pe_joinN (pe_str) (pe_op op_catL (pe_lst (pa_cons (pe_ix ix_tup (pv 0) (pe_int) (fun _ _ => rfl)) pa_nil)) (pe_lc (own := [("_law_part", 3)]) rfl scvtext.nd (pi_list (pe_ix ix_tup (pv 0) (pe_int) (fun _ _ => rfl))) (blkOk_by (own := [("_law_part", 3)]) (N := ["_law_value", "_law_is_outer", "_law_text", "_law_part"]) (sc := defScope svtext) (by decide +kernel)) (fun _ _ _ _ _ => pg_name (i := 3) scvtext.nd rfl (Or.inl rfl)) (fun _ _ _ _ _ => pts_nil) (fun _ _ _ _ _ => pe_callN T.Dvtext Gvtext hrvtext pass0 (pa_cons (pv 3) (pa_cons (pe_bl) pa_nil)))))))
(pss_one (ps_ret (pe_cut (pe_ifExp (pt_cut (PW.pt (pw_or (pt_val (pv 1)) (pw_or1 (pt_cmpR (op_eqN (Nat.lt_of_succ_lt hu)) (pe_ix ix_tup (pv 0) (pe_int) (fun _ _ => rfl)) (pe_lst pa_nil) (nomark _)))))) (pv 2) (pe_op op_addS (pe_op op_addS (pe_str) (pv 2)) (pe_str))))))), ?_⟩
    walk_at "z0"
    walk_at "zz"
    refine z_ownInt hx ?_
    walk_at "zz"
    cases t with
    | num i =>
      refine z_ite (fun _ => ?_) (fun e => by simp [Nm.T.isNode] at e)
      rw [okT] at hok
      have ex := own_num hx
      subst ex
      walk_at "zz"
      refine z_strI (log_small hok) ?_
      walk_at "zz"
      rw [show (Str.ofString (toString i) : Str) = txt (wt (.num i) (!o)) from str_ext (show tl (Str.ofString (toString i)) = tl (txt (wt (.num i) (!o))) by rw [tl_toString, wt])]
      exact k H (Same.refl _)
    | node m qs =>
      refine z_ite (fun e => by simp [Nm.T.isNode] at e) (fun _ => ?_)
      have hok0 := hok
      rw [okT] at hok
      have hoqs := okTs_mem hok.2.2.2.2
      rw [Nm.T.depth] at hd
      rw [Nm.T.size] at hz
      obtain ⟨n, rfl⟩ : ∃ n', n = n' + 1 := ⟨n - 1, by omega⟩
      obtain ⟨a, l, vs, rfl, ha, hl, hvs⟩ := own_node hx
      obtain ⟨lvs, hvs⟩ := dps_own_at hvs
      have lqs := sizeAll_len qs
      walk_at "zz"
      refine z_ixT ha rfl ?_
      walk_at "zz"
      refine z_kLst (line_ge (by simp)) fun D0 H1 n1 s1 h1 => ?_
      walk_at "zz"
      refine z_ixT (same_st s1 ha) rfl ?_
      walk_at "zz"
      refine z_kIL (same_sq s1 hl) ?_
      refine l_gen walk_list (fun D j v H2 => ∀ u, qs[j]? = some u → v = .str (txt (wt u true))) (fun D j v H1 H2 s h => h) (fun D j v H1 xs o hD hx h => h) (by omega) (fun H2 s2 => same_sq (s1.trans s2) hl) ?_ ?_ mono_name
      · rintro D j z H7 H7' hD hD7 hj s7 ⟨eH, ez⟩ Q' k'
        subst eH
        obtain ⟨u, eu⟩ : ∃ u, qs[j]? = some u := ⟨_, List.getElem?_eq_getElem (by omega)⟩
        have mu := List.mem_of_getElem? eu
        have zu := size_mem mu
        walk_at "zz"
        refine ⟨rfl, ?_⟩
        walk_at "zz"
        refine ⟨z, false, u, rfl, dp_keep (same_keep (s1.trans s7)) (hvs j z u ez eu), depthAll_iff.mp (by omega) u mu, hoqs u mu, by omega, fun H8 s8 => ?_⟩
        refine k' _ H8 s8 fun u' eu' => ?_
        rw [eu] at eu'
        cases eu'
        rfl
      · intro D H7 ws hD s7 hD7 hlw hws
        have ews : ws = (qs.map fun u => txt (wt u true)).map V.str := by
          refine List.ext_getElem? fun j => ?_
          rw [List.getElem?_map, List.getElem?_map]
          by_cases hj : j < qs.length
          · obtain ⟨u, eu⟩ : ∃ u, qs[j]? = some u := ⟨_, List.getElem?_eq_getElem hj⟩
            obtain ⟨v, ev⟩ : ∃ v, ws[j]? = some v := ⟨_, List.getElem?_eq_getElem (by omega)⟩
            rw [ev, eu, hws j v ev u eu]
            rfl
          · rw [List.getElem?_eq_none (by omega), List.getElem?_eq_none (by omega)]
            rfl
        subst ews
        walk_at "zz"
        refine z_catL (s7 _ _ h1) hD7 (by rw [sizeLine_eq]; simp; omega) fun D8 H8 n8 s8 h8 => ?_
        walk_at "zz"
        have hj : tl (Txt.join " " (m :: qs.map fun u => txt (wt u true))) = tl m ++ wts qs := by
          rw [tl_join1, wts_flat, List.map_map]
          congr 2
        have ln : (tl m).length ≤ 24 := by
          have := hok.1
          unfold isBig named at this
          simp only [Bool.and_eq_true, decide_eq_true_eq] at this
          exact this.1.1.2
        have lw := wts_len qs hok.2.2.2.2
        refine z_join (ys := m :: qs.map fun u => txt (wt u true)) (SqL.of h8) ?_ ?_
        · have e : ((m :: qs.map fun u => txt (wt u true)).map (·.length)).sum ≤ 24 + 403 * sizeAll qs := by
            rw [List.map_cons, List.sum_cons, str_len]
            have e2 := sum_wts qs
            omega
          have e1 : ((" " : Str)).length = 1 := by decide +kernel
          rw [e1]
          simp only [List.length_cons, List.length_map]
          omega
        walk_at "zz"
        generalize Txt.join " " (m :: qs.map fun u => txt (wt u true)) = tx at hj
        have s18 := s1.trans (s7.trans s8)
        have ltx : tx.length ≤ 900000 := by rw [str_len, hj, List.length_append]; omega
        refine z_cutV (.str (txt (wt (.node m qs) (!o)))) ?_ fun H9 s9 => ?_
        · walk_at "zz"
          refine z_cutB (o || decide (qs = [])) ?_ fun H9 s9 => ?_
          · walk_at "zz"
            cases o with
            | true =>
              walk_at "zz"
              exact ⟨rfl, Same.refl _⟩
            | false =>
              walk_at "zz"
              refine z_ixT (same_st s18 ha) rfl ?_
              walk_at "zz"
              refine z_kLst (line_ge (by simp)) fun l0 H9 n9 s9 h9 => ?_
              refine z_eqNL (same_sq (s18.trans s9) hl) (SqL.of h9) ?_
              refine ⟨_, rfl, ?_, s9⟩
              cases qs with
              | nil => cases vs with
                | nil => rfl
                | cons a l => cases lvs
              | cons a l => cases vs with
                | nil => cases lvs
                | cons a l => rfl
          refine z_ite (fun e => ?_) (fun e => ?_)
          · walk_at "zz"
            refine ⟨congrArg V.str (str_ext ?_), s9⟩
            show tl tx = tl (txt (wt (.node m qs) (!o)))
            rw [hj, show tl (txt (wt (.node m qs) (!o))) = wt (.node m qs) (!o) from rfl, wt, if_neg]
            intro h
            rw [Bool.or_eq_true] at e
            rw [Bool.and_eq_true] at h
            rcases e with e | e
            · rw [e] at h; exact absurd h.1 (by simp)
            · have := of_decide_eq_true e
              subst this
              exact absurd h.2 (by simp)
          · rw [Bool.or_eq_false_iff] at e
            have nq := of_decide_eq_false e.2
            have eo := e.1
            subst eo
            walk_at "zz"
            have e1 : (("(" : Str)).length = 1 := by decide +kernel
            have e2 : ((")" : Str)).length = 1 := by decide +kernel
            refine z_addS (line_ge (by rw [e1]; omega)) ?_
            walk_at "zz"
            refine z_addS (line_ge (by rw [str_len, tl_app, List.length_append, ← str_len, ← str_len, e1, e2]; omega)) ?_
            refine ⟨congrArg V.str (str_ext ?_), s9⟩
            show tl ("(" ++ tx ++ ")") = tl (txt (wt (.node m qs) (!false)))
            rw [tl_app, tl_app, hj, e_lp, e_rp, show tl (txt (wt (.node m qs) (!false))) = wt (.node m qs) (!false) from rfl, wt, if_pos]
            · rfl
            · cases qs with
              | nil => exact absurd rfl nq
              | cons a l => rfl
        · walk_at "zz"
          exact k H9 (s18.trans s9)
def msOf (k : Str) : List (Str × List Str) := if k = "List" then listM else treeM
def spMakers (K : PySem.W.Frag) : Sp := fun vs H Q _ => ∃ (kd : Addr) (k : Str), vs = [.ref kd, .str k] ∧ KdAt K H kd ∧ (k = "List" ∨ k = "Tree") ∧ ∀ a H', Same H H' → Dp K H' (.ref a) (.list ((msOf k).map MkD)) → Q (.ref a) H'
theorem ok_makers (T : Tx P K mg) : FnOk P w K mg base CX0 1 T.amakers T.fdmakers ["_law_kinds", "_law_kind"] (spMakers K) := by
  refine T.Dmakers.F.ok scmakers (fun vs H Q E h => ?_) (fun cdv A outer s H vs Q E hr h => ?_)
  · obtain ⟨kd, k, rfl, _⟩ := h
    rfl
  · obtain ⟨kd, k, rfl, ⟨a, b, h1, h2, h3⟩, hk, kk⟩ := h
    have hu := hu_of hr
    refine ⟨_, pss_one (ps_ret (pe_cut (pe_ifExp (pt_cmpR op_eq (pv 1) (pe_str) (nomark _)) (pe_lst (pa_cons (pe_tup (pa_cons (pe_str) (pa_cons (pe_lst pa_nil) pa_nil))) (pa_cons (pe_tup (pa_cons (pe_str) (pa_cons (pe_lst pa_nil) pa_nil))) pa_nil))) (pe_dget hu (pv 0) (pv 1) (fun _ _ => rfl))))), ?_⟩
    walk_at "z0"
    walk_at "zz"
    rcases hk with rfl | rfl
    · refine z_cutV (.ref a) ?_ fun H' s => ?_
      · walk_at "zz"
        refine z_ite (fun e => absurd (of_decide_eq_true e) (by decide +kernel)) (fun e => ?_)
        walk_at "zz"
        refine z_kGetS h1 kd_list ?_
        exact ⟨rfl, Same.refl _⟩
      · walk_at "zz"
        exact kk a H' s (by rw [msOf, if_pos rfl]; exact dp_keep (same_keep s) h2)
    · refine z_cutV (.ref b) ?_ fun H' s => ?_
      · walk_at "zz"
        refine z_ite (fun e => absurd (of_decide_eq_true e) (by decide +kernel)) (fun e => ?_)
        walk_at "zz"
        refine z_kGetS h1 kd_tree ?_
        exact ⟨rfl, Same.refl _⟩
      · walk_at "zz"
        exact kk b H' s (by rw [msOf, if_neg (by decide +kernel)]; exact dp_keep (same_keep s) h3)
end
end K04

namespace K04
open PySem PySem.Spec PyProof.Rows L2 Nm K3 LamX
/-- a maker of the kinds' lists -/
def MkAt (K : PySem.W.Frag) (H : Hp) (v : V) (q : Str × List Str) : Prop := ∃ a l, v = .ref a ∧ SqT K H a [.str q.1, .ref l] ∧ SqL K H l (q.2.map V.str)
theorem MkAt.keep {K : PySem.W.Frag} {H H' : Hp} {v : V} {q : Str × List Str} (k : Keep H H') (h : MkAt K H v q) : MkAt K H' v q := by
  obtain ⟨a, l, h1, h2, h3⟩ := h
  exact ⟨a, l, h1, k.t h2, k.l h3⟩
theorem dps_strs {K : PySem.W.Frag} {H : Hp} : ∀ {vs : List V} {zs : List Str}, DpAll K H vs (zs.map PyData.str) → vs = zs.map V.str
  | _, [], h => by cases h; rfl
  | _, z :: zs, h => by
    cases h with
    | cons h1 h2 =>
      cases h1
      rw [dps_strs h2]
      rfl
theorem mk_of {K : PySem.W.Frag} {H : Hp} {v : V} {q : Str × List Str} (h : Dp K H v (MkD q)) : MkAt K H v q := by
  have h' : Dp K H v (.tuple [.str q.1, .list (q.2.map .str)]) := h
  cases h' with
  | tup ht hs =>
    cases hs with
    | cons h1 hs =>
      cases h1
      cases hs with
      | cons h2 hs =>
        cases hs
        cases h2 with
        | lst hl hv =>
          have e := dps_strs hv
          subst e
          exact ⟨_, _, rfl, ht, hl⟩
/-- both kinds alike -/
structure MsOk (k : Str) (n1 n2 : Str) (ps : List Str) : Prop where
  e : msOf k = [(n1, []), (n2, ps)]
  b1 : isBig (tl n1) = true
  b2 : isBig (tl n2) = true
  c : inV (.str k) (ps.map V.str) = true
  l : ps.length ≤ 3
  p : ∀ p ∈ ps, p = "Num" ∨ p = k
theorem ms_ok {k : Str} (h : k = "List" ∨ k = "Tree") : ∃ n1 n2 ps, MsOk k n1 n2 ps := by
  rcases h with rfl | rfl
  · exact ⟨"Nil", "Cons", ["Num", "List"], by rw [msOf, if_pos rfl]; rfl, by decide +kernel, by decide +kernel, by decide +kernel, by decide, by decide +kernel⟩
  · exact ⟨"Tip", "Fork", ["Tree", "Num", "Tree"], by rw [msOf, if_neg (by decide +kernel)]; rfl, by decide +kernel, by decide +kernel, by decide +kernel, by decide, by decide +kernel⟩
theorem flat_strs (zs : List Str) : (zs.map V.str).all flatV = true := by
  rw [List.all_eq_true]
  intro v hv
  obtain ⟨z, _, rfl⟩ := List.mem_map.mp hv
  rfl
section
variable {P : Program} {w : World} {K : PySem.W.Frag} {mg : Str → Option Value} {base : Heap}
theorem pen_some {H : Hp} {d c : Addr} {m : Nat} (p : Pen K H d c m) : H d ≠ none := by
  obtain ⟨_, _, _, _, _, q, _⟩ := p
  rw [q]
  simp
def spSval (K : PySem.W.Frag) (n : Nat) : Sp := fun vs H Q _ => ∃ (d c kd : Addr) (k : Str) (m : Nat), vs = [.ref d, .ref kd, .str k, .int (n : Nat)] ∧ Pen K H d c (m + cost n) ∧ KdAt K H kd ∧ kd ≠ d ∧ (k = "Num" ∨ k = "List" ∨ k = "Tree") ∧ ∀ v t H', But d H H' → Pen K H' d c m → Small n t → Dp K (Nw H H') v t.own → Q v H'
theorem ok_sval (T : Tx P K mg) : ∀ n, FnOk P w K mg base CX0 (2 + n + 1) T.asval T.fdsval ["_law_pen_here", "_law_kinds", "_law_kind", "_law_depth"] (spSval K n) := by
  have Gdraw : FnOk P w K mg base CX0 1 T.adraw T.fddraw ["_law_pen_here", "_law_many"] (spDraw K) := ok_draw T
  have Gpick : FnOk P w K mg base CX0 2 T.apick T.fdpick ["_law_pen_here", "_law_some"] (spPick K) := ok_pick T
  have Gmakers : FnOk P w K mg base CX0 1 T.amakers T.fdmakers ["_law_kinds", "_law_kind"] (spMakers K) := ok_makers T
  refine rec_ok 2 (spSval K) fun n Gsval => ?_
  refine T.Dsval.F.ok scsval (fun vs H Q E h => ?_) (fun cdv A outer s H vs Q E hr h => ?_)
  · obtain ⟨d, c, kd, k, m, rfl, _⟩ := h
    rfl
  · obtain ⟨d, c, kd, k, m, rfl, p0, hkd, nkd, hk, kk⟩ := h
    have hrsval := hr
    have hrdraw := hr.mono (j := 1) (by omega)
    have hrmakers := hrdraw
    have hrpick := hr.mono (j := 2) (by omega)
    have hu := hu_of hr
    have cge := cost_ge n
    refine ⟨_, pss_cons (ps_if (pt_cmpR op_eq (pv 2) (pe_str) (nomark _))
(pss_one (ps_ret (pe_callN T.Dpick Gpick hrpick pass0 (pa_cons (pv 0) (pa_cons (pe_lst (pa_cons (pe_int) (pa_cons (pe_int) (pa_cons (pe_int) (pa_cons (pe_int) (pa_cons (pe_un un_neg (pe_int)) (pa_cons (pe_int) (pa_cons (pe_op op_pow (pe_int) (pe_int)) (pa_cons (pe_callN T.Ddraw Gdraw hrdraw pass0 (pa_cons (pv 0) (pa_cons (pe_int) pa_nil))) pa_nil))))))))) pa_nil)))))
(pss_nil))
(pss_cons (ps_set (i := 4) scsval.nd rfl (Or.inl rfl) (pe_callN T.Dmakers Gmakers hrmakers pass0 (pa_cons (pv 1) (pa_cons (pv 2) pa_nil))))
(pss_cons (ps_setLc (i := 5) (own := [("_law_maker", 7)]) rfl scsval.nd rfl rfl (sw_true rfl rfl rfl (by decide +kernel)) (pi_list (pv 4)) (blkOk_by (own := [("_law_maker", 7)]) (N := ["_law_pen_here", "_law_kinds", "_law_kind", "_law_depth", "_law_makers_here", "_law_flat", "_law_deep", "_law_maker", "_law_part"]) (sc := defScope ssval) (by decide +kernel)) (fun _ _ _ _ _ => pg_name (i := 7) scsval.nd rfl (Or.inl rfl)) (fun _ _ _ _ _ => pts_one (pt_cmpR (by exact op_notIn_seq : OpR _ (compareOp .NotIn) (rIn K true)) (pv 2) (pe_ix (by exact ix_tup : IxR _ (rIxT K)) (pv 7) (pe_int) (fun _ _ => rfl)) (by rfl))) (fun _ _ _ _ _ => pv 7))
(pss_cons (ps_setLc (i := 6) (own := [("_law_maker", 7)]) rfl scsval.nd rfl rfl (sw_true rfl rfl rfl (by decide +kernel)) (pi_list (pv 4)) (blkOk_by (own := [("_law_maker", 7)]) (N := ["_law_pen_here", "_law_kinds", "_law_kind", "_law_depth", "_law_makers_here", "_law_flat", "_law_deep", "_law_maker", "_law_part"]) (sc := defScope ssval) (by decide +kernel)) (fun _ _ _ _ _ => pg_name (i := 7) scsval.nd rfl (Or.inl rfl)) (fun _ _ _ _ _ => pts_one (pt_cmpR (by exact op_in_seq : OpR _ (compareOp .In) (rIn K false)) (pv 2) (pe_ix (by exact ix_tup : IxR _ (rIxT K)) (pv 7) (pe_int) (fun _ _ => rfl)) (by rfl))) (fun _ _ _ _ _ => pv 7))
(pss_cons (ps_set (i := 7) scsval.nd rfl (Or.inl rfl) (pe_callN T.Dpick Gpick hrpick pass0 (pa_cons (pv 0) (pa_cons (pe_cut (pe_ifExp (pt_cut (PW.pt (pw_and (pt_cmpR op_gt (pv 3) (pe_int) (nomark _)) (pw_and (pt_cmpR (op_neN (Nat.lt_of_succ_lt hu)) (pv 6) (pe_lst pa_nil) (nomark _)) (pw_and1 (pt_cmpR op_gt (pe_callN T.Ddraw Gdraw hrdraw pass0 (pa_cons (pv 0) (pa_cons (pe_int) pa_nil))) (pe_int) (nomark _))))))) (pv 6) (pv 5))) pa_nil))))
(pss_one (ps_ret (pe_tup (pa_cons (pe_ix ix_tup (pv 7) (pe_int) (fun _ _ => rfl)) (pa_cons (pe_lc (own := [("_law_part", 8)]) rfl scsval.nd (pi_list (pe_ix ix_tup (pv 7) (pe_int) (fun _ _ => rfl))) (blkOk_by (own := [("_law_part", 8)]) (N := ["_law_pen_here", "_law_kinds", "_law_kind", "_law_depth", "_law_makers_here", "_law_flat", "_law_deep", "_law_maker", "_law_part"]) (sc := defScope ssval) (by decide +kernel)) (fun _ _ _ _ _ => pg_name (i := 8) scsval.nd rfl (Or.inl rfl)) (fun _ _ _ _ _ => pts_nil) (fun _ _ _ _ _ => pe_callN T.Dsval Gsval hrsval pass0 (pa_cons (pv 0) (pa_cons (pv 1) (pa_cons (pv 8) (pa_cons (pe_op op_sub (pv 3) (pe_int)) pa_nil)))))) pa_nil))))))))), ?_⟩
    walk_at "z0"
    walk_at "zz"
    refine z_ite (fun e => ?_) (fun e => ?_)
    · walk_at "zz"
      refine z_rI (by unfold CPow; decide) ?_
      walk_at "zz"
      refine use_draw (m := m + 1) (p0.less (by omega)) (by omega) (by omega) fun r H1 r0 r1 b1 p1 => ?_
      walk_at "zz"
      refine z_kLst (line_ge (by simp)) fun l2 H2 n2 s2 h2 => ?_
      walk_at "zz"
      refine ⟨d, c, l2, m, _, rfl, p1.same s2, SqL.of h2, by simp, by simp, fun v H3 hv b3 p3 => ?_⟩
      walk_at "zz"
      obtain ⟨z, rfl, hz⟩ : ∃ z : Int, v = .int z ∧ z.natAbs < 10 ^ 400 := by
        have hb : ∀ z : Int, z.natAbs < 10 ^ 20 → z.natAbs < 10 ^ 400 := fun z h => Nat.lt_trans h (by decide +kernel)
        simp only [List.mem_cons, List.not_mem_nil, or_false] at hv
        rcases hv with q | q | q | q | q | q | q | q
        · exact ⟨_, q, hb _ (by decide +kernel)⟩
        · exact ⟨_, q, hb _ (by decide +kernel)⟩
        · exact ⟨_, q, hb _ (by decide +kernel)⟩
        · exact ⟨_, q, hb _ (by decide +kernel)⟩
        · exact ⟨_, q, hb _ (by decide +kernel)⟩
        · exact ⟨_, q, hb _ (by decide +kernel)⟩
        · exact ⟨_, q, hb _ (by decide +kernel)⟩
        · exact ⟨_, q, hb _ (by omega)⟩
      exact kk _ (.num z) H3 (b1.trans ((same_but s2).trans b3)) p3 (small_num n hz) (by rw [Nm.T.own]; exact .int z)
    · have e := of_decide_eq_false e
      have hk2 : k = "List" ∨ k = "Tree" := hk.resolve_left e
      obtain ⟨n1, n2, ps, M⟩ := ms_ok hk2
      walk_at "zz"
      refine ⟨kd, k, rfl, hkd, hk2, fun a H1 s1 ha => ?_⟩
      rw [M.e] at ha
      obtain ⟨v1, v2, hL, m1, m2⟩ : ∃ v1 v2, SqL K H1 a [v1, v2] ∧ MkAt K H1 v1 (n1, []) ∧ MkAt K H1 v2 (n2, ps) := by
        cases ha with
        | lst hl hv =>
          cases hv with
          | cons g1 hv =>
            cases hv with
            | cons g2 hv =>
              cases hv
              exact ⟨_, _, hl, mk_of g1, mk_of g2⟩
      have hmk : ∀ (i : Nat) (x : V × (Str × List Str)), [(v1, (n1, ([] : List Str))), (v2, (n2, ps))][i]? = some x → MkAt K H1 x.1 x.2 := by
        intro i x hx
        have : x ∈ [(v1, (n1, ([] : List Str))), (v2, (n2, ps))] := List.mem_of_getElem? hx
        simp only [List.mem_cons, List.not_mem_nil, or_false] at this
        rcases this with rfl | rfl
        · exact m1
        · exact m2
      walk_at "zz"
      refine z_kIL hL ?_
      refine l_pure (xs := [(v1, (n1, ([] : List Str))), (v2, (n2, ps))]) (e := Prod.fst) walk_lstE (fun x => !inV (.str k) (x.2.2.map V.str)) Prod.fst (by simp) (fun H2 s2 => same_sq s2 hL) ?_ ?_ fun D1 H2 nD1 s2 h2 => ?_
      · rintro i ⟨v, q⟩ H2 hx s2 QT k'
        obtain ⟨t, l, ev, ht, hl⟩ := hmk i _ hx
        have ev : v = .ref t := ev
        subst ev
        walk_at "zz"
        refine z_ixT (same_st s2 ht) rfl ?_
        walk_at "zz"
        refine z_inL (same_sq s2 hl) rfl (flat_strs _) ?_
        rw [if_pos rfl]
        walk_at "zz"
        exact k' _ (Same.refl _)
      · rintro i ⟨v, q⟩ H2 hx _ s2 Q' k'
        walk_at "zz"
        exact k' _ (Same.refl _)
      have ef : ([(v1, (n1, ([] : List Str))), (v2, (n2, ps))].filter fun x => !inV (.str k) (x.2.2.map V.str)).map Prod.fst = [v1] := by
        have e1 : inV (.str k) (([] : List Str).map V.str) = false := rfl
        simp only [List.filter_cons, List.filter_nil, e1, M.c]
        rfl
      rw [ef] at h2
      walk_at "zz"
      refine z_kIL (same_sq s2 hL) ?_
      refine l_pure (xs := [(v1, (n1, ([] : List Str))), (v2, (n2, ps))]) (e := Prod.fst) walk_lstE (fun x => inV (.str k) (x.2.2.map V.str)) Prod.fst (by simp) (fun H3 s3 => same_sq (s2.trans s3) hL) ?_ ?_ fun D2 H3 nD2 s3 h3 => ?_
      · rintro i ⟨v, q⟩ H3 hx s3 QT k'
        obtain ⟨t, l, ev, ht, hl⟩ := hmk i _ hx
        have ev : v = .ref t := ev
        subst ev
        walk_at "zz"
        refine z_ixT (same_st (s2.trans s3) ht) rfl ?_
        walk_at "zz"
        refine z_inL (same_sq (s2.trans s3) hl) rfl (flat_strs _) ?_
        rw [if_neg (by simp)]
        walk_at "zz"
        exact k' _ (Same.refl _)
      · rintro i ⟨v, q⟩ H3 hx _ s3 Q' k'
        walk_at "zz"
        exact k' _ (Same.refl _)
      have eg : ([(v1, (n1, ([] : List Str))), (v2, (n2, ps))].filter fun x => inV (.str k) (x.2.2.map V.str)).map Prod.fst = [v2] := by
        have e1 : inV (.str k) (([] : List Str).map V.str) = false := rfl
        simp only [List.filter_cons, List.filter_nil, e1, M.c]
        rfl
      rw [eg] at h3
      walk_at "zz"
      have s03 : Same H H3 := s1.trans (s2.trans s3)
      have p3 := p0.same s03
      have nD1d : D1 ≠ d := (p0.same s1).ne nD1
      have nD2d : D2 ≠ d := (p0.same (s1.trans s2)).ne nD2
      refine z_cutE (fun v H' => (v = .ref D1 ∨ (v = .ref D2 ∧ 0 < n)) ∧ But d H3 H' ∧ Pen K H' d c (m + cost n - 1)) ?_ ?_
      · walk_at "zz"
        refine z_cutT (fun b H' => (b = true → 0 < n) ∧ But d H3 H' ∧ Pen K H' d c (m + cost n - 1)) ?_ ?_
        · walk_at "zz"
          refine z_ite (fun e => ?_) (fun e => ?_)
          · have e := of_decide_eq_true e
            walk_at "zz"
            refine z_kLst (line_ge (by simp)) fun l4 H4 n4 s4 h4 => ?_
            refine z_neNL (SqL.of (s4 _ _ h3)) (SqL.of h4) ?_
            rw [decide_eq_false (p := [v2] = []) (by simp)]
            walk_at "zz"
            refine use_draw (m := m + cost n - 1) (by rw [show m + cost n - 1 + 1 = m + cost n by omega]; exact p3.same s4) (by omega) (by omega) fun r H5 r0 r1 b5 p5 => ?_
            walk_at "zz"
            exact ⟨fun _ => by omega, (same_but s4).trans b5, p5⟩
          · exact ⟨fun h => (by cases h), But.refl _ _, p3.less (by omega)⟩
        rintro b H4 ⟨hb, b4, p4⟩
        refine z_ite (fun e => ?_) (fun e => ?_)
        · walk_at "zz"
          exact ⟨.inr ⟨rfl, hb e⟩, b4, p4⟩
        · walk_at "zz"
          exact ⟨.inl rfl, b4, p4⟩
      rintro v H4 ⟨hv, b4, p4⟩
      have k14 : Keep H1 H4 := (same_keep (s2.trans s3)).trans (p3.keep b4)
      obtain ⟨Dx, vm, nm, pl, rfl, hDx, mkm, big, lpl, hpl, hn0⟩ : ∃ Dx vm nm pl, v = .ref Dx ∧ H4 Dx = some (.lst [vm]) ∧ MkAt K H4 vm (nm, pl) ∧ isBig (tl nm) = true ∧ pl.length ≤ 3 ∧ (∀ p ∈ pl, p = "Num" ∨ p = k) ∧ (n = 0 → pl = []) := by
        rcases hv with rfl | ⟨rfl, hn⟩
        · exact ⟨D1, v1, n1, [], rfl, b4 _ _ nD1d (s3 _ _ h2), m1.keep k14, M.b1, by simp, fun p h => (by cases h), fun _ => rfl⟩
        · exact ⟨D2, v2, n2, ps, rfl, b4 _ _ nD2d h3, m2.keep k14, M.b2, M.l, M.p, fun h => absurd h (by omega)⟩
      walk_at "zz"
      refine ⟨d, c, Dx, m + cost n - 2, _, rfl, by rw [show m + cost n - 2 + 1 = m + cost n - 1 by omega]; exact p4, SqL.of hDx, by simp, by simp, fun v H5 hv b5 p5 => ?_⟩
      rw [List.mem_singleton] at hv
      subst hv
      obtain ⟨t, l, rfl, ht, hl⟩ := mkm.keep (p4.keep b5)
      have ht : SqT K H5 t [.str nm, .ref l] := ht
      have hl : SqL K H5 l (pl.map V.str) := hl
      have b05 : But d H H5 := (same_but s03).trans (b4.trans b5)
      have d05 : Dom H H5 := dom_but b05 (pen_some p5)
      walk_at "zz"
      refine z_ixT ht rfl ?_
      walk_at "zz"
      refine z_ixT ht rfl ?_
      walk_at "zz"
      refine z_kIL hl ?_
      have lx : (pl.map V.str).length = pl.length := List.length_map _
      cases n with
      | zero =>
        have epl := hn0 rfl
        subst epl
        refine l_genDL (d := d) (c := c) (m := m) 0 (fun D v H1 => True) (fun _ _ _ _ _ _ => trivial) (fun _ _ _ _ _ _ _ _ => trivial) (by simp) (p5.less (by simp; omega)) (fun H6 b6 => (p5.keep b6).l hl) ?_ ?_
        · intro D i x H6 j hD hD6 hx
          simp at hx
        · intro D H6 ys hD b6 p6 hly hys hD6
          have ey : ys = [] := List.eq_nil_of_length_eq_zero (by rw [hly]; rfl)
          subst ey
          walk_at "zz"
          refine z_kTup (line_ge (by simp)) fun q H7 nq s7 h7 => ?_
          walk_at "zz"
          have b07 := b05.trans (b6.trans (same_but s7))
          refine kk _ (.node nm []) H7 b07 (p6.same s7) (small_leaf 0 big) (own_mk (l := D) (vs := []) (SqT.of (nw_at ?_ h7)) (SqL.of (nw_at (d05 _ hD) (s7 _ _ hD6))) (by rw [ownAll]; exact .nil))
          exact dom_but (b05.trans b6) (pen_some p6) _ nq
      | succ n =>
        rw [cost] at p5 cge
        have jc : cost n * pl.length ≤ 3 * cost n := by rw [Nat.mul_comm 3]; exact Nat.mul_le_mul_left _ lpl
        refine l_genDL (d := d) (c := c) (m := m) (cost n) (fun D v H1 => ∃ t, Small n t ∧ Dp K (del (Nw H H1) D) v t.own) (fun D v H1 H2 b ⟨t, h1, h2⟩ => ⟨t, h1, dp_keep (same_keep (del_mono (nw_but b (pen_some p0)))) h2⟩) (fun D v H1 xs o hD hx ⟨t, h1, h2⟩ => ⟨t, h1, dp_keep (same_keep del_upd) h2⟩) (by omega) (p5.less (by rw [lx]; omega)) (fun H6 b6 => (p5.keep b6).l hl) ?_ ?_
        · intro D i x H6 j hD hD6 hx b6 d6 p6 Q' k'
          obtain ⟨y, rfl, hy⟩ : ∃ y, x = V.str y ∧ y ∈ pl := by
            have := List.mem_of_getElem? hx
            obtain ⟨y, h1, h2⟩ := List.mem_map.mp this
            exact ⟨y, h2.symm, h1⟩
          have hky : y = "Num" ∨ y = "List" ∨ y = "Tree" := by
            rcases hpl y hy with q | q
            · exact .inl q
            · rw [q]; exact .inr hk2
          walk_at "zz"
          have e1 : ((n + 1 : Nat) : Int) - 1 = (n : Nat) := by omega
          rw [e1]
          exact ⟨d, c, kd, y, j, rfl, p6, hkd.but p0 nkd (b05.trans b6), nkd, hky, fun v t H7 b7 p7 ht hd => k' v H7 b7 ⟨t, ht, dp_keep (same_keep (nw_del (d05.trans d6) hD6)) hd⟩ p7⟩
        · intro D H6 ys hD b6 p6 hly hys hD6
          walk_at "zz"
          refine z_kTup (line_ge (by simp)) fun q H7 nq s7 h7 => ?_
          walk_at "zz"
          have pd : D ≠ d := p5.ne hD
          have b57 : But d H6 H7 := same_but s7
          have b07 := b05.trans (b6.trans b57)
          have ex : ∃ ts : List Nm.T, ts.length = ys.length ∧ ∀ (i : Nat) (t : Nm.T) (y : V), ts[i]? = some t → ys[i]? = some y → Small n t ∧ Dp K (del (Nw H H6) D) y t.own := by
            clear hly hD6
            induction ys with
            | nil => exact ⟨[], rfl, fun i t y e _ => by simp at e⟩
            | cons y ys ih =>
              obtain ⟨t, h1, h2⟩ := hys y (by simp)
              obtain ⟨ts, hl, hq⟩ := ih fun y' hy' => hys y' (by simp [hy'])
              refine ⟨t :: ts, by rw [List.length_cons, List.length_cons, hl], fun i t' y' e1 e2 => ?_⟩
              cases i with
              | zero => cases e1; cases e2; exact ⟨h1, h2⟩
              | succ i => exact hq i t' y' e1 e2
          obtain ⟨ts, hlt, hts⟩ := ex
          have hd0 : H D = none := d05 _ hD
          have sm : ∀ t ∈ ts, Small n t := fun t ht => by
            obtain ⟨i, hi, e⟩ := List.mem_iff_getElem.mp ht
            have e1 : ts[i]? = some t := by rw [List.getElem?_eq_getElem hi, e]
            exact (hts i t ys[i] e1 (List.getElem?_eq_getElem (by omega))).1
          refine kk _ (.node nm ts) H7 b07 (p6.same s7) (small_node big (by omega) sm) (own_mk (l := D) (vs := ys) (SqT.of (nw_at ?_ h7)) (SqL.of (nw_at hd0 (s7 _ _ hD6))) (dps_own (by omega) fun i v t e1 e2 => dp_keep (same_keep (del_sub.trans (nw_but b57 (pen_some p0)))) (hts i t v e2 e1).2))
          exact dom_but (b05.trans b6) (pen_some p6) _ nq
end
end K04

namespace K04
open PySem PySem.Spec PyProof.Rows L2 Nm K3 LamX
theorem z_neT {K : PySem.W.Frag} {H : Hp} {Q : VK} {x y : V} {d e : PyData} (h1 : Dp K H x d) (h2 : Dp K H y e) (s1 : SeqAt.shaped d = true) (he : d = e) (q : Q (.bl false) H) : rNeD K x y H Q := by
  subst he
  refine z_neD h1 h2 s1 s1 ?_
  rw [eqv_refl_shaped s1]
  exact q
theorem tabs_dk {T : List (Addr × Str)} {H H' : Hp} {d : Addr} {kv : List (Key × V)} (t : Tabs T H) (hd : H d = some (.dK kv)) (b : But d H H') : Tabs T H' := fun p hp => by
  obtain ⟨ps, h1, h2, h3⟩ := t p hp
  refine ⟨ps, b _ _ (fun e => by rw [e, hd] at h1; cases h1) h1, h2, fun pos cv hc => ?_⟩
  obtain ⟨c, e1, e2⟩ := h3 pos cv hc
  exact ⟨c, e1, b _ _ (fun e => by rw [e, hd] at e2; unfold CodeO at e2; cases e2) e2⟩
theorem tabs_pen {K : PySem.W.Frag} {T : List (Addr × Str)} {H H' : Hp} {d c : Addr} {m : Nat} (t : Tabs T H) (p : Pen K H d c m) (b : But d H H') : Tabs T H' := by
  obtain ⟨_, _, _, _, _, q, _⟩ := p
  exact tabs_dk t q b
theorem pen_ext {K : PySem.W.Frag} {H H' : Hp} {d c : Addr} {m : Nat} (p : Pen K H d c m) (e : ExtN H H') : Pen K H' d c m := by
  obtain ⟨a, g, n, f, ns, q1, q2, q3⟩ := p
  exact ⟨a, g, n, f, ns, e _ _ q1 (fun ps z => by cases z), e _ _ q2 (fun ps z => by cases z), q3⟩
theorem sum_mono (f g : Str → Nat) : ∀ ws : List Str, (∀ y, f y ≤ g y) → (ws.map f).sum ≤ (ws.map g).sum
  | [], _ => Nat.le_refl _
  | a :: l, h => by
    have h1 := sum_mono f g l h
    have h2 := h a
    rw [List.map_cons, List.map_cons, List.sum_cons, List.sum_cons]
    omega
section
variable {P : Program} {w : World} {K : PySem.W.Frag} {mg : Str → Option Value} {base : Heap}
/-- value_from of no text -/
def spFromX (T : Tx P K mg) : Sp := fun vs H Q E => ∃ (v : V) (t : Value), vs = [v] ∧ TyX K H v t ∧ PySem.W.kitOne K t (.type "str") = some false ∧ ∀ d H', Same H H' → H' d = some (badX 0 0) → E (.ref T.CBadText) (some d) H'
theorem ok_vfromX (T : Tx P K mg) (hI : IntOk) (TN : TabB base mg T.cneed T.Pneed) (TB : TabB base mg T.cbegun T.Pbegun) : FnOk P w K mg base (L2.CX P w) 8 T.avfrom T.fdvfrom ["text"] (spFromX T) := by
  have Gnext : FnOk P w K mg base CX0 1 T.anext T.fdnext ["self"] (spNext K T.CW) := ok_next T
  have Gneed : FnOk P w K mg base (L2.CX P w) 6 T.aneed T.fdneed ["self", "told"] (spNeed T) := ok_need T TN
  have Gnend : FnOk P w K mg base (L2.CX P w) 4 T.anend T.fdnend ["self"] (spEnd K T.CW T.CBadText) := ok_nend T
  have Gbegun : FnOk P w K mg base (L2.CX P w) 7 T.abegun T.fdbegun ["walk", "frames"] (spBegun T) := ok_begun T hI TN TB
  have Gwinit : FnOk P w K mg base CX0 2 T.awinit T.fdwinit ["self", "line_text", "line"] (spWinit K T.CW) := ok_winit T
  have Ginit : FnOk P w K mg base CX0 1 T.ainit T.fdinit ["self", "maker", "parts"] (spMadeL K T.CM) := ok_initL T
  refine T.Dvfrom.F.okX scvfrom (fun vs H Q E h => ?_) (fun cdv A outer s H vs Q E hr h => ?_)
  · obtain ⟨v, t, rfl, _⟩ := h
    rfl
  · obtain ⟨v, t, rfl, hv, ht, kk⟩ := h
    have hu := hu_of hr
    have hrnext := hr.mono (j := 1) (by decide)
    have hrneed := hr.mono (j := 6) (by decide)
    have hrnend := hr.mono (j := 4) (by decide)
    have hrbegun := hr
    have hrwinit := hr.mono (j := 3) (by decide)
    have hrinit := hr.mono (j := 2) (by decide)
    refine ⟨_, pss_cons (ps_if (pt_not (pt_val (pe_callB call_isi (by rfl) T.n_isinstance (by decide +kernel) (pa_cons (pv 0) (pa_cons (pe_bltn (v := .ty "str") rfl T.n_str (by decide +kernel) rfl) pa_nil)))))
(pss_one (ps_raiseE rfl T.EBadText (by decide) hr (takes_of rfl rfl rfl rfl) (pa_cons (pe_int) (pa_cons (pe_int) pa_nil))))
(pss_nil))
(pss_cons (ps_par3 rfl scvfrom.nd (i := 1) (j := 2) (l := 3) rfl rfl rfl (by decide) (by decide) (by decide) rfl rfl rfl (pa_cons (pe_make T.M_LineWalk Gwinit hrwinit rfl T.g_LineWalk T.Dwinit.b .nil pass0 (pa_cons (pv 0) (pa_cons (pe_int) pa_nil))) (pa_cons (pe_lst pa_nil) (pa_cons (pe_non) pa_nil))) (by rfl))
(pss_one (ps_while (passes_of rfl) (pt_val (pe_bl))
(pss_one (ps_if (pt_cmpR op_notNn (pv 3) (pe_non) (nomark _))
(pss_cons (ps_if (pt_cmpR (op_eqN (Nat.lt_of_succ_lt hu)) (pv 2) (pe_lst pa_nil) (nomark _))
(pss_cons (ps_expr (pe_meth0 (pv 1) T.cW T.mW_nend Gnend hrnend T.Dnend.b .nil (passX (takes_of rfl rfl rfl rfl))))
(pss_one (ps_ret (pv 3))))
(pss_nil))
(pss_cons (ps_expr (pe_bm PySem.F.plainAttrs_list PySem.F.slot_list_append PySem.F.type_list_append mt_append (pe_ix ix_tup (pe_ix ix_list (pv 2) (pe_un un_neg (pe_int)) (fun _ _ => rfl)) (pe_int) (fun _ _ => rfl)) (pa_cons (pv 3) pa_nil)))
(pss_one (ps_set (i := 3) scvfrom.nd rfl (Or.inl rfl) (pe_non)))))
(pss_one (ps_if (pt_cut (PW.pt (pw_and (pt_cmpR (op_neN (Nat.lt_of_succ_lt hu)) (pv 2) (pe_lst pa_nil) (nomark _)) (pw_and1 (pt_cmpR op_eq (pe_meth0 (pv 1) T.cW T.mW_next Gnext hrnext T.Dnext.b .nil pass0) (pe_cut (pe_ifExp (pt_val (pe_ix ix_tup (pe_ix ix_list (pv 2) (pe_un un_neg (pe_int)) (fun _ _ => rfl)) (pe_int) (fun _ _ => rfl))) (pe_str) (pe_non))) (nomark _))))))
(pss_cons (ps_asg (pe_bm0 PySem.F.plainAttrs_list PySem.F.slot_list_pop PySem.F.type_list_pop mt_pop (pv 2)) (pg_tup rfl (pgs_cons (pg_name (i := 4) scvfrom.nd rfl (Or.inl rfl)) (pgs_cons (pg_name (i := 5) scvfrom.nd rfl (Or.inl rfl)) (pgs_cons (pg_name (i := 6) scvfrom.nd rfl (Or.inl rfl)) pgs_nil)))))
(pss_cut (ps_if (pt_val (pv 6))
(pss_one (ps_expr (pe_meth (pv 1) T.cW T.mW_need Gneed hrneed T.Dneed.b .nil (passX (takes_of rfl rfl rfl rfl)) (pa_cons (pe_str) pa_nil))))
(pss_nil))
(pss_one (ps_set (i := 3) scvfrom.nd rfl (Or.inl rfl) (pe_make T.M_Made Ginit hrinit rfl T.g_Made T.Dinit.b .nil pass0 (pa_cons (pv 4) (pa_cons (pv 5) pa_nil)))))))
(pss_one (ps_set (i := 3) scvfrom.nd rfl (Or.inl rfl) (pe_callN T.Dbegun Gbegun hrbegun (passX (takes_of rfl rfl rfl rfl)) (pa_cons (pv 1) (pa_cons (pv 2) pa_nil)))))))))))), ?_⟩
    walk_at "z0"
    walk_at "zz"
    refine z_isi (ClsV.ty "str") hv (b := false) ht ?_
    walk_at "zz"
    refine z_kErr rfl fun d H1 nd s1 hd1 => ?_
    refine kk d H1 s1 ?_
    rw [hd1]
    rfl
def spLaw (T : Tx P K mg) : Sp := fun vs H Q _ => ∃ (a : Addr) (ns : List Int), vs = [.ref a] ∧ SqL K H a (ns.map V.int) ∧ Tabs (tabs T) H ∧ ∀ H', Q (.bl true) H'
theorem ok_law (T : Tx P K mg) (TN : TabB base mg T.cneed T.Pneed) (TB : TabB base mg T.cbegun T.Pbegun) : FnOk P w K mg base CX0 207 T.alaw T.fdlaw ["_law_script"] (spLaw T) := by
  have hI : IntOk := fun w h => num_int h
  have Gpen : FnOk P w K mg base CX0 1 T.apen T.fdpen ["_law_script"] (spPen K) := ok_pen T
  have Gdraw : FnOk P w K mg base CX0 1 T.adraw T.fddraw ["_law_pen_here", "_law_many"] (spDraw K) := ok_draw T
  have Gpick : FnOk P w K mg base CX0 2 T.apick T.fdpick ["_law_pen_here", "_law_some"] (spPick K) := ok_pick T
  have Gsval : FnOk P w K mg base CX0 6 T.asval T.fdsval ["_law_pen_here", "_law_kinds", "_law_kind", "_law_depth"] (spSval K 3) := ok_sval T 3
  have Gvtext : FnOk P w K mg base CX0 6 T.avtext T.fdvtext ["_law_value", "_law_is_outer"] (spVT K 4) := ok_vtext T 4
  have Glwords : FnOk P w K mg base CX0 1 T.alwords T.fdlwords ["_law_line"] (spLWords K) := ok_lwords T
  have Gspoilt : FnOk P w K mg base CX0 3 T.aspoilt T.fdspoilt ["_law_pen_here", "_law_words_here"] (spSpoilt K) := ok_spoilt T
  have Gtold : FnOk P w K mg base CX0 24 T.atold T.fdtold ["_law_text"] (spTold T) := ok_told T hI TN TB
  have Gdue : FnOk P w K mg base CX0 206 T.adue T.fddue ["_law_text"] (spDue K) := ok_due T
  have Gvfrom : FnOk P w K mg base (L2.CX P w) 8 T.avfrom T.fdvfrom ["text"] (spFromX T) := ok_vfromX T hI TN TB
  refine T.Dlaw.F.ok sclaw (fun vs H Q E h => ?_) (fun cdv A outer s H vs Q E hr h => ?_)
  · obtain ⟨a, ns, rfl, _⟩ := h
    rfl
  · obtain ⟨a, ns, rfl, hS, hT, k⟩ := h
    have hu := hu_of hr
    have hrpen := hr.mono (j := 1) (by decide)
    have hrdraw := hrpen
    have hrlwords := hrpen
    have hrpick := hr.mono (j := 2) (by decide)
    have hrsval := hr.mono (j := 6) (by decide)
    have hrvtext := hrsval
    have hrspoilt := hr.mono (j := 3) (by decide)
    have hrtold := hr.mono (j := 24) (by decide)
    have hrdue := hr
    have hrvfrom := hr.mono (j := 8) (by decide)
    refine ⟨_, pss_cons (ps_set (i := 1) sclaw.nd rfl (Or.inl rfl) (pe_callN T.Dpen Gpen hrpen pass0 (pa_cons (pv 0) pa_nil)))
(pss_cons (ps_set (i := 2) sclaw.nd rfl (Or.inl rfl) (pe_disp (pps_cons (pe_str) (pe_lst (pa_cons (pe_tup (pa_cons (pe_str) (pa_cons (pe_lst pa_nil) pa_nil))) (pa_cons (pe_tup (pa_cons (pe_str) (pa_cons (pe_lst (pa_cons (pe_str) (pa_cons (pe_str) pa_nil))) pa_nil))) pa_nil))) (pps_cons (pe_str) (pe_lst (pa_cons (pe_tup (pa_cons (pe_str) (pa_cons (pe_lst pa_nil) pa_nil))) (pa_cons (pe_tup (pa_cons (pe_str) (pa_cons (pe_lst (pa_cons (pe_str) (pa_cons (pe_str) (pa_cons (pe_str) pa_nil)))) pa_nil))) pa_nil))) (pps_nil))) (by rfl) (by rfl) (fun z => by cases z) (by decide)))
(pss_cons (ps_for PassesOwn.never rfl (pi_range1 rfl T.n_range (pa_cons (pe_int) pa_nil)) (pg_name (i := 3) sclaw.nd rfl (Or.inl rfl))
(pss_cons (ps_set (i := 4) sclaw.nd rfl (Or.inl rfl) (pe_callN T.Dsval Gsval hrsval pass0 (pa_cons (pv 1) (pa_cons (pv 2) (pa_cons (pe_callN T.Dpick Gpick hrpick pass0 (pa_cons (pv 1) (pa_cons (pe_lst (pa_cons (pe_str) (pa_cons (pe_str) (pa_cons (pe_str) pa_nil)))) pa_nil))) (pa_cons (pe_int) pa_nil))))))
(pss_cons (ps_setLc (i := 5) (g := gTup K 2 (gCons (gName 10) (gCons (gName 11) gNil))) (own := [("_law_word", 10), ("_law_column_here", 11)]) rfl sclaw.nd rfl rfl (sw_true rfl rfl rfl (by decide +kernel)) (pi_list (pe_callN T.Dlwords Glwords hrlwords pass0 (pa_cons (pe_callN T.Dvtext Gvtext hrvtext pass0 (pa_cons (pv 4) (pa_cons (pe_bl) pa_nil))) pa_nil))) (blkOk_by (own := [("_law_word", 10), ("_law_column_here", 11)]) (N := ["_law_script", "_law_pen_here", "_law_kinds", "_law_lap", "_law_own_here", "_law_words_here", "_law_step", "_law_text", "_law_odd", "e", "_law_word", "_law_column_here"]) (sc := defScope slaw) (by decide +kernel)) (fun _ _ _ _ _ => pg_tup rfl (pgs_cons (pg_name (i := 10) sclaw.nd rfl (Or.inl rfl) (Or.inr rfl)) (pgs_cons (pg_name (i := 11) sclaw.nd rfl (Or.inl rfl) (Or.inr rfl)) pgs_nil))) (fun _ _ _ _ _ => pts_nil) (fun _ _ _ _ _ => pv 10))
(pss_cons (ps_for PassesOwn.never rfl (pi_range1 rfl T.n_range (pa_cons (pe_callN T.Ddraw Gdraw hrdraw pass0 (pa_cons (pv 1) (pa_cons (pe_int) pa_nil))) pa_nil)) (pg_name (i := 6) sclaw.nd rfl (Or.inl rfl))
(pss_one (ps_set (i := 5) sclaw.nd rfl (Or.inl rfl) (pe_callN T.Dspoilt Gspoilt hrspoilt pass0 (pa_cons (pv 1) (pa_cons (pv 5) pa_nil))))))
(pss_cons (ps_set (i := 7) sclaw.nd rfl (Or.inl rfl) (pe_op op_addS (pe_op op_addS (pe_op op_mulS (pe_str) (pe_callN T.Ddraw Gdraw hrdraw pass0 (pa_cons (pv 1) (pa_cons (pe_int) pa_nil)))) (pe_joinN (pe_callN T.Dpick Gpick hrpick pass0 (pa_cons (pv 1) (pa_cons (pe_lst (pa_cons (pe_str) (pa_cons (pe_str) pa_nil))) pa_nil))) (pv 5))) (pe_callN T.Dpick Gpick hrpick pass0 (pa_cons (pv 1) (pa_cons (pe_lst (pa_cons (pe_str) (pa_cons (pe_str) (pa_cons (pe_str) pa_nil)))) pa_nil)))))
(pss_one (ps_if (pt_cmpR (op_neD hr.units) (pe_callN T.Dtold Gtold hrtold pass0 (pa_cons (pv 7) pa_nil)) (pe_callN T.Ddue Gdue hrdue pass0 (pa_cons (pv 7) pa_nil)) (nomark _))
(pss_one (ps_ret (pe_bl)))
(pss_nil))))))))
(pss_cons (ps_for PassesOwn.never rfl (pi_list (pe_lst (pa_cons (pe_non) (pa_cons (pe_int) (pa_cons (pe_lst (pa_cons (pe_str) pa_nil)) (pa_cons (pe_tup (pa_cons (pe_str) pa_nil)) (pa_cons (pe_bl) pa_nil))))))) (pg_name (i := 8) sclaw.nd rfl (Or.inl rfl))
(pss_one (ps_clauses rfl rfl sclaw.nd L2.takes0 (fun W pn xe tk _ => pss_cons (ps_expr (pe_callS Gvfrom hrvfrom rfl T.Dvfrom.g T.Dvfrom.F.kp T.Dvfrom.b (fun σ => passAt tk σ) (pa_cons (pv 8) pa_nil)))
(pss_one (ps_ret (pe_bl))))
(.cons ⟨rfl, by decide, .inl T.EBadText.gC⟩ (i := 9) rfl rfl (fun a oe cls d pn hz hf => pss_one (ps_if (pt_cmpR (by exact op_neD hr.units : OpR _ (compareOp .NotEq) (rNeD K)) (pe_tup (pa_cons (pe_ofE T.EBadText (f := "line") (by decide) hz hf (pv 9)) (pa_cons (pe_ofE T.EBadText (f := "column") (by decide) hz hf (pv 9)) pa_nil))) (pe_tup (pa_cons (pe_int) (pa_cons (pe_int) pa_nil))) (nomark _))
(pss_one (ps_ret (pe_bl)))
(pss_nil)))
(.nil)))))
(pss_one (ps_ret (pe_and (pe_cmpR (op_eqD hr.units) (pe_callN T.Dtold Gtold hrtold pass0 (pa_cons (pe_str) pa_nil)) (pe_tup (pa_cons (pe_str) (pa_cons (pe_int) pa_nil))) (nomark _)) (pe_one (pe_cmpR (op_eqD hr.units) (pe_callN T.Dtold Gtold hrtold pass0 (pa_cons (pe_str) pa_nil)) (pe_tup (pa_cons (pe_str) (pa_cons (pe_int) pa_nil))) (nomark _))))))))), ?_⟩
    walk_at "z0"
    walk_at "zz"
    refine ⟨a, ns, rfl, hS, fun d c H1 nd s1 p1 => ?_⟩
    walk_at "zz"
    refine z_disp fun kd H2 nkd s2 h2 => ?_
    walk_at "zz"
    refine z_kLst (line_ge (by simp)) fun l3 H3 n3 s3 h3 => ?_
    walk_at "zz"
    refine z_kTup (line_ge (by simp)) fun l4 H4 n4 s4 h4 => ?_
    walk_at "zz"
    refine z_kLst (line_ge (by simp)) fun l5 H5 n5 s5 h5 => ?_
    walk_at "zz"
    refine z_kTup (line_ge (by simp)) fun l6 H6 n6 s6 h6 => ?_
    walk_at "zz"
    refine z_kLst (line_ge (by simp)) fun l7 H7 n7 s7 h7 => ?_
    walk_at "zz"
    refine z_kLst (line_ge (by simp)) fun m3 I3 o3 t3 g3 => ?_
    walk_at "zz"
    refine z_kTup (line_ge (by simp)) fun m4 I4 o4 t4 g4 => ?_
    walk_at "zz"
    refine z_kLst (line_ge (by simp)) fun m5 I5 o5 t5 g5 => ?_
    walk_at "zz"
    refine z_kTup (line_ge (by simp)) fun m6 I6 o6 t6 g6 => ?_
    walk_at "zz"
    refine z_kLst (line_ge (by simp)) fun m7 I7 o7 t7 g7 => ?_
    walk_at "zz"
    have u6 := t7
    have u5 := t6.trans u6
    have u4 := t5.trans u5
    have u3 := t4.trans u4
    have v7 := t3.trans u3
    have v6 := s7.trans v7
    have v5 := s6.trans v6
    have v4 := s5.trans v5
    have v3 := s4.trans v4
    have v2 := s3.trans v3
    refine z_kDisp (kdKv l7 m7) ?_ (v2 _ _ h2) (by show 2 ≤ 15; decide) fun H8 b8 h8 => ?_
    · kernel_rfl
    rw [kd_merge] at h8
    have s18 : Same H1 H8 := b8.same (s2.trans v2) nkd
    have k78 : Keep I7 H8 := b8.keep (v2 _ _ h2)
    have hkd : KdAt K H8 kd := by
      refine ⟨l7, m7, h8, dp_keep k78 ?_, dp_keep k78 ?_⟩
      · exact .lst (SqL.of (v7 _ _ h7)) (.cons (.tup (SqT.of (v4 _ _ h4)) (.cons (.str _) (.cons (.lst (SqL.of (v3 _ _ h3)) .nil) .nil))) (.cons (.tup (SqT.of (v6 _ _ h6)) (.cons (.str _) (.cons (.lst (SqL.of (v5 _ _ h5)) (.cons (.str _) (.cons (.str _) .nil))) .nil))) .nil))
      · exact .lst (SqL.of g7) (.cons (.tup (SqT.of (u4 _ _ g4)) (.cons (.str _) (.cons (.lst (SqL.of (u3 _ _ g3)) .nil) .nil))) (.cons (.tup (SqT.of (u6 _ _ g6)) (.cons (.str _) (.cons (.lst (SqL.of (u5 _ _ g5)) (.cons (.str _) (.cons (.str _) (.cons (.str _) .nil)))) .nil))) .nil))
    have nkd2 : kd ≠ d := p1.ne nkd
    have p8 := p1.same s18
    have t8 := tabs_same hT (s1.trans s18)
    walk_at "zz"
    refine z_kIR1 (by decide) (by decide) ?_
    refine f_range (fun i σ' H' => ∃ (v3 v4 v5 v6 v7 : Option V), σ' = [some (.ref a), some (.ref d), some (.ref kd), v3, v4, v5, v6, v7, none, none, none, none] ∧ Tabs (tabs T) H' ∧ KdAt K H' kd ∧ Pen K H' d c (50000000 - 1000 * i)) ⟨_, _, _, _, _, rfl, t8, hkd, p8.less (by omega)⟩ ?_ ?_
    · rintro i σ' H2 hi ⟨v3, v4, v5, v6, v7, rfl, t2, k2, p2⟩
      have hi : i < 6 := hi
      walk_at "zz"
      refine z_kLst (line_ge (by simp)) fun l3 H3 n3 s3 h3 => ?_
      walk_at "zz"
      refine ⟨d, c, l3, 50000000 - 1000 * i - 1, _, rfl, (p2.same s3).less (by omega), SqL.of h3, by simp, by simp, fun v H4 hv b4 p4 => ?_⟩
      obtain ⟨kk, rfl, hk⟩ : ∃ kk : Str, v = .str kk ∧ (kk = "Num" ∨ kk = "List" ∨ kk = "Tree") := by
        simp only [List.mem_cons, List.not_mem_nil, or_false] at hv
        rcases hv with q | q | q
        · exact ⟨_, q, .inr (.inl rfl)⟩
        · exact ⟨_, q, .inr (.inr rfl)⟩
        · exact ⟨_, q, .inl rfl⟩
      walk_at "zz"
      have b24 : But d H2 H4 := (same_but s3).trans b4
      refine ⟨d, c, kd, kk, 50000000 - 1000 * i - 200, rfl, p4.less (by rw [show cost 3 = 160 from rfl]; omega), k2.but p2 nkd2 b24, nkd2, hk, fun y t H5 b5 p5 ht hy => ?_⟩
      have hy5 : Dp K H5 y t.own := dp_keep (same_keep nw_sub) hy
      have tz : t.size ≤ 40 := ht.z
      have tp : pc t false ≤ 13 := Nat.le_trans (pc_le t) ht.p
      have tk' := ht.o
      have td : t.depth ≤ 4 := ht.d
      have b25 := b24.trans b5
      have t5 := tabs_pen t2 p2 b25
      have k5 := k2.but p2 nkd2 b25
      have wl := wt_len t false tk'
      walk_at "zz"
      refine ⟨y, true, t, rfl, hy5, td, tk', by omega, fun H6 s6 => ?_⟩
      rw [show (!true) = false from rfl]
      walk_at "zz"
      have etl : tl (txt (wt t false)) = wt t false := tl_mk _
      refine ⟨_, rfl, by rw [str_len, etl]; omega, fun L H7 s7 g7 => ?_⟩
      rw [etl] at g7
      obtain ⟨us, hL, hds⟩ := g7.ex
      obtain ⟨lus, hw⟩ := wd_at hds
      walk_at "zz"
      refine z_kIL (SqL.of hL) ?_
      have ew : (words (wt t false)).map Prod.fst = tk t false := by rw [words_fst, wf_top t tk']
      have lw : (words (wt t false)).length ≤ 120 := by
        have := tk_len t false
        rw [← ew, List.length_map] at this
        omega
      refine l_gen walk_list (fun D j v H8 => ∀ q, (words (wt t false))[j]? = some q → v = .str (txt q.1)) (fun D j v H8 H9 s h => h) (fun D j v H8 xs o hD hx h => h) (by omega) (fun H8 s8 => SqL.of (s8 _ _ hL)) ?_ ?_ mono_two
      · rintro D j z H8 H9 hD hD8 hj s8 ⟨eH, ez⟩ Q' k'
        subst eH
        obtain ⟨q, eq⟩ : ∃ q, (words (wt t false))[j]? = some q := ⟨_, List.getElem?_eq_getElem (by omega)⟩
        obtain ⟨r, er, hr1⟩ := hw j q eq
        rw [er] at ez
        cases ez
        refine z_gTup (same_st s8 hr1) rfl ?_
        walk_at "zz"
        refine ⟨rfl, ?_⟩
        walk_at "zz"
        refine k' _ _ (Same.refl _) fun q' e' => ?_
        rw [eq] at e'
        cases e'
        rfl
      · intro D H8 ws hD s8 hD8 hlw hws
        have ews : ws = ((tk t false).map txt).map V.str := by
          rw [← ew, List.map_map, List.map_map]
          refine List.ext_getElem? fun j => ?_
          rw [List.getElem?_map]
          by_cases hj : j < (words (wt t false)).length
          · obtain ⟨q, eq⟩ : ∃ q, (words (wt t false))[j]? = some q := ⟨_, List.getElem?_eq_getElem hj⟩
            obtain ⟨v, ev⟩ : ∃ v, ws[j]? = some v := ⟨_, List.getElem?_eq_getElem (by omega)⟩
            rw [ev, eq, hws j v ev q eq]
            rfl
          · rw [List.getElem?_eq_none (by omega), List.getElem?_eq_none (by omega)]
            rfl
        subst ews
        have wb := wsb_of tk' tz tp
        have s58 := s6.trans (s7.trans s8)
        have p8 := p5.same s58
        have t8 := tabs_same t5 s58
        have k8 := k5.same s58
        walk_at "zz"
        refine use_draw (m := 50000000 - 1000 * i - 201) (p8.less (by omega)) (by omega) (by omega) fun r H9 r0 r1 b9 p9 => ?_
        obtain ⟨R, rfl, hR⟩ : ∃ R : Nat, r = (R : Nat) ∧ R ≤ 2 := ⟨r.toNat, by omega, by omega⟩
        have nDd : D ≠ d := (p5.same (s6.trans s7)).ne hD
        have hD9 := b9 _ _ nDd hD8
        have t9 := tabs_pen t8 p8 b9
        have k9 := k8.but p8 nkd2 b9
        walk_at "zz"
        refine z_kIR1 (by omega) (by omega) ?_
        rw [Int.toNat_natCast]
        refine f_range (fun j σ' H' => ∃ (D : Addr) (ws : List Str) (v6 : Option V), σ' = [some (.ref a), some (.ref d), some (.ref kd), some (.int (0 + (i : Nat))), some y, some (.ref D), v6, v7, none, none, none, none] ∧ Tabs (tabs T) H' ∧ KdAt K H' kd ∧ Pen K H' d c (50000000 - 1000 * i - 201 - 3 * j) ∧ H' D = some (.lst (ws.map V.str)) ∧ WsB j ws) ⟨D, _, _, rfl, t9, k9, p9.less (by omega), hD9, wb⟩ ?_ ?_
        · rintro j σ' H10 hj ⟨D, ws, v6, rfl, t10, k10, p10, hD10, wb⟩
          have lws := wb.few
          walk_at "zz"
          refine ⟨d, c, D, 50000000 - 1000 * i - 201 - 3 * (j + 1), ws, rfl, p10.less (by omega), hD10, by omega, fun odd zs q H11 ho hs b11 p11 hq => ?_⟩
          walk_at "zz"
          exact ⟨q, zs, _, rfl, tabs_pen t10 p10 b11, k10.but p10 nkd2 b11, p11, hq, wb.spoil ho hs⟩
        · rintro σ' H10 ⟨D, ws, v6, rfl, t10, k10, p10, hD10, wb⟩
          have wb := wb.more hR
          have lws := wb.few
          have p10 : Pen K H10 d c (50000000 - 1000 * i - 300) := p10.less (by omega)
          walk_at "zz"
          refine use_draw (m := 50000000 - 1000 * i - 301) (p10.less (by omega)) (by omega) (by omega) fun r H11 r0 r1 b11 p11 => ?_
          have nD10 : D ≠ d := fun e => by
            obtain ⟨_, _, _, _, _, q, _⟩ := p10
            rw [e, q] at hD10
            cases hD10
          walk_at "zz"
          have ls : ((" " : Str)).length = 1 := by decide +kernel
          refine z_mulS r0 (by omega) (by rw [ls]; decide) ?_
          walk_at "zz"
          refine z_kLst (line_ge (by simp)) fun l12 H12 n12 s12 h12 => ?_
          walk_at "zz"
          refine ⟨d, c, l12, 50000000 - 1000 * i - 302, _, rfl, (p11.same s12).less (by omega), SqL.of h12, by simp, by simp, fun v H13 hv b13 p13 => ?_⟩
          obtain ⟨sep, k', rfl, hk', hsep, lsep⟩ : ∃ (sep : Str) (k' : Nat), v = .str sep ∧ k' ≤ 1 ∧ tl sep = List.replicate (k' + 1) 32 ∧ sep.length ≤ 2 := by
            simp only [List.mem_cons, List.not_mem_nil, or_false] at hv
            rcases hv with q | q
            · exact ⟨_, 0, q, by decide, by decide +kernel, by decide +kernel⟩
            · exact ⟨_, 1, q, by decide, by decide +kernel, by decide +kernel⟩
          walk_at "zz"
          have b1013 : But d H10 H13 := b11.trans ((same_but s12).trans b13)
          have hD13 := b1013 _ _ nD10 hD10
          have lnn := sum_mono (fun y : Str => y.length) (fun y : Str => y.length + 2) ws (fun y => Nat.le_add_right _ _)
          have wln := wb.ln
          refine z_join (SqL.of hD13) (by have := Nat.mul_le_mul lws lsep; omega) ?_
          walk_at "zz"
          have jb := join_b hk' hsep wb
          have lj : (Txt.join sep ws).length ≤ 51000 := by rw [str_len]; exact jb.1
          have lm : (mulS " " r.toNat).length ≤ 1 := by rw [mulS_len, ls]; omega
          refine z_addS (line_ge (by omega)) ?_
          walk_at "zz"
          refine z_kLst (line_ge (by simp)) fun l14 H14 n14 s14 h14 => ?_
          walk_at "zz"
          refine ⟨d, c, l14, 50000000 - 1000 * i - 303, _, rfl, (p13.same s14).less (by omega), SqL.of h14, by simp, by simp, fun v H15 hv b15 p15 => ?_⟩
          obtain ⟨tai, rfl, htai, ltai⟩ : ∃ tai : Str, v = .str tai ∧ (tl tai = [] ∨ tl tai = [32] ∨ tl tai = [32, 59, 32, 120]) ∧ tai.length ≤ 4 := by
            simp only [List.mem_cons, List.not_mem_nil, or_false] at hv
            rcases hv with q | q | q
            · exact ⟨_, q, .inl (by decide +kernel), by decide +kernel⟩
            · exact ⟨_, q, .inr (.inl (by decide +kernel)), by decide +kernel⟩
            · exact ⟨_, q, .inr (.inr (by decide +kernel)), by decide +kernel⟩
          walk_at "zz"
          refine z_addS (line_ge (by rw [app_len]; omega)) ?_
          walk_at "zz"
          have etx : tl (mulS " " r.toNat ++ Txt.join sep ws ++ tai) = List.replicate r.toNat 32 ++ tl (Txt.join sep ws) ++ tl tai := by
            rw [tl_app, tl_app, tl_mulS, show tl " " = [32] from e_sp, List.flatten_replicate_singleton]
          have tb : TxB (tl (mulS " " r.toNat ++ Txt.join sep ws ++ tai)) := by
            rw [etx]
            exact txb_of hk' (by omega) hsep htai wb
          generalize mulS " " r.toNat ++ Txt.join sep ws ++ tai = tx at tb
          have b1015 := b1013.trans ((same_but s14).trans b15)
          have t15 := tabs_pen t10 p10 b1015
          have k15 := k10.but p10 nkd2 b1015
          have dsh := (due_bnd tb).1
          refine ⟨tx, rfl, tb, t15, fun v H16 e16 t16 hv => ?_⟩
          walk_at "zz"
          refine ⟨tx, rfl, tb, fun v' H17 s17 hv' => ?_⟩
          walk_at "zz"
          refine z_neT (dp_keep (same_keep s17) hv) hv' dsh rfl ?_
          walk_at "zz"
          have k17 : KdAt K H17 kd := by
            obtain ⟨x1, x2, g1, g2, g3⟩ := k15
            have ke : Keep H15 H17 := (ext_keep e16).trans (same_keep s17)
            exact ⟨x1, x2, s17 _ _ (e16 _ _ g1 (fun ps z => by cases z)), dp_keep ke g2, dp_keep ke g3⟩
          exact ⟨_, _, _, _, _, rfl, tabs_same t16 s17, k17, ((pen_ext p15 e16).same s17).less (by omega)⟩
    · rintro σ' H2 ⟨v3, v4, v5, v6, v7, rfl, t2, k2, p2⟩
      walk_at "zz"
      refine z_kLst (line_ge (by simp)) fun l3 H3 n3 s3 h3 => ?_
      walk_at "zz"
      refine z_kTup (line_ge (by simp)) fun l4 H4 n4 s4 h4 => ?_
      walk_at "zz"
      refine z_kLst (line_ge (by simp)) fun l5 H5 n5 s5 h5 => ?_
      walk_at "zz"
      refine z_kIL (SqL.of h5) ?_
      have hl3 := s5 _ _ (s4 _ _ h3)
      have hl4 := s5 _ _ h4
      have t5 := tabs_same t2 (s3.trans (s4.trans s5))
      refine f_list (fun j σ' H' => ∃ (v8 v9 : Option V), σ' = [some (.ref a), some (.ref d), some (.ref kd), v3, v4, v5, v6, v7, v8, v9, none, none] ∧ Same H5 H') ⟨_, _, rfl, Same.refl _⟩ (fun j σ' H' ⟨_, _, _, s⟩ => same_sq s (SqL.of h5)) ?_ ?_
      · rintro j v σ' H6 hv ⟨v8, v9, rfl, s6⟩
        obtain ⟨ty, hty, hkit⟩ : ∃ ty : Value, TyX K H6 v ty ∧ PySem.W.kitOne K ty (.type "str") = some false := by
          have hm := List.mem_of_getElem? hv
          simp only [List.mem_cons, List.not_mem_nil, or_false] at hm
          rcases hm with rfl | rfl | rfl | rfl | rfl
          · exact ⟨_, .base .non, kit_ty (r := false) (by decide +kernel)⟩
          · exact ⟨_, .base (.int _), kit_ty (r := false) (by decide +kernel)⟩
          · exact ⟨_, .base (.lst (s6 _ _ hl3)), kit_ty (r := false) (by decide +kernel)⟩
          · exact ⟨_, .base (.tup (s6 _ _ hl4)), kit_ty (r := false) (by decide +kernel)⟩
          · exact ⟨_, .base (.bl _), kit_ty (r := false) (by decide +kernel)⟩
        walk_at "zz"
        refine ⟨v, ty, rfl, hty, hkit, fun e H7 s7 he => ?_⟩
        refine z_takes T.x_BadText_BadText fun x hx => ?_
        dsimp only [endsAt]
        walk_at "zz"
        refine z_kOfE (v := .int 0) he (by rfl) ?_
        walk_at "zz"
        refine z_kOfE (v := .int (0 : Nat)) he (by rfl) ?_
        walk_at "zz"
        refine z_kTup (line_ge (by simp)) fun q8 H8 n8 s8 h8 => ?_
        walk_at "zz"
        refine z_kTup (line_ge (by simp)) fun q9 H9 n9 s9 h9 => ?_
        refine z_neT (d := .tuple [.int 0, .int 0]) (e := .tuple [.int 0, .int 0]) (.tup (SqT.of (s9 _ _ h8)) (.cons (.int _) (.cons (.int _) .nil))) (.tup (SqT.of h9) (.cons (.int _) (.cons (.int _) .nil))) (by decide) rfl ?_
        walk_at "zz"
        exact ⟨_, _, rfl, s6.trans (s7.trans (s8.trans s9))⟩
      · rintro σ' H6 ⟨v8, v9, rfl, s6⟩
        have t6 := tabs_same t5 s6
        walk_at "zz"
        have tb1 : TxB (tl ("" : Str)) := ⟨by decide +kernel, by decide +kernel, by decide +kernel, by decide +kernel⟩
        have tb2 : TxB (tl ("; Nil" : Str)) := ⟨by decide +kernel, by decide +kernel, by decide +kernel, by decide +kernel⟩
        have w1 : words (tl ("" : Str)) = [] := by decide +kernel
        have w2 : words (tl ("; Nil" : Str)) = [] := by decide +kernel
        have d0 : due [] = .bad 1 := by
          have : rd [] 1 0 false = (none, 0) := rfl
          unfold due
          rw [show ([] : F).length + 1 = 1 from rfl, this]
          rfl
        refine ⟨"", rfl, tb1, t6, fun v H7 e7 t7 hv => ?_⟩
        rw [w1, d0] at hv
        walk_at "zz"
        refine z_kTup (line_ge (by simp)) fun q8 H8 n8 s8 h8 => ?_
        refine z_eqD (d := ansD (.bad 1)) (e := ansD (.bad 1)) (dp_keep (same_keep s8) hv) (.tup (SqT.of h8) (.cons (.str _) (.cons (.int _) .nil))) (by decide +kernel) (by decide +kernel) ?_
        rw [eqv_refl_shaped (by decide +kernel)]
        walk_at "zz"
        refine ⟨"; Nil", rfl, tb2, tabs_same t7 s8, fun v H9 e9 t9 hv => ?_⟩
        rw [w2, d0] at hv
        walk_at "zz"
        refine z_kTup (line_ge (by simp)) fun q10 H10 n10 s10 h10 => ?_
        refine z_eqD (d := ansD (.bad 1)) (e := ansD (.bad 1)) (dp_keep (same_keep s10) hv) (.tup (SqT.of h10) (.cons (.str _) (.cons (.int _) .nil))) (by decide +kernel) (by decide +kernel) ?_
        rw [eqv_refl_shaped (by decide +kernel)]
        walk_at "zz"
        exact k _
end
end K04

namespace K04
open PySem PySem.Spec PyProof.Rows L2 Nm LamX
abbrev sIni0 : Stmt := Nm.inClass (top 2) 0
theorem ini0 : NmE.Ini sIni0 ["line", "column"] :=
  ⟨⟨_, _, _, _, _, _, _, rfl, (.cons (.cons .nil)), (.cons (.cons .nil)), rfl⟩, by decide, ⟨_, rfl, rfl⟩, by decide +kernel, by decide +kernel, by decide +kernel, by decide +kernel, by decide +kernel, by decide +kernel, rfl, rfl, rfl⟩
theorem bind0 (qual : Str) (cc : Addr) (kV doc pm : Value) (an : Option Addr) (cda : Addr) (ct : Value) (us : List Value) (hl : us.length = (("self" : Str) :: ["line", "column"]).length) :
    bindArgs (PySem.W.ksFn "__init__" qual (defArgs sIni0) (defBody sIni0) (defScope sIni0) .none kV doc pm an (.ref cda) ct cc) ⟨us, []⟩ = pure ((("self" : Str) :: ["line", "column"]).zip us) := by
  match us, hl with
  | [_, _, _], _ => first | rfl | kernel_rfl | with_unfolding_all rfl
/-- a method, by what the written part says of it -/
theorem dm_mk {K : PySem.W.Frag} {x q : Str} {st : Stmt} {ps : List Str} {f : Addr} {oc : Value} {od : Option Addr} {osl : Array (Option Value)} {n qual : Str} {p : Arguments} {b : List Stmt} {s : Scope} {cl : List (Str × Addr)} {dV kV doc pm : Value} {an : Option Addr} {cdv ct : Value}
    (h : K.lookup f = some ⟨oc, od, .func (PySem.W.fnX n qual p b s cl dV kV doc pm an cdv ct), osl⟩) (e0 : n = x) (e1 : qual = q) (e2 : p = defArgs st) (e3 : b = defBody st) (e4 : s = defScope st) (e5 : cl = []) (e6 : dV = .none) (c : PySem.W.codeIn K cdv q = true) (k : PySem.W.keepIn K (.ref f) = true)
    (hb : ∀ (kV doc pm : Value) (an : Option Addr) (cdv ct : Value) (us : List Value), us.length = ps.length → bindArgs (PySem.W.fnOf x q (defArgs st) (defBody st) (defScope st) .none kV doc pm an cdv ct) ⟨us, []⟩ = pure (ps.zip us)) :
    Nm.Dm K x q st ps f (PySem.W.fnOf x q (defArgs st) (defBody st) (defScope st) .none kV doc pm an cdv ct) := by
  subst e0 e1 e2 e3 e4 e5 e6
  exact ⟨fun_mk (st := st) h c k, (fun_mk (st := st) h c k).binds hb⟩
theorem df_at {K : PySem.W.Frag} {mg : Str → Option Value} {h : Heap} {x : Str} {st : Stmt} {ps : List Str} {f : Addr} {oc : Value} {od an : Option Addr} {osl : Array (Option Value)} {kV doc pm cdv ct : Value} (X : K.In h) (G : h.Ns mainGlobals mg)
    (n : PySem.W.nsIn K mainGlobals x = some (some (.ref f)))
    (l : K.lookup f = some ⟨oc, od, .func (PySem.W.fnOf x x (defArgs st) (defBody st) (defScope st) .none kV doc pm an cdv ct), osl⟩) (c : PySem.W.codeIn K cdv x = true) (k : PySem.W.keepIn K (.ref f) = true)
    (hb : ∀ (kV doc pm : Value) (an : Option Addr) (cdv ct : Value) (us : List Value), us.length = ps.length → bindArgs (PySem.W.fnOf x x (defArgs st) (defBody st) (defScope st) .none kV doc pm an cdv ct) ⟨us, []⟩ = pure (ps.zip us)) :
    Nm.Df K mg x st ps f (PySem.W.fnOf x x (defArgs st) (defBody st) (defScope st) .none kV doc pm an cdv ct) := ⟨fun_mk (st := st) l c k, PySem.W.mg_of X G n, (fun_mk (st := st) l c k).binds hb⟩
/-- a maker's table -/
structure TabF (K : PySem.W.Frag) (h : Heap) (c P : Addr) : Prop where
  e : h.get? P = some { cls := .none, data := .fields #[] }
  n : K.lookup P = none
  c : PySem.W.CodeHd h c P
theorem tabF_mk {K : PySem.W.Frag} {h : Heap} {c P : Addr} {e : Value} {dd : Option Addr} {vs : Array Value} {sl : Array (Option Value)} (X : K.In h) (l : K.lookup c = some ⟨e, dd, .fields vs, sl⟩) (v : vs[11]? = some (.ref P)) (i : PySem.W.codeHdIn K c P = true) (t : h.get? P = some { cls := .none, data := .fields #[] }) (n : K.lookup P = none) : TabF K h c P := ⟨t, n, PySem.W.codeHd_of_K X i⟩
theorem walk_ofTX {l : PySem.W.OpenLaw} {n k : Nat} {q : Program} {loose : List Str} {XP : (Str → Option Value) → Heap → Prop} {YP : World → Heap → Prop} {d : DefRec} {K : Params → PySem.W.Frag} {CX : World → CXT} {x : Str}
    (hn : l.most = some n) (hn2 : n ≤ sizeLine) (hdf : d.params.defaults = []) (hr : Room k callerA) (hY : ∀ (w : World) (h : Heap), YP w h → (K w.params).In h)
    (F : ∀ (w : World) (mg : Str → Option Value) (fa : Addr) (h : Heap), XP mg h → YP w h → (K w.params).In h → h.Ns mainGlobals mg → mg d.name = some (.ref fa) → LawAtS l w (K w.params) (CX w) k n x mg fa h)
    (hCX : ∀ (w : World) (H : Hp) (s : Shared) (e : Value) (s' : Shared), CX w [] H s (fun _ _ _ => False) e s' → False) :
    PySem.W.WalkO q loose XP YP l.row.toRowW d [] (fun f vs => PySem.call f vs) := by
  refine Att.attach_callB hn hdf fun w s₀ s₁ mg mb fa o pm cd doc a vs ns G Y ho hd hcd hmg hobj hints hlen hbits hg => ?_
  have KX := hY w _ Y
  obtain ⟨fd, cs, sp, hT, nT, C, hb, hsp, hF⟩ := F w mg fa _ G.X Y KX G.T.g hmg
  exact law_callTs KX G.T.g G.T.b G.T.builtins G.T.nolimit hg hT nT C G.T.bmain hobj hints (Nat.le_trans hlen hn2) hr hF hb (fun H hH hS => hsp H a ns hlen hbits hH hS) fun H e s' => hCX w H s₁ e s'
/-- what is written of the classes and of the makers of lambdas -/
structure ClsW (P : Program) (K : PySem.W.Frag) (mg : Str → Option Value) (h : Heap) (c0 cM cW finit feq fwinit fnext frefuse ftaken fneed fnend fbegun cneed cbegun Pneed Pbegun : Addr) (dinit deq dwinit dnext drefuse dtaken dneed dnend dbegun : FuncData) : Prop where
  e0 : NmE.Err P K mg "BadText" c0 ["line", "column"]
  s0 : PySem.W.subIn K (.ref c0) (.ref c0) = some true
  gM : mg "Made" = some (.ref cM)
  mkM : L2.Mk K cM finit
  mm : Nm.MadeC K cM feq
  gW : mg "LineWalk" = some (.ref cW)
  mkW : L2.Mk K cW fwinit
  clW : L2.Cls K cW
  nf : L2.NoAttr K cW "found"
  nl : L2.NoAttr K cW "line"
  na : L2.NoAttr K cW "at"
  mnext : L2.Meth K cW "next_seen" fnext
  mrefuse : L2.Meth K cW "refuse" frefuse
  mtaken : L2.Meth K cW "taken" ftaken
  mneed : L2.Meth K cW "need" fneed
  mnend : L2.Meth K cW "need_end" fnend
  Dinit : Nm.Dm K "__init__" "Made.__init__" sinit ["self", "maker", "parts"] finit dinit
  Deq : Nm.Dm K "__eq__" "Made.__eq__" seq ["self", "other"] feq deq
  Dwinit : Nm.Dm K "__init__" "LineWalk.__init__" swinit ["self", "line_text", "line"] fwinit dwinit
  Dnext : Nm.Dm K "next_seen" "LineWalk.next_seen" snext ["self"] fnext dnext
  Drefuse : Nm.Dm K "refuse" "LineWalk.refuse" srefuse ["self"] frefuse drefuse
  Dtaken : Nm.Dm K "taken" "LineWalk.taken" staken ["self", "is_right"] ftaken dtaken
  Dneed : Nm.Dm K "need" "LineWalk.need" sneed ["self", "told"] fneed dneed
  Dnend : Nm.Dm K "need_end" "LineWalk.need_end" snend ["self"] fnend dnend
  Dbegun : Nm.Df K mg "begun" sbegun ["walk", "frames"] fbegun dbegun
  hneed : dneed.code = .ref cneed
  tneed : TabF K h cneed Pneed
  hbegun : dbegun.code = .ref cbegun
  tbegun : TabF K h cbegun Pbegun
  n01 : Pneed ≠ Pbegun
end K04


open PySem PySem.W PyProof.Rows
set_option maxRecDepth 100000 in
set_option maxHeartbeats 0 in
theorem PySem.Challenge.cw_namedmeets_k04_texts_of_values_refused_holds : PySem.Challenge.rw_namedmeets_k04_texts_of_values_refused.Holds := by
  w_on; o_law; k_head; (case hw => w_witness2)
  k_fill
  refine K04.walk_ofTX (l := PySem.Challenge.rw_namedmeets_k04_texts_of_values_refused) (n := 63) (k := 207) (x := "_law_script") (CX := fun _ => L2.CX0) rfl (by decide) rfl ⟨rfl, by decide, by decide⟩ (fun w h Y => PySem.W.km_in_of Y) ?F (fun _ _ _ _ _ z => z)
  case F =>
    intro w mg fa h XP Y KX G hmg
    have hT8 := PySem.W.km_tabs_of Y
    obtain ⟨anamed, fdnamed, Dnamed⟩ : ∃ a fd, Nm.Df _ mg "is_named" K04.snamed ["word", "first"] a fd := by
      refine' Nm.df_mk KX G ?n ?l ?c ?k (fun _ _ _ _ _ _ us hl => match us, hl with | [_, _], _ => rfl)
      (case n => k_is); (case l => k_is); (case c => k_is); (case k => k_is)
    obtain ⟨abig, fdbig, Dbig⟩ : ∃ a fd, Nm.Df _ mg "is_big" K04.sbig ["word"] a fd := by
      refine' Nm.df_mk KX G ?n ?l ?c ?k (fun _ _ _ _ _ _ us hl => match us, hl with | [_], _ => rfl)
      (case n => k_is); (case l => k_is); (case c => k_is); (case k => k_is)
    obtain ⟨anumber, fdnumber, Dnumber⟩ : ∃ a fd, Nm.Df _ mg "is_number" K04.snumber ["word"] a fd := by
      refine' Nm.df_mk KX G ?n ?l ?c ?k (fun _ _ _ _ _ _ us hl => match us, hl with | [_], _ => rfl)
      (case n => k_is); (case l => k_is); (case c => k_is); (case k => k_is)
    obtain ⟨awords, fdwords, Dwords⟩ : ∃ a fd, Nm.Df _ mg "words_of" K04.swords ["line"] a fd := by
      refine' Nm.df_mk KX G ?n ?l ?c ?k (fun _ _ _ _ _ _ us hl => match us, hl with | [_], _ => rfl)
      (case n => k_is); (case l => k_is); (case c => k_is); (case k => k_is)
    obtain ⟨avfrom, fdvfrom, Dvfrom⟩ : ∃ a fd, Nm.Df _ mg "value_from" K04.svfrom ["text"] a fd := by
      refine' Nm.df_mk KX G ?n ?l ?c ?k (fun _ _ _ _ _ _ us hl => match us, hl with | [_], _ => rfl)
      (case n => k_is); (case l => k_is); (case c => k_is); (case k => k_is)
    obtain ⟨apen, fdpen, Dpen⟩ : ∃ a fd, Nm.Df _ mg "_law_pen" K04.spen ["_law_script"] a fd := by
      refine' Nm.df_mk KX G ?n ?l ?c ?k (fun _ _ _ _ _ _ us hl => match us, hl with | [_], _ => rfl)
      (case n => k_is); (case l => k_is); (case c => k_is); (case k => k_is)
    obtain ⟨adraw, fddraw, Ddraw⟩ : ∃ a fd, Nm.Df _ mg "_law_draw" K04.sdraw ["_law_pen_here", "_law_many"] a fd := by
      refine' Nm.df_mk KX G ?n ?l ?c ?k (fun _ _ _ _ _ _ us hl => match us, hl with | [_, _], _ => rfl)
      (case n => k_is); (case l => k_is); (case c => k_is); (case k => k_is)
    obtain ⟨apick, fdpick, Dpick⟩ : ∃ a fd, Nm.Df _ mg "_law_pick" K04.spick ["_law_pen_here", "_law_some"] a fd := by
      refine' Nm.df_mk KX G ?n ?l ?c ?k (fun _ _ _ _ _ _ us hl => match us, hl with | [_, _], _ => rfl)
      (case n => k_is); (case l => k_is); (case c => k_is); (case k => k_is)
    obtain ⟨avtext, fdvtext, Dvtext⟩ : ∃ a fd, Nm.Df _ mg "_law_value_text" K04.svtext ["_law_value", "_law_is_outer"] a fd := by
      refine' Nm.df_mk KX G ?n ?l ?c ?k (fun _ _ _ _ _ _ us hl => match us, hl with | [_, _], _ => rfl)
      (case n => k_is); (case l => k_is); (case c => k_is); (case k => k_is)
    obtain ⟨aown, fdown, Down⟩ : ∃ a fd, Nm.Df _ mg "_law_own" K04.sown ["_law_value"] a fd := by
      refine' Nm.df_mk KX G ?n ?l ?c ?k (fun _ _ _ _ _ _ us hl => match us, hl with | [_], _ => rfl)
      (case n => k_is); (case l => k_is); (case c => k_is); (case k => k_is)
    obtain ⟨amakers, fdmakers, Dmakers⟩ : ∃ a fd, Nm.Df _ mg "_law_makers" K04.smakers ["_law_kinds", "_law_kind"] a fd := by
      refine' Nm.df_mk KX G ?n ?l ?c ?k (fun _ _ _ _ _ _ us hl => match us, hl with | [_, _], _ => rfl)
      (case n => k_is); (case l => k_is); (case c => k_is); (case k => k_is)
    obtain ⟨asval, fdsval, Dsval⟩ : ∃ a fd, Nm.Df _ mg "_law_some_value" K04.ssval ["_law_pen_here", "_law_kinds", "_law_kind", "_law_depth"] a fd := by
      refine' Nm.df_mk KX G ?n ?l ?c ?k (fun _ _ _ _ _ _ us hl => match us, hl with | [_, _, _, _], _ => rfl)
      (case n => k_is); (case l => k_is); (case c => k_is); (case k => k_is)
    obtain ⟨asigns, fdsigns, Dsigns⟩ : ∃ a fd, Nm.Df _ mg "_law_signs" K04.ssigns [] a fd := by
      refine' Nm.df_mk KX G ?n ?l ?c ?k (fun _ _ _ _ _ _ us hl => match us, hl with | [], _ => rfl)
      (case n => k_is); (case l => k_is); (case c => k_is); (case k => k_is)
    obtain ⟨alwords, fdlwords, Dlwords⟩ : ∃ a fd, Nm.Df _ mg "_law_words" K04.slwords ["_law_line"] a fd := by
      refine' Nm.df_mk KX G ?n ?l ?c ?k (fun _ _ _ _ _ _ us hl => match us, hl with | [_], _ => rfl)
      (case n => k_is); (case l => k_is); (case c => k_is); (case k => k_is)
    obtain ⟨akind, fdkind, Dkind⟩ : ∃ a fd, Nm.Df _ mg "_law_word_kind" K04.skind ["_law_word"] a fd := by
      refine' Nm.df_mk KX G ?n ?l ?c ?k (fun _ _ _ _ _ _ us hl => match us, hl with | [_], _ => rfl)
      (case n => k_is); (case l => k_is); (case c => k_is); (case k => k_is)
    obtain ⟨aseen, fdseen, Dseen⟩ : ∃ a fd, Nm.Df _ mg "_law_seen" K04.sseen ["_law_state"] a fd := by
      refine' Nm.df_mk KX G ?n ?l ?c ?k (fun _ _ _ _ _ _ us hl => match us, hl with | [_], _ => rfl)
      (case n => k_is); (case l => k_is); (case c => k_is); (case k => k_is)
    obtain ⟨atake, fdtake, Dtake⟩ : ∃ a fd, Nm.Df _ mg "_law_take" K04.stake ["_law_state", "_law_kinds"] a fd := by
      refine' Nm.df_mk KX G ?n ?l ?c ?k (fun _ _ _ _ _ _ us hl => match us, hl with | [_, _], _ => rfl)
      (case n => k_is); (case l => k_is); (case c => k_is); (case k => k_is)
    obtain ⟨acolumn, fdcolumn, Dcolumn⟩ : ∃ a fd, Nm.Df _ mg "_law_column" K04.scolumn ["_law_state"] a fd := by
      refine' Nm.df_mk KX G ?n ?l ?c ?k (fun _ _ _ _ _ _ us hl => match us, hl with | [_], _ => rfl)
      (case n => k_is); (case l => k_is); (case c => k_is); (case k => k_is)
    obtain ⟨aread, fdread, Dread⟩ : ∃ a fd, Nm.Df _ mg "_law_read" K04.sread ["_law_state", "_law_is_atom"] a fd := by
      refine' Nm.df_mk KX G ?n ?l ?c ?k (fun _ _ _ _ _ _ us hl => match us, hl with | [_, _], _ => rfl)
      (case n => k_is); (case l => k_is); (case c => k_is); (case k => k_is)
    obtain ⟨adue, fddue, Ddue⟩ : ∃ a fd, Nm.Df _ mg "_law_due" K04.sdue ["_law_text"] a fd := by
      refine' Nm.df_mk KX G ?n ?l ?c ?k (fun _ _ _ _ _ _ us hl => match us, hl with | [_], _ => rfl)
      (case n => k_is); (case l => k_is); (case c => k_is); (case k => k_is)
    obtain ⟨atold, fdtold, Dtold⟩ : ∃ a fd, Nm.Df _ mg "_law_told" K04.stold ["_law_text"] a fd := by
      refine' Nm.df_mk KX G ?n ?l ?c ?k (fun _ _ _ _ _ _ us hl => match us, hl with | [_], _ => rfl)
      (case n => k_is); (case l => k_is); (case c => k_is); (case k => k_is)
    obtain ⟨aspoilt, fdspoilt, Dspoilt⟩ : ∃ a fd, Nm.Df _ mg "_law_spoilt" K04.sspoilt ["_law_pen_here", "_law_words_here"] a fd := by
      refine' Nm.df_mk KX G ?n ?l ?c ?k (fun _ _ _ _ _ _ us hl => match us, hl with | [_, _], _ => rfl)
      (case n => k_is); (case l => k_is); (case c => k_is); (case k => k_is)
    obtain ⟨alaw, fdlaw, Dlaw, Blaw⟩ : ∃ a fd, Nm.Df _ mg "law" K04.slaw ["_law_script"] a fd ∧ ∀ (s : Shared) (us : List Value), us.length = (["_law_script"] : List Str).length → BindsTo s fd ⟨us, []⟩ ((["_law_script"] : List Str).zip us) := by
      refine' Nm.df_mkB KX G ?n ?l ?c ?k (fun _ _ _ _ _ _ us hl => match us, hl with | [_], _ => rfl)
      (case n => k_is); (case l => k_is); (case c => k_is); (case k => k_is)
    obtain ⟨c0, cM, cW, finit, feq, fwinit, fnext, frefuse, ftaken, fneed, fnend, fbegun, cneed, cbegun, Pneed, Pbegun, dinit, deq, dwinit, dnext, drefuse, dtaken, dneed, dnend, dbegun, W⟩ : ∃ (c0 cM cW finit feq fwinit fnext frefuse ftaken fneed fnend fbegun cneed cbegun Pneed Pbegun : Addr) (dinit deq dwinit dnext drefuse dtaken dneed dnend dbegun : FuncData), K04.ClsW PySem.Challenge.rw_namedmeets_k04_texts_of_values_refused.prog _ mg h c0 cM cW finit feq fwinit fnext frefuse ftaken fneed fnend fbegun cneed cbegun Pneed Pbegun dinit deq dwinit dnext drefuse dtaken dneed dnend dbegun := by
      refine' ⟨_, _, _, _, _, _, _, _, _, _, _, _, _, _, _, _, _, _, _, _, _, _, _, _, _, { e0 := NmE.err_mk (st := K04.sIni0) KX G ?n0 ?c0 ?hbm0 ?sa0 ?ga0 ?gg0 ?noN0 ?kC0 ?exC0 ?veC0 ?tyC0 ?hdC0 ?opq0 ?own0 ?nsp0 ?iC0 ?tI0 ?lI0 ?hcr0 ?hcc0 ?hcd0 ?hvs0 ?hfile0 ?sup0 ?top0 K04.ini0 (K04.bind0 _), s0 := ?s0, gM := PySem.W.mg_of KX G ?gM, mkM := ⟨?mkm, ?mki, ?mkf, ?mkk⟩, mm := { cl := ⟨?pg, ?hd, ?po, ?sa⟩, nM := ?mnM, nP := ?mnP, eq := ?meq, fn := ?mfn, ne := ?mne, ob := ?mob, int := ?mint, nf := ?mnf, ha := ?mha, hn := ?mhn, ht := ?mht, hm := ?mhm, kI := ?mkI, kM := ?mkM, iM := ?miM }, gW := PySem.W.mg_of KX G ?gW, mkW := ⟨?wkm, ?wki, ?wkf, ?wkk⟩, clW := ⟨?wpg, ?whd, ?wpo, ?wsa⟩, nf := ?nf, nl := ?nl, na := ?na, mnext := ⟨?anext, ?bnext, ?gnext⟩, mrefuse := ⟨?arefuse, ?brefuse, ?grefuse⟩, mtaken := ⟨?ataken, ?btaken, ?gtaken⟩, mneed := ⟨?aneed, ?bneed, ?gneed⟩, mnend := ⟨?anend, ?bnend, ?gnend⟩, Dinit := K04.dm_mk (st := K04.sinit) ?hinit ?e0init ?e1init ?e2init ?e3init ?e4init ?e5init ?e6init ?cinit ?kinit (fun _ _ _ _ _ _ us hl => match us, hl with | [_, _, _], _ => rfl), Deq := K04.dm_mk (st := K04.seq) ?heq ?e0eq ?e1eq ?e2eq ?e3eq ?e4eq ?e5eq ?e6eq ?ceq ?keq (fun _ _ _ _ _ _ us hl => match us, hl with | [_, _], _ => rfl), Dwinit := K04.dm_mk (st := K04.swinit) ?hwinit ?e0winit ?e1winit ?e2winit ?e3winit ?e4winit ?e5winit ?e6winit ?cwinit ?kwinit (fun _ _ _ _ _ _ us hl => match us, hl with | [_, _, _], _ => rfl), Dnext := K04.dm_mk (st := K04.snext) ?hnext ?e0next ?e1next ?e2next ?e3next ?e4next ?e5next ?e6next ?cnext ?knext (fun _ _ _ _ _ _ us hl => match us, hl with | [_], _ => rfl), Drefuse := K04.dm_mk (st := K04.srefuse) ?hrefuse ?e0refuse ?e1refuse ?e2refuse ?e3refuse ?e4refuse ?e5refuse ?e6refuse ?crefuse ?krefuse (fun _ _ _ _ _ _ us hl => match us, hl with | [_], _ => rfl), Dtaken := K04.dm_mk (st := K04.staken) ?htaken ?e0taken ?e1taken ?e2taken ?e3taken ?e4taken ?e5taken ?e6taken ?ctaken ?ktaken (fun _ _ _ _ _ _ us hl => match us, hl with | [_, _], _ => rfl), Dneed := K04.dm_mk (st := K04.sneed) ?hneed ?e0need ?e1need ?e2need ?e3need ?e4need ?e5need ?e6need ?cneed ?kneed (fun _ _ _ _ _ _ us hl => match us, hl with | [_, _], _ => rfl), Dnend := K04.dm_mk (st := K04.snend) ?hnend ?e0nend ?e1nend ?e2nend ?e3nend ?e4nend ?e5nend ?e6nend ?cnend ?knend (fun _ _ _ _ _ _ us hl => match us, hl with | [_], _ => rfl), Dbegun := K04.df_at (st := K04.sbegun) KX G ?nbegun ?lbegun ?cbegun ?kbegun (fun _ _ _ _ _ _ us hl => match us, hl with | [_, _], _ => rfl), hneed := ?qneed, tneed := K04.tabF_mk KX ?tlneed ?tvneed ?tineed ?ttneed ?tnneed, hbegun := ?qbegun, tbegun := K04.tabF_mk KX ?tlbegun ?tvbegun ?tibegun ?ttbegun ?tnbegun, n01 := ?n01 }⟩
      (case n0 => k_is)
      (case c0 => k_is)
      (case hbm0 => decide +kernel)
      (case sa0 => k_is)
      (case ga0 => k_is)
      (case gg0 => k_is)
      (case noN0 => intro f hf; rcases List.mem_cons.mp hf with rfl | hf; (· k_is); rcases List.mem_cons.mp hf with rfl | hf; (· k_is); cases hf)
      (case kC0 => k_is)
      (case exC0 => k_is)
      (case veC0 => k_is)
      (case tyC0 => k_is)
      (case hdC0 => k_is)
      (case opq0 => k_is)
      (case own0 => k_is)
      (case nsp0 => k_is)
      (case iC0 => k_is)
      (case tI0 => k_is)
      (case lI0 =>
        refine' NmE.fn_split ?h ?e1 ?e2 ?e3 ?e4 ?e5 ?e6 ?e7
        (case h => k_is); (case e1 => rfl); (case e2 => rfl); (case e3 => rfl); (case e4 => rfl); (case e5 => rfl); (case e6 => rfl); (case e7 => rfl))
      (case hcr0 => k_is)
      (case hcc0 => k_is)
      (case hcd0 => k_is)
      (case hvs0 => rfl)
      (case hfile0 => first | rfl | decide +kernel)
      (case sup0 => ks_is)
      (case top0 => first | rfl | decide +kernel)
      (case s0 => k_is)
      (case gM => k_is)
      (case mki => k_is)
      (case meq => k_is)
      (case gW => k_is)
      (case wki => k_is)
      (case mkm => k_is)
      (case mkf => k_is)
      (case mkk => k_is)
      (case pg => k_is)
      (case hd => k_is)
      (case po => k_is)
      (case sa => k_is)
      (case wkm => k_is)
      (case wkf => k_is)
      (case wkk => k_is)
      (case wpg => k_is)
      (case whd => k_is)
      (case wpo => k_is)
      (case wsa => k_is)
      (case mnM => unfold L2.NoAttr; k_is)
      (case mnP => unfold L2.NoAttr; k_is)
      (case mfn => k_is)
      (case mne => k_is)
      (case mob => k_is)
      (case mint => k_is)
      (case mnf => k_is)
      (case mha => k_is)
      (case mhn => k_is)
      (case mht => k_is)
      (case mhm => k_is)
      (case mkI => kit_is)
      (case mkM => kit_is)
      (case miM => kit_is)
      (case nf => unfold L2.NoAttr; k_is)
      (case nl => unfold L2.NoAttr; k_is)
      (case na => unfold L2.NoAttr; k_is)
      (case anext => k_is); (case bnext => k_is); (case gnext => k_is)
      (case arefuse => k_is); (case brefuse => k_is); (case grefuse => k_is)
      (case ataken => k_is); (case btaken => k_is); (case gtaken => k_is)
      (case aneed => k_is); (case bneed => k_is); (case gneed => k_is)
      (case anend => k_is); (case bnend => k_is); (case gnend => k_is)
      (case hinit => k_is)
      (case e0init => rfl); (case e1init => rfl); (case e2init => rfl); (case e3init => rfl); (case e4init => rfl); (case e5init => rfl); (case e6init => rfl)
      (case cinit => k_is); (case kinit => k_is)
      (case heq => k_is)
      (case e0eq => rfl); (case e1eq => rfl); (case e2eq => rfl); (case e3eq => rfl); (case e4eq => rfl); (case e5eq => rfl); (case e6eq => rfl)
      (case ceq => k_is); (case keq => k_is)
      (case hwinit => k_is)
      (case e0winit => rfl); (case e1winit => rfl); (case e2winit => rfl); (case e3winit => rfl); (case e4winit => rfl); (case e5winit => rfl); (case e6winit => rfl)
      (case cwinit => k_is); (case kwinit => k_is)
      (case hnext => k_is)
      (case e0next => rfl); (case e1next => rfl); (case e2next => rfl); (case e3next => rfl); (case e4next => rfl); (case e5next => rfl); (case e6next => rfl)
      (case cnext => k_is); (case knext => k_is)
      (case hrefuse => k_is)
      (case e0refuse => rfl); (case e1refuse => rfl); (case e2refuse => rfl); (case e3refuse => rfl); (case e4refuse => rfl); (case e5refuse => rfl); (case e6refuse => rfl)
      (case crefuse => k_is); (case krefuse => k_is)
      (case htaken => k_is)
      (case e0taken => rfl); (case e1taken => rfl); (case e2taken => rfl); (case e3taken => rfl); (case e4taken => rfl); (case e5taken => rfl); (case e6taken => rfl)
      (case ctaken => k_is); (case ktaken => k_is)
      (case hneed => k_is)
      (case e0need => rfl); (case e1need => rfl); (case e2need => rfl); (case e3need => rfl); (case e4need => rfl); (case e5need => rfl); (case e6need => rfl)
      (case cneed => k_is); (case kneed => k_is)
      (case hnend => k_is)
      (case e0nend => rfl); (case e1nend => rfl); (case e2nend => rfl); (case e3nend => rfl); (case e4nend => rfl); (case e5nend => rfl); (case e6nend => rfl)
      (case cnend => k_is); (case knend => k_is)
      (case nbegun => k_is); (case lbegun => k_is); (case cbegun => k_is); (case kbegun => k_is)
      (case qneed => rfl)
      (case tlneed => k_is); (case tvneed => rfl); (case tineed => kernel_rfl); (case ttneed => exact hT8 _ (by k_mem)); (case tnneed => kernel_rfl)
      (case qbegun => rfl)
      (case tlbegun => k_is); (case tvbegun => rfl); (case tibegun => kernel_rfl); (case ttbegun => exact hT8 _ (by k_mem)); (case tnbegun => kernel_rfl)
      (case n01 => decide)
    obtain ⟨tBIG_LETTERS, gBIG_LETTERS⟩ : ∃ t, mg "BIG_LETTERS" = some (.str "ABCDEFGHIJKLMNOPQRSTUVWXYZ" t) := by
      refine' Nm.str_mk KX G ?n
      (case n => k_is)
    obtain ⟨tSMALL_LETTERS, gSMALL_LETTERS⟩ : ∃ t, mg "SMALL_LETTERS" = some (.str "abcdefghijklmnopqrstuvwxyz" t) := by
      refine' Nm.str_mk KX G ?n
      (case n => k_is)
    obtain ⟨tDIGITS, gDIGITS⟩ : ∃ t, mg "DIGITS" = some (.str "0123456789" t) := by
      refine' Nm.str_mk KX G ?n
      (case n => k_is)
    obtain ⟨tLATER, gLATER⟩ : ∃ t, mg "LATER" = some (.str "ABCDEFGHIJKLMNOPQRSTUVWXYZabcdefghijklmnopqrstuvwxyz0123456789_" t) := Nm.loose_mk XP (.head _)
    have n_len : mg "len" = none := by
      refine' PySem.W.mg_none_of KX G ?n
      (case n => k_is)
    have n_all : mg "all" = none := by
      refine' PySem.W.mg_none_of KX G ?n
      (case n => k_is)
    have n_enumerate : mg "enumerate" = none := by
      refine' PySem.W.mg_none_of KX G ?n
      (case n => k_is)
    have n_list : mg "list" = none := by
      refine' PySem.W.mg_none_of KX G ?n
      (case n => k_is)
    have n_int : mg "int" = none := by
      refine' PySem.W.mg_none_of KX G ?n
      (case n => k_is)
    have n_str : mg "str" = none := by
      refine' PySem.W.mg_none_of KX G ?n
      (case n => k_is)
    have n_range : mg "range" = none := by
      refine' PySem.W.mg_none_of KX G ?n
      (case n => k_is)
    have n_isinstance : mg "isinstance" = none := by
      refine' PySem.W.mg_none_of KX G ?n
      (case n => k_is)
    have n_tuple : mg "tuple" = none := by
      refine' PySem.W.mg_none_of KX G ?n
      (case n => k_is)
    have n_zip : mg "zip" = none := by
      refine' PySem.W.mg_none_of KX G ?n
      (case n => k_is)
    have n_super : mg "super" = none := by
      refine' PySem.W.mg_none_of KX G ?n
      (case n => k_is)
    have e : fa = alaw := Value.ref.inj (Option.some.inj (hmg.symm.trans Dlaw.g))
    subst e
    obtain ⟨T, hTa, hTf, qneed, qbegun⟩ : ∃ T : K04.Tx PySem.Challenge.rw_namedmeets_k04_texts_of_values_refused.prog _ mg, T.alaw = fa ∧ T.fdlaw = fdlaw ∧ (T.cneed = cneed ∧ T.Pneed = Pneed) ∧ (T.cbegun = cbegun ∧ T.Pbegun = Pbegun) := ⟨{ ainit := finit, fdinit := dinit, Dinit := W.Dinit, aeq := feq, fdeq := deq, Deq := W.Deq, awinit := fwinit, fdwinit := dwinit, Dwinit := W.Dwinit, anext := fnext, fdnext := dnext, Dnext := W.Dnext, arefuse := frefuse, fdrefuse := drefuse, Drefuse := W.Drefuse, ataken := ftaken, fdtaken := dtaken, Dtaken := W.Dtaken, aneed := fneed, fdneed := dneed, Dneed := W.Dneed, anend := fnend, fdnend := dnend, Dnend := W.Dnend, anamed := anamed, fdnamed := fdnamed, Dnamed := Dnamed, abig := abig, fdbig := fdbig, Dbig := Dbig, anumber := anumber, fdnumber := fdnumber, Dnumber := Dnumber, awords := awords, fdwords := fdwords, Dwords := Dwords, abegun := fbegun, fdbegun := dbegun, Dbegun := W.Dbegun, avfrom := avfrom, fdvfrom := fdvfrom, Dvfrom := Dvfrom, apen := apen, fdpen := fdpen, Dpen := Dpen, adraw := adraw, fddraw := fddraw, Ddraw := Ddraw, apick := apick, fdpick := fdpick, Dpick := Dpick, avtext := avtext, fdvtext := fdvtext, Dvtext := Dvtext, aown := aown, fdown := fdown, Down := Down, amakers := amakers, fdmakers := fdmakers, Dmakers := Dmakers, asval := asval, fdsval := fdsval, Dsval := Dsval, asigns := asigns, fdsigns := fdsigns, Dsigns := Dsigns, alwords := alwords, fdlwords := fdlwords, Dlwords := Dlwords, akind := akind, fdkind := fdkind, Dkind := Dkind, aseen := aseen, fdseen := fdseen, Dseen := Dseen, atake := atake, fdtake := fdtake, Dtake := Dtake, acolumn := acolumn, fdcolumn := fdcolumn, Dcolumn := Dcolumn, aread := aread, fdread := fdread, Dread := Dread, adue := adue, fddue := fddue, Ddue := Ddue, atold := atold, fdtold := fdtold, Dtold := Dtold, aspoilt := aspoilt, fdspoilt := fdspoilt, Dspoilt := Dspoilt, alaw := fa, fdlaw := fdlaw, Dlaw := Dlaw, t_BIG_LETTERS := tBIG_LETTERS, g_BIG_LETTERS := gBIG_LETTERS, t_SMALL_LETTERS := tSMALL_LETTERS, g_SMALL_LETTERS := gSMALL_LETTERS, t_DIGITS := tDIGITS, g_DIGITS := gDIGITS, t_LATER := tLATER, g_LATER := gLATER, n_len := n_len, n_all := n_all, n_enumerate := n_enumerate, n_list := n_list, n_int := n_int, n_str := n_str, n_range := n_range, n_isinstance := n_isinstance, n_tuple := n_tuple, n_zip := n_zip, n_super := n_super, CBadText := c0, EBadText := W.e0, x_BadText_BadText := PySem.W.exm_ref W.e0.exC W.e0.hdC W.e0.tyC W.s0, CM := cM, g_Made := W.gM, M_Made := W.mkM, MM := W.mm, CW := cW, g_LineWalk := W.gW, M_LineWalk := W.mkW, cW := W.clW, nW_found := W.nf, nW_line := W.nl, nW_at := W.na, mW_next := W.mnext, mW_refuse := W.mrefuse, mW_taken := W.mtaken, mW_need := W.mneed, mW_nend := W.mnend, cneed := cneed, Pneed := Pneed, hcneed := W.hneed, cbegun := cbegun, Pbegun := Pbegun, hcbegun := W.hbegun, hP1 := W.n01 }, rfl, rfl, ⟨rfl, rfl⟩, ⟨rfl, rfl⟩⟩
    refine ⟨T.fdlaw, [(cneed, Pneed), (cbegun, Pbegun)], K04.spLaw T, ?_, ?_, ?_, fun s v => by rw [hTf]; exact Blaw s [v] rfl, ?_, ?_⟩
    · intro q hq
      rcases List.mem_cons.mp hq with rfl | hq
      · exact W.tneed.e
      rcases List.mem_cons.mp hq with rfl | hq
      · exact W.tbegun.e
      cases hq
    · intro q hq
      rcases List.mem_cons.mp hq with rfl | hq
      · exact W.tneed.n
      rcases List.mem_cons.mp hq with rfl | hq
      · exact W.tbegun.n
      cases hq
    · intro q hq
      rcases List.mem_cons.mp hq with rfl | hq
      · exact W.tneed.c
      rcases List.mem_cons.mp hq with rfl | hq
      · exact W.tbegun.c
      cases hq
    · intro H a ns _ _ hH hS
      refine ⟨a, ns, rfl, hS, fun q hq => ?_, fun _ => rfl⟩
      rcases List.mem_cons.mp hq with rfl | hq
      · exact LamX.TabS.nil (by rw [show (_ : Addr) = Pneed from qneed.2]; exact hH (cneed, Pneed) (by simp))
      rcases List.mem_cons.mp hq with rfl | hq
      · exact LamX.TabS.nil (by rw [show (_ : Addr) = Pbegun from qbegun.2]; exact hH (cbegun, Pbegun) (by simp))
      cases hq
    · intro base _ _ hTB
      have bneed : LamX.TabB base mg T.cneed T.Pneed := by rw [qneed.1, qneed.2]; exact hTB (cneed, Pneed) (by simp)
      have bbegun : LamX.TabB base mg T.cbegun T.Pbegun := by rw [qbegun.1, qbegun.2]; exact hTB (cbegun, Pbegun) (by simp)
      rw [← hTa]
      exact K04.ok_law T bneed bbegun


