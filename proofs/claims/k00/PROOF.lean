import PyProof.Rows.All
import Wide.All
import OpenK.AllK
import Wide.FinOn
import HandS.ForMost
import HandS.Walk
import HandS.IsInst
import HandS.Flow
import HandS.Wide
import HandS.Conv
import PyProof.ListStr
import PyProof.StrOps2
import KE.GoesEnum
import HandS.Exc
import HandS.ExcInit
import HandS.ExcOwn
import HandS.TryMany
import KE.KExcSuper
import KE.KExcMake
import KE.KSuper
import HandS.Style
import KE.KDictSum
import HandS.WordsExc
import KE.RegKSuper
import HandS.ExcIs
import KE.KExcIs
import PyProof.ReprRoads
import PyProof.CallFns
import PySem.Challenge.RW_namedmeets_k00_errors
set_option Elab.async false
set_option linter.all false
set_option maxRecDepth 100000
set_option maxHeartbeats 4000000
/-! The own layer: heaps that only grow but for dicts, readings by names, steps. -/
namespace Nm
open PySem PySem.Spec PyProof.Rows L2

/-! ### heaps -/
def isD : HO → Bool
  | .dK _ => true
  | .dT _ => true
  | _ => false
/-- all that is tracked stands, but dicts may change -/
def Keep (H H' : Hp) : Prop := ∀ a o, H a = some o → isD o = false → H' a = some o
theorem Keep.refl (H : Hp) : Keep H H := fun _ _ h _ => h
theorem Keep.trans {H H1 H2 : Hp} (a : Keep H H1) (b : Keep H1 H2) : Keep H H2 := fun x o h z => b x o (a x o h z) z
theorem same_keep {H H' : Hp} (a : Same H H') : Keep H H' := fun x o h _ => a x o h
theorem Keep.rdL {H H' : Hp} {a : Addr} {xs : List V} (k : Keep H H') (h : Rd H a (.lst xs)) : Rd H' a (.lst xs) := by
  rcases h with h | ⟨o, h⟩
  · exact .inl (k _ _ h rfl)
  · exact .inr ⟨o, k _ _ h rfl⟩
theorem Keep.rdT {H H' : Hp} {a : Addr} {xs : List V} (k : Keep H H') (h : Rd H a (.tup xs)) : Rd H' a (.tup xs) := by
  rcases h with h | ⟨o, h⟩
  · exact .inl (k _ _ h rfl)
  · exact .inr ⟨o, k _ _ h rfl⟩
theorem Keep.l {K : PySem.W.Frag} {H H' : Hp} {a : Addr} {xs : List V} (k : Keep H H') (h : SqL K H a xs) : SqL K H' a xs := by
  rcases h with h | h
  · exact .inl (k.rdL h)
  · exact .inr h
theorem Keep.t {K : PySem.W.Frag} {H H' : Hp} {a : Addr} {xs : List V} (k : Keep H H') (h : SqT K H a xs) : SqT K H' a xs := by
  rcases h with h | h
  · exact .inl (k.rdT h)
  · exact .inr h
mutual
theorem dp_keep {K : PySem.W.Frag} {H H' : Hp} (k : Keep H H') : ∀ {v : V} {d : PyData}, Dp K H v d → Dp K H' v d
  | _, _, .non => .non
  | _, _, .bl b => .bl b
  | _, _, .int i => .int i
  | _, _, .str x => .str x
  | _, _, .lst h l => .lst (k.l h) (dps_keep k l)
  | _, _, .tup h l => .tup (k.t h) (dps_keep k l)
theorem dps_keep {K : PySem.W.Frag} {H H' : Hp} (k : Keep H H') : ∀ {v : List V} {d : List PyData}, DpAll K H v d → DpAll K H' v d
  | _, _, .nil => .nil
  | _, _, .cons h l => .cons (dp_keep k h) (dps_keep k l)
end
theorem Same.new {H : Hp} {p : Addr} {o : HO} (h : H p = none) : Same H (upd H p o) := fun b u e => by
  rw [upd_ne (ne_of_none e h)]
  exact e
/-- an object that H does not know may change -/
theorem Same.mut {H H' : Hp} {p : Addr} {o : HO} (e : Same H H') (h : H p = none) : Same H (upd H' p o) := fun b u q => by
  rw [upd_ne (ne_of_none q h)]
  exact e b u q
theorem Keep.mut {H H' : Hp} {p : Addr} {o : HO} (e : Keep H H') (h : H p = none) : Keep H (upd H' p o) := fun b u q z => by
  rw [upd_ne (ne_of_none q h)]
  exact e b u q z
/-- all but the object at d stands -/
def But (d : Addr) (H H' : Hp) : Prop := ∀ a o, a ≠ d → H a = some o → H' a = some o
theorem But.refl (d : Addr) (H : Hp) : But d H H := fun _ _ _ h => h
theorem But.trans {d : Addr} {H H1 H2 : Hp} (a : But d H H1) (b : But d H1 H2) : But d H H2 := fun x o n h => b x o n (a x o n h)
theorem But.keep {d : Addr} {H H' : Hp} {kvs : List (Key × V)} (b : But d H H') (h : H d = some (.dK kvs)) : Keep H H' := fun a o e z => by
  refine b a o (fun q => ?_) e
  rw [q, h] at e
  cases e
  cases z
theorem But.upd {d : Addr} {H : Hp} {o : HO} : But d H (upd H d o) := fun a u n e => by
  rw [upd_ne n]
  exact e
end Nm

/-! Rules of the own layer: text * int, list(text), enumerate(text). -/
namespace Nm
open PySem PySem.Spec PyProof.Rows L2
/-- z, n times -/
def mulS (z : Str) (n : Nat) : Str := ⟨(List.replicate n z.cps.toList).flatten.toArray⟩
theorem foldl_rep (x : Array Nat) : ∀ (n : Nat) (acc : Array Nat), ((List.replicate n x).foldl (· ++ ·) acc).toList = acc.toList ++ (List.replicate n x.toList).flatten
  | 0, acc => by simp
  | n + 1, acc => by
    rw [List.replicate_succ, List.foldl_cons, foldl_rep x n, List.replicate_succ, List.flatten_cons, Array.toList_append, List.append_assoc]
theorem rep_mulS (x : Str) (n : Nat) : (⟨(List.replicate n x.cps).foldl (· ++ ·) #[]⟩ : Str) = mulS x n := by
  unfold mulS
  congr 1
  apply Array.toList_inj.mp
  rw [foldl_rep]
  simp
theorem mulS_len (x : Str) (n : Nat) : (mulS x n).length = x.length * n := by
  show ((List.replicate n x.cps.toList).flatten.toArray).size = x.cps.size * n
  simp [Nat.mul_comm]
def rMulS : R2 := fun x y H Q => ∃ z n, x = .str z ∧ y = .int n ∧ 0 ≤ n ∧ n ≤ 100000 ∧ z.length ≤ 100 ∧ Q (.str (mulS z n.toNat)) H
theorem op_mulS {X : Cx} : OpR X (binaryOp .Mult) rMulS := by
  intro pins s σ H x y v u Q I rx ry h
  obtain ⟨z, n, rfl, rfl, h0, h1, hz, q⟩ := h
  obtain ⟨t, rfl⟩ := rx
  obtain ⟨t', rfl⟩ := ry
  have hle : z.length * n.toNat ≤ 10000000 := Nat.le_trans (Nat.mul_le_mul hz (show n.toNat ≤ 100000 by omega)) (by decide)
  have hsl : (sizeLine : Nat) = 16777216 := sizeLine_eq
  refine PySem.P.mul_str ?_ ?_ ?_ ?_
  · rw [Bool.or_eq_false_iff]
    exact ⟨decide_eq_false (by omega), decide_eq_false (by omega)⟩
  · intro hn _ hc
    have e1 : (2 ^ 63 - 1 : Int) / n ≥ 100 := by
      rw [ge_iff_le, Int.le_ediv_iff_mul_le (by omega)]
      omega
    omega
  · intro _ _
    unfold Builtin.Str.tooLong
    refine decide_eq_false ?_
    omega
  · by_cases c1 : n < 1
    · rw [if_pos c1]
      have e0 : n.toNat = 0 := by omega
      rw [e0] at q
      exact ⟨by decide, .str _, H, I.tok _, ⟨_, rfl⟩, q⟩
    · rw [if_neg c1]
      by_cases c2 : (n == 1 || z.length == 0) = true
      · rw [if_pos c2]
        have e : mulS z n.toNat = z := by
          rw [Bool.or_eq_true] at c2
          rcases c2 with c | c
          · have e1 : n.toNat = 1 := by
              have := eq_of_beq c
              omega
            rw [e1]
            unfold mulS
            simp
          · have e1 : z.cps.size = 0 := eq_of_beq c
            have e2 : z.cps = #[] := Array.eq_empty_of_size_eq_zero e1
            obtain ⟨cps⟩ := z
            simp only at e2
            subst e2
            unfold mulS
            simp
        rw [e] at q
        exact ⟨.str z, H, I, ⟨t, rfl⟩, q⟩
      · rw [if_neg c2, rep_mulS]
        refine ⟨?_, .str _, H, I.tok _, ⟨_, rfl⟩, q⟩
        rw [mulS_len]
        omega

/-- list(text) -/
def signsV (z : Str) : List V := z.cps.toList.map fun c => V.str ⟨#[c]⟩
def rListS : List V → Hp → VK → Prop := fun xs H Q => ∃ z, xs = [.str z] ∧ z.length ≤ sizeLine ∧ ∀ l, H l = none → Q (.ref l) (upd H l (.lst (signsV z)))
theorem vals_signs {x : Str} {acc : Array Value} (h : ItemsOf (SignAt x) acc x.cps.size) : Vals (signsV x) acc.toList := by
  refine vals_of_at ?_ ?_
  · unfold signsV
    rw [List.length_map]
    simpa using h.1.symm
  · intro j a u ha hu
    unfold signsV at ha
    rw [List.getElem?_map] at ha
    cases e : x.cps.toList[j]? with
    | none => rw [e] at ha; cases ha
    | some c =>
      rw [e] at ha
      have ha' : V.str ⟨#[c]⟩ = a := Option.some.inj ha
      subst ha'
      obtain ⟨c', t, hc, rfl⟩ := h.2 j u (by simpa using hu)
      have e2 : x.cps[j]? = some c := by simpa using e
      rw [e2] at hc
      cases hc
      exact ⟨t, rfl⟩
theorem call_list_str' {X : Cx} (hc : X.calm = true) : CallR X (.type "list") rListS := by
  intro pins s σ H xs us Q I r h
  obtain ⟨z, rfl, hz, q⟩ := h
  obtain ⟨u, rfl, ru⟩ := vals1 r
  obtain ⟨t, rfl⟩ := ru
  refine PySem.call_list_str (I.ok.hd hc) z t (fun h' tk acc' c' hk hS hacc => ?_) hz
  refine ⟨.ref s.heap.objs.size, _, I.laid (t' := tk) (o := .lst (signsV z)) hk (Nat.le_refl _) ⟨?_, acc'.toList, c', vals_signs hacc, by simpa using hS⟩, rfl, q _ (I.hok.fresh (Nat.le_refl _))⟩
  unfold signsV
  rw [List.length_map]
  exact hz
/-! ### enumerate(text) -/
def ItE (z : Str) : It :=
  ⟨fun i _ => i < z.cps.size, fun i H v H' => ∃ T c, v = .ref T ∧ H T = none ∧ z.cps[i]? = some c ∧ H' = upd H T (.tup [.int (i : Nat), .str ⟨#[c]⟩]), fun i _ => i = z.cps.size⟩
theorem turn_enumS {P : Program} {w : World} {K : PySem.W.Frag} {elts : List Expr} {kk : Nat} {tpos : Pos} (x : Str) (t : Tok) (e it : Addr) :
    Turn P w K (.Tuple elts kk tpos) (ItE x) [e, it] e (fun i h => (∃ old, IsEnum h e it ((i : Nat) : Int) old) ∧ h.IsStrIter it (strIterType x) x t i ∧ e ≠ it) where
  mem := by simp
  obj := fun i h st b hb => by
    obtain ⟨⟨old, he⟩, ⟨o, ho, hc, hd⟩, _⟩ := st
    have e' : b = e ∨ b = it := by simpa using hb
    rcases e' with z | z
    · rw [z]; exact ⟨_, he, fun v q => nomatch q⟩
    · rw [z]; exact ⟨o, ho, fun v q => by rw [hd] at q; cases q⟩
  keep := fun i h h' st k => let ⟨⟨old, he⟩, ⟨o, ho, r⟩, hne⟩ := st; ⟨⟨old, k e (by simp) _ he⟩, ⟨o, k it (by simp) o ho, r⟩, hne⟩
  item := by
    intro X hP hw hK hc i pins s σ H E I hf st hg
    subst hP hw hK
    obtain ⟨⟨old, he⟩, hit, hne⟩ := st
    have hel : e < s.heap.objs.size := Heap.lt_size he
    have hil : it < s.heap.objs.size := by obtain ⟨_, q, _⟩ := hit; exact Heap.lt_size q
    have D := Draws.text (prog := X.prog) (w := X.w) (A := X.A.in1) (by show X.A.handled = none; exact I.ok.hd hc) it x t
    have hef : e ∉ [it] := by simpa using hne
    refine wpAny_pyNext_enum_itemC D he hit hg hne hef fun v h' tk hP ho hit' hT hsz hk => ?_
    obtain ⟨c, u, hcx, rfl⟩ := hP
    refine ⟨_, rfl, wpAny_letOwnedTupleGo_enum (s := { s with heap := h', toks := tk + 1 }) ho fun h'' he' sb => ?_⟩
    have hT2 : h''.get? s.heap.objs.size = some { cls := .type "tuple", data := .seq #[.int i tk, .str ⟨#[c]⟩ u] } := (sb.2 _ (Nat.ne_of_gt hel)).trans hT
    have new : ObjOk X.prog X.w (upd H s.heap.objs.size (.tup [.int (i : Nat), .str ⟨#[c]⟩])) h'' s.heap.objs.size (.tup [.int (i : Nat), .str ⟨#[c]⟩]) :=
      ⟨by show 2 ≤ sizeLine; decide, [.int i tk, .str ⟨#[c]⟩ u], .cons ⟨_, rfl⟩ (.cons ⟨_, rfl⟩ .nil), ⟨_, hT2, rfl, _, rfl⟩⟩
    have I1 : Inv X pins σ (upd H s.heap.objs.size (.tup [.int (i : Nat), .str ⟨#[c]⟩])) { s with heap := h'', toks := tk + 1 } :=
      I.turnedNew (ch := [e, it]) (fun b ob hb q => (sb.2 b (fun z => hb (by simp [z]))).trans (hk b ob (fun z => hb (by simp [z])) (fun z => hb (by simp [z])) q)) hf (Nat.le_refl _) new
    refine ⟨.ref s.heap.objs.size, _, I1, rfl, ⟨_, c, rfl, I.hok.fresh (Nat.le_refl _), hcx, rfl⟩, ⟨⟨.str ⟨#[c]⟩ u, ?_⟩, ?_, hne⟩, fun b hb => ?_⟩
    · have e1 : ((i + 1 : Nat) : Int) = (i : Int) + 1 := by omega
      rw [e1]; exact he'
    · obtain ⟨o, ho', r⟩ := hit'
      exact ⟨o, (sb.2 it (Ne.symm hne)).trans ho', r⟩
    · have hb' : b < s.heap.objs.size := by
        have e' : b = e ∨ b = it := by simpa using hb
        rcases e' with z | z
        · rw [z]; exact hel
        · rw [z]; exact hil
      rw [upd_ne (Nat.ne_of_lt hb')]
      exact (hf b hb).1
  done := by
    intro X hP hw hK hc i pins s σ H E I hf st hg
    subst hP hw hK
    obtain ⟨⟨old, he⟩, hit, hne⟩ := st
    have hst : s.heap.IsStrIter it (strIterType x) x t i := hit
    have hg' : i = x.cps.size := hg
    subst hg'
    have D := Draws.text (prog := X.prog) (w := X.w) (A := X.A.in1) (by show X.A.handled = none; exact I.ok.hd hc) it x t
    obtain ⟨f0, f1, f2, f3, f4, f5⟩ := hf it (by simp)
    exact wpAny_pyNext_enum_endD D he hst fun h' eb => ⟨rfl, I.turned (t' := s.toks) (fun b o hb q => eb b o hb q) f0 f1 f3 f4 f5⟩
  self := fun A i s Q E st h => let ⟨⟨_, he⟩, _⟩ := st; wpAny_pyIter_enum he h
def iEnumS (ta : TA) : TI := fun σ H R => ta σ H fun vs H1 => ∃ z, vs = [.str z] ∧ R (ItE z) H1
theorem pi_enumS {X : Cx} {e : Expr} {ta : TA} {p pos tpos : Pos} {elts : List Expr} {kk : Nat} (hg : Gl X "enumerate") (hm : X.mg "enumerate" = none) (ha : PA X [e] ta) (hs : starEach [e] X.env = [(false, eval e X.env)] := by rfl) :
    PI X (.Tuple elts kk tpos) (.Call (.Name "enumerate" p) [e] [] pos) (iEnumS ta) := by
  refine ⟨fun pins s σ H R I h => ?_⟩
  refine Call_ (ld_blt I hg hm boot_enumerate (PyProof.Rows.callWith_type1 (thn (ha.run pos pins s σ H _ I h) fun us s1 ⟨vs, H1, I1, r1, q1⟩ => ?_) hs rfl))
  obtain ⟨z, ex, q⟩ := q1
  subst ex
  obtain ⟨u, rfl, ru⟩ := vals1 r1
  obtain ⟨t, rfl⟩ := ru
  refine PySem.call_enumerate_str fun h' he hit hsz hk => wpAny_pyIter_enum he ?_
  have I2 : Inv X pins σ H1 { s1 with heap := h' } := I1.kept (t' := s1.toks) hk
  refine ⟨s1.heap.objs.size + 1, [s1.heap.objs.size + 1, s1.heap.objs.size], _, _, H1, rfl, I2, turn_enumS z t (s1.heap.objs.size + 1) s1.heap.objs.size, ⟨⟨.none, he⟩, hit, Nat.succ_ne_self _⟩, fun b hb => ?_, q⟩
  have e' : b = s1.heap.objs.size + 1 ∨ b = s1.heap.objs.size := by simpa using hb
  have hle : s1.heap.objs.size ≤ b := by
    rcases e' with z | z
    · rw [z]; exact Nat.le_add_right _ _
    · rw [z]; exact Nat.le_refl _
  exact I1.fpOk hle (I1.hok.fresh hle)
theorem walk_enumS {z : Str} : Walk (ItE z) z.cps.size (fun _ => True) (fun i H v H' => ∃ T c, v = .ref T ∧ H T = none ∧ z.cps[i]? = some c ∧ H' = upd H T (.tup [.int (i : Nat), .str ⟨#[c]⟩])) :=
  ⟨fun _ _ hi _ => hi, fun _ _ => rfl, fun _ _ _ _ _ _ y => y⟩
end Nm

/-! The own layer: readings by names, their steps (z_..). -/
namespace Nm
open PySem PySem.Spec PyProof.Rows L2
/-! ### readings that the layer has without a name -/
def nAddS : R2 := fun x y H Q => ∃ i j, x = .str i ∧ y = .str j ∧ i.length + j.length ≤ sizeLine ∧ Q (.str (i ++ j)) H
def nInC : R2 := fun x y H Q => ∃ (c : Nat) (z : Str), x = .str ⟨#[c]⟩ ∧ y = .str z ∧ Q (.bl (decide (c ∈ z.cps.toList))) H
def nNotInC : R2 := fun x y H Q => ∃ (c : Nat) (z : Str), x = .str ⟨#[c]⟩ ∧ y = .str z ∧ Q (.bl (!decide (c ∈ z.cps.toList))) H
def nIsN : R2 := fun x y H Q => y = .non ∧ Q (.bl (decide (x = .non))) H
def nNotN : R2 := fun x y H Q => y = .non ∧ Q (.bl (!decide (x = .non))) H
def nLenS : List V → Hp → VK → Prop := fun xs H Q => ∃ z, xs = [.str z] ∧ z.length ≤ sizeLine ∧ Q (.int z.length) H
def nLenL (K : PySem.W.Frag) : List V → Hp → VK → Prop := fun xs H Q => ∃ p ys, xs = [.ref p] ∧ (SqL K H p ys ∨ SqT K H p ys) ∧ Q (.int ys.length) H
def nListOf (K : PySem.W.Frag) : List V → Hp → VK → Prop := fun xs H Q => ∃ p ys, xs = [.ref p] ∧ (SqL K H p ys ∨ SqT K H p ys) ∧ ∀ l, H l = none → Q (.ref l) (upd H l (.lst ys))
def nTupleOf (K : PySem.W.Frag) : List V → Hp → VK → Prop := fun xs H Q => ∃ p ys, xs = [.ref p] ∧ ((SqL K H p ys ∧ ∀ l, H l = none → Q (.ref l) (upd H l (.tup ys))) ∨ (SqT K H p ys ∧ Q (.ref p) H))
def nInt1 : List V → Hp → VK → Prop := fun xs H Q => (∃ i, xs = [.int i] ∧ Q (.int i) H) ∨ ∃ k, xs = [.bl k] ∧ Q (.int (if k then 1 else 0)) H
section
variable {X : Cx}
theorem op_addS : OpR X (binaryOp .Add) nAddS := op_add_str
theorem op_inC : OpR X (compareOp .In) nInC := op_in_sign
theorem op_notInC : OpR X (compareOp .NotIn) nNotInC := op_notIn_sign
theorem op_isNn : OpR X (compareOp .Is) nIsN := op_isN
theorem op_notNn : OpR X (compareOp .IsNot) nNotN := op_notN
theorem call_lenS : CallR X (.builtin "len") nLenS := call_len_str
theorem call_lenL : CallR X (.builtin "len") (nLenL X.K) := call_len_seq
theorem call_listOf : CallR X (.type "list") (nListOf X.K) := call_list_of
theorem call_tupleOf : CallR X (.type "tuple") (nTupleOf X.K) := call_tuple_of
theorem call_int1n : CallR X (.type "int") nInt1 := call_int1
end

theorem rel_str {x : Str} {t : Tok} : RelV (.str x) (.str x t) := ⟨t, rfl⟩
theorem rel_int {x : Int} {t : Tok} : RelV (.int x) (.int x t) := ⟨t, rfl⟩
theorem rel_ref {a : Addr} : RelV (.ref a) (.ref a) := rfl

/-! ### a call of an own def, nothing left to defaults -/
def tCallN (sp : Sp) (E : XK) (t : TA) : TE := fun σ H Q => t σ H fun vs H1 => sp vs H1 Q E
section
variable {X : Cx} {CX : CXT} {k : Nat} {f : Addr} {fd : FuncData} {ps : List Str} {sp : Sp} {E : XK} {x : Str} {e : Expr} {es : List Expr} {t : TA} {p pos : Pos}
theorem tCallN_eq : tCallN sp E t = tCall sp [] E t := by
  funext σ H Q
  show t σ H (fun vs H1 => sp vs H1 Q E) = t σ H (fun vs H1 => sp (vs ++ []) H1 Q E)
  simp only [List.append_nil]
/-- where a def stands -/
structure Df (K : PySem.W.Frag) (mg : Str → Option Value) (x : Str) (st : Stmt) (ps : List Str) (f : Addr) (fd : FuncData) : Prop where
  F : Fun K x x st f fd
  g : mg x = some (.ref f)
  b : Binds K fd ps []
theorem pe_callN {st : Stmt} (D : Df X.K X.mg x st ps f fd) (F : FnOk X.prog X.w X.K X.mg X.base CX k f fd ps sp) (hr : Room k X.A) (hx : Passes CX X E) (ha : PA X (e :: es) t) (hg : Gl X x := by rfl)
    (hs : starEach (e :: es) X.env = (false, eval e X.env) :: starEach es X.env := by rfl) (hpl : (backTo pos (starEach es X.env)).any (·.1) = false := by rfl) (hdb : (x == ("__debug__" : Str)) = false := by decide) :
    PE X (.Call (.Name x p) (e :: es) [] pos) (tCallN sp E t) := by
  rw [tCallN_eq]
  exact pe_call F hr hg D.g D.F.kp D.b .nil hx ha (hdb := hdb) (he := hs) (hpl := hpl)
theorem pe_callN0 {st : Stmt} (D : Df X.K X.mg x st ps f fd) (F : FnOk X.prog X.w X.K X.mg X.base CX k f fd ps sp) (hr : Room k X.A) (hx : Passes CX X E) (hg : Gl X x := by rfl) (hdb : (x == ("__debug__" : Str)) = false := by decide) :
    PE X (.Call (.Name x p) [] [] pos) (tCallN sp E tNil) := by
  rw [tCallN_eq]
  exact pe_call0 F hr hg D.g D.F.kp D.b .nil hx (hdb := hdb)
end

/-! ### words between: an expression, a test -/
def tCutE (te : TE) : TE := fun σ H Q => ∃ W : V → Hp → Prop, te σ H W ∧ ∀ v H', W v H' → Q v H'
def tCutT (tt : TT) : TT := fun σ H Q => ∃ W : Bool → Hp → Prop, tt σ H W ∧ ∀ v H', W v H' → Q v H'
theorem pe_cut {X : Cx} {e : Expr} {te : TE} (h : PE X e te) : PE X e (tCutE te) := ⟨fun pins s σ H Q I ⟨W, h1, h2⟩ => thn (h.run pins s σ H W I h1) fun u s' ⟨v, H', I', r, q⟩ => ⟨v, H', I', r, h2 v H' q⟩⟩
theorem pt_cut {X : Cx} {e : Expr} {tt : TT} (h : PT X e tt) : PT X e (tCutT tt) := ⟨fun pins s σ H Q I ⟨W, h1, h2⟩ => thn (h.run pins s σ H W I h1) fun u s' ⟨H', I', q⟩ => ⟨H', I', h2 u H' q⟩⟩
theorem z_cutE {te : TE} {σ : L2.St} {H : Hp} {Q : VK} (W : V → Hp → Prop) (h1 : te σ H W) (h2 : ∀ v H', W v H' → Q v H') : tCutE te σ H Q := ⟨W, h1, h2⟩
theorem z_cutT {tt : TT} {σ : L2.St} {H : Hp} {Q : Bool → Hp → Prop} (W : Bool → Hp → Prop) (h1 : tt σ H W) (h2 : ∀ v H', W v H' → Q v H') : tCutT tt σ H Q := ⟨W, h1, h2⟩
/-- the value is known, what stood stands -/
theorem z_cutV {te : TE} {σ : L2.St} {H : Hp} {Q : VK} (v : V) (h1 : te σ H fun v' H' => v' = v ∧ Same H H') (h2 : ∀ H', Same H H' → Q v H') : tCutE te σ H Q := ⟨_, h1, fun v' H' ⟨e, s⟩ => e ▸ h2 H' s⟩
theorem z_cutB {tt : TT} {σ : L2.St} {H : Hp} {Q : Bool → Hp → Prop} (b : Bool) (h1 : tt σ H fun b' H' => b' = b ∧ Same H H') (h2 : ∀ H', Same H H' → Q b H') : tCutT tt σ H Q := ⟨_, h1, fun v' H' ⟨e, s⟩ => e ▸ h2 H' s⟩

theorem not_t {b : Bool} (h : (!b) = true) : b = false := by simpa using h
theorem not_f {b : Bool} (h : (!b) = false) : b = true := by simpa using h
theorem z_iteNT {A B : Prop} (h : B) : if (!true) = true then A else B := by simpa using h
theorem z_iteNF {A B : Prop} (h : A) : if (!false) = true then A else B := by simpa using h
/-! ### steps -/
section
variable {σ : L2.St} {H : Hp} {Q : VK} {QT : Bool → Hp → Prop} {QA : List V → Hp → Prop} {QO : Option Int → Hp → Prop} {ta tb tc te : TE} {r r' : R2} {x y v : V} {K : PySem.W.Frag} {D : Ends}
theorem z_var {i : Nat} (h : σ[i]? = some (some v)) (q : Q v H) : tVar i σ H Q := ⟨v, h, q⟩
theorem z_c (q : Q v H) : tC v σ H Q := q
theorem z_op (h : ta σ H fun x H1 => tb σ H1 fun y H2 => r x y H2 Q) : tOp r ta tb σ H Q := h
theorem z_un {r : V → Hp → VK → Prop} (h : ta σ H fun x H1 => r x H1 Q) : tUn r ta σ H Q := h
/-! two ints -/
theorem z_rI0 {g : Int → Int → V} {i j : Int} (q : Q (g i j) H) : rI0 g (.int i) (.int j) H Q := ⟨i, j, rfl, rfl, q⟩
theorem z_rI {C : Int → Int → Prop} {g : Int → Int → V} {i j : Int} (c : C i j) (q : Q (g i j) H) : rI C g (.int i) (.int j) H Q := ⟨i, j, rfl, rfl, c, q⟩
theorem z_rU {g : Int → V} {i : Int} (q : Q (g i) H) : rU g (.int i) H Q := ⟨i, rfl, q⟩
/-! == and != of plain things -/
theorem z_eqI {i j : Int} (q : Q (.bl (decide (i = j))) H) : rEq (.int i) (.int j) H Q := ⟨rfl, by
  have e : decide (V.int i = V.int j) = decide (i = j) := by simp
  rw [e]; exact q⟩
theorem z_neI {i j : Int} (q : Q (.bl (!decide (i = j))) H) : rNe (.int i) (.int j) H Q := ⟨rfl, by
  have e : decide (V.int i = V.int j) = decide (i = j) := by simp
  rw [e]; exact q⟩
theorem z_eqS {i j : Str} (q : Q (.bl (decide (i = j))) H) : rEq (.str i) (.str j) H Q := ⟨rfl, by
  have e : decide (V.str i = V.str j) = decide (i = j) := by simp
  rw [e]; exact q⟩
theorem z_neS {i j : Str} (q : Q (.bl (!decide (i = j))) H) : rNe (.str i) (.str j) H Q := ⟨rfl, by
  have e : decide (V.str i = V.str j) = decide (i = j) := by simp
  rw [e]; exact q⟩
theorem z_eq (h : scal x y = true) (q : Q (.bl (decide (x = y))) H) : rEq x y H Q := ⟨h, q⟩
theorem z_ne (h : scal x y = true) (q : Q (.bl (!decide (x = y))) H) : rNe x y H Q := ⟨h, q⟩
/-! texts -/
theorem z_addS {i j : Str} (hl : i.length + j.length ≤ sizeLine) (q : Q (.str (i ++ j)) H) : nAddS (.str i) (.str j) H Q := ⟨i, j, rfl, rfl, hl, q⟩
theorem z_inC {c : Nat} {z : Str} (q : Q (.bl (decide (c ∈ z.cps.toList))) H) : nInC (.str ⟨#[c]⟩) (.str z) H Q := ⟨c, z, rfl, rfl, q⟩
theorem z_notInC {c : Nat} {z : Str} (q : Q (.bl (!decide (c ∈ z.cps.toList))) H) : nNotInC (.str ⟨#[c]⟩) (.str z) H Q := ⟨c, z, rfl, rfl, q⟩
theorem z_mulS {z : Str} {n : Int} (h0 : 0 ≤ n) (h1 : n ≤ 100000) (hz : z.length ≤ 100) (q : Q (.str (mulS z n.toNat)) H) : rMulS (.str z) (.int n) H Q := ⟨z, n, rfl, rfl, h0, h1, hz, q⟩
theorem z_lenS {z : Str} (hz : z.length ≤ sizeLine) (q : Q (.int z.length) H) : nLenS [.str z] H Q := ⟨z, rfl, hz, q⟩
theorem z_ixS {z : Str} {i : Int} {c : Nat} (hz : z.length ≤ sizeLine) (h : atI z.cps.toList i = some c) (q : Q (.str ⟨#[c]⟩) H) : rIxS (.str z) (.int i) H Q := ⟨z, i, c, rfl, rfl, hz, h, q⟩
theorem z_slS {z : Str} {lo hi : Option Int} (hz : z.length ≤ sizeLine) (q : Q (.str (cutS z lo hi)) H) : rSlS (.str z) lo hi H Q := ⟨z, rfl, hz, q⟩
theorem z_isN (q : Q (.bl (decide (x = .non))) H) : nIsN x .non H Q := ⟨rfl, q⟩
theorem z_notN (q : Q (.bl (!decide (x = .non))) H) : nNotN x .non H Q := ⟨rfl, q⟩
/-! slices -/
theorem z_sl {rs : V → Option Int → Option Int → Hp → VK → Prop} {tl th : TO} (h : te σ H fun x H1 => tl σ H1 fun l H2 => th σ H2 fun u H3 => rs x l u H3 Q) : tSl rs te tl th σ H Q := h
theorem z_noPart (q : QO none H) : tNoPart σ H QO := q
def kPart (QO : Option Int → Hp → Prop) : VK := fun x H1 => ∃ i, x = .int i ∧ QO (some i) H1
theorem z_part (h : te σ H (kPart QO)) : tPart te σ H QO := h
theorem z_kPart {i : Int} (q : QO (some i) H) : kPart QO (.int i) H := ⟨i, rfl, q⟩
/-! arguments, displays -/
theorem z_nil (q : QA [] H) : tNil σ H QA := q
theorem z_cons {tr : TA} (h : ta σ H fun x H1 => tr σ H1 fun xs H2 => QA (x :: xs) H2) : tCons ta tr σ H QA := h
def kTup (Q : VK) : List V → Hp → Prop := fun xs H1 => xs.length ≤ sizeLine ∧ ∀ p, H1 p = none → Q (.ref p) (upd H1 p (.tup xs))
def kLst (Q : VK) : List V → Hp → Prop := fun xs H1 => xs.length ≤ sizeLine ∧ ∀ p, H1 p = none → Q (.ref p) (upd H1 p (.lst xs))
theorem z_tup {t : TA} (h : t σ H (kTup Q)) : tTup t σ H Q := h
theorem z_lst {t : TA} (h : t σ H (kLst Q)) : tLst t σ H Q := h
/-- a new object at p, the heap behind it by a letter -/
theorem new_by {H : Hp} {o : HO} {R : Addr → Hp → Prop} (k : ∀ p H', H p = none → Same H H' → H' p = some o → (∀ a, a ≠ p → H' a = H a) → R p H') : ∀ p, H p = none → R p (upd H p o) :=
  fun p hp => k p _ hp (Same.new hp) upd_same fun a ha => upd_ne ha
theorem z_kTup {xs : List V} (hl : xs.length ≤ sizeLine) (k : ∀ p H', H p = none → Same H H' → H' p = some (.tup xs) → Q (.ref p) H') : kTup Q xs H := ⟨hl, new_by (R := fun p H' => Q (.ref p) H') fun p H' a b c _ => k p H' a b c⟩
theorem z_kLst {xs : List V} (hl : xs.length ≤ sizeLine) (k : ∀ p H', H p = none → Same H H' → H' p = some (.lst xs) → Q (.ref p) H') : kLst Q xs H := ⟨hl, new_by (R := fun p H' => Q (.ref p) H') fun p H' a b c _ => k p H' a b c⟩
/-! calls -/
theorem z_cb {f : List V → Hp → VK → Prop} {t : TA} (h : t σ H fun vs H1 => f vs H1 Q) : tCB f t σ H Q := h
theorem z_call {sp : Sp} {E : XK} {t : TA} (h : t σ H fun vs H1 => sp vs H1 Q E) : tCallN sp E t σ H Q := h
theorem z_lenL {p : Addr} {ys : List V} (h : SqL K H p ys) (q : Q (.int ys.length) H) : nLenL K [.ref p] H Q := ⟨p, ys, rfl, .inl h, q⟩
theorem z_lenT {p : Addr} {ys : List V} (h : SqT K H p ys) (q : Q (.int ys.length) H) : nLenL K [.ref p] H Q := ⟨p, ys, rfl, .inr h, q⟩
theorem z_listOfL {p : Addr} {ys : List V} (h : SqL K H p ys) (k : ∀ p H', H p = none → Same H H' → H' p = some (.lst ys) → Q (.ref p) H') : nListOf K [.ref p] H Q := ⟨p, ys, rfl, .inl h, new_by (R := fun p H' => Q (.ref p) H') fun p H' a b c _ => k p H' a b c⟩
theorem z_listOfT {p : Addr} {ys : List V} (h : SqT K H p ys) (k : ∀ p H', H p = none → Same H H' → H' p = some (.lst ys) → Q (.ref p) H') : nListOf K [.ref p] H Q := ⟨p, ys, rfl, .inr h, new_by (R := fun p H' => Q (.ref p) H') fun p H' a b c _ => k p H' a b c⟩
theorem z_listS {z : Str} (hz : z.length ≤ sizeLine) (k : ∀ p H', H p = none → Same H H' → H' p = some (.lst (signsV z)) → Q (.ref p) H') : rListS [.str z] H Q := ⟨z, rfl, hz, new_by (R := fun p H' => Q (.ref p) H') fun p H' a b c _ => k p H' a b c⟩
theorem z_tupleOfL {p : Addr} {ys : List V} (h : SqL K H p ys) (k : ∀ p H', H p = none → Same H H' → H' p = some (.tup ys) → Q (.ref p) H') : nTupleOf K [.ref p] H Q := ⟨p, ys, rfl, .inl ⟨h, new_by (R := fun p H' => Q (.ref p) H') fun p H' a b c _ => k p H' a b c⟩⟩
theorem z_tupleOfT {p : Addr} {ys : List V} (h : SqT K H p ys) (q : Q (.ref p) H) : nTupleOf K [.ref p] H Q := ⟨p, ys, rfl, .inr ⟨h, q⟩⟩
theorem z_intI {i : Int} (q : Q (.int i) H) : nInt1 [.int i] H Q := .inl ⟨i, rfl, q⟩
theorem z_intB {b : Bool} (q : Q (.int (if b then 1 else 0)) H) : nInt1 [.bl b] H Q := .inr ⟨b, rfl, q⟩
/-! items -/
theorem z_ixL {p : Addr} {ys : List V} {i : Int} (h : SqL K H p ys) (e : atI ys i = some v) (q : Q v H) : rIxL K (.ref p) (.int i) H Q := ⟨p, ys, i, v, rfl, rfl, h, e, q⟩
theorem z_ixT {p : Addr} {ys : List V} {i : Int} (h : SqT K H p ys) (e : atI ys i = some v) (q : Q v H) : rIxT K (.ref p) (.int i) H Q := ⟨p, ys, i, v, rfl, rfl, h, e, q⟩
theorem z_slL {p : Addr} {ys : List V} {lo hi : Option Int} (h : SqL K H p ys) (k : ∀ p H', H p = none → Same H H' → H' p = some (.lst (cutV ys lo hi)) → Q (.ref p) H') : rSlL K (.ref p) lo hi H Q := ⟨p, ys, rfl, h, new_by (R := fun p H' => Q (.ref p) H') fun p H' a b c _ => k p H' a b c⟩
theorem z_inL {p : Addr} {ys : List V} {neg : Bool} (h : SqL K H p ys) (hx : flatV x = true) (ha : ys.all flatV = true) (q : Q (.bl (if neg then !inV x ys else inV x ys)) H) : rIn K neg x (.ref p) H Q := ⟨p, ys, rfl, .inl h, hx, ha, q⟩
theorem z_inT {p : Addr} {ys : List V} {neg : Bool} (h : SqT K H p ys) (hx : flatV x = true) (ha : ys.all flatV = true) (q : Q (.bl (if neg then !inV x ys else inV x ys)) H) : rIn K neg x (.ref p) H Q := ⟨p, ys, rfl, .inr h, hx, ha, q⟩
theorem z_eqD {d e : PyData} (h1 : Dp K H x d) (h2 : Dp K H y e) (s1 : SeqAt.shaped d = true) (s2 : SeqAt.shaped e = true) (q : Q (.bl (PyData.eqv d e)) H) : rEqD K x y H Q := ⟨d, e, h1, h2, s1, s2, q⟩
theorem z_neD {d e : PyData} (h1 : Dp K H x d) (h2 : Dp K H y e) (s1 : SeqAt.shaped d = true) (s2 : SeqAt.shaped e = true) (q : Q (.bl (!PyData.eqv d e)) H) : rNeD K x y H Q := ⟨d, e, h1, h2, s1, s2, q⟩
theorem z_all {p : Addr} {bs : List Bool} (h : SqL K H p (bs.map V.bl)) (q : Q (.bl (bs.all id)) H) : rAll K [.ref p] H Q := ⟨p, bs, rfl, h, q⟩
theorem z_isi {c : V} {t u : Value} {b : Bool} (hc : ClsV c u) (hx : TyX K H x t) (e : PySem.W.kitOne K t u = some b) (q : Q (.bl b) H) : rIsi K [x, c] H Q := ⟨x, c, t, u, b, rfl, hc, hx, e, q⟩
/-! tests -/
def kT (QT : Bool → Hp → Prop) : VK := fun x H' => ∃ k, x = .bl k ∧ QT k H'
theorem z_test (h : te σ H (kT QT)) : tTest te σ H QT := h
theorem z_tB (h : te σ H (kT QT)) : tB te σ H QT := h
theorem z_kT {b : Bool} (q : QT b H) : kT QT (.bl b) H := ⟨b, rfl, q⟩
def kCh (r' : R2) (tc : TE) (σ : L2.St) (y : V) (Q : VK) : VK := fun z H3 => ∃ k, z = .bl k ∧ (if k = true then tc σ H3 fun w' H4 => r' y w' H4 Q else Q (.bl false) H3)
theorem z_chain (h : ta σ H fun x H1 => tb σ H1 fun y H2 => r x y H2 (kCh r' tc σ y Q)) : tChain r r' ta tb tc σ H Q := h
theorem z_kCh {b : Bool} (q : if b = true then tc σ H fun w' H4 => r' y w' H4 Q else Q (.bl false) H) : kCh r' tc σ y Q (.bl b) H := ⟨b, rfl, q⟩
variable {t u : TT}
theorem z_andT (h : t σ H fun c H1 => if c = true then u σ H1 QT else QT false H1) : tAnd t u σ H QT := h
theorem z_orT (h : t σ H fun c H1 => if c = true then QT true H1 else u σ H1 QT) : tOr t u σ H QT := h
theorem z_notT (h : t σ H fun c H1 => QT (!c) H1) : tNot t σ H QT := h
def kAndV (tb : TE) (σ : L2.St) (Q : VK) : VK := fun x H1 => ∃ c, x = .bl c ∧ if c = true then tb σ H1 Q else Q (.bl false) H1
def kOrV (tb : TE) (σ : L2.St) (Q : VK) : VK := fun x H1 => ∃ c, x = .bl c ∧ if c = true then Q (.bl true) H1 else tb σ H1 Q
def kNotV (Q : VK) : VK := fun x H1 => ∃ c, x = .bl c ∧ Q (.bl (!c)) H1
theorem z_andV (h : ta σ H (kAndV tb σ Q)) : tAndV ta tb σ H Q := h
theorem z_orV (h : ta σ H (kOrV tb σ Q)) : tOrV ta tb σ H Q := h
theorem z_notV (h : ta σ H (kNotV Q)) : tNotV ta σ H Q := h
theorem z_kAndV {b : Bool} (q : if b = true then tb σ H Q else Q (.bl false) H) : kAndV tb σ Q (.bl b) H := ⟨b, rfl, q⟩
theorem z_kOrV {b : Bool} (q : if b = true then Q (.bl true) H else tb σ H Q) : kOrV tb σ Q (.bl b) H := ⟨b, rfl, q⟩
theorem z_kNotV {b : Bool} (q : Q (.bl (!b)) H) : kNotV Q (.bl b) H := ⟨b, rfl, q⟩
theorem z_ifE (h : t σ H fun c H1 => if c = true then ta σ H1 Q else tb σ H1 Q) : tIf t ta tb σ H Q := h
/-! statements -/
variable {ts us : TS}
theorem z_seq (h : ts { D with nx := us D } σ H) : tSeq ts us D σ H := h
theorem z_next (h : D.nx σ H) : tNext D σ H := h
theorem z_brk (h : D.bk σ H) : tBreak D σ H := h
theorem z_cnt (h : D.ct σ H) : tCont D σ H := h
theorem z_ret (h : te σ H D.rt) : tRet te D σ H := h
theorem z_retN (h : D.rt .non H) : tRetN D σ H := h
theorem z_ifS {c : TT} (h : c σ H fun b H1 => if b = true then ts D σ H1 else us D σ H1) : tIfS c ts us D σ H := h
theorem z_drop (h : te σ H fun _ H1 => D.nx σ H1) : tDrop te D σ H := h
theorem z_asg {g : TG} (h : te σ H fun x H1 => g x σ H1 D.nx) : tAsg te g D σ H := h
theorem z_gName {i : Nat} {QS : L2.St → Hp → Prop} (h : QS (σ.set i (some v)) H) : gName i v σ H QS := h
theorem z_gTup {n : Nat} {g : TGs} {QS : L2.St → Hp → Prop} {a : Addr} {xs : List V} (h : SqT K H a xs) (hn : xs.length = n) (q : g xs σ H QS) : gTup K n g (.ref a) σ H QS := ⟨a, xs, rfl, h, hn, q⟩
theorem z_gCons {g : TG} {gs : TGs} {QS : L2.St → Hp → Prop} {vs : List V} (q : g v σ H fun σ' H' => gs vs σ' H' QS) : gCons g gs (v :: vs) σ H QS := ⟨v, vs, rfl, q⟩
theorem z_gNil {QS : L2.St → Hp → Prop} (q : QS σ H) : gNil [] σ H QS := ⟨rfl, q⟩
def kPar (i j : Nat) (D : Ends) (σ : L2.St) : List V → Hp → Prop := fun vs H1 => ∃ v w, vs = [v, w] ∧ D.nx ((σ.set i (some v)).set j (some w)) H1
theorem z_par {i j : Nat} {t : TA} (h : t σ H (kPar i j D σ)) : tPar i j t D σ H := h
theorem z_kPar {i j : Nat} (h : D.nx ((σ.set i (some x)).set j (some y)) H) : kPar i j D σ [x, y] H := ⟨x, y, rfl, h⟩
/-! the ends -/
variable {n b c : L2.St → Hp → Prop} {rt : VK}
theorem z_nx (h : n σ H) : Ends.nx ⟨n, rt, b, c⟩ σ H := h
theorem z_rt (h : rt v H) : Ends.rt ⟨n, rt, b, c⟩ v H := h
theorem z_bk (h : b σ H) : Ends.bk ⟨n, rt, b, c⟩ σ H := h
theorem z_ct (h : c σ H) : Ends.ct ⟨n, rt, b, c⟩ σ H := h
/-! branches -/
theorem z_ite {b : Bool} {A B : Prop} (h1 : b = true → A) (h2 : b = false → B) : if b = true then A else B := by
  cases b with
  | true => exact iteT (h1 rfl)
  | false => exact iteF (h2 rfl)
/-! append -/
theorem z_bm {T : String} {f : V → List V → Hp → VK → Prop} {t : TA} (h : ta σ H fun x H1 => tyV K T x H1 ∧ t σ H1 fun xs H2 => f x xs H2 Q) : tBM K T f ta t σ H Q := h
end
end Nm

/-! The own layer: the pen of the laws (the source of all draws). -/
namespace Nm
open PySem PySem.Spec PyProof.Rows L2
def penKv (c : Addr) (a g n f : Int) : List (Key × V) :=
  [(.inr "cells", .ref c), (.inr "at", .int a), (.inr "digits", .int g), (.inr "count", .int n), (.inr "fold", .int f)]
section
variable (c : Addr) (a g n f z : Int)
theorem pen_cells : valV (penKv c a g n f) (.inr "cells") = some (.ref c) := by kernel_rfl
theorem pen_at : valV (penKv c a g n f) (.inr "at") = some (.int a) := by kernel_rfl
theorem pen_digits : valV (penKv c a g n f) (.inr "digits") = some (.int g) := by kernel_rfl
theorem pen_count : valV (penKv c a g n f) (.inr "count") = some (.int n) := by kernel_rfl
theorem pen_fold : valV (penKv c a g n f) (.inr "fold") = some (.int f) := by kernel_rfl
theorem put_at : putK (penKv c a g n f) (.inr "at") (.int z) = penKv c z g n f := by kernel_rfl
theorem put_digits : putK (penKv c a g n f) (.inr "digits") (.int z) = penKv c a z n f := by kernel_rfl
theorem put_count : putK (penKv c a g n f) (.inr "count") (.int z) = penKv c a g z f := by kernel_rfl
theorem put_fold : putK (penKv c a g n f) (.inr "fold") (.int z) = penKv c a g n z := by kernel_rfl
theorem pen_merge : mergeK [] (penKv c a g n f) = penKv c a g n f := by kernel_rfl
end
/-- a pen stands at d, its numbers in the list at c, m draws are still let -/
def Pen (K : PySem.W.Frag) (H : Hp) (d c : Addr) (m : Nat) : Prop :=
  ∃ (a g n f : Int) (ns : List Int), H d = some (.dK (penKv c a g n f)) ∧ H c = some (.lst (ns.map V.int)) ∧ 0 ≤ a ∧ 0 ≤ g ∧ 0 ≤ n ∧ n + m ≤ 1000000000 ∧ 0 ≤ f ∧ f < 2147483587
theorem Pen.less {K : PySem.W.Frag} {H : Hp} {d c : Addr} {m m' : Nat} (h : Pen K H d c m) (e : m' ≤ m) : Pen K H d c m' := by
  obtain ⟨a, g, n, f, ns, h1, h2, h3, h4, h5, h6, h7, h8⟩ := h
  exact ⟨a, g, n, f, ns, h1, h2, h3, h4, h5, by omega, h7, h8⟩
theorem Pen.same {K : PySem.W.Frag} {H H' : Hp} {d c : Addr} {m : Nat} (s : Same H H') (h : Pen K H d c m) : Pen K H' d c m := by
  obtain ⟨a, g, n, f, ns, h1, h2, h3⟩ := h
  exact ⟨a, g, n, f, ns, s _ _ h1, s _ _ h2, h3⟩
theorem Pen.keep {K : PySem.W.Frag} {H H' : Hp} {d c : Addr} {m : Nat} (b : But d H H') (h : Pen K H d c m) : Keep H H' := by
  obtain ⟨a, g, n, f, ns, h1, _⟩ := h
  exact b.keep h1
theorem Pen.ne {K : PySem.W.Frag} {H : Hp} {d c p : Addr} {m : Nat} (h : Pen K H d c m) (hp : H p = none) : p ≠ d := fun e => by
  obtain ⟨a, g, n, f, ns, h1, _⟩ := h
  rw [← e, hp] at h1
  cases h1
/-- an object that an earlier heap did not know may change -/
theorem Pen.mut {K : PySem.W.Frag} {H0 H : Hp} {d c D : Addr} {m0 m : Nat} {o : HO} (h0 : Pen K H0 d c m0) (hD : H0 D = none) (h : Pen K H d c m) : Pen K (upd H D o) d c m := by
  have nd := h0.ne hD
  obtain ⟨_, _, _, _, ns0, _, q0, _⟩ := h0
  obtain ⟨a, g, n, f, ns, h1, h2, h3⟩ := h
  exact ⟨a, g, n, f, ns, by rw [upd_ne (Ne.symm nd)]; exact h1, by rw [upd_ne (ne_of_none q0 hD)]; exact h2, h3⟩
/-- a pen that was changed -/
theorem pen_new {K : PySem.W.Frag} {H : Hp} {d c : Addr} {a g n f : Int} {kvs : List (Key × V)} {ns : List Int} {m : Nat} (h1 : H d = some (.dK kvs)) (h2 : H c = some (.lst (ns.map V.int))) (e : kvs = penKv c a g n f) (h : 0 ≤ a ∧ 0 ≤ g ∧ 0 ≤ n ∧ n + m ≤ 1000000000 ∧ 0 ≤ f ∧ f < 2147483587) : Pen K H d c m := by
  subst e
  exact ⟨a, g, n, f, ns, h1, h2, h⟩
/-- _law_draw -/
def spDraw (K : PySem.W.Frag) : Sp := fun vs H Q _ => ∃ (d c : Addr) (m : Nat) (many : Int), vs = [.ref d, .int many] ∧ Pen K H d c (m + 1) ∧ 0 < many ∧ many.natAbs.log2 < 9000 ∧
  ∀ (r : Int) H', 0 ≤ r → r < many → But d H H' → Pen K H' d c m → Q (.int r) H'
/-- _law_pen -/
def spPen (K : PySem.W.Frag) : Sp := fun vs H Q _ => ∃ (a : Addr) (ns : List Int), vs = [.ref a] ∧ SqL K H a (ns.map V.int) ∧ ∀ d c H', H d = none → Same H H' → Pen K H' d c 100000000 → Q (.ref d) H'
/-- _law_pick: the drawn item of a list -/
def spPick (K : PySem.W.Frag) : Sp := fun vs H Q _ => ∃ (d c p : Addr) (m : Nat) (ys : List V), vs = [.ref d, .ref p] ∧ Pen K H d c (m + 1) ∧ SqL K H p ys ∧ ys ≠ [] ∧ ys.length ≤ 100000 ∧
  ∀ (v : V) H', v ∈ ys → But d H H' → Pen K H' d c m → Q v H'
/-! dict steps of the pen -/
section
variable {σ : L2.St} {H : Hp} {Q : VK} {K : PySem.W.Frag} {D : Ends} {td ty tv : TE}
def kPut (D : Ends) (σ : L2.St) (v x y : V) (H3 : Hp) : Prop := ∃ a H4, x = .ref a ∧ DPut H3 a y v H4 ∧ D.nx σ H4
theorem z_dput (h : tv σ H fun v H1 => td σ H1 fun x H2 => ty σ H2 fun y H3 => kPut D σ v x y H3) : sDPut td ty tv D σ H := h
theorem z_kPutS {v : V} {d : Addr} {x : Str} {kvs : List (Key × V)} (h : H d = some (.dK kvs)) (hl : kvs.length ≤ 1000) (q : D.nx σ (upd H d (.dK (putK kvs (.inr x) v)))) : kPut D σ v (.ref d) (.str x) H :=
  ⟨d, _, rfl, DPut.k (k := Sum.inr x) h (small1000 hl), q⟩
theorem z_kPutI {v : V} {d : Addr} {x : Int} {kvs : List (Key × V)} (h : H d = some (.dK kvs)) (hl : kvs.length ≤ 1000) (q : D.nx σ (upd H d (.dK (putK kvs (.inl x) v)))) : kPut D σ v (.ref d) (.int x) H :=
  ⟨d, _, rfl, DPut.k (k := Sum.inl x) h (small1000 hl), q⟩
def kGet (Q : VK) (x y : V) (H2 : Hp) : Prop := ∃ a v, x = .ref a ∧ DGet H2 a y (some v) ∧ Q v H2
theorem z_dget (h : td σ H fun x H1 => ty σ H1 fun y H2 => kGet Q x y H2) : tDGet td ty σ H Q := h
theorem z_kGetS {v : V} {d : Addr} {x : Str} {kvs : List (Key × V)} (h : H d = some (.dK kvs)) (e : valV kvs (.inr x) = some v) (q : Q v H) : kGet Q (.ref d) (.str x) H :=
  ⟨d, v, rfl, by rw [← e]; exact DGet.k (k := Sum.inr x) h, q⟩
theorem z_kGetI {v : V} {d : Addr} {x : Int} {kvs : List (Key × V)} (h : H d = some (.dK kvs)) (e : valV kvs (.inl x) = some v) (q : Q v H) : kGet Q (.ref d) (.int x) H :=
  ⟨d, v, rfl, by rw [← e]; exact DGet.k (k := Sum.inl x) h, q⟩
end
theorem log2_small {n : Int} (h0 : 0 < n) (h : n ≤ 1000000000000000000) : n.natAbs.log2 < 9000 := by
  have : n.natAbs < 2 ^ 9000 := Nat.lt_of_le_of_lt (m := 1000000000000000000) (by omega) (by decide)
  exact (Nat.log2_lt (by omega)).mpr this
section
variable {σ : L2.St} {H : Hp} {Q : VK} {K : PySem.W.Frag} {D : Ends} {d c : Addr} {a g n f z : Int}
theorem put_gen {kvs kvs' : List (Key × V)} {x : Str} {v : V} (h : H d = some (.dK kvs)) (hl : kvs.length ≤ 1000) (e : putK kvs (.inr x) v = kvs') (k : ∀ H', But d H H' → H' d = some (.dK kvs') → D.nx σ H') : kPut D σ v (.ref d) (.str x) H :=
  z_kPutS h hl (k _ But.upd (by rw [upd_same, e]))
theorem z_put_at (h : H d = some (.dK (penKv c a g n f))) (k : ∀ H', But d H H' → H' d = some (.dK (penKv c z g n f)) → D.nx σ H') : kPut D σ (.int z) (.ref d) (.str "at") H := put_gen h (by show 5 ≤ 1000; decide) (put_at ..) k
theorem z_put_digits (h : H d = some (.dK (penKv c a g n f))) (k : ∀ H', But d H H' → H' d = some (.dK (penKv c a z n f)) → D.nx σ H') : kPut D σ (.int z) (.ref d) (.str "digits") H := put_gen h (by show 5 ≤ 1000; decide) (put_digits ..) k
theorem z_put_count (h : H d = some (.dK (penKv c a g n f))) (k : ∀ H', But d H H' → H' d = some (.dK (penKv c a g z f)) → D.nx σ H') : kPut D σ (.int z) (.ref d) (.str "count") H := put_gen h (by show 5 ≤ 1000; decide) (put_count ..) k
theorem z_put_fold (h : H d = some (.dK (penKv c a g n f))) (k : ∀ H', But d H H' → H' d = some (.dK (penKv c a g n z)) → D.nx σ H') : kPut D σ (.int z) (.ref d) (.str "fold") H := put_gen h (by show 5 ≤ 1000; decide) (put_fold ..) k
theorem z_get_cells (h : H d = some (.dK (penKv c a g n f))) (q : Q (.ref c) H) : kGet Q (.ref d) (.str "cells") H := z_kGetS h (pen_cells ..) q
theorem z_get_at (h : H d = some (.dK (penKv c a g n f))) (q : Q (.int a) H) : kGet Q (.ref d) (.str "at") H := z_kGetS h (pen_at ..) q
theorem z_get_digits (h : H d = some (.dK (penKv c a g n f))) (q : Q (.int g) H) : kGet Q (.ref d) (.str "digits") H := z_kGetS h (pen_digits ..) q
theorem z_get_count (h : H d = some (.dK (penKv c a g n f))) (q : Q (.int n) H) : kGet Q (.ref d) (.str "count") H := z_kGetS h (pen_count ..) q
theorem z_get_fold (h : H d = some (.dK (penKv c a g n f))) (q : Q (.int f) H) : kGet Q (.ref d) (.str "fold") H := z_kGetS h (pen_fold ..) q
end
/-! loops -/
section
variable {σ : L2.St} {H : Hp} {Q : VK} {K : PySem.W.Frag} {D : Ends} {g : TG} {tb : TS} {wi : TI} {ta : TA} {te : TE}
def kFor (g : TG) (tb : TS) (D : Ends) (σ : L2.St) : It → Hp → Prop := fun J H1 => ∃ W : Nat → Nat → L2.St → Hp → Prop, (∃ m, W 0 m σ H1) ∧ ∀ i m σ H, W i m σ H →
      (J.stop i H ∧ D.nx σ H) ∨ (J.go i H ∧ ∃ N : L2.St → Hp → Prop, (∀ σ' H', N σ' H' → ∃ m', m' < m ∧ W (i + 1) m' σ' H') ∧ ∀ x H', J.yld i H x H' → g x σ H' fun σ2 H2 => tb { D with nx := N, ct := N, bk := D.nx } σ2 H2)
theorem z_for (h : wi σ H (kFor g tb D σ)) : tFor wi g tb D σ H := h
def kIL (K : PySem.W.Frag) (R : It → Hp → Prop) : VK := fun x H1 => ∃ a, x = .ref a ∧ (∃ xs, SqL K H1 a xs) ∧ R (Itl K a) H1
def kIT (K : PySem.W.Frag) (R : It → Hp → Prop) : VK := fun x H1 => ∃ a, x = .ref a ∧ (∃ xs, SqT K H1 a xs) ∧ R (Itt K a) H1
def kIS (R : It → Hp → Prop) : VK := fun v H1 => ∃ x, v = .str x ∧ R (Its x) H1
def kIR1 (R : It → Hp → Prop) : List V → Hp → Prop := fun vs H1 => ∃ j : Int, vs = [.int j] ∧ -(2 ^ 62) ≤ j ∧ j < 2 ^ 62 ∧ R (Itr 0 j.toNat) H1
def kIE (R : It → Hp → Prop) : List V → Hp → Prop := fun vs H1 => ∃ z, vs = [.str z] ∧ R (ItE z) H1
variable {R : It → Hp → Prop}
theorem z_iList (h : te σ H (kIL K R)) : iList K te σ H R := h
theorem z_kIL {a : Addr} {xs : List V} (h : SqL K H a xs) (q : R (Itl K a) H) : kIL K R (.ref a) H := ⟨a, rfl, ⟨xs, h⟩, q⟩
theorem z_iTup (h : te σ H (kIT K R)) : iTup K te σ H R := h
theorem z_kIT {a : Addr} {xs : List V} (h : SqT K H a xs) (q : R (Itt K a) H) : kIT K R (.ref a) H := ⟨a, rfl, ⟨xs, h⟩, q⟩
theorem z_iStr (h : te σ H (kIS R)) : iStr te σ H R := h
theorem z_kIS {z : Str} (q : R (Its z) H) : kIS R (.str z) H := ⟨z, rfl, q⟩
theorem z_iRng1 (h : ta σ H (kIR1 R)) : iRng1 ta σ H R := h
theorem z_kIR1 {j : Int} (h0 : -(2 ^ 62) ≤ j) (h1 : j < 2 ^ 62) (q : R (Itr 0 j.toNat) H) : kIR1 R [.int j] H := ⟨j, rfl, h0, h1, q⟩
theorem z_iEnumS (h : ta σ H (kIE R)) : iEnumS ta σ H R := h
theorem z_kIE {z : Str} (q : R (ItE z) H) : kIE R [.str z] H := ⟨z, rfl, q⟩
/-- a loop over a list that stands still: Pv by the turn, the slots, the heap -/
theorem f_list {a : Addr} {xs : List V} (Pv : Nat → L2.St → Hp → Prop) (h0 : Pv 0 σ H) (hl : ∀ i σ H, Pv i σ H → SqL K H a xs)
    (hs : ∀ i x σ H, xs[i]? = some x → Pv i σ H → g x σ H fun σ2 H2 => tb { D with nx := Pv (i + 1), ct := Pv (i + 1), bk := D.nx } σ2 H2) (hd : ∀ σ H, Pv xs.length σ H → D.nx σ H) : kFor g tb D σ (Itl K a) H :=
  for_list (K := K) (a := a) (xs := xs) Pv h0 (fun i σ H _ => hl i σ H) hs hd
theorem f_tup {a : Addr} {xs : List V} (Pv : Nat → L2.St → Hp → Prop) (h0 : Pv 0 σ H) (hl : ∀ i σ H, Pv i σ H → SqT K H a xs)
    (hs : ∀ i x σ H, xs[i]? = some x → Pv i σ H → g x σ H fun σ2 H2 => tb { D with nx := Pv (i + 1), ct := Pv (i + 1), bk := D.nx } σ2 H2) (hd : ∀ σ H, Pv xs.length σ H → D.nx σ H) : kFor g tb D σ (Itt K a) H :=
  for_tup (K := K) (a := a) (xs := xs) Pv h0 (fun i σ H _ => hl i σ H) hs hd
theorem f_range {lo : Int} {n : Nat} (Pv : Nat → L2.St → Hp → Prop) (h0 : Pv 0 σ H)
    (hs : ∀ (i : Nat) σ H, i < n → Pv i σ H → g (.int (lo + i)) σ H fun σ2 H2 => tb { D with nx := Pv (i + 1), ct := Pv (i + 1), bk := D.nx } σ2 H2) (hd : ∀ σ H, Pv n σ H → D.nx σ H) : kFor g tb D σ (Itr lo n) H :=
  for_range Pv h0 hs hd
theorem f_str {z : Str} (Pv : Nat → L2.St → Hp → Prop) (h0 : Pv 0 σ H)
    (hs : ∀ i c σ H, z.cps[i]? = some c → Pv i σ H → g (.str ⟨#[c]⟩) σ H fun σ2 H2 => tb { D with nx := Pv (i + 1), ct := Pv (i + 1), bk := D.nx } σ2 H2) (hd : ∀ σ H, Pv z.cps.size σ H → D.nx σ H) : kFor g tb D σ (Its z) H :=
  for_it walk_str Pv h0 (fun _ _ _ _ _ => trivial) (fun i x σ H H' hi p ⟨e, c, hc, ev⟩ => by subst e ev; exact hs i c σ _ hc p) hd
/-- for at, sign in enumerate(text) -/
theorem f_enumS {z : Str} {i0 j0 : Nat} (Pv : Nat → L2.St → Hp → Prop) (h0 : Pv 0 σ H)
    (hs : ∀ (i : Nat) c σ H H', z.cps[i]? = some c → Pv i σ H → Same H H' → tb { D with nx := Pv (i + 1), ct := Pv (i + 1), bk := D.nx } ((σ.set i0 (some (.int (i : Nat)))).set j0 (some (.str ⟨#[c]⟩))) H') (hd : ∀ σ H, Pv z.cps.size σ H → D.nx σ H) :
    kFor (gTup K 2 (gCons (gName i0) (gCons (gName j0) gNil))) tb D σ (ItE z) H :=
  for_it walk_enumS Pv h0 (fun _ _ _ _ _ => trivial) (fun i x σ H H' hi p ⟨T, c, ev, hT, hc, eH⟩ => by
    subst ev eH
    exact ⟨T, _, rfl, SqT.of upd_same, rfl, _, _, rfl, _, _, rfl, rfl, hs i c σ H _ hc p (Same.new hT)⟩) hd
end
/-! dict displays -/
section
variable {σ : L2.St} {H : Hp} {Q : VK} {K : PySem.W.Frag}
def kDisp (Q : VK) (p : Addr) : List (V × V) → Hp → Prop := fun ps H2 => H2 p = some (.dK []) ∧ ∃ kvs : List (Key × V), ps = kvs.map (fun kv => (kV kv.1, kv.2)) ∧ kvs.length ≤ 15 ∧ Q (.ref p) (upd H2 p (.dK (mergeK [] kvs)))
theorem z_disp {trs : List (TE × TE)} (h : ∀ p H', H p = none → Same H H' → H' p = some (.dK []) → tPairs trs σ H' (kDisp Q p)) : tDisp trs σ H Q := fun p hp => h p _ hp (Same.new hp) upd_same
theorem z_pcons {tk tv : TE} {r : List (TE × TE)} {QP : List (V × V) → Hp → Prop} (h : tk σ H fun x H1 => tv σ H1 fun y H2 => tPairs r σ H2 fun ps H3 => QP ((x, y) :: ps) H3) : tPairs ((tk, tv) :: r) σ H QP := h
theorem z_pnil {QP : List (V × V) → Hp → Prop} (h : QP [] H) : tPairs [] σ H QP := h
theorem z_kDisp {p : Addr} {ps : List (V × V)} (kvs : List (Key × V)) (e : ps = kvs.map (fun kv => (kV kv.1, kv.2))) (h : H p = some (.dK [])) (hl : kvs.length ≤ 15) (k : ∀ H', But p H H' → H' p = some (.dK (mergeK [] kvs)) → Q (.ref p) H') : kDisp Q p ps H :=
  ⟨h, kvs, e, hl, k _ But.upd upd_same⟩
end
/-- a statement, then the rest, with a word between them (HandS.Codes) -/
def tCut (t u : TS) : TS := fun D σ H => ∃ Mid : L2.St → Hp → Prop, t { D with nx := Mid } σ H ∧ ∀ σ' H', Mid σ' H' → u D σ' H'
theorem pss_cut {X : Cx} {st : Stmt} {rest : List Stmt} {t u : TS} (h1 : PS X st t) (h2 : PSs X rest u) : PSs X (st :: rest) (tCut t u) := by
  refine ⟨fun pins s σ H D I h => ?_⟩
  obtain ⟨Mid, hm, hu⟩ := h
  refine wpAny_execs_cons (thn (h1.run pins s σ H { D with nx := Mid } I hm) fun f s1 q => ?_)
  cases f with
  | next =>
    obtain ⟨σ', H', I', q⟩ := q
    exact h2.run pins s1 σ' H' D I' (hu σ' H' q)
  | ret v => exact q
  | brk => exact q
  | cont => exact q
theorem z_cut {t u : TS} {D : Ends} {σ : L2.St} {H : Hp} (Mid : L2.St → Hp → Prop) (h1 : t { D with nx := Mid } σ H) (h2 : ∀ σ' H', Mid σ' H' → u D σ' H') : Nm.tCut t u D σ H := ⟨Mid, h1, h2⟩
theorem same_at {H H' : Hp} {a : Addr} {o : HO} (s : Same H H') (h : H a = some o) : H' a = some o := s a o h
theorem same_sq {K : PySem.W.Frag} {H H' : Hp} {a : Addr} {xs : List V} (s : Same H H') (h : SqL K H a xs) : SqL K H' a xs := s.seq h
theorem same_st {K : PySem.W.Frag} {H H' : Hp} {a : Addr} {xs : List V} (s : Same H H') (h : SqT K H a xs) : SqT K H' a xs := (same_keep s).t h
theorem But.same {p : Addr} {H H1 H2 : Hp} (s : Same H H1) (b : But p H1 H2) (hp : H p = none) : Same H H2 := fun a o e => b a o (ne_of_none e hp) (s a o e)
end Nm

/-! The own layer: comprehensions. -/
namespace Nm
open PySem PySem.Spec PyProof.Rows L2
def kLc (g : TG) (tt : TT) (te : TE) (vs : List Nat) (σ : L2.St) (Q : VK) : It → Hp → Prop := fun J H1 => ∀ D, H1 D = none → ∃ W : Nat → Nat → Hp → Prop, (∃ m, W 0 m (upd H1 D (.lst []))) ∧ ∀ i m H, W i m H →
  (J.stop i H ∧ Q (.ref D) H) ∨ (J.go i H ∧ ∃ Nx : Hp → Prop, (∀ H', Nx H' → ∃ m', m' < m ∧ W (i + 1) m' H') ∧ ∀ x H', J.yld i H x H' → g x (wipe σ vs) H' fun σ2 H2 => wipe σ2 vs = wipe σ vs ∧ tt σ2 H2 fun b H3 =>
    if b = true then te σ2 H3 fun y H4 => ∃ acc, H4 D = some (.lst acc) ∧ acc.length < sizeLine ∧ Nx (upd H4 D (.lst (acc ++ [y]))) else Nx H3)
section
variable {wi : TI} {g : TG} {tt : TT} {te : TE} {vs : List Nat} {σ : L2.St} {H : Hp} {Q : VK} {J : It} {K : PySem.W.Frag}
theorem z_lc (h : wi σ H (kLc g tt te vs σ Q)) : tLc wi g tt te vs σ H Q := h
theorem z_tYes {QT : Bool → Hp → Prop} (h : QT true H) : tYes σ H QT := h
def YEm {α : Type} (xs : List α) (e : α → V) : Nat → Hp → V → Hp → Prop := fun i H x H' => H' = H ∧ ∃ a, xs[i]? = some a ∧ x = e a
theorem filter_take {α : Type} (p : α → Bool) : ∀ (xs : List α) (i : Nat) (a : α), xs[i]? = some a → (xs.take (i + 1)).filter p = (xs.take i).filter p ++ (if p a = true then [a] else [])
  | [], i, a, h => by simp at h
  | x :: xs, 0, a, h => by
    have e : x = a := Option.some.inj h
    subst e
    cases q : p x <;> simp [q]
  | x :: xs, i + 1, a, h => by
    have ih := filter_take p xs i a h
    rw [List.take_succ_cons, List.take_succ_cons, List.filter_cons, List.filter_cons, ih]
    cases q : p x <;> simp
theorem set_none_twice {σ : L2.St} {i : Nat} {x : Option V} : ((σ.set i none).set i x).set i none = σ.set i none := by simp
/-- [f(x) for x in xs if p(x)], nothing of what stood changed -/
theorem l_pure {α : Type} {xs : List α} {e : α → V} {G : Hp → Prop} {i0 : Nat} (w : Walk J xs.length G (YEm xs e)) (p : α → Bool) (f : α → V) (hz : xs.length ≤ 1000000) (hG : ∀ H1, Same H H1 → G H1)
    (ht : ∀ (i : Nat) a H1, xs[i]? = some a → Same H H1 → ∀ QT : Bool → Hp → Prop, (∀ H2, Same H1 H2 → QT (p a) H2) → tt ((σ.set i0 none).set i0 (some (e a))) H1 QT)
    (he : ∀ (i : Nat) a H1, xs[i]? = some a → p a = true → Same H H1 → ∀ Q' : VK, (∀ H2, Same H1 H2 → Q' (f a) H2) → te ((σ.set i0 none).set i0 (some (e a))) H1 Q')
    (k : ∀ D H', H D = none → Same H H' → H' D = some (.lst ((xs.filter p).map f)) → Q (.ref D) H') : kLc (gName i0) tt te [i0] σ Q J H := fun D hD => by
  refine lc_it w (Pv := fun i H1 => Same H H1 ∧ H1 D = some (.lst (((xs.take i).filter p).map f))) ⟨Same.new hD, by rw [upd_same]; simp⟩ (fun i H1 _ ⟨s, _⟩ => hG H1 s) ?_ ?_
  · rintro i x H1 H1' hi ⟨s1, h1⟩ ⟨eH, a, ha, ex⟩
    subst eH ex
    refine ⟨set_none_twice, ?_⟩
    refine ht i a _ ha s1 _ fun H2 s2 => ?_
    have hf := filter_take p xs i a ha
    cases q : p a with
    | true =>
      refine iteT ?_
      refine he i a H2 ha q (s1.trans s2) _ fun H3 s3 => ?_
      refine ⟨_, s3 _ _ (s2 _ _ h1), ?_, Nm.Same.mut ((s1.trans s2).trans s3) hD, ?_⟩
      · have h2 : ((xs.take i).filter p).length ≤ i := Nat.le_trans (List.length_filter_le _ _) (by rw [List.length_take]; omega)
        rw [List.length_map, sizeLine_eq]
        omega
      · rw [upd_same, hf, q]
        simp
    | false =>
      refine iteF ?_
      refine ⟨s1.trans s2, ?_⟩
      rw [hf, q, s2 _ _ h1]
      simp
  · rintro H1 ⟨s1, h1⟩
    refine k D H1 hD s1 ?_
    rw [h1, List.take_length]
theorem walk_text {z : Str} : Walk (Its z) z.cps.toList.length (fun _ => True) (YEm z.cps.toList fun c => V.str ⟨#[c]⟩) where
  goes := fun i H hi _ => by
    have hi' : i < z.cps.size := by simpa using hi
    exact walk_str.goes i H hi' trivial
  stops := fun H _ => by
    have e : z.cps.toList.length = z.cps.size := by simp
    rw [e]
    exact walk_str.stops H trivial
  yields := fun i H x H' hi _ y => by
    have hi' : i < z.cps.size := by simpa using hi
    obtain ⟨e, c, hc, ev⟩ := walk_str.yields i H x H' hi' trivial y
    exact ⟨e, c, by simpa using hc, ev⟩
theorem walk_lst {a : Addr} {xs : List V} : Walk (Itl K a) xs.length (fun H => SqL K H a xs) (YEm xs id) where
  goes := walk_list.goes
  stops := walk_list.stops
  yields := fun i H x H' hi g y => by
    obtain ⟨e, h⟩ := walk_list.yields i H x H' hi g y
    exact ⟨e, x, h, rfl⟩
theorem walk_lstE {α : Type} {a : Addr} {xs : List α} {e : α → V} : Walk (Itl K a) xs.length (fun H => SqL K H a (xs.map e)) (YEm xs e) where
  goes := fun i H hi g => walk_list.goes i H (by rw [List.length_map]; exact hi) g
  stops := fun H g => by
    have q := walk_list.stops H g
    rw [List.length_map] at q
    exact q
  yields := fun i H x H' hi g y => by
    obtain ⟨e1, h⟩ := walk_list.yields i H x H' (by rw [List.length_map]; exact hi) g y
    rw [List.getElem?_map] at h
    cases q : xs[i]? with
    | none => rw [q] at h; cases h
    | some y => rw [q] at h; exact ⟨e1, y, q, (Option.some.inj h).symm⟩
theorem walk_tupE {α : Type} {a : Addr} {xs : List α} {e : α → V} : Walk (Itt K a) xs.length (fun H => SqT K H a (xs.map e)) (YEm xs e) where
  goes := fun i H hi g => walk_tup.goes i H (by rw [List.length_map]; exact hi) g
  stops := fun H g => by
    have q := walk_tup.stops H g
    rw [List.length_map] at q
    exact q
  yields := fun i H x H' hi g y => by
    obtain ⟨e1, h⟩ := walk_tup.yields i H x H' (by rw [List.length_map]; exact hi) g y
    rw [List.getElem?_map] at h
    cases q : xs[i]? with
    | none => rw [q] at h; cases h
    | some y => rw [q] at h; exact ⟨e1, y, q, (Option.some.inj h).symm⟩
theorem walk_rng {lo : Int} {n : Nat} : Walk (Itr lo n) (List.range n).length (fun _ => True) (YEm (List.range n) fun i => V.int (lo + (i : Nat))) where
  goes := fun i H hi g => by
    have hi' : i < n := by simpa using hi
    exact walk_range.goes i H hi' g
  stops := fun H g => by
    rw [List.length_range]
    exact walk_range.stops H g
  yields := fun i H x H' hi g y => by
    have hi' : i < n := by simpa using hi
    obtain ⟨e1, h⟩ := walk_range.yields i H x H' hi' g y
    exact ⟨e1, i, by rw [List.getElem?_range]; simpa using hi', h⟩
end
/-! texts by their signs -/
abbrev tl (z : Str) : List Nat := z.cps.toList
theorem str_ext {a b : Str} (h : tl a = tl b) : a = b := by
  obtain ⟨x⟩ := a
  obtain ⟨y⟩ := b
  congr 1
  exact Array.toList_inj.mp h
theorem str_eq {a b : Str} : (a = b) = (tl a = tl b) := propext ⟨fun h => by rw [h], str_ext⟩
theorem str_len (z : Str) : z.length = (tl z).length := by
  show z.cps.size = z.cps.toList.length
  simp
theorem tl_app (a b : Str) : tl (a ++ b) = tl a ++ tl b := by
  show (a.cps ++ b.cps).toList = _
  simp
theorem app_len (a b : Str) : (a ++ b).length = a.length + b.length := by
  rw [str_len, str_len, str_len, tl_app, List.length_append]
theorem tl_mk (l : List Nat) : tl ⟨l.toArray⟩ = l := by simp [tl]
theorem line_ge {n : Nat} (h : n ≤ 1000000) : n ≤ sizeLine := Nat.le_trans h (by decide)
theorem tl_cut (z : Str) (lo hi : Option Int) : tl (cutS z lo hi) = ((tl z).drop (HT.sIx z.length 0 lo)).take (HT.sIx z.length z.length hi - HT.sIx z.length 0 lo) := by
  unfold cutS
  exact tl_mk _
theorem cut_to (z : Str) (k : Nat) : tl (cutS z none (some (k : Int))) = (tl z).take k := by
  rw [tl_cut, HT.sIx_nat, HT.sIx_none, List.drop_zero, Nat.sub_zero, str_len, Nat.min_def]
  by_cases h : k ≤ (tl z).length
  · rw [if_pos h]
  · rw [if_neg h, List.take_length, List.take_of_length_le (by omega)]
theorem cut_from (z : Str) (k : Nat) : tl (cutS z (some (k : Int)) none) = (tl z).drop k := by
  rw [tl_cut, HT.sIx_nat, HT.sIx_none, str_len]
  by_cases h : k ≤ (tl z).length
  · rw [Nat.min_eq_left h, List.take_of_length_le (by rw [List.length_drop]; omega)]
  · rw [Nat.min_eq_right (by omega), List.drop_length, List.take_nil, List.drop_of_length_le (by omega)]
theorem cut_mid (z : Str) (a b : Nat) (h : b ≤ (tl z).length) : tl (cutS z (some (a : Int)) (some (b : Int))) = ((tl z).drop a).take (b - a) := by
  rw [tl_cut, HT.sIx_nat, HT.sIx_nat, str_len, Nat.min_eq_left h]
  by_cases q : a ≤ (tl z).length
  · rw [Nat.min_eq_left q]
  · have e : b - a = 0 := by omega
    have e2 : b - min a (tl z).length = 0 := by omega
    rw [e, e2, List.take_zero, List.take_zero]
/-- a text of one sign against a written one -/
theorem one_eq {c k : Nat} {x : Str} (e : tl x = [k]) : decide ((⟨#[c]⟩ : Str) = x) = decide (c = k) := by
  refine decide_eq_decide.mpr ?_
  rw [str_eq, e]
  refine ⟨fun h => ?_, fun h => ?_⟩
  · have h' : [c] = [k] := h
    exact (List.cons.inj h').1
  · show [c] = [k]
    rw [h]
theorem txt_eq {z x : Str} {k : List Nat} (e : tl x = k) : decide (z = x) = decide (tl z = k) := decide_eq_decide.mpr (by rw [str_eq, e])
theorem tl_mulS (z : Str) (n : Nat) : tl (mulS z n) = (List.replicate n (tl z)).flatten := by
  unfold mulS
  exact tl_mk _
end Nm

/-! The own layer: data without lists stands while a list changes; lists that grow. -/
namespace Nm
open PySem PySem.Spec PyProof.Rows L2
mutual
def noL : PyData → Bool
  | .list _ => false
  | .tuple ds => noLs ds
  | .dict _ => false
  | _ => true
def noLs : List PyData → Bool
  | [] => true
  | d :: ds => noL d && noLs ds
end
/-- tuples stand -/
def KT (K : PySem.W.Frag) (H H' : Hp) : Prop := ∀ a xs, SqT K H a xs → SqT K H' a xs
theorem KT.keep {K : PySem.W.Frag} {H H' : Hp} (k : Keep H H') : KT K H H' := fun _ _ h => k.t h
theorem KT.trans {K : PySem.W.Frag} {H H1 H2 : Hp} (a : KT K H H1) (b : KT K H1 H2) : KT K H H2 := fun x o h => b x o (a x o h)
theorem KT.upd {K : PySem.W.Frag} {H : Hp} {p : Addr} {xs : List V} {o : HO} (h : H p = some (.lst xs)) : KT K H (upd H p o) := fun a ys q => by
  rcases q with (q | ⟨u, q⟩) | q
  · exact .inl (.inl (by rw [upd_ne (ne_of q h (by intro z; cases z))]; exact q))
  · exact .inl (.inr ⟨u, by rw [upd_ne (ne_of q h (by intro z; cases z))]; exact q⟩)
  · exact .inr q
mutual
theorem dp_kt {K : PySem.W.Frag} {H H' : Hp} (k : KT K H H') : ∀ {v : V} {d : PyData}, noL d = true → Dp K H v d → Dp K H' v d
  | _, _, _, .non => .non
  | _, _, _, .bl b => .bl b
  | _, _, _, .int i => .int i
  | _, _, _, .str x => .str x
  | _, _, n, .lst h l => by simp [noL] at n
  | _, _, n, .tup h l => .tup (k _ _ h) (dps_kt k (by simpa [noL] using n) l)
theorem dps_kt {K : PySem.W.Frag} {H H' : Hp} (k : KT K H H') : ∀ {v : List V} {d : List PyData}, noLs d = true → DpAll K H v d → DpAll K H' v d
  | _, _, _, .nil => .nil
  | _, _, n, .cons h l => by
    simp only [noLs, Bool.and_eq_true] at n
    exact .cons (dp_kt k n.1 h) (dps_kt k n.2 l)
end
theorem dps_app {K : PySem.W.Frag} {H : Hp} : ∀ {vs ws : List V} {ds es : List PyData}, DpAll K H vs ds → DpAll K H ws es → DpAll K H (vs ++ ws) (ds ++ es)
  | _, _, _, _, .nil, h => h
  | _, _, _, _, .cons a l, h => .cons a (dps_app l h)
theorem dps_len {K : PySem.W.Frag} {H : Hp} : ∀ {vs : List V} {ds : List PyData}, DpAll K H vs ds → vs.length = ds.length
  | _, _, .nil => rfl
  | _, _, .cons _ l => by rw [List.length_cons, List.length_cons, dps_len l]
theorem noLs_app : ∀ (ds es : List PyData), noLs (ds ++ es) = (noLs ds && noLs es)
  | [], es => by simp [noLs]
  | d :: ds, es => by
    show (noL d && noLs (ds ++ es)) = _
    rw [noLs_app ds es]
    show _ = (noL d && noLs ds && noLs es)
    rw [Bool.and_assoc]
/-- a list at p that holds the data ds, none of them with a list in it -/
structure Grow (K : PySem.W.Frag) (H : Hp) (p : Addr) (ds : List PyData) : Prop where
  no : noLs ds = true
  ex : ∃ vs, H p = some (.lst vs) ∧ DpAll K H vs ds
theorem Grow.same {K : PySem.W.Frag} {H H' : Hp} {p : Addr} {ds : List PyData} (g : Grow K H p ds) (s : Same H H') : Grow K H' p ds := by
  obtain ⟨n, vs, h, l⟩ := g
  exact ⟨n, vs, s _ _ h, dps_keep (same_keep s) l⟩
theorem Grow.keep {K : PySem.W.Frag} {H H' : Hp} {p : Addr} {ds : List PyData} (g : Grow K H p ds) (s : Keep H H') : Grow K H' p ds := by
  obtain ⟨n, vs, h, l⟩ := g
  exact ⟨n, vs, s _ _ h rfl, dps_keep s l⟩
theorem grow_nil {K : PySem.W.Frag} {H : Hp} {p : Addr} (h : H p = some (.lst [])) : Grow K H p [] := ⟨rfl, [], h, .nil⟩
theorem Grow.sq {K : PySem.W.Frag} {H : Hp} {p : Addr} {ds : List PyData} (g : Grow K H p ds) : ∃ vs, SqL K H p vs ∧ DpAll K H vs ds ∧ vs.length = ds.length := by
  obtain ⟨n, vs, h, l⟩ := g
  exact ⟨vs, SqL.of h, l, dps_len l⟩
/-- xs.append(v) of a growing list -/
theorem z_append {K : PySem.W.Frag} {H : Hp} {p : Addr} {ds : List PyData} {v : V} {d : PyData} {Q : VK} (g : Grow K H p ds) (hv : Dp K H v d) (hn : noL d = true) (hl : ds.length ≤ 1000000) (k : ∀ H', Grow K H' p (ds ++ [d]) → (∀ H0, Same H0 H → H0 p = none → Same H0 H') → (∀ a, a ≠ p → H' a = H a) → Q .non H') :
    rAppend (.ref p) [v] H Q := by
  obtain ⟨n, vs, h, l⟩ := g
  have hlen := dps_len l
  refine ⟨p, vs, v, rfl, rfl, h, by rw [sizeLine_eq]; omega, k _ ⟨by rw [noLs_app, n]; simp [noLs, hn], _, upd_same, ?_⟩ (fun H0 s hp => Nm.Same.mut s hp) fun a ha => upd_ne ha⟩
  exact dps_app (dps_kt (KT.upd h) n l) (.cons (dp_kt (KT.upd h) hn hv) .nil)
theorem Grow.ty {K : PySem.W.Frag} {H : Hp} {p : Addr} {ds : List PyData} (g : Grow K H p ds) : tyV K "list" (.ref p) H := by
  obtain ⟨n, vs, h, l⟩ := g
  exact .inl ⟨rfl, _, SqL.of h⟩
end Nm

/-! The own layer: comprehensions over a text; == of data. -/
namespace Nm
open PySem PySem.Spec PyProof.Rows L2
section
variable {te : TE} {tt : TT} {σ : L2.St} {H : Hp} {Q : VK} {K : PySem.W.Frag}
/-- [g(c) for c in z], truth values -/
theorem l_textB {z : Str} {i0 : Nat} (g : Nat → Bool) (hz : z.length ≤ 1000000)
    (he : ∀ (c : Nat) H1, c ∈ tl z → Same H H1 → ∀ Q' : VK, Q' (.bl (g c)) H1 → te ((σ.set i0 none).set i0 (some (.str ⟨#[c]⟩))) H1 Q')
    (k : ∀ D H', H D = none → Same H H' → H' D = some (.lst (((tl z).map g).map V.bl)) → Q (.ref D) H') : kLc (gName i0) tYes te [i0] σ Q (Its z) H := by
  refine l_pure (p := fun _ => true) (f := fun c => V.bl (g c)) walk_text (by rw [← str_len]; exact hz) (fun _ _ => trivial) (fun i a H1 _ s QT q => q H1 (Same.refl _)) (fun i a H1 ha _ s Q' q => he a H1 (List.mem_of_getElem? ha) s Q' (q H1 (Same.refl _))) fun D H' hD s h => k D H' hD s ?_
  rw [h]
  have e : (z.cps.toList.filter fun _ => true) = z.cps.toList := List.filter_eq_self.mpr fun _ _ => rfl
  rw [e, List.map_map]
  rfl
/-- [1 for c in z if p(c)] -/
theorem l_textF {z : Str} {i0 : Nat} (p : Nat → Bool) (v : V) (hz : z.length ≤ 1000000)
    (ht : ∀ (c : Nat) H1, c ∈ tl z → Same H H1 → ∀ QT : Bool → Hp → Prop, QT (p c) H1 → tt ((σ.set i0 none).set i0 (some (.str ⟨#[c]⟩))) H1 QT)
    (he : ∀ (c : Nat) H1, Same H H1 → ∀ Q' : VK, Q' v H1 → te ((σ.set i0 none).set i0 (some (.str ⟨#[c]⟩))) H1 Q')
    (k : ∀ D H', H D = none → Same H H' → H' D = some (.lst (((tl z).filter p).map fun _ => v)) → Q (.ref D) H') : kLc (gName i0) tt te [i0] σ Q (Its z) H :=
  l_pure (p := p) (f := fun _ => v) walk_text (by rw [← str_len]; exact hz) (fun _ _ => trivial) (fun i a H1 ha s QT q => ht a H1 (List.mem_of_getElem? ha) s QT (q H1 (Same.refl _))) (fun i a H1 _ _ s Q' q => he a H1 s Q' (q H1 (Same.refl _))) k
end
theorem dps_ints {K : PySem.W.Frag} {H : Hp} {α : Type} (n : Int) : ∀ (l : List α), DpAll K H (l.map fun _ => V.int n) (l.map fun _ => PyData.int n)
  | [] => .nil
  | _ :: l => .cons (.int n) (dps_ints n l)
theorem dps_bls {K : PySem.W.Frag} {H : Hp} : ∀ (l : List Bool), DpAll K H (l.map V.bl) (l.map PyData.bool)
  | [] => .nil
  | b :: l => .cons (.bl b) (dps_bls l)
theorem eqvAll_nil {l : List PyData} : PyData.eqvAll l [] = decide (l = []) := by
  cases l with
  | nil => rfl
  | cons a l => rfl
theorem eqv_list_nil {l : List PyData} : PyData.eqv (.list l) (.list []) = decide (l = []) := eqvAll_nil
theorem canLayAll_iff : ∀ {l : List PyData}, PyData.canLayAll0 l = true ↔ ∀ d ∈ l, PyData.canLay0 d = true
  | [] => by simp [PyData.canLayAll0]
  | d :: l => by simp [PyData.canLayAll0, canLayAll_iff (l := l)]
theorem depthAll_le {n : Nat} : ∀ {l : List PyData}, (∀ d ∈ l, PyData.depth d ≤ n) → PyData.depthAll l ≤ n
  | [], _ => by simp [PyData.depthAll]
  | d :: l, h => by
    simp only [PyData.depthAll]
    exact Nat.max_le.mpr ⟨h d (by simp), depthAll_le fun e he => h e (by simp [he])⟩
/-- a list, a tuple, of things that are not deep -/
theorem shaped_list {n : Nat} {l : List PyData} (hn : n < 64) (h : ∀ d ∈ l, PyData.canLay0 d = true ∧ PyData.depth d ≤ n) : SeqAt.shaped (.list l) = true := by
  unfold SeqAt.shaped
  rw [Bool.and_eq_true]
  refine ⟨?_, decide_eq_true ?_⟩
  · simp only [PyData.canLay0]
    exact canLayAll_iff.mpr fun d hd => (h d hd).1
  · simp only [PyData.depth]
    have := depthAll_le (n := n) fun d hd => (h d hd).2
    omega
theorem shaped_tup {n : Nat} {l : List PyData} (hn : n < 64) (h : ∀ d ∈ l, PyData.canLay0 d = true ∧ PyData.depth d ≤ n) : SeqAt.shaped (.tuple l) = true := by
  unfold SeqAt.shaped
  rw [Bool.and_eq_true]
  refine ⟨?_, decide_eq_true ?_⟩
  · simp only [PyData.canLay0]
    exact canLayAll_iff.mpr fun d hd => (h d hd).1
  · simp only [PyData.depth]
    have := depthAll_le (n := n) fun d hd => (h d hd).2
    omega
theorem eqv_refl_shaped {d : PyData} (h : SeqAt.shaped d = true) : PyData.eqv d d = true := PySem.SeqAt.eqv_refl d (SeqAt.canLay_of_shaped h)
/-- [n for c in z if c not in x] == [] -/
theorem z_noneOf {tx ts : TE} {i : Nat} {n : Int} {z x : Str} {σ : L2.St} {H : Hp} {Q : VK} {K : PySem.W.Frag} (hz : z.length ≤ 100000) (h1 : ∀ R : VK, R (.str z) H → tx σ H R)
    (h2 : ∀ (c : Nat) H1, Same H H1 → ∀ R : VK, R (.str x) H1 → ts ((σ.set i none).set i (some (.str ⟨#[c]⟩))) H1 R) (hi : i < σ.length)
    (k : ∀ H', Same H H' → Q (.bl (decide ((tl z).filter (fun c => !decide (c ∈ tl x)) = []))) H') : tOp (rEqD K) (tLc (iStr tx) (gName i) (tTest (tOp nNotInC (tVar i) ts)) (tC (.int n)) [i]) (tLst tNil) σ H Q := by
  refine z_op (z_lc (z_iStr (h1 _ (z_kIS ?_))))
  refine l_textF (fun c => !decide (c ∈ tl x)) (.int n) (by omega) (fun c H1 _ s QT q => ?_) (fun c H1 s Q' q => q) fun D H' hD s hDl => ?_
  · refine z_test (z_op (z_var (v := .str ⟨#[c]⟩) (by simp [hi]) (h2 c H1 s _ (z_notInC (z_kT q)))))
  · refine z_lst (z_nil (z_kLst (Nat.zero_le _) fun p H2 hp s2 hp2 => ?_))
    refine z_eqD (d := .list (((tl z).filter (fun c => !decide (c ∈ tl x))).map fun _ => .int n)) (e := .list []) (.lst (SqL.of (s2 _ _ hDl)) (dps_ints n _)) (.lst (SqL.of hp2) .nil) (shaped_list (n := 0) (by decide) fun d hd => ?_) rfl ?_
    · obtain ⟨c, _, rfl⟩ := List.mem_map.mp hd
      exact ⟨rfl, Nat.le_refl _⟩
    · rw [eqv_list_nil]
      have e : decide ((((tl z).filter (fun c => !decide (c ∈ tl x))).map fun _ => PyData.int n) = []) = decide ((tl z).filter (fun c => !decide (c ∈ tl x)) = []) := decide_eq_decide.mpr List.map_eq_nil_iff
      rw [e]
      exact k H2 (s.trans s2)
/-- a text of at most n good signs -/
def okS (n : Nat) (x : Str) : Prop := x.length ≤ n ∧ PyData.strOk x = true
def okV (n : Nat) : V → Bool
  | .str x => decide (x.length ≤ n) && PyData.strOk x
  | _ => false
theorem okV_of {n : Nat} {ys : List V} {v : V} (h : ys.all (okV n) = true) (hv : v ∈ ys) : ∃ x, v = .str x ∧ okS n x := by
  have q := List.all_eq_true.mp h v hv
  cases v with
  | str x =>
    have q' : (decide (x.length ≤ n) && PyData.strOk x) = true := q
    rw [Bool.and_eq_true] at q'
    exact ⟨x, rfl, of_decide_eq_true q'.1, q'.2⟩
  | _ => cases q
theorem strOk_iff {x : Str} : PyData.strOk x = true ↔ ∀ c ∈ tl x, c < 0x110000 := by
  unfold PyData.strOk
  rw [← Array.all_toList, List.all_eq_true]
  simp
theorem okS_app {a b : Nat} {x y : Str} (hx : okS a x) (hy : okS b y) : okS (a + b) (x ++ y) := by
  refine ⟨by rw [app_len]; have := hx.1; have := hy.1; omega, ?_⟩
  rw [strOk_iff, tl_app]
  intro c hc
  rcases List.mem_append.mp hc with q | q
  · exact strOk_iff.mp hx.2 c q
  · exact strOk_iff.mp hy.2 c q
theorem okS.le {a b : Nat} {x : Str} (h : okS a x) (e : a ≤ b) : okS b x := ⟨Nat.le_trans h.1 e, h.2⟩
theorem signs_ok {z : Str} (h : PyData.strOk z = true) : (signsV z).all (okV 1) = true := by
  rw [List.all_eq_true]
  intro v hv
  obtain ⟨c, hc, rfl⟩ := List.mem_map.mp hv
  show (decide ((⟨#[c]⟩ : Str).length ≤ 1) && PyData.strOk ⟨#[c]⟩) = true
  rw [Bool.and_eq_true]
  refine ⟨rfl, strOk_iff.mpr fun c' hc' => ?_⟩
  have e : c' = c := by simpa [tl] using hc'
  rw [e]
  exact strOk_iff.mp h c hc
theorem signs_ne {z : Str} (h : 0 < z.length) : signsV z ≠ [] := by
  unfold signsV
  intro q
  have := List.map_eq_nil_iff.mp q
  rw [str_len] at h
  rw [show tl z = [] from this] at h
  exact absurd h (by decide)
theorem signs_len (z : Str) : (signsV z).length = z.length := by
  unfold signsV
  rw [List.length_map, str_len]
theorem same_but {d : Addr} {H H' : Hp} (s : Same H H') : But d H H' := fun a o _ h => s a o h
/-- a drawn text out of a list of texts -/
theorem use_pick {K : PySem.W.Frag} {H : Hp} {Q : VK} {E : XK} {d c p : Addr} {m : Nat} {ys : List V} (n : Nat) (hp : Pen K H d c (m + 1)) (h : H p = some (.lst ys)) (hok : ys.all (okV n) = true) (hne : ys ≠ []) (hl : ys.length ≤ 100000)
    (k : ∀ x H', okS n x → But d H H' → Pen K H' d c m → Q (.str x) H') : spPick K [.ref d, .ref p] H Q E :=
  ⟨d, c, p, m, ys, rfl, hp, SqL.of h, hne, hl, fun v H' hv b p' => by
    obtain ⟨x, rfl, ox⟩ := okV_of hok hv
    exact k x H' ox b p'⟩
theorem use_draw {K : PySem.W.Frag} {H : Hp} {Q : VK} {E : XK} {d c : Addr} {m : Nat} {many : Int} (hp : Pen K H d c (m + 1)) (h0 : 0 < many) (h1 : many ≤ 1000000000000000000) (k : ∀ (r : Int) H', 0 ≤ r → r < many → But d H H' → Pen K H' d c m → Q (.int r) H') : spDraw K [.ref d, .int many] H Q E :=
  ⟨d, c, m, many, rfl, hp, h0, log2_small h0 h1, k⟩
end Nm

/-! The own layer: the end. -/
namespace Nm
open PySem PySem.Spec PyProof.Rows L2
theorem walk_ofX {l : PySem.W.OpenLaw} {n k : Nat} {q : Program} {loose : List Str} {XP : (Str → Option Value) → Heap → Prop} {YP : World → Heap → Prop} {d : DefRec} {K : Params → PySem.W.Frag} {CX : CXT} {sp : PySem.W.Frag → Sp} {x : Str}
    (hn : l.most = some n) (hn2 : n ≤ sizeLine) (hdf : d.params.defaults = []) (hr : Room k callerA)
    (hY : ∀ (w : World) (h : Heap), YP w h → (K w.params).In h)
    (F : ∀ (w : World) (mg : Str → Option Value) (fa : Addr) (h : Heap), XP mg h → (K w.params).In h → h.Ns mainGlobals mg → mg d.name = some (.ref fa) →
      ∃ fd : FuncData, (∀ (s : Shared) (u : Value), BindsTo s fd ⟨[u], []⟩ [(x, u)]) ∧
        ∀ base : Heap, (K w.params).In base → base.Ns mainGlobals mg → FnOk l.prog w (K w.params) mg base CX k fa fd [x] (sp (K w.params)))
    (hsp : ∀ (K : PySem.W.Frag) (H : Hp) (a : Addr) (ns : List Int), ns.length ≤ n → SqL K H a (ns.map V.int) → sp K [.ref a] H (fun v _ => v = .bl true) fun _ _ _ => False)
    (hCX : ∀ (H : Hp) (s : Shared) (e : Value) (s' : Shared), CX [] H s (fun _ _ _ => False) e s' → False) :
    PySem.W.WalkO q loose XP YP l.row.toRowW d [] (fun f vs => PySem.call f vs) := by
  refine Att.attach_call hn hdf fun w s₀ s₁ mg mb fa o pm cd doc a vs ns G Y ho hd hcd hmg hobj hints hlen hg => ?_
  have KX := hY w _ Y
  obtain ⟨fd, hb, hF⟩ := F w mg fa _ G.X KX G.T.g hmg
  exact law_call KX G.T.g G.T.b G.T.builtins G.T.nolimit hg hobj hints (Nat.le_trans hlen hn2) hr hF hb (fun H hO hS => hsp (K w.params) H a ns hlen hS) fun H e s' => hCX H s₁ e s'
theorem df_mk {K : PySem.W.Frag} {mg : Str → Option Value} {h : Heap} {x : Str} {st : Stmt} {ps : List Str} {f : Addr} {oc : Value} {od an : Option Addr} {osl : Array (Option Value)} {kV doc pm cdv ct : Value} (X : K.In h) (G : h.Ns mainGlobals mg)
    (n : PySem.W.nsIn K mainGlobals x = some (some (.ref f)))
    (l : K.lookup f = some ⟨oc, od, .func (PySem.W.fnOf x x (defArgs st) (defBody st) (defScope st) .none kV doc pm an cdv ct), osl⟩) (c : PySem.W.codeIn K cdv x = true) (k : PySem.W.keepIn K (.ref f) = true)
    (hb : ∀ (kV doc pm : Value) (an : Option Addr) (cdv ct : Value) (us : List Value), us.length = ps.length → bindArgs (PySem.W.fnOf x x (defArgs st) (defBody st) (defScope st) .none kV doc pm an cdv ct) ⟨us, []⟩ = pure (ps.zip us)) :
    ∃ a fd, Df K mg x st ps a fd :=
  ⟨f, _, fun_mk (st := st) l c k, PySem.W.mg_of X G n, (fun_mk (st := st) l c k).binds hb⟩
theorem df_mkB {K : PySem.W.Frag} {mg : Str → Option Value} {h : Heap} {x : Str} {st : Stmt} {ps : List Str} {f : Addr} {oc : Value} {od an : Option Addr} {osl : Array (Option Value)} {kV doc pm cdv ct : Value} (X : K.In h) (G : h.Ns mainGlobals mg)
    (n : PySem.W.nsIn K mainGlobals x = some (some (.ref f)))
    (l : K.lookup f = some ⟨oc, od, .func (PySem.W.fnOf x x (defArgs st) (defBody st) (defScope st) .none kV doc pm an cdv ct), osl⟩) (c : PySem.W.codeIn K cdv x = true) (k : PySem.W.keepIn K (.ref f) = true)
    (hb : ∀ (kV doc pm : Value) (an : Option Addr) (cdv ct : Value) (us : List Value), us.length = ps.length → bindArgs (PySem.W.fnOf x x (defArgs st) (defBody st) (defScope st) .none kV doc pm an cdv ct) ⟨us, []⟩ = pure (ps.zip us)) :
    ∃ a fd, Df K mg x st ps a fd ∧ ∀ (s : Shared) (us : List Value), us.length = ps.length → BindsTo s fd ⟨us, []⟩ (ps.zip us) :=
  ⟨f, _, ⟨fun_mk (st := st) l c k, PySem.W.mg_of X G n, (fun_mk (st := st) l c k).binds hb⟩, fun s us hl => .of_eq (hb _ _ _ _ _ _ us hl)⟩
theorem str_mk {K : PySem.W.Frag} {mg : Str → Option Value} {h : Heap} {x z : Str} {t : Tok} (X : K.In h) (G : h.Ns mainGlobals mg) (n : PySem.W.nsIn K mainGlobals x = some (some (.str z t))) : ∃ t, mg x = some (.str z t) := ⟨t, PySem.W.mg_of X G n⟩
theorem loose_mk {q : Program} {lv : List (Str × PySem.W.WData)} {mg : Str → Option Value} {h : Heap} {x z : Str} (X : PySem.W.XL q lv mg h) (m : (x, PySem.W.WData.str z) ∈ lv) : ∃ t, mg x = some (.str z t) := by
  obtain ⟨v, e, r⟩ := X.2.val _ m
  obtain ⟨t, rfl, _⟩ := PySem.W.readsW_str_inv r
  exact ⟨t, e⟩
theorem tup_mk {K : PySem.W.Frag} {mg : Str → Option Value} {h : Heap} {x : Str} {a : Addr} {od : Option Addr} {its : Array Value} {n : Nat} {sl : Array (Option Value)} (xs : List V) (X : K.In h) (G : h.Ns mainGlobals mg) (e : PySem.W.nsIn K mainGlobals x = some (some (.ref a)))
    (l : K.lookup a = some ⟨.type "tuple", od, .seq its n, sl⟩) (hz : its.size ≤ sizeLine) (r : Vals xs its.toList) : ∃ a, mg x = some (.ref a) ∧ ∀ H, SqT K H a xs :=
  ⟨a, PySem.W.mg_of X G e, fun _ => .inr ⟨_, its, n, l, rfl, rfl, hz, r⟩⟩
end Nm

/-! The own layer: exception classes of the program over an own base over ValueError, whose __init__ says super().__init__(fields) and then stores each field. -/
namespace NmE
open PySem PySem.W PySem.Calls PyProof.Rows PySem.HandSPX
open L2 (defArgs defBody defScope)
/-- the stores of an __init__, field by field -/
inductive Sets : List Stmt → List Str → Prop
  | nil : Sets [] []
  | cons {f : Str} {q1 q2 q3 q4 : Pos} {r : List Stmt} {fs : List Str} (h : Sets r fs) : Sets (.Assign [.Attribute (.Name "self" q1) f q2] (.Name f q3) q4 :: r) (f :: fs)
/-- names as arguments -/
inductive Args1 : List Expr → List Str → Prop
  | nil : Args1 [] []
  | cons {f : Str} {q : Pos} {r : List Expr} {fs : List Str} (h : Args1 r fs) : Args1 (.Name f q :: r) (f :: fs)
/-- the text of such an __init__ -/
structure Ini (st : Stmt) (fs : List Str) : Prop where
  body : ∃ (p0 p1 p2 p3 p4 : Pos) (es : List Expr) (r : List Stmt), defBody st = .Expr (.Call (.Attribute (.Call (.Name "super" p0) [] [] p1) "__init__" p2) es [] p3) p4 :: r ∧ Args1 es fs ∧ Sets r fs ∧ (p2.endLine == p3.line) = true
  few : fs.length < 20
  head : ∃ ar : Arg, ((defArgs st).posonlyargs ++ (defArgs st).args).head? = some ar ∧ ar.arg = "self"
  locals : ∀ f ∈ ("self" : Str) :: fs, (defScope st).names.lookup f = some .local
  nodup : (("self" : Str) :: fs).Nodup
  nodbg : ∀ f ∈ fs, (f == ("__debug__" : Str)) = false
  sup : (defScope st).names.lookup ("super" : Str) = some .globalImplicit
  cls : (defScope st).names.lookup ("__class__" : Str) = some .free
  cells : ∀ x ∈ (defScope st).names, x.2 ≠ .cell
  co : (defScope st).isCoroutine = false
  gen : (defScope st).isGenerator = false
  kind : (defScope st).kind = .function
/-- what the written part says of the class at C -/
structure Err (P : Program) (K : Frag) (mg : Str → Option Value) (x : Str) (C : Addr) (fs : List Str) : Prop where
  gC : mg x = some (.ref C)
  cls : ∃ nm q N bs bm sn sub ab col dd k0 k1 k2 k3 k5, K.lookup C = some (excClassObj nm q C N bs bm true sn sub ab col dd k0 k1 k2 k3 k5 "ValueError.__new__") ∧ refsVE bm = true
  sa : findIn K (.ref C) "__setattr__" = some (some (.builtin "object.__setattr__"))
  ga : findIn K (.ref C) "__getattribute__" = some (some (.builtin "BaseException.__getattribute__"))
  gg : findIn K (.ref C) "__getattr__" = some none
  noN : ∀ f ∈ fs, findIn K (.ref C) f = some none
  kC : keepIn K (.ref C) = true
  exC : subIn K (.ref C) (.type "BaseException") = some true
  veC : subIn K (.ref C) (.type "ValueError") = some true
  tyC : typeIn K (.ref C) = some (.type "type")
  hdC : hasDictIn K C = true
  opq : nsIn K cStatics "thirdparty.any" = some none
  sup : ks_superIn K C C "__init__" = some (some (.builtin "ValueError.__init__"))
  own : mroIn K C (.ref C) = some true
  top : (P.main.scope.names.lookup ("super" : Str)).isSome = false
  nsp : mg "super" = none
  init : ∃ (fI cc cda : Addr) (st : Stmt) (qual : Str) (oc dV kV doc pm ct cl ccl : Value) (od an cld cdd : Option Addr) (osl csl ccs : Array (Option Value)) (vs : Array Value) (file : Str) (tf : Tok),
    findIn K (.ref C) "__init__" = some (some (.ref fI)) ∧ typeIn K (.ref fI) = some (.type "function") ∧
    K.lookup fI = some ⟨oc, od, .func (ksFn "__init__" qual (defArgs st) (defBody st) (defScope st) dV kV doc pm an (.ref cda) ct cc), osl⟩ ∧ codeIn K (.ref cda) qual = true ∧ Ini st fs ∧
    K.lookup cc = some ⟨cl, cld, .cell (some (.ref C)), csl⟩ ∧ K.lookup cda = some ⟨ccl, cdd, .fields vs, ccs⟩ ∧ vs[2]? = some (.str file tf) ∧ ((P.main.file : Str) == file) = true ∧
    ∀ us : List Value, us.length = (("self" : Str) :: fs).length → bindArgs (ksFn "__init__" qual (defArgs st) (defBody st) (defScope st) dV kV doc pm an (.ref cda) ct cc) ⟨us, []⟩ = pure ((("self" : Str) :: fs).zip us)
theorem zip_rev {v : Value} : ∀ {ns : List Str} {vs : List Value}, ns.Nodup → ∀ f : Str, (f, v) ∈ ns.zip vs → (ns.zip vs).reverse.lookup f = some v
  | [], vs, _, f, h => by simp at h
  | n :: ns, [], _, f, h => by simp at h
  | n :: ns, u :: vs, d, f, h => by
    rw [List.zip_cons_cons, List.reverse_cons, List.lookup_append]
    rw [List.zip_cons_cons] at h
    rcases List.mem_cons.mp h with q | q
    · obtain ⟨rfl, rfl⟩ := Prod.mk.inj q
      have hn : (ns.zip vs).reverse.lookup f = none := by
        cases e : (ns.zip vs).reverse.lookup f with
        | none => rfl
        | some z =>
          have m : (f, z) ∈ (ns.zip vs).reverse := by
            obtain ⟨l1, l2, e2, _⟩ := List.lookup_eq_some_iff.mp e
            rw [e2]
            simp
          exact absurd (List.of_mem_zip (List.mem_reverse.mp m)).1 (List.nodup_cons.mp d).1
      rw [hn]
      simp [List.lookup]
    · rw [zip_rev (List.nodup_cons.mp d).2 f q]
      rfl
/-- the fields as they were stored, the last one first -/
def puts {α : Type} : List Str → List α → List (Str × α) → List (Str × α)
  | f :: fs, x :: xs, acc => puts fs xs ((f, x) :: acc)
  | _, _, acc => acc
abbrev excD (C t : Addr) (d : Option Addr) : Obj := { cls := .ref C, dict := d, data := .fields #[.ref t, .none, .none, .none, .bool false, .none] }
section
variable {prog : Program} {w : World} {A : Around} {E : Value → Shared → Prop} {K : Frag} {mg : Str → Option Value} {xn : Str} {C : Addr} {gs : List Str} {h : Heap} {g : Array GenState} {d : Drawn} {t : Nat} {os : OsState} {env : Env}
theorem ldS {m : Str → Option Value} {x : Str} {pos : Pos} {v : Value} {Q : Value → Shared → Prop} {s : Shared} (hk : env.scope.kind = .function) (hl : env.scope.names.lookup x = some .local) (hn : s.heap.Ns env.locals m) (hv : m x = some v) (hd : (x == ("__debug__" : Str)) = false) (hq : Q v s) :
    wpAny (model prog w) A (eval (.Name x pos) env) Q E s := wpAny_Name (wpAny_loadName_local hk hl hn hv hq) hd
theorem ns_keep {h h' : Heap} {L : Addr} {m : Str → Option Value} (hn : h.Ns L m) (k : ∀ o, h.get? L = some o → h'.get? L = some o) : h'.Ns L m := by
  obtain ⟨o, es, ep, e, r⟩ := hn
  exact ⟨o, es, ep, k o e, r⟩
/-- the stores behind the first one -/
theorem sets_on (T : Err prog K mg xn C gs) {m : Str → Option Value} {x dx t1 : Addr} (hk : env.scope.kind = .function) (hself : m ("self" : Str) = some (.ref x)) (hsl : env.scope.names.lookup ("self" : Str) = some .local) (hdL : dx ≠ env.locals) (hdx : dx ≠ x) (hdK : K.lookup dx = none) :
    ∀ {r : List Stmt} {fs : List Str}, Sets r fs → ∀ {xs : List L2.V} {vs : List Value}, L2.Vals xs vs → xs.length = fs.length → (∀ f ∈ fs, findIn K (.ref C) f = some none ∧ env.scope.names.lookup f = some .local ∧ (f == ("__debug__" : Str)) = false) → (∀ f v, (f, v) ∈ fs.zip vs → m f = some v) →
    ∀ (acc : List (Str × L2.V)) (mA : Str → Option Value) (h : Heap) (t : Nat), acc.length + fs.length ≤ 900 → K.In h → h.Ns env.locals m → h.get? x = some (excD C t1 (some dx)) → h.Ns1 dx mA → (∀ f, L2.RelO (acc.lookup f) (mA f)) →
    ∀ (Q : Flow → Shared → Prop), (∀ h' t' mB, (∀ b o, b ≠ dx → h.get? b = some o → h'.get? b = some o) → h'.Ns1 dx mB → (∀ f, L2.RelO ((puts fs xs acc).lookup f) (mB f)) → Q .next ⟨h', g, d, t', os⟩) →
      wpAny (model prog w) A (execs r env) Q E ⟨h, g, d, t, os⟩ := by
  obtain ⟨nm, q, N, bs, bm, sn, sub, ab, col, dd, k0, k1, k2, k3, k5, hC, hbm⟩ := T.cls
  have hcl : clsIn K C = some { name := nm, bases := bs, mro := .ref C :: bm, ns := N, qualname := q, hasDict := true, slotNames := sn, subclasses := sub, abstract := ab, collection := col, hasDel := false } := by unfold clsIn; rw [hC] <;> rfl
  intro r fs S
  induction S with
  | nil =>
    intro xs vs rv hl hf hm acc mA h t hz X hn hx hns rel Q hq
    cases rv with
    | nil => exact wpAny_execs_nil (hq h t mA (fun _ _ _ z => z) hns rel)
    | cons _ _ => cases hl
  | @cons f q1 q2 q3 q4 r fs S ih =>
    intro xs vs rv hl hf hm acc mA h t hz X hn hx hns rel Q hq
    cases rv with
    | nil => cases hl
    | @cons y u ys us ry rv =>
      obtain ⟨hno, hfl, hfd⟩ := hf f (by simp)
      have hw := L2.within_of rel
      obtain ⟨oD, _, _, hoD, _, _⟩ := hns.count hw
      refine wpAny_execs_cons (plainObj_wpAny_Assign_Attribute ?_)
      refine ldS hk hfl hn (hm f u (by simp)) hfd (ldS hk hsl hn hself (by decide) ?_)
      refine set_plain X (ox := excD C t1 (some dx)) (od := some oD) ⟨hx, rfl, rfl, hoD⟩ T.sa ?_
      refine PySem.OEX.osa_old X hx hns hw (by rw [List.length_map]; have : (f :: fs).length = fs.length + 1 := rfl; omega) hcl (show refsVE (.ref C :: bm) = true from hbm) rfl hno (fun h2 t2 k2 hn2 => ?_)
      have X2 : K.In h2 := fun a o e => k2 a o (fun z => by
        rw [z, hdK] at e
        cases e) (X a o e)
      exact ih rv (by simpa using hl) (fun z hz => hf z (by simp [hz])) (fun z v hz => hm z v (by simp [hz])) ((f, y) :: acc) _ h2 t2 (by simp at hz ⊢; omega) X2 (ns_keep hn fun o e => k2 _ _ (Ne.symm hdL) e) (k2 _ _ (Ne.symm hdx) hx) hn2 (L2.relO_put ry rel) Q
        fun h3 t3 mB k3 hn3 rel3 => hq h3 t3 mB (fun b o hb e => k3 b o hb (k2 b o hb e)) hn3 rel3
theorem in_but {h h' : Heap} {x : Addr} (X : K.In h) (hx : K.lookup x = none) (k : ∀ b o, b ≠ x → h.get? b = some o → h'.get? b = some o) : K.In h' := fun a o e => k a o (fun z => by rw [z, hx] at e; cases e) (X a o e)
theorem not_in {h : Heap} {b : Addr} (X : K.In h) (hb : h.objs.size ≤ b) : K.lookup b = none := by
  cases e : K.lookup b with
  | none => rfl
  | some o => exact absurd (Heap.lt_size (X _ _ e)) (Nat.not_lt.mpr hb)
/-- what an __init__ leaves of a fresh exception at x; its fields stand in dx (if there are any) -/
structure Left (h h' : Heap) (x C : Addr) (fs : List Str) (xs : List L2.V) : Prop where
  keep : ∀ b o, b ≠ x → h.get? b = some o → h'.get? b = some o
  obj : (fs = [] ∧ ∃ t1, h'.get? x = some (excD C t1 none)) ∨ ∃ t1 dx mB, h'.get? x = some (excD C t1 (some dx)) ∧ h.objs.size ≤ dx ∧ dx ≠ x ∧ h'.Ns1 dx mB ∧ ∀ f, L2.RelO ((puts fs xs []).lookup f) (mB f)
/-- all the stores -/
theorem sets_all (T : Err prog K mg xn C gs) {m : Str → Option Value} {x t1 : Addr} (hk : env.scope.kind = .function) (hself : m ("self" : Str) = some (.ref x)) (hsl : env.scope.names.lookup ("self" : Str) = some .local) (hxL : x ≠ env.locals) (hxK : K.lookup x = none)
    {r : List Stmt} {fs : List Str} (S : Sets r fs) {xs : List L2.V} {vs : List Value} (rv : L2.Vals xs vs) (hl : xs.length = fs.length) (hf : ∀ f ∈ fs, findIn K (.ref C) f = some none ∧ env.scope.names.lookup f = some .local ∧ (f == ("__debug__" : Str)) = false) (hm : ∀ f v, (f, v) ∈ fs.zip vs → m f = some v)
    (hz : fs.length ≤ 900) (X : K.In h) (hn : h.Ns env.locals m) (hx : h.get? x = some (excD C t1 none)) {Q : Flow → Shared → Prop} (hq : ∀ h' t', Left h h' x C fs xs → Q .next ⟨h', g, d, t', os⟩) :
    wpAny (model prog w) A (execs r env) Q E ⟨h, g, d, t, os⟩ := by
  obtain ⟨nm, q, N, bs, bm, sn, sub, ab, col, dd, k0, k1, k2, k3, k5, hC, hbm⟩ := T.cls
  have hcl : clsIn K C = some { name := nm, bases := bs, mro := .ref C :: bm, ns := N, qualname := q, hasDict := true, slotNames := sn, subclasses := sub, abstract := ab, collection := col, hasDel := false } := by unfold clsIn; rw [hC] <;> rfl
  cases S with
  | nil => exact wpAny_execs_nil (hq h t ⟨fun _ _ _ z => z, .inl ⟨rfl, t1, hx⟩⟩)
  | @cons f q1 q2 q3 q4 r fs S =>
    cases rv with
    | nil => cases hl
    | @cons y u ys us ry rv =>
      obtain ⟨hno, hfl, hfd⟩ := hf f (by simp)
      refine wpAny_execs_cons (plainObj_wpAny_Assign_Attribute ?_)
      refine ldS hk hfl hn (hm f u (by simp)) hfd (ldS hk hsl hn hself (by decide) ?_)
      refine set_plain X (ox := excD C t1 none) (od := none) ⟨hx, rfl, rfl, trivial⟩ T.sa ?_
      refine exc_osa X hx hcl (show refsVE (.ref C :: bm) = true from hbm) rfl hno (fun h2 t2 dx k2 dn dne hx2 hn2 => ?_)
      have hLs := hn.lt
      refine sets_on T hk hself hsl (fun z => ?_) dne (not_in X dn) S rv (by simpa using hl) (fun z hz => hf z (by simp [hz])) (fun z v hz => hm z v (by simp [hz])) [(f, y)] _ h2 t2 (by simp at hz ⊢; omega) (in_but X hxK k2) (ns_keep hn fun o e => k2 _ _ (Ne.symm hxL) e) hx2 hn2 (L2.relO_put (fs := []) ry fun g => True.intro) Q
        fun h3 t3 mB k3 hn3 rel3 => hq h3 t3 ⟨fun b o hb e => k3 b o (fun z => ?_) (k2 b o hb e), .inr ⟨t1, dx, mB, k3 _ _ (Ne.symm dne) hx2, dn, dne, hn3, rel3⟩⟩
      · rw [z] at dn
        exact absurd hLs (Nat.not_lt.mpr dn)
      · rw [z] at e
        exact absurd (Heap.lt_size e) (Nat.not_lt.mpr dn)
theorem args_len : ∀ {es : List Expr} {fs : List Str}, Args1 es fs → es.length = fs.length
  | _, _, .nil => rfl
  | _, _, .cons h => congrArg (· + 1) (args_len h)
theorem args_names : ∀ {es : List Expr} {fs : List Str}, Args1 es fs → starEach es env = es.map fun e => (false, eval e env)
  | _, _, .nil => rfl
  | _, _, .cons h => by
    show (false, _) :: starEach _ env = _
    rw [args_names h]
    rfl
/-- the names read, one by one -/
theorem args_read {m : Str → Option Value} {pos : Pos} {s : Shared} (hk : env.scope.kind = .function) (hn : s.heap.Ns env.locals m) : ∀ {es : List Expr} {fs : List Str}, Args1 es fs → ∀ {vs : List Value}, vs.length = fs.length → (∀ f ∈ fs, env.scope.names.lookup f = some .local ∧ (f == ("__debug__" : Str)) = false) → (∀ f v, (f, v) ∈ fs.zip vs → m f = some v) →
    ∀ {Q : List Value → Shared → Prop}, Q vs s → wpAny (model prog w) A (spliced (backTo pos (starEach es env))) Q E s
  | _, _, .nil, vs, hl, hf, hm, Q, hq => by
    cases vs with
    | nil => exact Calls.spliced_nil hq
    | cons _ _ => cases hl
  | _, _, @Args1.cons f q r fs h, vs, hl, hf, hm, Q, hq => by
    cases vs with
    | nil => cases hl
    | cons u us =>
      obtain ⟨hfl, hfd⟩ := hf f (by simp)
      show wpAny _ _ (spliced ((false, eval (.Name f q) env) :: backTo pos (starEach r env))) _ _ _
      exact Calls.spliced_cons (ldS hk hfl hn (hm f u (by simp)) hfd (args_read hk hn h (by simpa using hl) (fun z hz => hf z (by simp [hz])) (fun z v hz => hm z v (by simp [hz])) hq))
/-- super().__init__ called: the arguments' tuple is laid anew -/
theorem mw_call (T : Err prog K mg xn C gs) {u x t0 : Addr} {vs : List Value} {Q : Value → Shared → Prop} (X : K.In h) (hx : h.get? x = some (excD C t0 none)) (hu : h.get? u = some (kxs_mw "ValueError.__init__" x)) (hz : vs.length ≤ sizeLine)
    (hq : ∀ h' t1, (∀ b o, b ≠ x → h.get? b = some o → h'.get? b = some o) → h'.get? x = some (excD C t1 none) → Q .none ⟨h', g, d, t, os⟩) : wpAny (model prog w) A (call (.ref u) vs) Q E ⟨h, g, d, t, os⟩ := by
  obtain ⟨nm, q, N, bs, bm, sn, sub, ab, col, dd, k0, k1, k2, k3, k5, hC, hbm⟩ := T.cls
  have FB := PySem.F.excBase_ValueError
  refine wpAny_call (codeAny_of_tree ?_)
  show wpAny _ A.in1 (callAny (.ref u) ⟨vs, []⟩) _ _ _
  simp only [callAny]
  refine wpAny_bind (wpAny_load hu ?_)
  simp only [kxs_mw, show (Value.type "method-wrapper" == Value.type "method" || Value.type "method-wrapper" == Value.type "builtin_function_or_method" || Value.type "method-wrapper" == Value.type "method-wrapper") = true by decide, if_true]
  refine KFB.if_so (by decide) (wpAny_bind (check_bound_init FB.toExcCallFacts (X _ _ hC) hx rfl (wpAny_bind (wpAny_pure (wpAny_pure ⟨plainId_quiet FB.init.plain _, codeAny_builtin FB.initEntry ?_⟩)))))
  exact exc_init_tree (cls := .ref C) (t0 := t0) (dv := none) (c2 := .none) (c3 := .none) (b4 := .bool false) hx hz fun h' k e _ => hq h' _ k e
theorem super_init (T : Err prog K mg xn C gs) {mb m : Str → Option Value} {x t0 L fI cc cda : Addr} {st : Stmt} {body : List Stmt} {fs : List Str} {es : List Expr} {p0 p1 p2 p3 p4 : Pos} {qual : Str} {oc dV kV doc pm ct cl ccl : Value} {od an cld cdd : Option Addr} {osl csl ccs : Array (Option Value)} {dat : Array Value} {file : Str} {tf : Tok} {vs : List Value} {Q : Flow → Shared → Prop}
    (hf : K.lookup fI = some ⟨oc, od, .func (ksFn "__init__" qual (defArgs st) (defBody st) (defScope st) dV kV doc pm an (.ref cda) ct cc), osl⟩) (I : Ini st fs) (hes : Args1 es fs) (hline : (p2.endLine == p3.line) = true)
    (hcc : K.lookup cc = some ⟨cl, cld, .cell (some (.ref C)), csl⟩) (hcd : K.lookup cda = some ⟨ccl, cdd, .fields dat, ccs⟩) (hvs : dat[2]? = some (.str file tf)) (hfile : ((prog.main.file : Str) == file) = true)
    (X : K.In h) (hg : h.Ns mainGlobals mg) (hb : h.Ns builtinsNs mb) (hbs : mb ("super" : Str) = some (.type "super")) (hn : h.Ns L m) (hself : m ("self" : Str) = some (.ref x)) (hm : ∀ f v, (f, v) ∈ fs.zip vs → m f = some v) (hl : vs.length = fs.length) (hz : vs.length ≤ sizeLine)
    (hx : h.get? x = some (excD C t0 none)) (hxK : K.lookup x = none) (hxL : x ≠ L)
    (hq : ∀ h' t' t1, (∀ b o, b ≠ x → h.get? b = some o → h'.get? b = some o) → h'.get? x = some (excD C t1 none) → Q .next ⟨h', g, d, t', os⟩) :
    _root_.PySem.wpAt (model prog w) A (.func body (ksEnv qual (defScope st) L fI (.ref cda) cc)) (exec (.Expr (.Call (.Attribute (.Call (.Name "super" p0) [] [] p1) "__init__" p2) es [] p3) p4) (ksEnv qual (defScope st) L fI (.ref cda) cc)) Q E ⟨h, g, d, t, os⟩ := by
  obtain ⟨nm, q, N, bs, bm, sn, sub, ab, col, dd, k0, k1, k2, k3, k5, hC, hbm⟩ := T.cls
  have hcl : clsIn K C = some { name := nm, bases := bs, mro := .ref C :: bm, ns := N, qualname := q, hasDict := true, slotNames := sn, subclasses := sub, abstract := ab, collection := col, hasDel := false } := by unfold clsIn; rw [hC] <;> rfl
  obtain ⟨ar, hhead, har⟩ := I.head
  have hxC : x ≠ C := fun z => by
    rw [z, hC] at hxK
    cases hxK
  have hsl : (defScope st).names.lookup ("self" : Str) = some .local := I.locals _ (by simp)
  have hel : es.length = fs.length := args_len hes
  have hall : ∀ l : List Expr, (l.map fun e => (false, eval e (ksEnv qual (defScope st) L fI (.ref cda) cc))).all (!·.1) = true := fun l => by
    rw [List.all_map, List.all_eq_true]
    intro _ _
    rfl
  have hform : methodCallForm (es.length + ([] : List (Option Str × Sem Value)).length) (backTo p3 (starEach es (ksEnv qual (defScope st) L fI (.ref cda) cc))) (backToKw p3 (keywordEach [] (ksEnv qual (defScope st) L fI (.ref cda) cc))) = true := by
    rw [args_names hes]
    unfold methodCallForm backTo
    rw [List.map_map, Bool.and_eq_true, Bool.and_eq_true]
    refine ⟨⟨?_, rfl⟩, decide_eq_true ?_⟩
    · rw [List.all_map, List.all_eq_true]
      intro _ _
      rfl
    · have := I.few
      show es.length + 0 + 0 < 30
      omega
  have he : eval (.Call (.Attribute (.Call (.Name "super" p0) [] [] p1) "__init__" p2) es [] p3) (ksEnv qual (defScope st) L fI (.ref cda) cc) = (do
      let ov ← attributeBase (.Call (.Name "super" p0) [] [] p1) "__init__" (ksEnv qual (defScope st) L fI (.ref cda) cc) (eval (.Call (.Name "super" p0) [] [] p1) (ksEnv qual (defScope st) L fI (.ref cda) cc))
      standAt p2.atName
      let (f, first) ← holding [ov] (getMethod ov "__init__" (do return (← importBound (.Call (.Name "super" p0) [] [] p1) (ksEnv qual (defScope st) L fI (.ref cda) cc)).getD true))
      callWith p3 f first (backTo p3 (starEach es (ksEnv qual (defScope st) L fI (.ref cda) cc))) []) := by
    show (do
      let ov ← attributeBase (.Call (.Name "super" p0) [] [] p1) "__init__" (ksEnv qual (defScope st) L fI (.ref cda) cc) (eval (.Call (.Name "super" p0) [] [] p1) (ksEnv qual (defScope st) L fI (.ref cda) cc))
      standAt p2.atName
      methodCall (.Call (.Name "super" p0) [] [] p1) "__init__" p2 p3 (ksEnv qual (defScope st) L fI (.ref cda) cc) ov (es.length + ([] : List (Option Str × Sem Value)).length) (backTo p3 (starEach es (ksEnv qual (defScope st) L fI (.ref cda) cc))) (backToKw p3 (keywordEach [] (ksEnv qual (defScope st) L fI (.ref cda) cc)))) = _
    unfold methodCall methodCallPos calleeOf
    rw [hform]
    simp only [hline, Bool.not_true, Bool.false_or, if_true, pure_bind]
    rfl
  refine ks_wpAt_Expr_any (ks_wpAt_MethodCall ?_ he) (by show ((defScope st).kind == .module && _) = false; rw [I.kind]; rfl) rfl
  refine ks_wpAt_super_base (env := ksEnv qual (defScope st) L fI (.ref cda) cc) I.sup I.cls (by decide) rfl (X _ _ hf) rfl hhead rfl (X _ _ hcd) rfl hvs hfile T.top ?_
  refine ks_loadName_global I.kind I.sup (loadGlobal_builtin (env := ksEnv qual (defScope st) L fI (.ref cda) cc) hg T.nsp hb hbs ⟨rfl, ?_⟩)
  refine wpAny_loadName_free I.kind I.cls rfl ⟨_, X _ _ hcc, rfl⟩ ?_
  rw [har]
  refine wpAny_loadName_local I.kind hsl hn hself ?_
  refine ks_wpAny_isType_cls (X _ _ hC) rfl ⟨rfl, ?_⟩
  refine ks_wpAny_call_super (X _ _ hC) rfl hx rfl (fun c e => by cases e) (looks_mroIn X T.own) (fun h1 e1 k1 => ?_)
  have X1 : K.In h1 := X.keeps k1
  have hx1 := k1 _ _ hx
  have IA : InstAt h1 x (excD C t0 none) C none := ⟨hx1, rfl, rfl, trivial⟩
  have hI : Looks (model prog w) h1 (isInstance (.ref x) (.type "ValueError")) true := IA.type.andThen (looks_subIn X1 T.veC)
  have hsup := T.sup
  unfold ks_superIn at hsup
  rw [hcl] at hsup
  refine kxs_getMethod kxs_ValueError e1 (looks_opaque X1 T.opq) (l₀ := .ref C :: bm) ((looks_clsIn X1 hcl).andThen .now) rfl X1 hsup hI hxC (by decide) ?_
  have k2 : ∀ b o, h1.get? b = some o → (h1.push (kxs_mw "ValueError.__init__" x)).get? b = some o := fun b o e => Heap.get?_push_of_some _ e
  have hu2 : (h1.push (kxs_mw "ValueError.__init__" x)).get? h1.objs.size = some (kxs_mw "ValueError.__init__" x) := Heap.get?_push_at rfl rfl
  have hn2 : (h1.push (kxs_mw "ValueError.__init__" x)).Ns L m := ns_keep hn fun o e => k2 _ _ (k1 _ _ e)
  have hpl : (backTo p3 (starEach es (ksEnv qual (defScope st) L fI (.ref cda) cc))).any (·.1) = false := by
    rw [args_names hes]
    unfold backTo
    rw [List.map_map, List.any_map, List.any_eq_false]
    intro _ _
    exact Bool.false_ne_true
  refine kxs_callWith (i := "ValueError.__init__") (x := x) hpl ?_
  have fin : KxsAt "ValueError.__init__" h1.objs.size x (h1.push (kxs_mw "ValueError.__init__" x)) ∧ wpAny (model prog w) A (call (.ref h1.objs.size) vs) (fun _ => Q .next) E ⟨h1.push (kxs_mw "ValueError.__init__" x), g, d, t + 1, os⟩ :=
    ⟨hu2, mw_call T (X1.keeps k2) (k2 _ _ hx1) hu2 hz fun h' t1 k e => hq h' _ t1 (fun b o hb z => k b o hb (k2 _ _ (k1 _ _ z))) e⟩
  have rd := args_read (prog := prog) (w := w) (A := A) (E := E) (pos := p3) (s := ⟨h1.push (kxs_mw "ValueError.__init__" x), g, d, t + 1, os⟩) (env := ksEnv qual (defScope st) L fI (.ref cda) cc) I.kind hn2 hes hl (fun f hf => ⟨I.locals f (by simp [hf]), I.nodbg f hf⟩) hm (Q := fun us s' => KxsAt "ValueError.__init__" h1.objs.size x s'.heap ∧ wpAny (model prog w) A (call (.ref h1.objs.size) us) (fun _ => Q .next) E s')
  cases hes with
  | nil =>
    cases vs with
    | nil => exact evalArgs_empty fin
    | cons _ _ => cases hl
  | cons hes' => exact Calls.evalArgs_plain (rd fin)
theorem zip_mem {ns : List Str} {vs : List Value} {n : Str} {u v : Value} {f : Str} (h : (f, v) ∈ ns.zip vs) : (f, v) ∈ (n :: ns).zip (u :: vs) := by
  rw [List.zip_cons_cons]
  exact List.mem_cons_of_mem _ h
/-- the whole __init__ -/
theorem err_init (T : Err prog K mg xn C gs) {R : Result → Shared → Prop} {s : Shared} {mb : Str → Option Value} {x t0 fI cc cda : Addr} {st : Stmt} {qual : Str} {oc dV kV doc pm ct cl ccl : Value} {od an cld cdd : Option Addr} {osl csl ccs : Array (Option Value)} {dat : Array Value} {file : Str} {tf : Tok} {xs : List L2.V} {vs : List Value}
    (hf : K.lookup fI = some ⟨oc, od, .func (ksFn "__init__" qual (defArgs st) (defBody st) (defScope st) dV kV doc pm an (.ref cda) ct cc), osl⟩) (hcr : codeIn K (.ref cda) qual = true) (I : Ini st gs)
    (hcc : K.lookup cc = some ⟨cl, cld, .cell (some (.ref C)), csl⟩) (hcd : K.lookup cda = some ⟨ccl, cdd, .fields dat, ccs⟩) (hvs : dat[2]? = some (.str file tf)) (hfile : ((prog.main.file : Str) == file) = true)
    (hbind : ∀ us : List Value, us.length = (("self" : Str) :: gs).length → bindArgs (ksFn "__init__" qual (defArgs st) (defBody st) (defScope st) dV kV doc pm an (.ref cda) ct cc) ⟨us, []⟩ = pure ((("self" : Str) :: gs).zip us))
    (X : K.In s.heap) (hlim : s.heap.NoLimit) (hg : s.heap.Ns mainGlobals mg) (hb : s.heap.Ns builtinsNs mb) (hbs : mb ("super" : Str) = some (.type "super")) (rv : L2.Vals xs vs) (hl : vs.length = gs.length)
    (hx : s.heap.get? x = some (excD C t0 none)) (hxK : K.lookup x = none) (hroom : A.depth < recursionLimit)
    (hq : ∀ h' tk, Left s.heap h' x C gs xs → R (.ok (.ret .none)) { s with heap := h', toks := tk }) : codeAny (model prog w) A (.call (.ref fI) ⟨.ref x :: vs, []⟩) R s := by
  obtain ⟨p0, p1, p2, p3, p4, es, r, hbody, hes, S, hline⟩ := I.body
  have hlen : (Value.ref x :: vs).length = (("self" : Str) :: gs).length := congrArg (· + 1) hl
  have hgs := T.noN
  have hzz : vs.length ≤ sizeLine := by
    have := I.few
    rw [sizeLine_eq]
    omega
  have hsl : (defScope st).names.lookup ("self" : Str) = some .local := I.locals _ (by simp)
  refine ks_codeAny_call_defAt (fd := ksFn "__init__" qual (defArgs st) (defBody st) (defScope st) dV kV doc pm an (.ref cda) ct cc) (body := defBody st) (binds := (("self" : Str) :: gs).zip (Value.ref x :: vs)) hroom (X _ _ hf) rfl hlim (codeRec_of X hcr) rfl (BindsTo.of_eq (hbind _ hlen)) I.cells (fun y hy => I.locals _ (List.of_mem_zip hy).1) (fun h1 hn1 k1 => ?_) I.co I.gen I.kind
  have hself : ((("self" : Str) :: gs).zip (Value.ref x :: vs)).reverse.lookup ("self" : Str) = some (.ref x) := zip_rev I.nodup _ (by simp)
  have hm : ∀ f v, (f, v) ∈ gs.zip vs → ((("self" : Str) :: gs).zip (Value.ref x :: vs)).reverse.lookup f = some v := fun f v h => zip_rev I.nodup _ (zip_mem h)
  have X1 : K.In h1 := X.keeps k1
  have hx1 := k1 _ _ hx
  have hxL : x ≠ s.heap.objs.size := Nat.ne_of_lt (Heap.lt_size hx)
  show _root_.PySem.wpAt (model prog w) (A.deeper (ksEnv qual (defScope st) s.heap.objs.size fI (.ref cda) cc)) (.func (defBody st) (ksEnv qual (defScope st) s.heap.objs.size fI (.ref cda) cc)) (execs (defBody st) (ksEnv qual (defScope st) s.heap.objs.size fI (.ref cda) cc)) _ _ _
  rw [hbody]
  refine ks_wpAt_execs_cons (super_init (d := s.drawn) (g := s.gens) (os := s.os) T hf I hes hline hcc hcd hvs hfile X1 (ns_keep hg fun o e => k1 _ _ e) (ns_keep hb fun o e => k1 _ _ e) hbs hn1 hself hm hl hzz hx1 hxK hxL fun h2 t2 t1 k2 hx2 => ?_)
  refine wpAt_of_wpAny ?_
  have hn2 : h2.Ns s.heap.objs.size _ := ns_keep hn1 fun o e => k2 _ _ (Ne.symm hxL) e
  have hLs := hn2.lt
  refine sets_all (h := h2) T I.kind hself hsl hxL hxK S rv (rv.length.trans hl) (fun f hf => ⟨hgs f hf, I.locals f (by simp [hf]), I.nodbg f hf⟩) hm (by have := I.few; omega) (in_but X1 hxK k2) hn2 hx2 fun h3 t3 D => hq h3 t3 ⟨fun b o hb e => D.keep b o hb (k2 b o hb (k1 _ _ e)), ?_⟩
  rcases D.obj with q | ⟨t4, dx, mB, q1, q2, q3⟩
  · exact .inl q
  · exact .inr ⟨t4, dx, mB, q1, Nat.le_of_lt (Nat.lt_of_lt_of_le hLs q2), q3⟩
end
end NmE
namespace L2
open PySem PySem.Spec PyProof.Rows
section
variable {X : Cx} {C : Addr} {xn : Str} {fs : List Str}
/-- the class called, made with a value for each field (there are some) -/
def tErr (C : Addr) (fs : List Str) (ta : TA) : L2.St → Hp → XK → Prop := fun σ H Q => ta σ H fun vs H1 => vs.length = fs.length ∧ ∀ d, H1 d = none → Q (.ref C) (some d) (upd H1 d (.xd (NmE.puts fs vs [])))
theorem pmk_err {e : Expr} {es : List Expr} {ta : TA} {p pos : Pos} {k : Nat} (T : NmE.Err X.prog X.K X.mg xn C fs) (hne : fs ≠ []) (hr : Room k X.A) (ha : PA X (e :: es) ta) (hg : Gl X xn := by rfl) (hdb : (xn == ("__debug__" : Str)) = false := by decide)
    (he : starEach (e :: es) X.env = (false, eval e X.env) :: starEach es X.env := by rfl) (hpl : (backTo pos (starEach es X.env)).any (·.1) = false := by rfl) :
    PMk X (.Call (.Name xn p) (e :: es) [] pos) (tErr C fs ta) := by
  intro pins s σ H Q I h
  obtain ⟨nm, q, N, bs, bm, sn, sub, ab, col, dd, k0, k1, k2, k3, k5, hC, hbm⟩ := T.cls
  obtain ⟨fI, cc, cda, st, qual, oc, dV, kV, doc, pm, ct, cl, ccl, od, an, cld, cdd, osl, csl, ccs, dat, file, tf, iC, tI, lI, hcr, ini, hcc, hcd, hvs, hfile, hbind⟩ := T.init
  refine wpAny_Call_Name_kw (ld_glob I hg T.gC ?_ hdb)
  refine PySem.W.callWith_K (h₀ := X.base) I.ok.mod.kin T.kC (thn (ha.run pos pins s σ H _ I h) fun us s1 ⟨vs, H1, I1, r1, hl, q1⟩ => ⟨I1.kIn, ?_⟩) he hpl
  show wpAny _ _ (call (.ref C) us) _ _ _
  obtain ⟨mb, hb, hbs⟩ := I1.ok.mod.blt
  have hlim := I1.nolimit
  have hgl := I1.ok.mod.glob
  have bk := I1.bk
  have KI := I1.kIn
  have hus : us.length = fs.length := r1.length.symm.trans hl
  have hzz : us.length ≤ sizeLine := by
    have := ini.few
    rw [sizeLine_eq]
    omega
  obtain ⟨hp, g, dr, tk, os⟩ := s1
  have kk : ∀ b o, hp.get? b = some o → ((hp.push (PySem.W.kdv_tup us)).push (PySem.HandSPX.excO C hp.objs.size)).get? b = some o := fun b o e => Heap.get?_push_of_some _ (Heap.get?_push_of_some _ e)
  have hget : ((hp.push (PySem.W.kdv_tup us)).push (PySem.HandSPX.excO C hp.objs.size)).get? (hp.objs.size + 1) = some (PySem.HandSPX.excO C hp.objs.size) := by heap_get
  refine wpAny_call (PySem.HandSPX.call_own PySem.F.excBase_ValueError (fun Y => PySem.HandSPX.refsVE_contains Y bm hbm) (KI _ _ hC) (PySem.W.looks_findIn KI iC) (fun self => PySem.W.bind_fn KI self tI) hzz ?_)
  refine NmE.err_init (s := ⟨(hp.push (PySem.W.kdv_tup us)).push (PySem.HandSPX.excO C hp.objs.size), g, dr, tk, os⟩) T lI hcr ini hcc hcd hvs hfile hbind (KI.keeps kk) (hlim.keeps kk) (NmE.ns_keep hgl fun o e => kk _ _ (bk _ _ e)) (NmE.ns_keep hb fun o e => kk _ _ (bk _ _ e)) ?_ r1 hus hget (NmE.not_in KI (Nat.le_succ _)) ?_ fun h' tk' D => ?_
  · exact (hbs _ (by decide)).trans (by first | rfl | kernel_rfl)
  · show X.A.depth + 1 < recursionLimit
    have := hr.dp
    omega
  · refine ⟨rfl, ?_⟩
    show MkP X pins σ Q (.ref (hp.objs.size + 1)) ⟨h', g, dr, tk', os⟩
    rcases D.obj with ⟨z, _⟩ | ⟨t1, d, mB, hx, hd, hde, hns, rel⟩
    · exact absurd z hne
    have hd' : hp.objs.size + 1 + 1 ≤ d := by
      first
        | (simpa only [Heap.size_push] using hd)
        | exact hd
    have old : ∀ b o, hp.get? b = some o → h'.get? b = some o := fun b o e => D.keep b o (Nat.ne_of_lt (Nat.lt_succ_of_lt (Heap.lt_size e))) (kk b o e)
    obtain ⟨G, g1, g2⟩ := restrict h' fun b => decide (b ≠ hp.objs.size + 1)
    have gk : ∀ b, b ≠ hp.objs.size + 1 → G.get? b = h'.get? b := fun b hb => g1 b (decide_eq_true hb)
    have ge : G.get? (hp.objs.size + 1) = none := g2 _ (by simp)
    have oldG : ∀ b o, hp.get? b = some o → G.get? b = some o := fun b o e => (gk b (Nat.ne_of_lt (Nat.lt_succ_of_lt (Heap.lt_size e)))).trans (old b o e)
    have ob : ObjOk X.prog X.w (upd H1 d (.xd (NmE.puts fs vs []))) G d (.xd (NmE.puts fs vs [])) := ⟨mB, hns.at (fun o e => (gk d hde).trans e), rel⟩
    have hds : hp.objs.size ≤ d := by omega
    have J : Inv X pins σ (upd H1 d (.xd (NmE.puts fs vs []))) ⟨G, g, dr, tk', os⟩ := I1.laid (t' := tk') oldG hds ob
    refine ⟨hp.objs.size + 1, _, _, ⟨G, g, dr, tk', os⟩, _, .ref C, some d, rfl, J, fun b o e => ?_, ge, hx, ⟨rfl, rfl⟩, rfl, rfl, ?_, rfl, I1.bare, raises_own T.exC T.tyC, q1 d (I1.hok.fresh hds)⟩
    · by_cases hb : b = hp.objs.size + 1
      · have e' : G.get? b = some o := e
        rw [hb, ge] at e'
        cases e'
      · exact (gk b hb).symm.trans e
    · rw [upd_ne (Ne.symm hde)]
      exact I1.hok.fresh (Nat.le_succ _)
/-- raise X(..) -/
def tRaiseE (C : Addr) (fs : List Str) (W : WX) (ta : TA) : TS := fun _ σ H => tErr C fs ta σ H fun cls d H' => W cls d σ H'
theorem ps_raiseE {e : Expr} {es : List Expr} {ta : TA} {W : WX} {p pos pos2 : Pos} {k : Nat} (hc : X.calm = true) (T : NmE.Err X.prog X.K X.mg xn C fs) (hne : fs ≠ []) (hr : Room k X.A) (tk : Takes X W) (ha : PA X (e :: es) ta) (hg : Gl X xn := by rfl) (hdb : (xn == ("__debug__" : Str)) = false := by decide)
    (he : starEach (e :: es) X.env = (false, eval e X.env) :: starEach es X.env := by rfl) (hpl : (backTo pos (starEach es X.env)).any (·.1) = false := by rfl) :
    PS X (.Raise (some (.Call (.Name xn p) (e :: es) [] pos)) none pos2) (tRaiseE C fs W ta) := ps_raise hc tk (pmk_err T hne hr ha hg hdb he hpl)
/-- e.f of the exception that an except suite holds -/
def tOfE (a : Addr) (C : Addr) (f : Str) (cls : Value) (d : Option Addr) (te : TE) : TE := fun σ H Q => te σ H fun x H1 => x = .ref a ∧ cls = .ref C ∧ ∃ (dd : Addr) (kvs : List (Str × V)) (v : V), d = some dd ∧ H1 dd = some (.xd kvs) ∧ kvs.lookup f = some v ∧ Q v H1
theorem pe_ofE {a : Addr} {oe : Obj} {cls : Value} {d : Option Addr} {pn : List (Addr × Obj)} {e : Expr} {te : TE} {pos : Pos} {f : Str} (T : NmE.Err X.prog X.K X.mg xn C fs) (hf : f ∈ fs) (hz : Zc cls d oe) (hfi : ∃ vs, oe.data = .fields vs) (he : PE (X.suite a ((a, oe) :: pn)) e te)
    (hb : attributeBase e f X.env (eval e X.env) = eval e X.env := by rfl) : PE (X.suite a ((a, oe) :: pn)) (.Attribute e f pos) (tOfE a C f cls d te) := by
  refine ⟨fun pins s σ H Q I h => ?_⟩
  refine attr_of hb (thn (he.run pins s σ H _ I h) fun u s1 ⟨x, H1, I1, rx, ex, ec, dd, kvs, v, ed, ea, lv, q⟩ => ?_)
  subst ex ec ed
  obtain rfl : u = Value.ref a := rx
  obtain ⟨ha, _⟩ := I1.pin (a, oe) (List.mem_append_left _ List.mem_cons_self)
  obtain ⟨vs, hd⟩ := hfi
  have hx : ObjOk X.prog X.w H1 s1.heap dd (.xd kvs) := I1.hok dd _ ea
  obtain ⟨mA, hns, hr⟩ := hx
  obtain ⟨od, ho, hl⟩ := lookIn_ns hns
  have rf := hr f
  rw [lv] at rf
  obtain ⟨u, hu, ru⟩ := RelO.some_of (v := v) (o := mA f) rf
  have J : PySem.W.InstAt s1.heap a oe C (some od) := ⟨ha, hz.1, by unfold PySem.W.notCls; rw [hd] <;> rfl, by rw [hz.2]; exact ho⟩
  exact HandSPX.exc_get I1.kIn J T.ga T.gg T.exC (PySem.W.findObj_own T.hdC (T.noN f hf) rfl (by rw [hl, hu])) (handed_of ru) ⟨v, H1, I1.tok _, ru, q⟩
end
end L2

/-! The own layer: try with several clauses, each with a name; a call of a parameter that holds a def, in a try. -/
namespace Nm
open PySem PySem.Spec PyProof.Rows L2
/-- a clause: the class, its name's slot, the reading of its suite -/
abbrev Cl3 := Value × Nat × (Addr → Value → Option Addr → TS)
/-- the ends of a suite whose name is in slot i: the name is taken away -/
def endsAt (i : Nat) (D : Ends) : Ends := { nx := fun σ H => D.nx (σ.set i none) H, rt := D.rt, bk := fun σ H => D.bk (σ.set i none) H, ct := fun σ H => D.ct (σ.set i none) H }
/-- what the clauses wish of an exception that leaves the body -/
def wClauses (K : PySem.W.Frag) (Wo : WX) (D : Ends) : List Cl3 → WX
  | [] => Wo
  | c :: l => fun cls d σ H => ∃ b, PySem.W.exmOne K cls c.1 = some b ∧ (b = true → ∀ a, H a = none → c.2.2 a cls d (endsAt c.2.1 D) (σ.set c.2.1 (some (.ref a))) H) ∧ (b = false → wClauses K Wo D l cls d σ H)
inductive Clauses (X : Cx) : List ExceptHandler → List Cl3 → Prop
  | nil : Clauses X [] []
  | cons {x n : Str} {c : Value} {i : Nat} {ts : Addr → Value → Option Addr → TS} {b₀ : Stmt} {suite : List Stmt} {np pos' : Pos} {hds : List ExceptHandler} {l : List Cl3} (hc : Names X x c) (hi : X.N[i]? = some n) (hln : X.env.kindOf n = some .local)
      (hsu : ∀ (a : Addr) (oe : Obj) (cls : Value) (d : Option Addr) (pn : List (Addr × Obj)), Zc cls d oe → (∃ vs, oe.data = .fields vs) → PSs (X.suite a ((a, oe) :: pn)) (b₀ :: suite) (ts a cls d)) (r : Clauses X hds l) :
      Clauses X (.ExceptHandler (some (.Name x np)) (some n) (b₀ :: suite) pos' :: hds) ((c, i, ts) :: l)
section
variable {X : Cx} {pins : List (Addr × Obj)} {σ : L2.St} {H : Hp} {D : Ends} {Wo : WX} {s' sI : Shared} {a : Addr} {B : Heap} {cls : Value} {d : Option Addr} {h3 : Heap}
theorem clauses_go (ok : X.Ok) (hs : X.stack = X.env :: X.outer) (hf : X.env.frame = some X.env.locals) (hN : X.N.Nodup) (tk : Takes X Wo) (J : Inv X pins σ H sI)
    (nb : ∀ b o, sI.heap.get? b = some o → b ∉ frs X.stack → B.get? b = some o) (up3 : sI.heap.UpToSlots h3) (na : H a = none) (os : s'.os = sI.os) (ag : AllBare s'.gens)
    (fl3 : HandSPX.FlyingZ B (X.env :: X.outer) a (Zc cls d) h3) (nL : a ≠ X.env.locals) (nF : a ∉ X.fs) :
    ∀ {hds : List ExceptHandler} {l : List Cl3}, Clauses X hds l → wClauses X.K Wo D l cls d σ H → wpAny (model X.prog X.w) X.A (handleBy (.ref a) X.env hds) (SP X pins D) X.xe { s' with heap := h3 } := by
  obtain ⟨o3, v3, e3, z3, d3⟩ := fl3.there
  have J3 : Inv X pins σ H { s' with heap := h3 } := J.landed nb fl3.1 up3 os ag
  have S3 := J3.suite e3 d3 na nL nF
  intro hds l hk
  induction hk with
  | nil =>
    intro w
    refine wpAny_handleBy_nil ?_
    obtain ⟨_, _, _, oe, vs, T, oT, ts', he, _, hd, h1, _⟩ := id fl3
    unfold PySem.passOn
    refine wpAny_bind (wpAny_field he hd h1 ?_)
    rw [if_neg (show ¬ ((Value.ref T == Value.none) = true) from by simp)]
    have on : wpAny (model X.prog X.w) X.A (setFlight (.ref a) X.env.frame) (fun _ s4 => wpAny (model X.prog X.w) X.A (throw (.ref a) : Sem Flow) (SP X pins D) X.xe s4) X.xe { s' with heap := h3 } := by
      rw [hf]
      exact HandSPX.setFlight_upZ fl3 fun h4 held up4 => wpAny_throw (tk _ _ ⟨a, B, sI, pins, σ, H, cls, d, rfl, J, nb, up3.trans up4, .inr (.inr (by rw [hs]; exact held)), na, os, ag, w⟩)
    first
      | exact wpAny_bind (wpAny_pure (wpAny_bind on))
      | exact wpAny_bind on
  | @cons x n c i ts b₀ suite np pos' hds2 l2 hc hi hln hsu r ih =>
    rintro ⟨b, hb, yes, no⟩
    refine wpAny_handleBy_cons (codeAny_handlers_test ?_) (by intro q; cases q)
    have its : PySem.W.Looks (model X.prog X.w) h3 (typeOf (.ref a)) cls := fun A Q E s k q => wpAny_typeOf_ref (k _ _ e3) (by rw [z3.1]; exact q)
    have LM := PySem.W.exm_one (M := model X.prog X.w) J3.kIn its hb
    have asked : ∀ {Q : Value → Shared → Prop} {E : Value → Shared → Prop}, Q c { s' with heap := h3 } → wpAny (model X.prog X.w) (X.A.mark (some (.ref a))) (eval (.Name x np) X.env) Q E { s' with heap := h3 } := fun {Q E} q => by
      obtain ⟨hg, dbg, hm | ⟨hm, hv, nn⟩⟩ := hc
      · exact ld_glob (X := X.suite a ((a, o3) :: (X.pn ++ pins))) S3 hg hm q dbg
      · exact ld_blt (X := X.suite a ((a, o3) :: (X.pn ++ pins))) S3 hg hm hv q nn dbg
    refine asked (LM.here ?_)
    cases b with
    | false => exact ih (no rfl)
    | true =>
      refine codeAny_handlers_suite_as (HandSPX.lands_againZ fl3 fun h4 fl4 up4 => ?_)
      obtain ⟨o4, v4, e4, z4, d4⟩ := fl4.there
      have S4 := (J.landed (s' := { s' with heap := h4 }) nb fl4.1 (up3.trans up4) os ag).suite e4 d4 na nL nF
      refine store_ok (X := X.suite a ((a, o4) :: (X.pn ++ pins))) (v := .ref a) S4 hN hi (.inl hln) rfl (fun s5 S5 => ?_) (.inr hln)
      refine wpAny_mono ((hsu a o4 cls d (X.pn ++ pins) z4 ⟨_, d4⟩).run [] s5 _ H _ S5 (yes rfl a na)) (fun f s6 hsp => ?_) (fun _ _ z => False.elim z)
      have gone : ∀ {σ6 : L2.St} {H6 : Hp} {Q : Shared → Prop}, Inv (X.suite a ((a, o4) :: (X.pn ++ pins))) [] σ6 H6 s6 → (∀ s7, Inv X pins (σ6.set i none) H6 s7 → Q s7) →
          wpAny (model X.prog X.w) X.A (do bindName X.env n .none; unbindBehindTheSuite X.env n pos') (fun _ s7 => Q s7) X.xe s6 := fun S6 hq => gone_ok (S6.unsuite ok) hN hi hln hq
      cases f with
      | ret u =>
        obtain ⟨v6, _, _, S6, r6, q6⟩ := hsp
        exact gone S6 fun s7 J7 => ⟨_, _, _, J7, r6, q6⟩
      | next =>
        obtain ⟨_, _, S6, q6⟩ := hsp
        exact gone S6 fun s7 J7 => ⟨_, _, J7, q6⟩
      | brk =>
        obtain ⟨_, _, S6, q6⟩ := hsp
        exact gone S6 fun s7 J7 => ⟨_, _, J7, q6⟩
      | cont =>
        obtain ⟨_, _, S6, q6⟩ := hsp
        exact gone S6 fun s7 J7 => ⟨_, _, J7, q6⟩
theorem ps_clauses {body : List Stmt} {h₀ : ExceptHandler} {hds : List ExceptHandler} {l : List Cl3} {pos : Pos} {tb : WX → TS} (hs : X.stack = X.env :: X.outer) (hf : X.env.frame = some X.env.locals) (hN : X.N.Nodup) (tk : Takes X Wo)
    (hb : ∀ (W : WX) (pn : List (Addr × Obj)) (xe : Value → Shared → Prop), Takes (X.tr pn xe) W → PassesOwn (model X.prog X.w) X.A X.env xe → PSs (X.tr pn xe) body (tb W)) (hh : Clauses X (h₀ :: hds) l) :
    PS X (.Try body (h₀ :: hds) [] [] pos) (fun D σ H => tb (wClauses X.K Wo D l) D σ H) := by
  refine ⟨fun pins s σ H D I h => wpAny_Try_except ?_⟩
  have ok := I.ok
  have hfr : X.A.frames = some (X.env :: X.outer) := by rw [ok.frames, hs]
  refine wpAny_mono ((hb (wClauses X.K Wo D l) (X.pn ++ pins) (fun e s₁ => wpAny (model X.prog X.w) X.A (noteFrame e X.env) (fun _ s₂ => wpAny (model X.prog X.w) X.A (setFlight e none) (fun _ s₃ =>
    wpAny (model X.prog X.w) X.A (handleBy e X.env (h₀ :: hds)) (SP X pins D) X.xe s₃) X.xe s₂) X.xe s₁) (fun u s' caught => ?_) PassesOwn.looking).run [] s σ H D (I.toTry _) h) (fun f s1 ran => ?_) (fun _ _ z => z)
  · obtain ⟨a, B, sI, _, σ', H', cls, d, rfl, JT, nb, up, sky, na, os, ag, w⟩ := caught
    have J : Inv X pins σ' H' sI := JT.ofTry ok
    rw [show (X.tr (X.pn ++ pins) _).stack = X.env :: X.outer from hs] at sky
    show wpAny (model X.prog X.w) X.A (noteFrame (.ref a) X.env) _ _ _
    refine Sky.land Zc.steady hfr hf sky fun h3 fl3 up3 => ?_
    obtain ⟨o3, v3, e3, _, d3⟩ := fl3.there
    have apart : a ∉ frs (X.env :: X.outer) := fun hm => by
      obtain ⟨_, o', e', hnf⟩ := fl3.2.2.1.mem hm
      rw [e3] at e'
      cases e'
      exact hnf _ d3
    have nL : a ≠ X.env.locals := fun z => apart (List.mem_filterMap.mpr ⟨X.env, List.mem_cons_self, by rw [hf, z]⟩)
    have nF : a ∉ X.fs := fun hm => by
      obtain ⟨e, he, q⟩ := List.mem_filterMap.mp hm
      exact apart (List.mem_filterMap.mpr ⟨e, List.mem_cons_of_mem _ he, q⟩)
    exact clauses_go ok hs hf hN tk J nb (up.trans up3) na os ag fl3 nL nF hh w
  · cases f with
    | ret u =>
      obtain ⟨v, _, _, J, r, q⟩ := ran
      exact ⟨v, _, _, J.ofTry ok, r, q⟩
    | next =>
      obtain ⟨_, _, J, q⟩ := ran
      exact wpAny_execs_nil ⟨_, _, J.ofTry ok, q⟩
    | brk =>
      obtain ⟨_, _, J, q⟩ := ran
      exact ⟨_, _, J.ofTry ok, q⟩
    | cont =>
      obtain ⟨_, _, J, q⟩ := ran
      exact ⟨_, _, J.ofTry ok, q⟩
end
/-- a parameter called that holds a def; what it raises is wished for at the slots -/
def tCallP (i : Nat) (f : Addr) (sp : Sp) (E : L2.St → XK) (t : TA) : TE := fun σ H Q => σ[i]? = some (some (.ref f)) ∧ t σ H fun vs H1 => sp vs H1 Q (E σ)
theorem pe_callP {X : Cx} {CX : CXT} {k i : Nat} {f : Addr} {fd : FuncData} {ps : List Str} {sp : Sp} {E : L2.St → XK} {x : Str} {p pos : Pos} {e : Expr} {es : List Expr} {t : TA}
    (F : FnOk X.prog X.w X.K X.mg X.base CX k f fd ps sp) (hr : Room k X.A) (hN : X.N[i]? = some x) (hv : Vis X.env.scope x) (hk : PySem.W.keepIn X.K (.ref f) = true) (hb : Binds X.K fd ps []) (hx : ∀ σ, PassesAt CX X σ (E σ)) (ha : PA X (e :: es) t)
    (hdb : (x == ("__debug__" : Str)) = false := by decide) (hcd : (x == ("__classdict__" : Str)) = false := by decide)
    (he : starEach (e :: es) X.env = (false, eval e X.env) :: starEach es X.env := by rfl) (hpl : (backTo pos (starEach es X.env)).any (·.1) = false := by rfl) : PE X (.Call (.Name x p) (e :: es) [] pos) (tCallP i f sp E t) := by
  refine ⟨fun pins s σ H Q I ⟨hs, ht⟩ => ?_⟩
  refine wpAny_Call_Name_kw (thn ((pe_var (pos := p) hN hv hdb hcd).run pins s σ H (fun v H1 => v = .ref f ∧ H1 = H) I ⟨.ref f, hs, rfl, rfl⟩) fun u s1 ⟨v, H1, I1, r1, ev, eH⟩ => ?_)
  subst ev eH
  obtain rfl : u = Value.ref f := r1
  exact PySem.W.callWith_K (h₀ := X.base) I.ok.mod.kin hk (thn (ha.run pos pins s1 σ _ _ I1 ht) fun us s2 ⟨vs, H2, I2, r, q⟩ => ⟨I2.kIn, run_fnS F hr hb (hx σ) I2 r q⟩) he hpl
end Nm

/-! The own layer: tuple(d), split, join, str(n), lists added, three targets, raise, comprehensions that draw. -/
namespace Nm
open PySem PySem.Spec PyProof.Rows L2
section
open PySem.W
variable {prog : Program} {w : World} {A : Around} {E : Value → Shared → Prop} {s : Shared} {T : String} {r d : Addr} {n : Nat} {P : Nat → Value → Prop} {OK : Heap → Prop}
theorem new_tuple_src {Q₁ : Value → Shared → Prop} (KS : KdlSrc prog w "dict" r d n P OK) (hh : A.handled = none) (hok : OK s.heap) (hn : n ≤ sizeLine)
    (h : ∀ (h' : Heap) (tk : Nat) (acc : Array Value), (∀ b o, s.heap.get? b = some o → h'.get? b = some o) → ItemsOf P acc n → Q₁ (.ref h'.objs.size) { s with heap := h'.push { cls := .type "tuple", data := .seq acc }, toks := tk }) :
    codeAny (model prog w) A (.call (.builtin "tuple.__new__") ⟨[.type "tuple", .ref r], []⟩) (wants Q₁ E) s := by
  refine codeAny_of_tree ?_
  show wpAny _ A.in1 (do checkBuiltinCall "tuple.__new__" ⟨[.type "tuple", .ref r], []⟩; again (.builtin "tuple.__new__" ⟨[.type "tuple", .ref r], []⟩)) _ _ s
  refine wpAny_bind (wpAny_of_eq (F.newCall_tuple_1 _) (wpAny_pure ⟨plainId_quiet F.plain_tuple_new _, codeAny_builtin F.entry_tuple_new ?_⟩))
  rw [Around.under_plainId F.plain_tuple_new _]
  have f1 := sub_tuple_self
  have f2 := init_tuple_lookup
  have f3 := madeHere_tuple
  have ty : s.TypeIs (.ref r) "dict" := KS.type s hok
  have hh1 : A.in1.handled = none := hh
  wp_walk using wpAny_typeOf ty, kdu_collect (A := A.in1) KS hh1 hok hn
  intro h' tk acc hk hacc
  show wpAny _ _ (Builtin.Tuple.tupleExact acc.toList.toArray >>= fun v => ret v) _ _ _
  unfold Builtin.Tuple.tupleExact
  rw [Array.toArray_toList]
  exact wpAny_bind (wpAny_newObj_type (wpAny_pure (h h' tk acc hk hacc)) (by show acc.size ≤ sizeLine; rw [hacc.1]; exact hn))
theorem call_tuple_src {Q : Value → Shared → Prop} (KS : KdlSrc prog w "dict" r d n P OK) (hh : A.handled = none) (hok : OK s.heap) (hn : n ≤ sizeLine)
    (hQ : ∀ (h' : Heap) (tk : Nat) (acc : Array Value), (∀ b o, s.heap.get? b = some o → h'.get? b = some o) → ItemsOf P acc n → Q (.ref h'.objs.size) { s with heap := h'.push { cls := .type "tuple", data := .seq acc }, toks := tk }) :
    wpAny (model prog w) A (call (.type "tuple") [.ref r]) Q E s := by
  refine callType_codes (Q₁ := fun obj s₁ => s₁.TypeIs obj "tuple" ∧ Q obj s₁) F.called_tuple (F.typeCall_tuple_1 _) F.entry_object_init
    (new_tuple_src (A := A.in1) KS hh hok hn fun h' tk acc hk hacc => ⟨⟨_, Heap.get?_push_size _ rfl, rfl⟩, hQ h' tk acc hk hacc⟩) fun obj s₁ h₁ => ?_
  exact ⟨h₁.1, F.args_object_init_2 obj _, object_init_meets F.called_tuple.init.lookup F.called_tuple.made (by decide) prog w A.in1 _ s₁ ⟨h₁.1, rfl, h₁.2⟩⟩
end
/-- tuple(d): the keys in their order -/
def rTupD : List V → Hp → VK → Prop := fun xs H Q => ∃ p kvs, xs = [.ref p] ∧ H p = some (.dK kvs) ∧ ∀ q, H q = none → Q (.ref q) (upd H q (.tup (kvs.map fun kv => kV kv.1)))
theorem call_tupleD {X : Cx} (hc : X.calm = true) : CallR X (.type "tuple") rTupD := by
  intro pins s σ H xs us Q I r ⟨p, kvs, e, hk, q⟩
  subst e
  obtain ⟨u, rfl, rx⟩ := vals1 r
  obtain rfl : u = Value.ref p := rx
  obtain ⟨z, lo, vs, rk, hd⟩ := (show ObjOk X.prog X.w H s.heap p (.dK kvs) from I.hok p _ hk)
  obtain ⟨ep, hat⟩ := hd.dictAt
  have hl : kvs.length = vs.length := Paired.length rk
  refine call_tuple_src (PySem.W.kdl_dict (knd := mixKind X.prog X.w) (kvs := vs) (ep := ep) lo) (I.ok.hd hc) hat (by rw [← hl]; exact z) fun h' tk acc kp items => ?_
  have keys : (kvs.map fun kv => kV kv.1) = (kvs.map (·.1)).map kV := by rw [List.map_map]; rfl
  have hz : acc.size ≤ sizeLine := by rw [items.1, ← hl]; exact z
  have rv : Vals (kvs.map fun kv => kV kv.1) acc.toList := by
    refine vals_of_at (by rw [List.length_map, Array.length_toList]; exact hl.trans items.1.symm) fun j x w h1 h2 => ?_
    obtain ⟨k, y, hky, hi⟩ := items.2 j w (by rw [← Array.getElem?_toList]; exact h2)
    rw [keys, List.getElem?_map, KV.keys rk, List.getElem?_map, hky] at h1
    cases h1
    exact keyIs_rel hi
  have I1 : Inv X pins σ H { s with heap := h', toks := tk } := I.kept (t' := tk) kp
  refine ⟨.ref h'.objs.size, upd H h'.objs.size (.tup (kvs.map fun kv => kV kv.1)), I1.laid (t' := tk) (fun b o e => Heap.get?_push_of_some _ e) (Nat.le_refl _) (show ObjOk X.prog X.w _ _ _ (.tup (kvs.map fun kv => kV kv.1)) from ⟨?_, acc.toList, rv, ?_⟩), rfl, q _ (I1.hok.fresh (Nat.le_refl _))⟩
  · rw [List.length_map]; exact z
  · rw [Array.toArray_toList]; exact IsTup.new _ _
/-! ### readings by names -/
def nStr : List V → Hp → VK → Prop := fun xs H Q => ∃ i, xs = [.int i] ∧ i.natAbs.log2 < 1920 ∧ Q (.str (toString i)) H
def nSplit : V → List V → Hp → VK → Prop := fun x xs H Q => ∃ a b, x = .str a ∧ xs = [.str b] ∧ (b.length == 0) = false ∧ a.length + 2 ≤ sizeLine ∧ rNewStrs (Txt.split a b) H Q
def nJoin (K : PySem.W.Frag) : V → List V → Hp → VK → Prop := fun x xs H Q => ∃ a p, ∃ ys : List Str, x = .str a ∧ xs = [.ref p] ∧ (SqL K H p (ys.map V.str) ∨ SqT K H p (ys.map V.str)) ∧ (ys.map (·.length)).sum + ys.length * a.length ≤ 16777216 ∧ Q (.str (Txt.join a ys)) H
section
variable {X : Cx} {o e : Expr} {to te : TE}
theorem call_strI : CallR X (.type "str") nStr := call_str_int
theorem op_catL : OpR X (binaryOp .Add) rCat := op_cat
theorem pe_splitN {apos pos : Pos} (ho : PE X o to) (he : PE X e te) (hs : starEach [e] X.env = [(false, eval e X.env)] := by rfl) (hbase : attributeBase o "split" X.env (eval o X.env) = eval o X.env := by rfl) (hline : (apos.endLine == pos.line) = true := by rfl) :
    PE X (.Call (.Attribute o "split" apos) [e] [] pos) (tM1 nSplit to te) := pe_split ho he hs hbase hline
theorem pe_joinN {apos pos : Pos} (ho : PE X o to) (he : PE X e te) (hs : starEach [e] X.env = [(false, eval e X.env)] := by rfl) (hbase : attributeBase o "join" X.env (eval o X.env) = eval o X.env := by rfl) (hline : (apos.endLine == pos.line) = true := by rfl) :
    PE X (.Call (.Attribute o "join" apos) [e] [] pos) (tM1 (nJoin X.K) to te) := pe_join ho he hs hbase hline
/-- what a called def raises goes on out -/
theorem passX {E : XK} (tk : Takes X (fun cls d _ H => E cls d H)) : Passes (L2.CX X.prog X.w) X E := fun _ _ _ _ e s' I c => tk e s' (XE.of_call I (fun _ _ _ h => h) c)
/-- a def that may raise and here does not -/
theorem passF : Passes (L2.CX X.prog X.w) X (fun _ _ _ => False) := fun _ _ _ _ _ _ _ ⟨_, _, _, _, _, _, _, _, _, _, _, _, z⟩ => z.elim
end
section
variable {σ : L2.St} {H : Hp} {Q : VK} {ta te to : TE} {t : TA} {D : Ends} {K : PySem.W.Frag} {x y : V}
def kM1 (r : V → List V → Hp → VK → Prop) (te : TE) (σ : L2.St) (Q : VK) : VK := fun x H1 => (∃ a, x = .str a) ∧ te σ H1 fun y H2 => r x [y] H2 Q
theorem z_m1 {r : V → List V → Hp → VK → Prop} (h : to σ H (kM1 r te σ Q)) : tM1 r to te σ H Q := h
theorem z_kM1 {r : V → List V → Hp → VK → Prop} {a : Str} (h : te σ H fun y H2 => r (.str a) [y] H2 Q) : kM1 r te σ Q (.str a) H := ⟨⟨a, rfl⟩, h⟩
theorem z_split {a b : Str} (hb : (b.length == 0) = false) (hz : a.length + 2 ≤ sizeLine) (k : ∀ p H', H p = none → Same H H' → H' p = some (.lst ((Txt.split a b).map V.str)) → Q (.ref p) H') : nSplit (.str a) [.str b] H Q :=
  ⟨a, b, rfl, rfl, hb, hz, new_by (R := fun p H' => Q (.ref p) H') fun p H' a b c _ => k p H' a b c⟩
theorem z_join {a : Str} {p : Addr} {ys : List Str} (h : SqL K H p (ys.map V.str)) (hz : (ys.map (·.length)).sum + ys.length * a.length ≤ 16777216) (q : Q (.str (Txt.join a ys)) H) : nJoin K (.str a) [.ref p] H Q := ⟨a, p, ys, rfl, rfl, .inl h, hz, q⟩
theorem z_strI {i : Int} (hz : i.natAbs.log2 < 1920) (q : Q (.str (toString i)) H) : nStr [.int i] H Q := ⟨i, rfl, hz, q⟩
theorem z_catL {p q : Addr} {xs ys : List V} (h1 : H p = some (.lst xs)) (h2 : H q = some (.lst ys)) (hl : xs.length + ys.length ≤ sizeLine) (k : ∀ p H', H p = none → Same H H' → H' p = some (.lst (xs ++ ys)) → Q (.ref p) H') : rCat (.ref p) (.ref q) H Q :=
  ⟨p, q, xs, ys, rfl, rfl, h1, h2, hl, new_by (R := fun p H' => Q (.ref p) H') fun p H' a b c _ => k p H' a b c⟩
def kPar3 (i j l : Nat) (D : Ends) (σ : L2.St) : List V → Hp → Prop := fun vs H1 => ∃ u v w, vs = [u, v, w] ∧ D.nx (((σ.set i (some u)).set j (some v)).set l (some w)) H1
theorem z_par3 {i j l : Nat} (h : t σ H (kPar3 i j l D σ)) : tPar3 i j l t D σ H := h
theorem z_kPar3 {i j l : Nat} {u v w : V} (h : D.nx (((σ.set i (some u)).set j (some v)).set l (some w)) H) : kPar3 i j l D σ [u, v, w] H := ⟨u, v, w, rfl, h⟩
theorem z_isB {a b : Bool} (q : Q (.bl (decide (a = b))) H) : rIsB (.bl a) (.bl b) H Q := ⟨a, b, rfl, rfl, q⟩
theorem z_notB {a b : Bool} (q : Q (.bl (!decide (a = b))) H) : rNotB (.bl a) (.bl b) H Q := ⟨a, b, rfl, rfl, q⟩
theorem z_dnewK (k : ∀ p H', H p = none → Same H H' → H' p = some (.dK []) → Q (.ref p) H') : tDNewK σ H Q := new_by (R := fun p H' => Q (.ref p) H') fun p H' a b c _ => k p H' a b c
theorem z_tupD {p : Addr} {kvs : List (Key × V)} (h : H p = some (.dK kvs)) (k : ∀ q H', H q = none → Same H H' → H' q = some (.tup (kvs.map fun kv => kV kv.1)) → Q (.ref q) H') : rTupD [.ref p] H Q := ⟨p, kvs, rfl, h, new_by (R := fun p H' => Q (.ref p) H') fun p H' a b c _ => k p H' a b c⟩
def kErr (C : Addr) (fs : List Str) (W : WX) (σ : L2.St) : List V → Hp → Prop := fun vs H1 => vs.length = fs.length ∧ ∀ d, H1 d = none → W (.ref C) (some d) σ (upd H1 d (.xd (NmE.puts fs vs [])))
theorem z_raiseE {C : Addr} {fs : List Str} {W : WX} (h : t σ H (kErr C fs W σ)) : tRaiseE C fs W t D σ H := h
theorem z_kErr {C : Addr} {fs : List Str} {W : WX} {vs : List V} (hl : vs.length = fs.length) (k : ∀ d H', H d = none → Same H H' → H' d = some (.xd (NmE.puts fs vs [])) → W (.ref C) (some d) σ H') : kErr C fs W σ vs H := ⟨hl, fun d hd => k d _ hd (Same.new hd) upd_same⟩
theorem z_kIE' {R : It → Hp → Prop} {a : Addr} {xs : List V} (h : SqL K H a xs) (q : R (Ite K a) H) : (fun (vs : List V) (H1 : Hp) => ∃ a xs, vs = [.ref a] ∧ SqL K H1 a xs ∧ R (Ite K a) H1) [.ref a] H := ⟨a, xs, rfl, h, q⟩
end
end Nm

/-! The own layer: comprehensions over enumerate(list), comprehensions that draw; parts of texts. -/
namespace Nm
open PySem PySem.Spec PyProof.Rows L2
section
variable {te : TE} {tt : TT} {σ : L2.St} {H : Hp} {Q : VK} {K : PySem.W.Frag}
theorem walk_enumL {a : Addr} {xs : List V} : Walk (Ite K a) xs.length (fun H => SqL K H a xs) (fun i H v H' => ∃ T x, v = .ref T ∧ H T = none ∧ xs[i]? = some x ∧ H' = upd H T (.tup [.int (i : Nat), x])) where
  goes := fun i H hi g => ⟨xs, xs[i], g, List.getElem?_eq_getElem hi⟩
  stops := fun H g => ⟨xs, g, Nat.le_refl _⟩
  yields := fun i H v H' hi g y => by
    obtain ⟨T, x, ev, hT, eH, q⟩ := y
    exact ⟨T, x, ev, hT, q xs g, eH⟩
theorem wipe_two {σ : L2.St} {i j : Nat} {x y : Option V} (h : i ≠ j) : wipe (((wipe σ [i, j]).set i x).set j y) [i, j] = wipe σ [i, j] := by
  show (((((σ.set j none).set i none).set i x).set j y).set j none).set i none = (σ.set j none).set i none
  apply List.ext_getElem?
  intro n
  simp only [List.getElem?_set, List.length_set]
  by_cases h1 : i = n <;> by_cases h2 : j = n <;> simp [h1, h2]
/-- [f(i, p) for i, p in enumerate(ps)], truth values -/
theorem l_enumB {ps : List Str} {a : Addr} {i0 j0 : Nat} (f : Nat → Str → Bool) (hz : ps.length ≤ 1000000) (hs : SqL K H a (ps.map V.str)) (hij : i0 ≠ j0)
    (he : ∀ (i : Nat) (p : Str) H1, ps[i]? = some p → Same H H1 → ∀ Q' : VK, (∀ H2, Same H1 H2 → Q' (.bl (f i p)) H2) → te (((wipe σ [i0, j0]).set i0 (some (.int (i : Nat)))).set j0 (some (.str p))) H1 Q')
    (k : ∀ D H', H D = none → Same H H' → H' D = some (.lst ((ps.zipIdx.map fun q => f q.2 q.1).map V.bl)) → Q (.ref D) H') : kLc (gTup K 2 (gCons (gName i0) (gCons (gName j0) gNil))) tYes te [i0, j0] σ Q (Ite K a) H := fun D hD => by
  have hl : (ps.map V.str).length = ps.length := List.length_map ..
  have hw := walk_enumL (K := K) (a := a) (xs := ps.map V.str)
  refine lc_it hw (Pv := fun i H1 => Same H H1 ∧ H1 D = some (.lst (((ps.zipIdx.take i).map fun q => f q.2 q.1).map V.bl))) ⟨Same.new hD, by rw [upd_same]; simp⟩ (fun i H1 _ ⟨s, _⟩ => s.seq hs) ?_ ?_
  · rintro i x H1 H1' hi ⟨s1, h1⟩ ⟨T, v, ex, hT, hv, eH⟩
    subst ex eH
    rw [hl] at hi
    have hp : ps[i]? = some ps[i] := List.getElem?_eq_getElem hi
    rw [List.getElem?_map, hp] at hv
    cases hv
    refine ⟨T, _, rfl, SqT.of upd_same, rfl, _, _, rfl, _, _, rfl, rfl, wipe_two hij, ?_⟩
    refine z_tYes (iteT ?_)
    refine he i ps[i] _ hp (s1.trans (Same.new hT)) _ fun H2 s2 => ?_
    refine ⟨_, s2 _ _ (Same.new hT _ _ h1), ?_, Nm.Same.mut ((s1.trans (Same.new hT)).trans s2) hD, ?_⟩
    · rw [List.length_map, List.length_map, List.length_take, List.length_zipIdx, sizeLine_eq]
      omega
    · rw [upd_same, List.take_add_one]
      have e : ps.zipIdx[i]? = some (ps[i], i) := by
        rw [List.getElem?_zipIdx, hp]
        simp
      rw [e]
      simp
  · rintro H1 ⟨s1, h1⟩
    refine k D H1 hD s1 ?_
    rw [h1, hl]
    rw [List.take_of_length_le (by rw [List.length_zipIdx]; exact Nat.le_refl _)]
/-- [.. for k in range(n)] whose items are drawn: each of them costs at most c draws -/
theorem l_draw {n : Nat} {i0 : Nat} {d c : Addr} {m : Nat} (cost : Nat) (Pr : V → Prop) (hn : n ≤ 1000) (hp : Pen K H d c (m + cost * n))
    (he : ∀ (i : Nat) H1 j, i < n → But d H H1 → Pen K H1 d c (j + cost) → ∀ Q' : VK, (∀ v H2, Pr v → But d H1 H2 → Pen K H2 d c j → Q' v H2) → te ((σ.set i0 none).set i0 (some (.int (0 + (i : Nat))))) H1 Q')
    (k : ∀ D H' ys, H D = none → But d H H' → Pen K H' d c m → ys.length = n → (∀ y ∈ ys, Pr y) → H' D = some (.lst ys) → Q (.ref D) H') : kLc (gName i0) tYes te [i0] σ Q (Itr 0 n) H := fun D hD => by
  have nd : D ≠ d := hp.ne hD
  refine lc_it walk_range (Pv := fun i H1 => But d H H1 ∧ i ≤ n ∧ Pen K H1 d c (m + cost * (n - i)) ∧ ∃ ys : List V, H1 D = some (.lst ys) ∧ ys.length = i ∧ ∀ y ∈ ys, Pr y) ⟨same_but (Same.new hD), Nat.zero_le _, ?_, [], upd_same, rfl, fun _ h => by cases h⟩ (fun _ _ _ _ => trivial) ?_ ?_
  · exact hp.mut hD hp
  · rintro i x H1 H1' hi ⟨b1, _, p1, ys, h1, hl, hpr⟩ ⟨eH, ex⟩
    subst eH ex
    refine ⟨set_none_twice, ?_⟩
    refine z_tYes (iteT ?_)
    have e1 : m + cost * (n - i) = m + cost * (n - (i + 1)) + cost := by
      have e2 : n - i = (n - (i + 1)) + 1 := by omega
      rw [e2, Nat.mul_add, Nat.mul_one, Nat.add_assoc]
    rw [e1] at p1
    refine he i _ _ hi b1 p1 _ fun v H2 hv b2 p2 => ?_
    refine ⟨ys, b2 _ _ nd h1, ?_, fun a o hne e => ?_, hi, ?_, ys ++ [v], upd_same, by simp [hl], ?_⟩
    · rw [sizeLine_eq]
      omega
    · rw [upd_ne (ne_of_none e hD)]
      exact b2 _ _ hne (b1 _ _ hne e)
    · exact hp.mut hD p2
    · intro y hy
      rcases List.mem_append.mp hy with q | q
      · exact hpr y q
      · rw [List.mem_singleton.mp q]
        exact hv
  · rintro H1 ⟨b1, _, p1, ys, h1, hl, hpr⟩
    rw [Nat.sub_self, Nat.mul_zero, Nat.add_zero] at p1
    exact k D H1 ys hD b1 p1 hl hpr h1
end
/-! lists of texts, cut -/
def cutL (ys : List Str) (lo hi : Option Int) : List Str := (ys.drop (HT.sIx ys.length 0 lo)).take (HT.sIx ys.length ys.length hi - HT.sIx ys.length 0 lo)
theorem cutV_strs (ys : List Str) (lo hi : Option Int) : cutV (ys.map V.str) lo hi = (cutL ys lo hi).map V.str := by
  unfold cutV cutL
  rw [List.length_map, List.map_take, List.map_drop]
theorem cutL_to (ys : List Str) (k : Nat) : cutL ys none (some (k : Int)) = ys.take k := by
  unfold cutL
  rw [HT.sIx_nat, HT.sIx_none, List.drop_zero, Nat.sub_zero, Nat.min_def]
  split
  · rfl
  · rw [List.take_length, List.take_of_length_le (by omega)]
theorem cutL_neg (ys : List Str) (k : Nat) (h : 0 < k) : cutL ys none (some (-(k : Int))) = ys.take (ys.length - k) := by
  unfold cutL
  have e : HT.sIx ys.length ys.length (some (-(k : Int))) = ys.length - k := by
    show (if (-(k : Int)) < 0 then ((-(k : Int)) + (ys.length : Int)).toNat else min (-(k : Int)).toNat ys.length) = _
    rw [if_pos (by omega)]
    omega
  rw [e, HT.sIx_none, List.drop_zero, Nat.sub_zero]
theorem cut_neg (z : Str) (k : Nat) (h : 0 < k) : tl (cutS z none (some (-(k : Int)))) = (tl z).take ((tl z).length - k) := by
  have e : HT.sIx z.length z.length (some (-(k : Int))) = z.length - k := by
    show (if (-(k : Int)) < 0 then ((-(k : Int)) + (z.length : Int)).toNat else min (-(k : Int)).toNat z.length) = _
    rw [if_pos (by omega)]
    omega
  rw [tl_cut, e, HT.sIx_none, List.drop_zero, Nat.sub_zero, str_len]
theorem cut_le (z : Str) (lo hi : Option Int) : (cutS z lo hi).length ≤ z.length := by
  rw [str_len, tl_cut, List.length_take, List.length_drop, str_len]
  omega
theorem cut_sub (z : Str) (lo hi : Option Int) : ∀ c ∈ tl (cutS z lo hi), c ∈ tl z := fun c hc => by
  rw [tl_cut] at hc
  exact List.mem_of_mem_drop (List.mem_of_mem_take hc)
theorem join_len (b : Str) : ∀ ys : List Str, ys ≠ [] → (Str.join b ys).length + b.length = (ys.map (·.length)).sum + ys.length * b.length
  | [], h => absurd rfl h
  | [x], _ => by
    show x.length + b.length = _
    simp
  | x :: y :: r, _ => by
    have ih := join_len b (y :: r) (by simp)
    show (x ++ b ++ Str.join b (y :: r)).length + b.length = _
    rw [app_len, app_len]
    simp only [List.map_cons, List.sum_cons, List.length_cons] at ih ⊢
    rw [Nat.succ_mul]
    omega
/-- the parts of a text together are no longer than the text -/
theorem split_sum (z b : Str) : ((Txt.split z b).map (·.length)).sum + ((Txt.split z b).length - 1) * b.length = z.length := by
  have hp := PyProof.Rows.split_pos z b
  have hne : Txt.split z b ≠ [] := fun e => by rw [e] at hp; exact absurd hp (by decide)
  have h := join_len b _ hne
  rw [StrLaws.join_split] at h
  have e : (Txt.split z b).length * b.length = ((Txt.split z b).length - 1) * b.length + b.length := by
    rw [← Nat.succ_mul]
    congr 1
    omega
  omega
theorem mem_le_sum : ∀ {l : List Nat} {n : Nat}, n ∈ l → n ≤ l.sum
  | a :: l, n, h => by
    rw [List.sum_cons]
    rcases List.mem_cons.mp h with q | q
    · omega
    · have := mem_le_sum q
      omega
theorem split_part {z b p : Str} (h : p ∈ Txt.split z b) : p.length ≤ z.length := by
  have := split_sum z b
  have := mem_le_sum (List.mem_map_of_mem (f := (·.length)) h)
  omega
theorem sum_take (l : List Nat) (n : Nat) : (l.take n).sum ≤ l.sum := by
  have h := congrArg List.sum (List.take_append_drop n l)
  rw [List.sum_append] at h
  omega
section
variable {σ : L2.St} {H : Hp} {K : PySem.W.Frag} {ta : TA} {R : It → Hp → Prop}
def kIEn (K : PySem.W.Frag) (R : It → Hp → Prop) : List V → Hp → Prop := fun vs H1 => ∃ a xs, vs = [.ref a] ∧ SqL K H1 a xs ∧ R (Ite K a) H1
theorem z_iEnum (h : ta σ H (kIEn K R)) : iEnum K ta σ H R := h
theorem z_kIEn {a : Addr} {xs : List V} (h : SqL K H a xs) (q : R (Ite K a) H) : kIEn K R [.ref a] H := ⟨a, xs, rfl, h, q⟩
end
theorem same_none {H H1 : Hp} {d : Addr} (s : Same H H1) (h : H1 d = none) : H d = none := by
  cases e : H d with
  | none => rfl
  | some o =>
    rw [s _ _ e] at h
    cases h
theorem but_none {H H1 : Hp} {d p : Addr} (b : But d H H1) (hne : p ≠ d) (h : H1 p = none) : H p = none := by
  cases e : H p with
  | none => rfl
  | some o =>
    rw [b _ _ hne e] at h
    cases h
/-- a if c else b, as a test -/
def tIfT (tc ta tb : TT) : TT := fun σ H QT => tc σ H fun c H1 => if c = true then ta σ H1 QT else tb σ H1 QT
theorem pt_ifExp {X : Cx} {c a b : Expr} {pos : Pos} {tc ta tb : TT} (hc : PT X c tc) (ha : PT X a ta) (hb : PT X b tb) : PT X (.IfExp c a b pos) (tIfT tc ta tb) := by
  refine ⟨fun pins s σ H Q I h => ?_⟩
  show wpAny _ _ (do if ← isTrue c X.env (eval c X.env) then isTrue a X.env (eval a X.env) else isTrue b X.env (eval b X.env)) _ _ _
  refine wpAny_bind (thn (hc.run pins s σ H _ I h) fun d s1 ⟨H1, I1, q1⟩ => ?_)
  cases d with
  | true => exact ha.run pins s1 σ H1 Q I1 q1
  | false => exact hb.run pins s1 σ H1 Q I1 q1
theorem z_ifT {tc ta tb : TT} {σ : L2.St} {H : Hp} {QT : Bool → Hp → Prop} (h : tc σ H fun c H1 => if c = true then ta σ H1 QT else tb σ H1 QT) : tIfT tc ta tb σ H QT := h
section
variable {σ : L2.St} {H : Hp} {Q : VK} {t : TA} {te : TE} {D : Ends} {v : V}
theorem z_callP {i : Nat} {f : Addr} {sp : Sp} {E : L2.St → XK} (h : σ[i]? = some (some (.ref f))) (q : t σ H fun vs H1 => sp vs H1 Q (E σ)) : tCallP i f sp E t σ H Q := ⟨h, q⟩
def kOfE (a C : Addr) (f : Str) (cls : Value) (d : Option Addr) (Q : VK) : VK := fun x H1 => x = .ref a ∧ cls = .ref C ∧ ∃ (dd : Addr) (kvs : List (Str × V)) (v : V), d = some dd ∧ H1 dd = some (.xd kvs) ∧ kvs.lookup f = some v ∧ Q v H1
theorem z_ofE {a C : Addr} {f : Str} {cls : Value} {d : Option Addr} (h : te σ H (kOfE a C f cls d Q)) : tOfE a C f cls d te σ H Q := h
theorem z_kOfE {a C dd : Addr} {f : Str} {kvs : List (Str × V)} (h : H dd = some (.xd kvs)) (l : kvs.lookup f = some v) (q : Q v H) : kOfE a C f (.ref C) (some dd) Q (.ref a) H := ⟨rfl, rfl, dd, kvs, v, rfl, h, l, q⟩
theorem z_rtE {i : Nat} (h : D.rt v H) : (endsAt i D).rt v H := h
/-- a clause that takes -/
theorem z_takes {K : PySem.W.Frag} {Wo : WX} {c : Cl3} {l : List Cl3} {cls : Value} {d : Option Addr} (e : PySem.W.exmOne K cls c.1 = some true) (h : ∀ a, H a = none → c.2.2 a cls d (endsAt c.2.1 D) (σ.set c.2.1 (some (.ref a))) H) : wClauses K Wo D (c :: l) cls d σ H := ⟨true, e, fun _ => h, (fun q => by cases q)⟩
theorem z_passes {K : PySem.W.Frag} {Wo : WX} {c : Cl3} {l : List Cl3} {cls : Value} {d : Option Addr} (e : PySem.W.exmOne K cls c.1 = some false) (h : wClauses K Wo D l cls d σ H) : wClauses K Wo D (c :: l) cls d σ H := ⟨false, e, (fun q => by cases q), fun _ => h⟩
end
end Nm

/-! The own layer: what the written part says of an exception class, put together. -/
namespace NmE
open PySem PySem.W PySem.Calls PyProof.Rows PySem.HandSPX
open L2 (defArgs defBody defScope)
theorem fn_split {K : Frag} {f : Addr} {oc : Value} {od : Option Addr} {osl : Array (Option Value)} {n qual : Str} {p p' : Arguments} {b b' : List Stmt} {s s' : Scope} {cl : List (Str × Addr)} {dV kV doc pm : Value} {an : Option Addr} {cdv ct : Value} {cda cc : Addr}
    (h : K.lookup f = some ⟨oc, od, .func (fnX n qual p b s cl dV kV doc pm an cdv ct), osl⟩) (e1 : n = "__init__") (e2 : p = p') (e3 : b = b') (e4 : s = s') (e5 : cl = [(("__class__" : Str), cc)]) (e6 : dV = .none) (e7 : cdv = .ref cda) :
    K.lookup f = some ⟨oc, od, .func (ksFn "__init__" qual p' b' s' .none kV doc pm an (.ref cda) ct cc), osl⟩ := by
  subst e1 e2 e3 e4 e5 e6 e7
  exact h
theorem err_mk {P : Program} {K : Frag} {mg : Str → Option Value} {h : Heap} {x : Str} {C : Addr} {fs : List Str} {st : Stmt}
    {nm q : Str} {N : Addr} {bs bm : List Value} {sn : List Str} {sub : List Value} {ab : Bool} {col : Option Bool} {dd : Option Addr} {k0 k1 k2 k3 k5 : Option Value}
    {fI cc cda : Addr} {qual : Str} {oc kV doc pm ct cl ccl : Value} {od an cld cdd : Option Addr} {osl csl ccs : Array (Option Value)} {vs : Array Value} {file : Str} {tf : Tok}
    (X : K.In h) (G : h.Ns mainGlobals mg) (n : nsIn K mainGlobals x = some (some (.ref C)))
    (c : K.lookup C = some (excClassObj nm q C N bs bm true sn sub ab col dd k0 k1 k2 k3 k5 "ValueError.__new__")) (hbm : refsVE bm = true)
    (sa : findIn K (.ref C) "__setattr__" = some (some (.builtin "object.__setattr__"))) (ga : findIn K (.ref C) "__getattribute__" = some (some (.builtin "BaseException.__getattribute__"))) (gg : findIn K (.ref C) "__getattr__" = some none)
    (noN : ∀ f ∈ fs, findIn K (.ref C) f = some none) (kC : keepIn K (.ref C) = true) (exC : subIn K (.ref C) (.type "BaseException") = some true) (veC : subIn K (.ref C) (.type "ValueError") = some true)
    (tyC : typeIn K (.ref C) = some (.type "type")) (hdC : hasDictIn K C = true) (opq : nsIn K cStatics "thirdparty.any" = some none) (own : mroIn K C (.ref C) = some true)
    (nsp : nsIn K mainGlobals "super" = some none) (iC : findIn K (.ref C) "__init__" = some (some (.ref fI))) (tI : typeIn K (.ref fI) = some (.type "function"))
    (lI : K.lookup fI = some ⟨oc, od, .func (ksFn "__init__" qual (defArgs st) (defBody st) (defScope st) .none kV doc pm an (.ref cda) ct cc), osl⟩) (hcr : codeIn K (.ref cda) qual = true)
    (hcc : K.lookup cc = some ⟨cl, cld, .cell (some (.ref C)), csl⟩) (hcd : K.lookup cda = some ⟨ccl, cdd, .fields vs, ccs⟩) (hvs : vs[2]? = some (.str file tf)) (hfile : ((P.main.file : Str) == file) = true)
    (sup : ks_superIn K C C "__init__" = some (some (.builtin "ValueError.__init__"))) (top : (P.main.scope.names.lookup ("super" : Str)).isSome = false) (ini : Ini st fs)
    (hbind : ∀ (cc : Addr) (kV doc pm : Value) (an : Option Addr) (cda : Addr) (ct : Value) (us : List Value), us.length = (("self" : Str) :: fs).length → bindArgs (ksFn "__init__" qual (defArgs st) (defBody st) (defScope st) .none kV doc pm an (.ref cda) ct cc) ⟨us, []⟩ = pure ((("self" : Str) :: fs).zip us)) :
    Err P K mg x C fs :=
  ⟨mg_of X G n, ⟨nm, q, N, bs, bm, sn, sub, ab, col, dd, k0, k1, k2, k3, k5, c, hbm⟩, sa, ga, gg, noN, kC, exC, veC, tyC, hdC, opq, sup, own, top, mg_none_of X G nsp,
    ⟨fI, cc, cda, st, qual, oc, .none, kV, doc, pm, ct, cl, ccl, od, an, cld, cdd, osl, csl, ccs, vs, file, tf, iC, tI, lI, hcr, ini, hcc, hcd, hvs, hfile, hbind cc kV doc pm an cda ct⟩⟩
/-- two classes, none of which is the other's -/
structure Two (P : Program) (K : Frag) (mg : Str → Option Value) (x1 : Str) (C1 : Addr) (fs1 : List Str) (x2 : Str) (C2 : Addr) (fs2 : List Str) : Prop where
  e1 : Err P K mg x1 C1 fs1
  e2 : Err P K mg x2 C2 fs2
  s11 : subIn K (.ref C1) (.ref C1) = some true
  s12 : subIn K (.ref C1) (.ref C2) = some false
  s21 : subIn K (.ref C2) (.ref C1) = some false
  s22 : subIn K (.ref C2) (.ref C2) = some true
end NmE
namespace Nm
open PySem L2
def inClass (s : Stmt) (j : Nat) : Stmt := match s with
  | .ClassDef _ _ _ b _ _ _ _ _ _ _ => b.getD j (.Pass ⟨0, 0, 0, 0⟩)
  | _ => .Pass ⟨0, 0, 0, 0⟩
end Nm

/-! The own layer: a def's promise at the law's own caller alone (its guards are known there): for repr. -/
namespace Nm
open PySem PySem.Spec PyProof.Rows L2
/-- as FnOk, but at callers whose guards are none -/
structure FnG (P : Program) (w : World) (K : PySem.W.Frag) (mg : Str → Option Value) (base : Heap) (CX : CXT) (k : Nat) (f : Addr) (fd : FuncData) (ps : List Str) (sp : Sp) : Prop where
  len : ∀ vs H Q E, sp vs H Q E → vs.length = ps.length
  run : ∀ (A : Around) (outer : List Env) (s : Shared) (H : Hp) (args : Args) (us : List Value) (vs : List V) (Q : VK) (E : XK), Room k A → A.guards = some [] → Env0 P w K mg base A outer s H → BindsTo s fd args (ps.zip us) → Vals vs us → sp vs H Q E →
    codeAny (model P w) A (.call (.ref f) args) (CR CX outer P w H s Q E) s
theorem fnG_of {x qual : Str} {st : Stmt} {f : Addr} {fd : FuncData} {N ps : List Str} {k : Nat} {sp : Sp} {P : Program} {w : World} {K : PySem.W.Frag} {mg : Str → Option Value} {base : Heap} (F : Fun K x qual st f fd) (S : FnScope N ps (defScope st)) (len : ∀ vs H Q E, sp vs H Q E → vs.length = ps.length)
    (hbody : ∀ (cdv : Value) (A : Around) (outer : List Env) (s : Shared) (H : Hp) (vs : List V) (Q : VK) (E : XK), Room k (A.deeper (envOfC qual (defScope st) s.heap.objs.size f cdv)) → (A.deeper (envOfC qual (defScope st) s.heap.objs.size f cdv)).guards = some [] → sp vs H Q E →
      ∃ t, PSs (cxOf CX0 P w K mg base N qual (defScope st) f cdv A outer s H E).nox (defBody st) t ∧ t { nx := fun _ H' => Q .non H', rt := Q } (start N vs) H) : FnG P w K mg base CX0 (k + 1) f fd ps sp := by
  obtain ⟨oc, od, kV, doc, pm, an, cdv, ct, osl, rfl, lk, hcd⟩ := F.ex
  refine ⟨len, fun A outer s H args us vs Q E hr hgd e0 hb rv hsp => ?_⟩
  have hl := len _ _ _ _ hsp
  have KX : K.In s.heap := e0.mod.kin.keeps fun b o e => (e0.bs b o e).1
  have lim : s.heap.NoLimit := e0.mod.nolimit.keeps fun b o e => (e0.bs b o e).1
  have kinds : ∀ y ∈ ps.zip us, (defScope st).names.lookup y.1 = some .local ∨ ((defScope st).names.lookup y.1 = some .cell ∧ ((cellsFrom (s.heap.objs.size + 1) (defScope st).names []).lookup y.1).isSome = true) := fun ⟨n, v⟩ hy =>
    (S.par n (List.of_mem_zip hy).1).imp id fun q => ⟨q, PySem.W.cellsFrom_some _ _ _ (.inl q)⟩
  refine codeAny_call_function hr.depth (KX _ _ lk) rfl S.co S.gen rfl (PySem.W.codeRec_of KX hcd) (hb _ _ _ _ (wpAny_newFunctionEnv_cells S.kind kinds fun env he s1 x => ?_))
  subst he
  refine ⟨lim.keeps x.toInCall.keep, codeAny_func ?_⟩
  obtain ⟨t, ht0, hq⟩ := hbody cdv A outer s H vs Q E (hr.deeper _) hgd hsp
  have ht := ht0.nox
  have I : Inv (cxOf CX0 P w K mg base N qual (defScope st) f cdv A outer s H E) [] (start N vs) H s1 := inv_start S hr.hd e0 hl rv x
  refine wpAny_mono (ht.run [] s1 (start N vs) H _ I hq) (fun fl s' hs => ?_) fun e s' hs => hs
  have fin : ∀ {σ' : L2.St} {H' : Hp} {v : V} {u : Value}, Inv (cxOf CX0 P w K mg base N qual (defScope st) f cdv A outer s H E) [] σ' H' s' → RelV v u → Q v H' → CE outer P w H s Q u s' :=
    fun {σ' H' v u} J r q => ⟨v, H', J.os, J.bare, J.base, J.hok, r, q⟩
  cases fl with
  | brk => exact hs.elim fun _ h => h.elim fun _ h => False.elim h.2
  | cont => exact hs.elim fun _ h => h.elim fun _ h => False.elim h.2
  | next =>
    obtain ⟨σ', H', J, q⟩ := hs
    exact fin (v := V.non) (u := Value.none) J rfl q
  | ret u =>
    obtain ⟨v, σ', H', J, r, q⟩ := hs
    exact fin J r q
/-- the law called by its caller: the script alone may be tracked -/
theorem law_callG {P : Program} {w : World} {K : PySem.W.Frag} {mg mb : Str → Option Value} {k : Nat} {fa a : Addr} {fd : FuncData} {x : Str} {sp : Sp} {s₁ : Shared} {vs : List Value} {ns : List Int}
    (KX : K.In s₁.heap) (hns : s₁.heap.Ns mainGlobals mg) (hb : s₁.heap.Ns builtinsNs mb) (hbb : ∀ x : Str, x ≠ "__name__" → mb x = bootBuiltins x) (hlim : s₁.heap.NoLimit) (hg : s₁.gens = #[])
    (ha : s₁.heap.get? a = some { cls := .type "list", data := .seq vs.toArray }) (hi : IntsAre vs ns) (hl : ns.length ≤ sizeLine) (hr : Room k callerA)
    (F : ∀ base : Heap, K.In base → base.Ns mainGlobals mg → FnG P w K mg base CX0 k fa fd [x] sp) (hbind : ∀ (s : Shared) (u : Value), BindsTo s fd ⟨[u], []⟩ [(x, u)])
    (hsp : ∀ H : Hp, Only H → SqL K H a (ns.map V.int) → sp [.ref a] H (fun v _ => v = .bl true) fun _ _ _ => False) :
    codeAny (model P w) callerA (.call (.ref fa) ⟨[.ref a], []⟩) (fun r s' => r = .ok (.ret (.bool true)) ∧ OldK s₁.heap s'.heap ∧ s'.os = s₁.os ∧ AllBare s'.gens) s₁ := by
  have lenV := hi.length
  have main : ∀ H : Hp, Only H → SqL K H a (ns.map V.int) → HOk P w H s₁.heap → (∀ b, H b ≠ none → b = a) → (H a ≠ none → K.lookup a = none) →
      codeAny (model P w) callerA (.call (.ref fa) ⟨[.ref a], []⟩) (fun r s' => r = .ok (.ret (.bool true)) ∧ OldK s₁.heap s'.heap ∧ s'.os = s₁.os ∧ AllBare s'.gens) s₁ := by
    intro H only hS hok alone notK
    have free : ∀ {b : Addr}, b ≠ a → H b = none := fun {b} ne => by
      cases q : H b with
      | none => rfl
      | some u => exact absurd (alone b (by rw [q]; simp)) ne
    have seen : ∀ {b : Addr} {o : Obj}, s₁.heap.get? b = some o → H b = none → (hidT s₁.heap H).get? b = some o := fun e n => hidT_get e n
    have notDict : ∀ {b : Addr} {o : Obj} {es : Array DictEntry} {ep : Nat}, s₁.heap.get? b = some o → o.data = .dict es ep → b ≠ a := fun {b o es ep} e d z => by
      rw [z, ha] at e
      cases e
      have d' : Data.seq vs.toArray _ = Data.dict es ep := d
      cases d'
    have keepNs : ∀ {b : Addr} {m : Str → Option Value}, s₁.heap.Ns b m → (hidT s₁.heap H).Ns b m := fun ⟨o, es, ep, e, d, r⟩ => ⟨o, es, ep, seen e (free (notDict e d)), d, r⟩
    have inB : K.In (hidT s₁.heap H) := fun b o e => seen (KX b o e) (by
      cases q : H b with
      | none => rfl
      | some u =>
        have z := alone b (by rw [q]; simp)
        subst z
        rw [notK (by rw [q]; simp)] at e
        cases e)
    have hM : Mod K mg (hidT s₁.heap H) := ⟨inB, keepNs hns, ⟨mb, keepNs hb, hbb⟩, let ⟨mc, h1, h2⟩ := hlim; ⟨mc, keepNs h1, h2⟩⟩
    have e0 : Env0 P w K mg (hidT s₁.heap H) callerA [] s₁ H := ⟨rfl, hM, fun b o e => of_hidT e, Nat.le_of_eq (hidT_size _ _), trivial, fun b hb => absurd (show b ∈ ([] : List Addr) from hb) (by simp), hok, .of_eq hg⟩
    refine codeAny_mono ((F _ inB (keepNs hns)).run callerA [] s₁ H ⟨[.ref a], []⟩ [.ref a] [.ref a] _ _ hr rfl e0 (hbind s₁ (.ref a)) (.cons rfl .nil) (hsp H only hS)) fun r s' h => ?_
    cases r with
    | error e => exact h.elim
    | ok fl =>
      cases fl with
      | ret u =>
        obtain ⟨v, H', os, bare, un, hok', r', q⟩ := h
        obtain rfl : v = .bl true := q
        obtain rfl : u = Value.bool true := r'
        refine ⟨rfl, OldK.of_keep fun b o e => ?_, os, bare⟩
        rcases only b with n | ⟨ob, xs, z⟩
        · exact un.keep b o e n (by intro z; exact absurd (show b ∈ ([] : List Addr) from z) (by simp)) (by simp)
        · obtain ⟨e1, _⟩ := hok b _ z
          obtain ⟨e2, _⟩ := hok' b _ (un.frzs b ob _ z)
          rw [e] at e1
          cases e1
          exact e2
      | _ => exact False.elim h
  cases hk : K.lookup a with
  | some o =>
    have e := KX a o hk
    rw [ha] at e
    cases e
    exact main (fun _ => none) (fun _ => .inl rfl) (.inr ⟨_, vs.toArray, _, hk, rfl, rfl, rfl, by rw [List.size_toArray, lenV]; exact hl, by simpa using vals_ints hi⟩) (fun b u z => by cases (show (none : Option HO) = some u from z)) (fun b z => absurd rfl z) fun z => absurd rfl z
  | none =>
    refine main (fun b => if b = a then some (.frz { cls := .type "list", data := .seq vs.toArray } (.lst (ns.map V.int))) else none) (fun b => ?_) (.inl (.inr ⟨{ cls := .type "list", data := .seq vs.toArray }, if_pos rfl⟩)) (fun b u z => ?_) (fun b z => Classical.byContradiction fun q => z (if_neg q)) fun _ => hk
    · by_cases q : b = a
      · exact .inr ⟨_, _, if_pos q⟩
      · exact .inl (if_neg q)
    · by_cases q : b = a
      · have z' := (if_pos q).symm.trans z
        cases z'
        subst q
        exact ⟨ha, by rw [List.length_map]; exact hl, vs, _, vals_ints hi, ha⟩
      · cases (if_neg q).symm.trans z
theorem walk_ofG {l : PySem.W.OpenLaw} {n k : Nat} {q : Program} {loose : List Str} {XP : (Str → Option Value) → Heap → Prop} {YP : World → Heap → Prop} {d : DefRec} {K : Params → PySem.W.Frag} {sp : PySem.W.Frag → Sp} {x : Str}
    (hn : l.most = some n) (hn2 : n ≤ sizeLine) (hdf : d.params.defaults = []) (hr : Room k callerA)
    (hY : ∀ (w : World) (h : Heap), YP w h → (K w.params).In h)
    (F : ∀ (w : World) (mg : Str → Option Value) (fa : Addr) (h : Heap), XP mg h → (K w.params).In h → h.Ns mainGlobals mg → mg d.name = some (.ref fa) →
      ∃ fd : FuncData, (∀ (s : Shared) (u : Value), BindsTo s fd ⟨[u], []⟩ [(x, u)]) ∧
        ∀ base : Heap, (K w.params).In base → base.Ns mainGlobals mg → FnG l.prog w (K w.params) mg base CX0 k fa fd [x] (sp (K w.params)))
    (hsp : ∀ (K : PySem.W.Frag) (H : Hp) (a : Addr) (ns : List Int), ns.length ≤ n → SqL K H a (ns.map V.int) → sp K [.ref a] H (fun v _ => v = .bl true) fun _ _ _ => False) :
    PySem.W.WalkO q loose XP YP l.row.toRowW d [] (fun f vs => PySem.call f vs) := by
  refine Att.attach_call hn hdf fun w s₀ s₁ mg mb fa o pm cd doc a vs ns G Y ho hd hcd hmg hobj hints hlen hg => ?_
  have KX := hY w _ Y
  obtain ⟨fd, hb, hF⟩ := F w mg fa _ G.X KX G.T.g hmg
  exact law_callG KX G.T.g G.T.b G.T.builtins G.T.nolimit hg hobj hints (Nat.le_trans hlen hn2) hr hF hb (fun H hO hS => hsp (K w.params) H a ns hlen hS)
end Nm

/-! The own layer: exceptions as values (their fields read, isinstance), repr of data. -/
namespace L2
open PySem PySem.Spec PyProof.Rows
/-- an exception of the class at C stands at a, its fields -/
def ExAt (H : Hp) (a C : Addr) (kvs : List (Str × V)) : Prop := (kvs = [] ∧ H a = some (exo a C none)) ∨ ∃ d, H a = some (exo a C (some d)) ∧ H d = some (exd d kvs)
theorem ExAt.same {H H' : Hp} {a C : Addr} {kvs : List (Str × V)} (s : Same H H') (h : ExAt H a C kvs) : ExAt H' a C kvs := by
  rcases h with ⟨e, h⟩ | ⟨d, h1, h2⟩
  · exact .inl ⟨e, s _ _ h⟩
  · exact .inr ⟨d, s _ _ h1, s _ _ h2⟩
/-- the first n objects of a heap -/
def cutH (h : Heap) (n : Nat) : Heap := ⟨h.objs.extract 0 n, h.life⟩
theorem cutH_get {h : Heap} {n b : Nat} (hb : b < n) : (cutH h n).get? b = h.get? b := by
  have e : (h.objs.extract 0 n)[b]? = h.objs[b]? := by
    rw [Array.getElem?_extract]
    by_cases q : b < h.objs.size
    · rw [if_pos (by omega), Nat.zero_add]
    · rw [if_neg (by omega), Array.getElem?_eq_none (by omega)]
  unfold cutH Heap.get?
  rw [e]
theorem cutH_size {h : Heap} {n : Nat} : (cutH h n).objs.size ≤ n := by
  show (h.objs.extract 0 n).size ≤ n
  rw [Array.size_extract]
  omega
theorem cutH_of {h : Heap} {n b : Nat} {o : Obj} (e : (cutH h n).get? b = some o) : h.get? b = some o := by
  have l := Heap.lt_size e
  rw [← cutH_get (Nat.lt_of_lt_of_le l cutH_size)]
  exact e
section
variable {X : Cx} {pins : List (Addr × Obj)} {σ : St} {H : Hp} {s : Shared} {a C dx t1 : Addr} {fs : List (Str × V)} {h' : Heap} {mA : Str → Option Value} {tk' : Nat}
/-- the fields were stored: the exception has its dict now -/
theorem ex_fill (I : Inv X pins σ H s) (e : H a = some (exo a C none)) (k : ∀ b o, b ≠ a → s.heap.get? b = some o → h'.get? b = some o) (dn : s.heap.objs.size ≤ dx)
    (hx : h'.get? a = some (NmE.excD C t1 (some dx))) (hn : h'.Ns1 dx mA) (rel : ∀ f, RelO (fs.lookup f) (mA f)) :
    Inv X pins σ (upd (upd H a (exo a C (some dx))) dx (exd dx fs)) { s with heap := h', toks := tk' } := by
  have al : a < s.heap.objs.size := by
    obtain ⟨t, ho⟩ := exo_at I.hok e
    exact Heap.lt_size ho
  have hx' : (cutH h' s.heap.objs.size).get? a = some (NmE.excD C t1 (some dx)) := (cutH_get al).trans hx
  have I1 := I.write (t' := tk') (h' := cutH h' s.heap.objs.size) (x := a) (e := a) (o := exo a C (some dx)) (by rw [e]; exact True.intro) (.inl rfl) (fun b u nb hb => (cutH_get (Heap.lt_size hb)).trans (k b u nb hb)) ⟨_, hx'⟩ (exo_ok hx')
  exact I1.laid (t' := tk') (h' := h') (a := dx) (o := exd dx fs) (fun b u hb => cutH_of hb) (Nat.le_trans cutH_size dn) (exd_ok hn rel)
end
section
variable {X : Cx} {C : Addr} {xn : Str} {fs : List Str}
/-- what a made exception leaves -/
def kMkErr (C : Addr) (fs : List Str) (Q : VK) : List V → Hp → Prop := fun vs H1 => vs.length = fs.length ∧ ∀ a H2, H1 a = none → Same H1 H2 → ExAt H2 a C (NmE.puts fs vs []) → Q (.ref a) H2
/-- the class called, made with a value for each field; the exception is a value -/
def tMkErr (C : Addr) (fs : List Str) (ta : TA) : TE := fun σ H Q => ta σ H (kMkErr C fs Q)
theorem err_made {pins : List (Addr × Obj)} {σ : St} {H1 : Hp} {s1 : Shared} {vs : List V} {us : List Value} {Q : VK} {k : Nat} (T : NmE.Err X.prog X.K X.mg xn C fs) (hr : Room k X.A) (I1 : Inv X pins σ H1 s1) (r1 : Vals vs us) (hq : kMkErr C fs Q vs H1) :
    wpAny (model X.prog X.w) X.A (call (.ref C) us) (EP X pins σ Q) X.xe s1 := by
  obtain ⟨hl, q1⟩ := hq
  obtain ⟨nm, q, N, bs, bm, sn, sub, ab, col, dd, k0, k1, k2, k3, k5, hC, hbm⟩ := T.cls
  obtain ⟨fI, cc, cda, st, qual, oc, dV, kV, doc, pm, ct, cl, ccl, od, an, cld, cdd, osl, csl, ccs, dat, file, tf, iC, tI, lI, hcr, ini, hcc, hcd, hvs, hfile, hbind⟩ := T.init
  obtain ⟨mb, hb, hbs⟩ := I1.ok.mod.blt
  have hlim := I1.nolimit
  have hgl := I1.ok.mod.glob
  have bk := I1.bk
  have KI := I1.kIn
  have hus : us.length = fs.length := r1.length.symm.trans hl
  have hzz : us.length ≤ sizeLine := by
    have := ini.few
    rw [sizeLine_eq]
    omega
  obtain ⟨hp, g, dr, tk, os⟩ := s1
  have hsz : hp.objs.size ≤ hp.objs.size + 1 := Nat.le_succ _
  have hn : H1 (hp.objs.size + 1) = none := I1.hok.fresh hsz
  have kk : ∀ b o, hp.get? b = some o → ((hp.push (PySem.W.kdv_tup us)).push (PySem.HandSPX.excO C hp.objs.size)).get? b = some o := fun b o e => Heap.get?_push_of_some _ (Heap.get?_push_of_some _ e)
  have hget : ((hp.push (PySem.W.kdv_tup us)).push (PySem.HandSPX.excO C hp.objs.size)).get? (hp.objs.size + 1) = some (PySem.HandSPX.excO C hp.objs.size) := by heap_get
  have I2 : Inv X pins σ (upd H1 (hp.objs.size + 1) (exo (hp.objs.size + 1) C none)) ⟨(hp.push (PySem.W.kdv_tup us)).push (PySem.HandSPX.excO C hp.objs.size), g, dr, tk, os⟩ :=
    I1.laid (t' := tk) (a := hp.objs.size + 1) (o := exo (hp.objs.size + 1) C none) (h' := (hp.push (PySem.W.kdv_tup us)).push (PySem.HandSPX.excO C hp.objs.size)) kk hsz (exo_ok hget)
  refine wpAny_call (PySem.HandSPX.call_own PySem.F.excBase_ValueError (fun Y => PySem.HandSPX.refsVE_contains Y bm hbm) (KI _ _ hC) (PySem.W.looks_findIn KI iC) (fun self => PySem.W.bind_fn KI self tI) hzz ?_)
  refine NmE.err_init (s := ⟨(hp.push (PySem.W.kdv_tup us)).push (PySem.HandSPX.excO C hp.objs.size), g, dr, tk, os⟩) T lI hcr ini hcc hcd hvs hfile hbind (KI.keeps kk) (hlim.keeps kk) (NmE.ns_keep hgl fun o e => kk _ _ (bk _ _ e)) (NmE.ns_keep hb fun o e => kk _ _ (bk _ _ e)) ?_ r1 hus hget (NmE.not_in KI (Nat.le_succ _)) ?_ fun h' tk' D => ?_
  · exact (hbs _ (by decide)).trans (by first | rfl | kernel_rfl)
  · show X.A.depth + 1 < recursionLimit
    have := hr.dp
    omega
  · refine ⟨rfl, ?_⟩
    show EP X pins σ Q (.ref (hp.objs.size + 1)) ⟨h', g, dr, tk', os⟩
    rcases D.obj with ⟨z, t1, hx⟩ | ⟨t1, d, mB, hx, hd, hde, hns, rel⟩
    · subst z
      have ev : vs = [] := List.eq_nil_of_length_eq_zero hl
      subst ev
      have J := I2.write (t' := tk') (h' := h') (x := hp.objs.size + 1) (e := hp.objs.size + 1) (o := exo (hp.objs.size + 1) C none) (by rw [upd_same]; exact True.intro) (.inl rfl) D.keep ⟨_, hx⟩ (exo_ok hx)
      refine ⟨.ref (hp.objs.size + 1), _, J, rfl, q1 _ _ hn (fun b u e => ?_) (.inl ⟨rfl, upd_same⟩)⟩
      have ne := ne_of_none e hn
      rw [upd_ne ne, upd_ne ne]
      exact e
    · have J := ex_fill (tk' := tk') (fs := NmE.puts fs vs []) I2 upd_same D.keep hd hx hns rel
      have hd' : hp.objs.size ≤ d := by
        have e : ((hp.push (PySem.W.kdv_tup us)).push (PySem.HandSPX.excO C hp.objs.size)).objs.size = hp.objs.size + 1 + 1 := by simp only [Heap.size_push]
        have hd2 : ((hp.push (PySem.W.kdv_tup us)).push (PySem.HandSPX.excO C hp.objs.size)).objs.size ≤ d := hd
        omega
      have hdn : H1 d = none := I1.hok.fresh hd'
      refine ⟨.ref (hp.objs.size + 1), _, J, rfl, q1 _ _ hn (fun b u e => ?_) (.inr ⟨d, ?_, upd_same⟩)⟩
      · have ne := ne_of_none e hn
        rw [upd_ne (ne_of_none e hdn), upd_ne ne, upd_ne ne]
        exact e
      · rw [upd_ne (Ne.symm hde), upd_same]
theorem pe_mkErr {e : Expr} {es : List Expr} {ta : TA} {p pos : Pos} {k : Nat} (T : NmE.Err X.prog X.K X.mg xn C fs) (hr : Room k X.A) (ha : PA X (e :: es) ta) (hg : Gl X xn := by rfl) (hdb : (xn == ("__debug__" : Str)) = false := by decide)
    (he : starEach (e :: es) X.env = (false, eval e X.env) :: starEach es X.env := by rfl) (hpl : (backTo pos (starEach es X.env)).any (·.1) = false := by rfl) :
    PE X (.Call (.Name xn p) (e :: es) [] pos) (tMkErr C fs ta) := by
  refine ⟨fun pins s σ H Q I h => ?_⟩
  refine wpAny_Call_Name_kw (ld_glob I hg T.gC ?_ hdb)
  exact PySem.W.callWith_K (h₀ := X.base) I.ok.mod.kin T.kC (thn (ha.run pos pins s σ H _ I h) fun us s1 ⟨vs, H1, I1, r1, hq⟩ => ⟨I1.kIn, err_made T hr I1 r1 hq⟩) he hpl
theorem pe_mkErr0 {p pos : Pos} {k : Nat} (T : NmE.Err X.prog X.K X.mg xn C fs) (hr : Room k X.A) (hg : Gl X xn := by rfl) (hdb : (xn == ("__debug__" : Str)) = false := by decide) :
    PE X (.Call (.Name xn p) [] [] pos) (tMkErr C fs tNil) := by
  refine ⟨fun pins s σ H Q I h => ?_⟩
  refine wpAny_Call_Name_kw (ld_glob I hg T.gC ?_ hdb)
  exact PySem.W.callWith_K0 I.kIn T.kC (err_made T hr I .nil h)
/-- e.f, e an exception -/
def kExF (C : Addr) (f : Str) (Q : VK) : VK := fun x H1 => ∃ a kvs v, x = .ref a ∧ ExAt H1 a C kvs ∧ kvs.lookup f = some v ∧ Q v H1
def tExF (C : Addr) (f : Str) (te : TE) : TE := fun σ H Q => te σ H (kExF C f Q)
theorem pe_exF {e : Expr} {te : TE} {pos : Pos} {f : Str} (T : NmE.Err X.prog X.K X.mg xn C fs) (hf : f ∈ fs) (he : PE X e te) (hb : attributeBase e f X.env (eval e X.env) = eval e X.env := by rfl) : PE X (.Attribute e f pos) (tExF C f te) := by
  refine ⟨fun pins s σ H Q I h => ?_⟩
  refine attr_of hb (thn (he.run pins s σ H _ I h) fun u s1 ⟨x, H1, I1, rx, a, kvs, v, ex, ea, lv, q⟩ => ?_)
  subst ex
  obtain rfl : u = Value.ref a := rx
  rcases ea with ⟨e0, _⟩ | ⟨d, e1, e2⟩
  · subst e0
    cases lv
  obtain ⟨t1, ho⟩ := exo_at I1.hok e1
  obtain ⟨mA, hns, hr⟩ := exd_at I1.hok e2
  obtain ⟨od, hod, hl⟩ := lookIn_ns hns
  have rf := hr f
  rw [lv] at rf
  obtain ⟨u, hu, ru⟩ := RelO.some_of (v := v) (o := mA f) rf
  have J : PySem.W.InstAt s1.heap a _ C (some od) := ⟨ho, rfl, rfl, hod⟩
  exact HandSPX.exc_get I1.kIn J T.ga T.gg T.exC (PySem.W.findObj_own T.hdC (T.noN f hf) rfl (by rw [hl, hu])) (handed_of ru) ⟨v, H1, I1.tok _, ru, q⟩
/-- what a class must say, so that isinstance asks its instances rightly -/
structure ExI (K : PySem.W.Frag) (C : Addr) : Prop where
  cl : (PySem.W.clsIn K C).isSome = true
  ga : PySem.W.findIn K (.ref C) "__getattribute__" = some (some (.builtin "BaseException.__getattribute__"))
  gg : PySem.W.findIn K (.ref C) "__getattr__" = some none
  sub : PySem.W.subIn K (.ref C) (.type "BaseException") = some true
  ha : PySem.W.findIn K (.ref C) "__class__" = some (some (.builtin "object.__class__"))
  hn : PySem.W.specialIn K (.builtin "object.__class__") "__get__" = some (some (.builtin "getset_descriptor.__get__"))
  ht : PySem.W.takesIn K (.builtin "object.__class__") = some true
  hm : PySem.W.mroIn K C (.type "object") = some true
/-- isinstance(e, c), e an exception -/
def rIsX (K : PySem.W.Frag) : List V → Hp → VK → Prop := fun xs H Q => ∃ (a C : Addr) (kvs : List (Str × V)) (c : V) (u : Value) (b : Bool), xs = [.ref a, c] ∧ ClsV c u ∧ ExI K C ∧ ExAt H a C kvs ∧ PySem.W.kitOne K (.ref C) u = some b ∧ Q (.bl b) H
theorem call_isX : CallR X (.builtin "isinstance") (rIsX X.K) := by
  intro pins s σ H xs us Q I r h
  obtain ⟨a, C, kvs, c, u, b, rfl, k, T, ea, e, q⟩ := h
  obtain ⟨u1, u2, rfl, r1, r2⟩ := vals2 r
  have e2 := k.eq r2
  subst e2
  obtain rfl : u1 = Value.ref a := r1
  have J : ∃ ox od, PySem.W.InstAt s.heap a ox C od := by
    rcases ea with ⟨_, e1⟩ | ⟨d, e1, e2⟩
    · obtain ⟨t1, ho⟩ := exo_at I.hok e1
      exact ⟨_, none, ho, rfl, rfl, trivial⟩
    · obtain ⟨t1, ho⟩ := exo_at I.hok e1
      obtain ⟨mA, hns, hr⟩ := exd_at I.hok e2
      obtain ⟨od, hod, hl⟩ := lookIn_ns hns
      exact ⟨_, some od, ho, rfl, rfl, hod⟩
  obtain ⟨ox, od, J⟩ := J
  exact PySem.W.kia_one (PySem.W.kitx_exc T.cl T.ga T.gg T.sub T.ha T.hn T.ht T.hm) I.kIn J e (fun z => nomatch z) fun tk => ⟨.bl b, H, I.tok tk, rfl, q⟩
/-- repr of data -/
def nRepr (K : PySem.W.Frag) : List V → Hp → VK → Prop := fun xs H Q => ∃ (x : V) (d : PyData), xs = [x] ∧ Dp K H x d ∧ d.showable = true ∧ d.hasDict = false ∧ d.shown.length ≤ sizeLine ∧ d.depth ≤ 60 ∧ Q (.str d.shown) H
theorem call_reprD (hg : X.A.guards = some []) (hu : X.A.units + 61 < cLine) : CallR X (.builtin "repr") (nRepr X.K) := by
  intro pins s σ H xs us Q I r h
  obtain ⟨x, d, rfl, hd, hs, hn, hz, hdp, q⟩ := h
  obtain ⟨u, rfl, ru⟩ := vals1 r
  obtain ⟨as, rd⟩ := Dp.reads I d x u hd ru
  cases u with
  | ref a => exact repr_of_reads' rd hs (fun e => by rw [hn] at e; cases e) hg (by omega) (fun _ _ e => e) (fun h' u tk hk => ⟨.str d.shown, H, I.kept (t' := tk) hk, ⟨_, rfl⟩, q⟩) hz
  | none =>
    cases rd
    exact PySem.P.repr_of_none ⟨.str _, H, I.tok _, ⟨_, rfl⟩, q⟩
  | bool b =>
    cases rd
    exact PySem.P.repr_of_bool ⟨.str _, H, I.tok _, ⟨_, rfl⟩, q⟩
  | int i t =>
    cases rd
    exact PySem.P.repr_of_int (by simpa [PyData.showable] using hs) ⟨.str _, H, I.tok _, ⟨_, rfl⟩, q⟩
  | str z t =>
    cases rd
    exact PySem.P.repr_of_str ⟨.str _, H, I.tok _, ⟨_, rfl⟩, q⟩ (by simpa only [PyData.shown] using hz)
  | _ => cases rd
end
section
variable {K : PySem.W.Frag} {σ : L2.St} {H : Hp} {Q : VK} {te : TE} {ta : TA} {C : Addr} {fs : List Str} {f : Str}
theorem at_s {H0 H : Hp} {p : Addr} {o : HO} (h : H0 p = some o) (s : Same H0 H) : H p = some o := s _ _ h
theorem ex_s {H0 H : Hp} {a C : Addr} {kvs : List (Str × V)} (h : ExAt H0 a C kvs) (s : Same H0 H) : ExAt H a C kvs := h.same s
theorem z_mkErr (h : ta σ H (kMkErr C fs Q)) : tMkErr C fs ta σ H Q := h
theorem z_kMkErr {vs : List V} (hl : vs.length = fs.length) (k : ∀ a H2, H a = none → Same H H2 → ExAt H2 a C (NmE.puts fs vs []) → Q (.ref a) H2) : kMkErr C fs Q vs H := ⟨hl, k⟩
theorem z_exF (h : te σ H (kExF C f Q)) : tExF C f te σ H Q := h
theorem z_kExF {a : Addr} {kvs : List (Str × V)} {v : V} (h : ExAt H a C kvs) (hv : kvs.lookup f = some v) (q : Q v H) : kExF C f Q (.ref a) H := ⟨a, kvs, v, rfl, h, hv, q⟩
theorem z_isX {a C : Addr} {kvs : List (Str × V)} {c : V} {u : Value} {b : Bool} (hc : ClsV c u) (T : ExI K C) (h : ExAt H a C kvs) (e : PySem.W.kitOne K (.ref C) u = some b) (q : Q (.bl b) H) : rIsX K [.ref a, c] H Q := ⟨a, C, kvs, c, u, b, rfl, hc, T, h, e, q⟩
theorem z_repr {x : V} {d : PyData} (hd : Dp K H x d) (hs : d.showable = true) (hn : d.hasDict = false) (hz : d.shown.length ≤ sizeLine) (hp : d.depth ≤ 60) (q : Q (.str d.shown) H) : nRepr K [x] H Q := ⟨x, d, rfl, hd, hs, hn, hz, hp, q⟩
end
end L2

namespace K00
open PySem PySem.Spec PyProof.Rows L2 Nm
def top (i : Nat) : Stmt := PySem.Challenge.pw_namedmeets_k00_errors.main.body.getD i (.Pass ⟨0, 0, 0, 0⟩)
abbrev spen : Stmt := top 15
theorem scpen : FnScope ["_law_script", "_law_fold", "_law_cell"] ["_law_script"] (defScope spen) := ⟨rfl, rfl, rfl, by decide +kernel, rfl, by decide +kernel, by decide +kernel⟩
abbrev sdraw : Stmt := top 16
theorem scdraw : FnScope ["_law_pen_here", "_law_many", "_law_cell", "_law_digit", "_law_mixed"] ["_law_pen_here", "_law_many"] (defScope sdraw) := ⟨rfl, rfl, rfl, by decide +kernel, rfl, by decide +kernel, by decide +kernel⟩
abbrev spick : Stmt := top 17
theorem scpick : FnScope ["_law_pen_here", "_law_some"] ["_law_pen_here", "_law_some"] (defScope spick) := ⟨rfl, rfl, rfl, by decide +kernel, rfl, by decide +kernel, by decide +kernel⟩
abbrev skinds : Stmt := top 18
theorem sckinds : FnScope ["_law_value", "_law_found"] ["_law_value"] (defScope skinds) := ⟨rfl, rfl, rfl, by decide +kernel, rfl, by decide +kernel, by decide +kernel⟩
abbrev seach : Stmt := top 19
theorem sceach : FnScope ["_law_a", "_law_b", "_law_c", "_law_text", "_law_program", "_law_value", "_law_name", "_law_none", "_law_taken", "_law_number", "_law_many", "_law_net", "_law_kept", "_law_rows"] ["_law_a", "_law_b", "_law_c"] (defScope seach) := ⟨rfl, rfl, rfl, by decide +kernel, rfl, by decide +kernel, by decide +kernel⟩
abbrev slaw : Stmt := top 20
theorem sclaw : FnScope ["_law_script", "_law_pen_here", "_law_some", "_law_fields", "_law_rows", "_law_at", "_law_error", "_law_told", "_law_many", "_law_one", "_law_k"] ["_law_script"] (defScope slaw) := ⟨rfl, rfl, rfl, by decide +kernel, rfl, by decide +kernel, by decide +kernel⟩
/-- what the top has written -/
structure Tx (P : Program) (K : PySem.W.Frag) (mg : Str → Option Value) where
  apen : Addr
  fdpen : FuncData
  Dpen : Nm.Df K mg "_law_pen" spen ["_law_script"] apen fdpen
  adraw : Addr
  fddraw : FuncData
  Ddraw : Nm.Df K mg "_law_draw" sdraw ["_law_pen_here", "_law_many"] adraw fddraw
  apick : Addr
  fdpick : FuncData
  Dpick : Nm.Df K mg "_law_pick" spick ["_law_pen_here", "_law_some"] apick fdpick
  akinds : Addr
  fdkinds : FuncData
  Dkinds : Nm.Df K mg "_law_kinds_of" skinds ["_law_value"] akinds fdkinds
  aeach : Addr
  fdeach : FuncData
  Deach : Nm.Df K mg "_law_one_of_each" seach ["_law_a", "_law_b", "_law_c"] aeach fdeach
  alaw : Addr
  fdlaw : FuncData
  Dlaw : Nm.Df K mg "law" slaw ["_law_script"] alaw fdlaw
  n_len : mg "len" = none
  n_enumerate : mg "enumerate" = none
  n_list : mg "list" = none
  n_int : mg "int" = none
  n_range : mg "range" = none
  n_isinstance : mg "isinstance" = none
  n_repr : mg "repr" = none
  n_ValueError : mg "ValueError" = none
  n_super : mg "super" = none
  CBadText : Addr
  EBadText : NmE.Err P K mg "BadText" CBadText ["line", "column"]
  CBadProgram : Addr
  EBadProgram : NmE.Err P K mg "BadProgram" CBadProgram ["line", "what"]
  CBadValue : Addr
  EBadValue : NmE.Err P K mg "BadValue" CBadValue ["value", "why"]
  CBadName : Addr
  EBadName : NmE.Err P K mg "BadName" CBadName ["name"]
  CNoName : Addr
  ENoName : NmE.Err P K mg "NoName" CNoName ["name"]
  CTakenName : Addr
  ETakenName : NmE.Err P K mg "TakenName" CTakenName ["name"]
  CBadNumber : Addr
  EBadNumber : NmE.Err P K mg "BadNumber" CBadNumber ["what", "number"]
  CTooMany : Addr
  ETooMany : NmE.Err P K mg "TooMany" CTooMany ["what", "many", "limit"]
  CBadNet : Addr
  EBadNet : NmE.Err P K mg "BadNet" CBadNet ["what"]
  CNotKept : Addr
  ENotKept : NmE.Err P K mg "NotKept" CNotKept ["promise", "witness"]
  CNothingToUndo : Addr
  ENothingToUndo : NmE.Err P K mg "NothingToUndo" CNothingToUndo []
  CNothingToRedo : Addr
  ENothingToRedo : NmE.Err P K mg "NothingToRedo" CNothingToRedo []
  CJ : Addr
  gJ : mg "JoinError" = some (.ref CJ)
  ix : ∀ i, i < 12 → L2.ExI K ([CBadText, CBadProgram, CBadValue, CBadName, CNoName, CTakenName, CBadNumber, CTooMany, CBadNet, CNotKept, CNothingToUndo, CNothingToRedo].getD i 0)
  kit : ∀ i j, i < 12 → j < 12 → PySem.W.kitOne K (.ref ([CBadText, CBadProgram, CBadValue, CBadName, CNoName, CTakenName, CBadNumber, CTooMany, CBadNet, CNotKept, CNothingToUndo, CNothingToRedo].getD i 0)) (.ref ([CBadText, CBadProgram, CBadValue, CBadName, CNoName, CTakenName, CBadNumber, CTooMany, CBadNet, CNotKept, CNothingToUndo, CNothingToRedo].getD j 0)) = some (decide (i = j))
  kitJ : ∀ i, i < 12 → PySem.W.kitOne K (.ref ([CBadText, CBadProgram, CBadValue, CBadName, CNoName, CTakenName, CBadNumber, CTooMany, CBadNet, CNotKept, CNothingToUndo, CNothingToRedo].getD i 0)) (.ref CJ) = some true
  kitV : ∀ i, i < 12 → PySem.W.kitOne K (.ref ([CBadText, CBadProgram, CBadValue, CBadName, CNoName, CTakenName, CBadNumber, CTooMany, CBadNet, CNotKept, CNothingToUndo, CNothingToRedo].getD i 0)) (.type "ValueError") = some true
end K00

open PySem PySem.Spec PyProof.Rows L2 Nm
local macro_rules | `(tactic| walk_at "z0") => `(tactic| (simp only [L2.start, cxOf, Cx.nox, Cx.wish, List.map_cons, List.map_nil, List.length_cons, List.length_nil, List.replicate_succ, List.replicate_zero, List.cons_append, List.nil_append, Nat.reduceAdd, Nat.reduceSub]))
local macro_rules | `(tactic| walk_at "zc") => `(tactic| first | assumption | omega | decide | (refine line_ge ?_; omega) | (unfold CMul; omega) | (unfold CDivW; refine ⟨?_, ?_⟩ <;> first | omega | assumption | decide))
local macro_rules | `(tactic| walk_at "hp") => `(tactic| first | assumption | (refine same_at (by assumption) ?_; walk_at "hp"))
local macro_rules | `(tactic| walk_at "hl") => `(tactic| first | assumption | (refine SqL.of ?_; walk_at "hp") | (refine same_sq (by assumption) ?_; walk_at "hl"))
local macro_rules | `(tactic| walk_at "ht") => `(tactic| first | assumption | (refine SqT.of ?_; walk_at "hp") | (refine same_st (by assumption) ?_; walk_at "ht"))
local macro_rules | `(tactic| walk_at "z1") => `(tactic| first
  | ((with_reducible refine' z_var ?zk ?_); (case zk => exact rfl))
  | with_reducible refine z_c ?_
  | with_reducible refine z_op ?_
  | with_reducible refine z_cons ?_
  | with_reducible refine z_nil ?_
  | with_reducible refine z_rI0 ?_
  | ((with_reducible refine z_rI ?zk ?_); (case zk => walk_at "zc"))
  | with_reducible refine z_rU ?_
  | with_reducible refine z_un ?_
  | with_reducible refine z_cb ?_
  | with_reducible refine z_call ?_
  | with_reducible refine z_dget ?_
  | ((with_reducible refine' z_get_cells ?zk ?_); (case zk => assumption))
  | ((with_reducible refine' z_get_at ?zk ?_); (case zk => assumption))
  | ((with_reducible refine' z_get_digits ?zk ?_); (case zk => assumption))
  | ((with_reducible refine' z_get_count ?zk ?_); (case zk => assumption))
  | ((with_reducible refine' z_get_fold ?zk ?_); (case zk => assumption))
  | with_reducible refine z_dput ?_
  | with_reducible refine z_test ?_
  | with_reducible refine z_tB ?_
  | with_reducible refine z_kT ?_
  | with_reducible refine z_eqI ?_
  | with_reducible refine z_neI ?_
  | with_reducible refine z_eqS ?_
  | with_reducible refine z_neS ?_
  | with_reducible refine z_inC ?_
  | with_reducible refine z_notInC ?_
  | with_reducible refine z_isN ?_
  | ((with_reducible refine z_lenS ?zk ?_); (case zk => walk_at "zc"))
  | ((with_reducible refine z_slS ?zk ?_); (case zk => walk_at "zc"))
  | ((with_reducible refine z_addS ?zk ?_); (case zk => walk_at "zc"))
  | ((with_reducible refine z_mulS ?za ?zb ?zc ?_); (case za => decide); (case zb => decide); (case zc => decide))
  | with_reducible refine z_bm ?_
  | with_reducible refine z_lc ?_
  | with_reducible refine z_tYes ?_
  | with_reducible refine z_notN ?_
  | with_reducible refine z_intI ?_
  | with_reducible refine z_intB ?_
  | with_reducible refine z_sl ?_
  | with_reducible refine z_noPart ?_
  | with_reducible refine z_part ?_
  | with_reducible refine z_kPart ?_
  | with_reducible refine z_tup ?_
  | with_reducible refine z_lst ?_
  | with_reducible refine z_chain ?_
  | with_reducible refine z_kCh ?_
  | with_reducible refine z_andT ?_
  | with_reducible refine z_orT ?_
  | with_reducible refine z_notT ?_
  | with_reducible refine z_andV ?_
  | with_reducible refine z_orV ?_
  | with_reducible refine z_notV ?_
  | with_reducible refine z_kAndV ?_
  | with_reducible refine z_kOrV ?_
  | with_reducible refine z_kNotV ?_
  | with_reducible refine z_ifE ?_
  | with_reducible refine z_seq ?_
  | with_reducible refine z_next ?_
  | with_reducible refine z_brk ?_
  | with_reducible refine z_cnt ?_
  | with_reducible refine z_ret ?_
  | with_reducible refine z_retN ?_
  | with_reducible refine z_ifS ?_
  | with_reducible refine z_drop ?_
  | with_reducible refine z_asg ?_
  | with_reducible refine z_gName ?_
  | with_reducible refine z_gCons ?_
  | with_reducible refine z_gNil ?_
  | with_reducible refine z_par ?_
  | with_reducible refine z_m1 ?_
  | with_reducible refine z_kM1 ?_
  | with_reducible refine z_par3 ?_
  | with_reducible refine z_kPar3 ?_
  | with_reducible refine z_isB ?_
  | with_reducible refine z_notB ?_
  | with_reducible refine z_raiseE ?_
  | with_reducible refine z_kPar ?_
  | with_reducible refine z_nx ?_
  | with_reducible refine z_rt ?_
  | with_reducible refine z_bk ?_
  | with_reducible refine z_ct ?_
  | with_reducible refine z_for ?_
  | with_reducible refine z_iList ?_
  | with_reducible refine z_iTup ?_
  | with_reducible refine z_iStr ?_
  | with_reducible refine z_kIS ?_
  | with_reducible refine z_iRng1 ?_
  | with_reducible refine z_iEnumS ?_
  | with_reducible refine z_iEnum ?_
  | with_reducible refine z_ifT ?_
  | ((with_reducible refine' z_callP ?zk ?_); (case zk => exact rfl))
  | with_reducible refine z_ofE ?_
  | with_reducible refine z_rtE ?_
  | with_reducible refine z_kIE ?_
  | with_reducible refine z_pcons ?_
  | with_reducible refine z_pnil ?_
  | with_reducible refine iteT ?_
  | with_reducible refine iteF ?_
  | with_reducible refine z_iteNT ?_
  | with_reducible refine z_iteNF ?_)
local macro_rules | `(tactic| walk_at "zz") => `(tactic| repeat walk_at "z1")
namespace K00
open PySem PySem.Spec PyProof.Rows L2 Nm
section
variable {P : Program} {w : World} {K : PySem.W.Frag} {mg : Str → Option Value} {base : Heap}
theorem ok_pen (T : Tx P K mg) : FnOk P w K mg base CX0 1 T.apen T.fdpen ["_law_script"] (spPen K) := by
  refine T.Dpen.F.ok scpen (fun vs H Q E h => ?_) (fun cdv A outer s H vs Q E hr h => ?_)
  · obtain ⟨a, ns, rfl, _⟩ := h
    rfl
  · obtain ⟨a, ns, rfl, hS, k⟩ := h
    have hu := hu_of hr
    refine ⟨_, pss_cons (ps_set (i := 1) scpen.nd rfl (Or.inl rfl) (pe_int))
(pss_cons (ps_for PassesOwn.never rfl (pi_list (pv 0)) (pg_name (i := 2) scpen.nd rfl (Or.inl rfl))
(pss_one (ps_set (i := 1) scpen.nd rfl (Or.inl rfl) (pe_op op_mod (pe_callTy call_int1n (by rfl) T.n_int (by decide +kernel) (pa_cons (pe_op op_add (pe_op op_mul (pv 1) (pe_int)) (pv 2)) pa_nil)) (pe_int)))))
(pss_one (ps_ret (pe_disp (pps_cons (pe_str) (pe_callTy call_listOf (by rfl) T.n_list (by decide +kernel) (pa_cons (pv 0) pa_nil)) (pps_cons (pe_str) (pe_int) (pps_cons (pe_str) (pe_int) (pps_cons (pe_str) (pe_int) (pps_cons (pe_str) (pv 1) (pps_nil)))))) (by rfl) (by rfl) (fun z => by cases z) (by decide))))), ?_⟩
    walk_at "z0"
    walk_at "zz"
    refine z_kIL hS (f_list (K := K) (a := a) (xs := ns.map V.int) (fun i σ' H' => ∃ (f : Int) (v : Option V), σ' = [some (.ref a), some (.int f), v] ∧ 0 ≤ f ∧ f < 1000000007 ∧ H' = H) ⟨0, none, rfl, by decide, by decide, rfl⟩ (fun i σ' H' ⟨_, _, _, _, _, e⟩ => e ▸ hS) ?_ ?_)
    · rintro i x σ' H' hx ⟨f, v, rfl, h0, h1, rfl⟩
      obtain ⟨z, rfl⟩ : ∃ z, x = V.int z := by
        rw [List.getElem?_map] at hx
        cases e : ns[i]? with
        | none => rw [e] at hx; cases hx
        | some z => rw [e] at hx; exact ⟨z, (Option.some.inj hx).symm⟩
      walk_at "zz"
      exact ⟨_, _, rfl, Int.emod_nonneg _ (by decide), Int.emod_lt_of_pos _ (by decide), rfl⟩
    · rintro σ' H' ⟨f, v, rfl, h0, h1, rfl⟩
      walk_at "zz"
      refine z_disp fun p H1 hp s1 h1 => ?_
      walk_at "zz"
      refine z_listOfL (s1.seq hS) fun l H2 hl s2 h2 => ?_
      walk_at "zz"
      refine z_kDisp (penKv l 0 0 0 f) rfl (s2 _ _ h1) (by show 5 ≤ 15; decide) fun H3 b3 h3 => ?_
      walk_at "zz"
      refine k p l H3 hp (b3.same (s1.trans s2) hp) ⟨0, 0, 0, f, ns, h3, ?_, by decide, by decide, by decide, by decide, h0, by omega⟩
      refine b3 _ _ ?_ h2
      exact fun e => by rw [e] at h2; rw [s2 _ _ h1] at h2; cases h2
theorem ok_draw (T : Tx P K mg) : FnOk P w K mg base CX0 1 T.adraw T.fddraw ["_law_pen_here", "_law_many"] (spDraw K) := by
  refine T.Ddraw.F.ok scdraw (fun vs H Q E h => ?_) (fun cdv A outer s H vs Q E hr h => ?_)
  · obtain ⟨d, c, m, many, rfl, _⟩ := h
    rfl
  · obtain ⟨d, c, m, many, rfl, ⟨a, g, n, f, ns, hd, hc, h0, h1, h2, h3, h4, h5⟩, hm, hl, k⟩ := h
    have hu := hu_of hr
    refine ⟨_, pss_cons (ps_dput hu (pv 0) (pe_str) (pe_op op_add (pe_dget hu (pv 0) (pe_str) (fun _ _ => rfl)) (pe_int)) rfl)
(pss_cut (ps_if (pt_cut (PW.pt (pw_and (pt_cmpR op_eq (pe_dget hu (pv 0) (pe_str) (fun _ _ => rfl)) (pe_int) (nomark _)) (pw_and1 (pt_cmpR op_lt (pe_dget hu (pv 0) (pe_str) (fun _ _ => rfl)) (pe_callB call_lenL (by rfl) T.n_len (by decide +kernel) (pa_cons (pe_dget hu (pv 0) (pe_str) (fun _ _ => rfl)) pa_nil)) (nomark _))))))
(pss_cons (ps_set (i := 2) scdraw.nd rfl (Or.inl rfl) (pe_ix ix_list (pe_dget hu (pv 0) (pe_str) (fun _ _ => rfl)) (pe_dget hu (pv 0) (pe_str) (fun _ _ => rfl)) (fun _ _ => rfl)))
(pss_cons (ps_dput hu (pv 0) (pe_str) (pe_op op_add (pe_dget hu (pv 0) (pe_str) (fun _ _ => rfl)) (pe_int)) rfl)
(pss_one (ps_if (pt_cmpR op_ge (pv 2) (pe_op op_pow (pe_int) (pe_int)) (nomark _))
(pss_one (ps_dput hu (pv 0) (pe_str) (pe_op op_sub (pv 2) (pe_op op_pow (pe_int) (pe_int))) rfl))
(pss_one (ps_dput hu (pv 0) (pe_str) (pe_op op_mod (pe_callTy call_int1n (by rfl) T.n_int (by decide +kernel) (pa_cons (pe_op op_add (pe_op op_mul (pe_dget hu (pv 0) (pe_str) (fun _ _ => rfl)) (pe_int)) (pv 2)) pa_nil)) (pe_int)) rfl))))))
(pss_nil))
(pss_cons (ps_if (pt_cmpR op_gt (pe_dget hu (pv 0) (pe_str) (fun _ _ => rfl)) (pe_int) (nomark _))
(pss_cons (ps_set (i := 3) scdraw.nd rfl (Or.inl rfl) (pe_op op_mod (pe_callTy call_int1n (by rfl) T.n_int (by decide +kernel) (pa_cons (pe_dget hu (pv 0) (pe_str) (fun _ _ => rfl)) pa_nil)) (pv 1)))
(pss_cons (ps_dput hu (pv 0) (pe_str) (pe_op op_fdivW (pe_dget hu (pv 0) (pe_str) (fun _ _ => rfl)) (pv 1)) rfl)
(pss_one (ps_ret (pv 3)))))
(pss_nil))
(pss_cons (ps_set (i := 4) scdraw.nd rfl (Or.inl rfl) (pe_op op_add (pe_op op_add (pe_dget hu (pv 0) (pe_str) (fun _ _ => rfl)) (pe_op op_mul (pe_dget hu (pv 0) (pe_str) (fun _ _ => rfl)) (pe_int))) (pe_int)))
(pss_one (ps_ret (pe_op op_mod (pe_op op_fdivW (pe_callTy call_int1n (by rfl) T.n_int (by decide +kernel) (pa_cons (pe_op op_mod (pe_op op_pow (pv 4) (pe_int)) (pe_int)) pa_nil)) (pe_int)) (pv 1))))))), ?_⟩
    walk_at "z0"
    walk_at "zz"
    refine z_put_count hd fun H1 b1 d1 => ?_
    have c1 : H1 c = some (.lst (ns.map V.int)) := (b1.keep hd) _ _ hc rfl
    refine z_cut (fun σ' H' => ∃ (v : Option V) (a g f : Int), σ' = [some (V.ref d), some (V.int many), v, none, none] ∧ But d H H' ∧ H' d = some (.dK (penKv c a g (n + 1) f)) ∧ H' c = some (.lst (ns.map V.int)) ∧ 0 ≤ a ∧ 0 ≤ g ∧ 0 ≤ f ∧ f < 2147483587) ?_ ?_
    · walk_at "zz"
      refine z_cutT (fun b H' => H' = H1 ∧ (b = true → g = 0 ∧ a < ns.length)) ?_ ?_
      · walk_at "zz"
        refine z_ite (fun eg => ?_) (fun _ => ?_)
        · walk_at "zz"
          refine z_lenL (SqL.of c1) ?_
          walk_at "zz"
          refine ⟨rfl, fun q => ⟨of_decide_eq_true eg, ?_⟩⟩
          have := of_decide_eq_true q
          rw [List.length_map] at this
          omega
        · walk_at "zz"
          exact ⟨rfl, fun q => by cases q⟩
      rintro b H' ⟨rfl, hb⟩
      refine z_ite (fun eg => ?_) (fun _ => ?_)
      · obtain ⟨eg, ea'⟩ := hb eg
        refine z_seq ?_
        · walk_at "zz"
          have hx : (ns.map V.int)[a.toNat]? = some (.int (ns.getD a.toNat 0)) := by
            rw [List.getElem?_map, List.getD_eq_getElem?_getD, List.getElem?_eq_getElem (by omega)]
            rfl
          refine z_ixL (SqL.of c1) (at_of (by omega) hx) ?_
          walk_at "zz"
          refine z_put_at d1 fun H2 b2 d2 => ?_
          have c2 : H2 c = some (.lst (ns.map V.int)) := (b2.keep d1) _ _ c1 rfl
          walk_at "zz"
          refine z_rI ⟨by decide, by decide, by decide⟩ ?_
          walk_at "zz"
          refine z_ite (fun ez => ?_) (fun _ => ?_)
          · walk_at "zz"
            refine z_rI ⟨by decide, by decide, by decide⟩ ?_
            walk_at "zz"
            refine z_put_digits d2 fun H3 b3 d3 => ?_
            walk_at "zz"
            exact ⟨_, _, _, _, rfl, (b1.trans b2).trans b3, d3, (b3.keep d2) _ _ c2 rfl, by omega, Int.sub_nonneg_of_le (of_decide_eq_true ez), h4, h5⟩
          · walk_at "zz"
            refine z_put_fold d2 fun H3 b3 d3 => ?_
            walk_at "zz"
            exact ⟨_, _, _, _, rfl, (b1.trans b2).trans b3, d3, (b3.keep d2) _ _ c2 rfl, by omega, h1, Int.emod_nonneg _ (by decide), Int.emod_lt_of_pos _ (by decide)⟩
      · walk_at "zz"
        exact ⟨_, _, _, _, rfl, b1, d1, c1, h0, h1, h4, h5⟩
    · rintro σ' H2 ⟨v, a, g, f, rfl, b2, d2, c2, h0, h1, h4, h5⟩
      walk_at "zz"
      refine z_ite (fun eg => ?_) (fun _ => ?_)
      · walk_at "zz"
        refine z_put_digits d2 fun H3 b3 d3 => ?_
        walk_at "zz"
        exact k _ H3 (Int.emod_nonneg _ (by omega)) (Int.emod_lt_of_pos _ hm) (b2.trans b3) (pen_new d3 ((b3.keep d2) _ _ c2 rfl) rfl ⟨h0, Int.ediv_nonneg h1 (by omega), by omega, by omega, h4, h5⟩)
      · walk_at "zz"
        refine z_rI ?_ ?_
        · exact ⟨by decide, by decide, by omega⟩
        walk_at "zz"
        exact k _ H2 (Int.emod_nonneg _ (by omega)) (Int.emod_lt_of_pos _ hm) b2 (pen_new d2 c2 rfl ⟨h0, h1, by omega, by omega, h4, h5⟩)
theorem ok_pick (T : Tx P K mg) : FnOk P w K mg base CX0 2 T.apick T.fdpick ["_law_pen_here", "_law_some"] (spPick K) := by
  have Gdraw : FnOk P w K mg base CX0 1 T.adraw T.fddraw ["_law_pen_here", "_law_many"] (spDraw K) := ok_draw T
  refine T.Dpick.F.ok scpick (fun vs H Q E h => ?_) (fun cdv A outer s H vs Q E hr h => ?_)
  · obtain ⟨d, c, p, m, ys, rfl, _⟩ := h
    rfl
  · obtain ⟨d, c, p, m, ys, rfl, hp, hs, hne, hlen, k⟩ := h
    have hrdraw := hr
    refine ⟨_, pss_one (ps_ret (pe_ix ix_list (pv 1) (pe_callN T.Ddraw Gdraw hrdraw pass0 (pa_cons (pv 0) (pa_cons (pe_callB call_lenL (by rfl) T.n_len (by decide +kernel) (pa_cons (pv 1) pa_nil)) pa_nil))) (fun _ _ => rfl))), ?_⟩
    walk_at "z0"
    walk_at "zz"
    refine z_lenL hs ?_
    walk_at "zz"
    have hpos : 0 < ys.length := List.length_pos_iff.mpr hne
    refine ⟨d, c, m, _, rfl, hp, by omega, ?_, fun r H' h0 h1 b hp' => ?_⟩
    · exact log2_small (by omega) (by omega)
    have hx : ys[r.toNat]? = some (ys[r.toNat]'(by omega)) := List.getElem?_eq_getElem (by omega)
    refine z_ixL ((hp.keep b).l hs) (at_of (by omega) hx) ?_
    walk_at "zz"
    exact k _ H' (List.getElem_mem _) b hp'
end
end K00

local macro_rules | `(tactic| walk_at "hs") => `(tactic| first | assumption | exact Same.refl _ | (refine Same.trans ?_ (by assumption); walk_at "hs"))
local macro_rules | `(tactic| walk_at "e1") => `(tactic| first
  | walk_at "z1"
  | with_reducible refine z_mkErr ?_
  | with_reducible refine z_exF ?_
  | (with_reducible refine z_kMkErr rfl fun _ _ _ _ _ => ?_)
  | (with_reducible refine z_kTup (line_ge (by simp)) fun _ _ _ _ _ => ?_)
  | (with_reducible refine z_kLst (line_ge (by simp)) fun _ _ _ _ _ => ?_)
  | (refine z_gTup (SqT.of (at_s (by assumption) (by walk_at "hs"))) (by rfl) ?_)
  | (refine z_kExF (ex_s (by assumption) (by walk_at "hs")) (by rfl) ?_)
  | (refine z_catL (at_s (by assumption) (by walk_at "hs")) (at_s (by assumption) (by walk_at "hs")) (line_ge (by simp)) fun _ _ _ _ _ => ?_))
namespace K00
open PySem PySem.Spec PyProof.Rows L2 Nm
section
variable {P : Program} {w : World} {K : PySem.W.Frag} {mg : Str → Option Value} {base : Heap}
/-- the classes, in their order -/
abbrev Tx.cs (T : Tx P K mg) : List Addr := [T.CBadText, T.CBadProgram, T.CBadValue, T.CBadName, T.CNoName, T.CTakenName, T.CBadNumber, T.CTooMany, T.CBadNet, T.CNotKept, T.CNothingToUndo, T.CNothingToRedo]
def spKinds (T : Tx P K mg) : Sp := fun vs H Q _ => ∃ (a : Addr) (kvs : List (Str × V)) (i : Nat), i < 12 ∧ vs = [.ref a] ∧ ExAt H a (T.cs.getD i 0) kvs ∧
  ∀ D H', H D = none → Same H H' → H' D = some (.lst (((List.range 12).map fun j => decide (i = j)).map V.bl)) → Q (.ref D) H'
theorem ok_kinds (T : Tx P K mg) : FnOk P w K mg base CX0 1 T.akinds T.fdkinds ["_law_value"] (spKinds T) := by
  refine T.Dkinds.F.ok sckinds (fun vs H Q E h => ?_) (fun cdv A outer s H vs Q E hr h => ?_)
  · obtain ⟨a, kvs, i, _, rfl, _⟩ := h
    rfl
  · obtain ⟨a, kvs, i, hi, rfl, hx, k⟩ := h
    have hu := hu_of hr
    have hb : ∀ j, j < 12 → ∀ (H' : Hp) (Q' : VK), Same H H' → Q' (.bl (decide (i = j))) H' → rIsX K [.ref a, .ref (T.cs.getD j 0)] H' Q' := fun j hj H' Q' s q => z_isX (ClsV.own _) (T.ix i hi) (hx.same s) (T.kit i j hi hj) q
    refine ⟨_, pss_cons (ps_set (i := 1) sckinds.nd rfl (Or.inl rfl) (pe_lst (pa_cons (pe_callB call_isX (by rfl) T.n_isinstance (by decide +kernel) (pa_cons (pv 0) (pa_cons (pe_glob rfl T.EBadText.gC rel_ref) pa_nil))) (pa_cons (pe_callB call_isX (by rfl) T.n_isinstance (by decide +kernel) (pa_cons (pv 0) (pa_cons (pe_glob rfl T.EBadProgram.gC rel_ref) pa_nil))) (pa_cons (pe_callB call_isX (by rfl) T.n_isinstance (by decide +kernel) (pa_cons (pv 0) (pa_cons (pe_glob rfl T.EBadValue.gC rel_ref) pa_nil))) pa_nil)))))
(pss_cons (ps_set (i := 1) sckinds.nd rfl (Or.inl rfl) (pe_op op_catL (pv 1) (pe_lst (pa_cons (pe_callB call_isX (by rfl) T.n_isinstance (by decide +kernel) (pa_cons (pv 0) (pa_cons (pe_glob rfl T.EBadName.gC rel_ref) pa_nil))) (pa_cons (pe_callB call_isX (by rfl) T.n_isinstance (by decide +kernel) (pa_cons (pv 0) (pa_cons (pe_glob rfl T.ENoName.gC rel_ref) pa_nil))) (pa_cons (pe_callB call_isX (by rfl) T.n_isinstance (by decide +kernel) (pa_cons (pv 0) (pa_cons (pe_glob rfl T.ETakenName.gC rel_ref) pa_nil))) pa_nil))))))
(pss_cons (ps_set (i := 1) sckinds.nd rfl (Or.inl rfl) (pe_op op_catL (pv 1) (pe_lst (pa_cons (pe_callB call_isX (by rfl) T.n_isinstance (by decide +kernel) (pa_cons (pv 0) (pa_cons (pe_glob rfl T.EBadNumber.gC rel_ref) pa_nil))) (pa_cons (pe_callB call_isX (by rfl) T.n_isinstance (by decide +kernel) (pa_cons (pv 0) (pa_cons (pe_glob rfl T.ETooMany.gC rel_ref) pa_nil))) (pa_cons (pe_callB call_isX (by rfl) T.n_isinstance (by decide +kernel) (pa_cons (pv 0) (pa_cons (pe_glob rfl T.EBadNet.gC rel_ref) pa_nil))) pa_nil))))))
(pss_cons (ps_set (i := 1) sckinds.nd rfl (Or.inl rfl) (pe_op op_catL (pv 1) (pe_lst (pa_cons (pe_callB call_isX (by rfl) T.n_isinstance (by decide +kernel) (pa_cons (pv 0) (pa_cons (pe_glob rfl T.ENotKept.gC rel_ref) pa_nil))) (pa_cons (pe_callB call_isX (by rfl) T.n_isinstance (by decide +kernel) (pa_cons (pv 0) (pa_cons (pe_glob rfl T.ENothingToUndo.gC rel_ref) pa_nil))) pa_nil)))))
(pss_one (ps_ret (pe_op op_catL (pv 1) (pe_lst (pa_cons (pe_callB call_isX (by rfl) T.n_isinstance (by decide +kernel) (pa_cons (pv 0) (pa_cons (pe_glob rfl T.ENothingToRedo.gC rel_ref) pa_nil))) pa_nil)))))))), ?_⟩
    walk_at "z0"
    walk_at "zz"
    refine hb 0 (by decide) _ _ (Same.refl _) ?_
    walk_at "zz"
    refine hb 1 (by decide) _ _ (Same.refl _) ?_
    walk_at "zz"
    refine hb 2 (by decide) _ _ (Same.refl _) ?_
    walk_at "zz"
    refine z_kLst (by show 3 ≤ sizeLine; decide) fun p1 H1 n1 s1 h1 => ?_
    walk_at "zz"
    refine hb 3 (by decide) _ _ s1 ?_
    walk_at "zz"
    refine hb 4 (by decide) _ _ s1 ?_
    walk_at "zz"
    refine hb 5 (by decide) _ _ s1 ?_
    walk_at "zz"
    refine z_kLst (by show 3 ≤ sizeLine; decide) fun p2 H2 n2 s2 h2 => ?_
    walk_at "zz"
    refine z_catL (s2 _ _ h1) h2 (by show 6 ≤ sizeLine; decide) fun p3 H3 n3 s3 h3 => ?_
    walk_at "zz"
    have s03 := (s1.trans s2).trans s3
    refine hb 6 (by decide) _ _ s03 ?_
    walk_at "zz"
    refine hb 7 (by decide) _ _ s03 ?_
    walk_at "zz"
    refine hb 8 (by decide) _ _ s03 ?_
    walk_at "zz"
    refine z_kLst (by show 3 ≤ sizeLine; decide) fun p4 H4 n4 s4 h4 => ?_
    walk_at "zz"
    refine z_catL (s4 _ _ h3) h4 (by show 9 ≤ sizeLine; decide) fun p5 H5 n5 s5 h5 => ?_
    walk_at "zz"
    have s05 := (s03.trans s4).trans s5
    refine hb 9 (by decide) _ _ s05 ?_
    walk_at "zz"
    refine hb 10 (by decide) _ _ s05 ?_
    walk_at "zz"
    refine z_kLst (by show 2 ≤ sizeLine; decide) fun p6 H6 n6 s6 h6 => ?_
    walk_at "zz"
    refine z_catL (s6 _ _ h5) h6 (by show 11 ≤ sizeLine; decide) fun p7 H7 n7 s7 h7 => ?_
    walk_at "zz"
    have s07 := (s05.trans s6).trans s7
    refine hb 11 (by decide) _ _ s07 ?_
    walk_at "zz"
    refine z_kLst (by show 1 ≤ sizeLine; decide) fun p8 H8 n8 s8 h8 => ?_
    walk_at "zz"
    refine z_catL (s8 _ _ h7) h8 (by show 12 ≤ sizeLine; decide) fun p9 H9 n9 s9 h9 => ?_
    walk_at "zz"
    have s08 := s07.trans s8
    refine k p9 H9 ?_ (s08.trans s9) h9
    cases e : H p9 with
    | none => rfl
    | some o => rw [s08 _ _ e] at n9; cases n9
/-- a row: an exception of the class at C, what its fields told, how many there are -/
def RowAt (K : PySem.W.Frag) (H : Hp) (C : Addr) (t : V) (l : List V) : Prop := ∃ (p e q : Addr) (kvs : List (Str × V)), t = .ref p ∧ H p = some (.tup [.ref e, .ref q, .int l.length]) ∧ ExAt H e C kvs ∧ H q = some (.lst l)
def tolds (a b c : V) : List (List V) := [[a, b], [a, b], [a, b], [a], [a], [a], [a, b], [a, b, c], [a], [a, b], [], []]
inductive Rows (K : PySem.W.Frag) (H : Hp) : List Addr → List V → List (List V) → Prop
  | nil : Rows K H [] [] []
  | cons {C : Addr} {Cs : List Addr} {t : V} {ts : List V} {l : List V} {ls : List (List V)} (h : RowAt K H C t l) (r : Rows K H Cs ts ls) : Rows K H (C :: Cs) (t :: ts) (l :: ls)
theorem RowAt.same {H H' : Hp} {C : Addr} {t : V} {l : List V} (s : Same H H') (h : RowAt K H C t l) : RowAt K H' C t l := by
  obtain ⟨p, e, q, kvs, h1, h2, h3, h4⟩ := h
  exact ⟨p, e, q, kvs, h1, s _ _ h2, h3.same s, s _ _ h4⟩
theorem Rows.same {H H' : Hp} (s : Same H H') {Cs : List Addr} {ts : List V} {ls : List (List V)} (h : Rows K H Cs ts ls) : Rows K H' Cs ts ls := by
  induction h with
  | nil => exact .nil
  | cons h _ ih => exact .cons (h.same s) ih
theorem Rows.at {H : Hp} {Cs : List Addr} {ts : List V} {ls : List (List V)} (h : Rows K H Cs ts ls) : ∀ {i : Nat} {t : V}, ts[i]? = some t → ∃ C l, Cs[i]? = some C ∧ ls[i]? = some l ∧ RowAt K H C t l := by
  induction h with
  | nil => intro i t e; simp at e
  | cons h _ ih =>
    intro i t e
    cases i with
    | zero =>
      have e' := Option.some.inj e
      subst e'
      exact ⟨_, _, rfl, rfl, h⟩
    | succ i => exact ih e
def spEach (T : Tx P K mg) : Sp := fun vs H Q _ => ∃ a b c : V, vs = [a, b, c] ∧ ∀ D H' ts, Same H H' → H' D = some (.lst ts) → Rows K H' T.cs ts (tolds a b c) → Q (.ref D) H'
theorem ok_each (T : Tx P K mg) : FnOk P w K mg base CX0 2 T.aeach T.fdeach ["_law_a", "_law_b", "_law_c"] (spEach T) := by
  refine T.Deach.F.ok sceach (fun vs H Q E h => ?_) (fun cdv A outer s H vs Q E hr h => ?_)
  · obtain ⟨a, b, c, rfl, _⟩ := h
    rfl
  · obtain ⟨a, b, c, rfl, k⟩ := h
    refine ⟨_, pss_cons (ps_asg (pe_tup (pa_cons (pe_mkErr T.EBadText hr (pa_cons (pv 0) (pa_cons (pv 1) pa_nil))) (pa_cons (pe_mkErr T.EBadProgram hr (pa_cons (pv 0) (pa_cons (pv 1) pa_nil))) (pa_cons (pe_mkErr T.EBadValue hr (pa_cons (pv 0) (pa_cons (pv 1) pa_nil))) (pa_cons (pe_mkErr T.EBadName hr (pa_cons (pv 0) pa_nil)) pa_nil))))) (pg_tup rfl (pgs_cons (pg_name (i := 3) sceach.nd rfl (Or.inl rfl)) (pgs_cons (pg_name (i := 4) sceach.nd rfl (Or.inl rfl)) (pgs_cons (pg_name (i := 5) sceach.nd rfl (Or.inl rfl)) (pgs_cons (pg_name (i := 6) sceach.nd rfl (Or.inl rfl)) pgs_nil))))))
(pss_cons (ps_asg (pe_tup (pa_cons (pe_mkErr T.ENoName hr (pa_cons (pv 0) pa_nil)) (pa_cons (pe_mkErr T.ETakenName hr (pa_cons (pv 0) pa_nil)) (pa_cons (pe_mkErr T.EBadNumber hr (pa_cons (pv 0) (pa_cons (pv 1) pa_nil))) (pa_cons (pe_mkErr T.ETooMany hr (pa_cons (pv 0) (pa_cons (pv 1) (pa_cons (pv 2) pa_nil)))) pa_nil))))) (pg_tup rfl (pgs_cons (pg_name (i := 7) sceach.nd rfl (Or.inl rfl)) (pgs_cons (pg_name (i := 8) sceach.nd rfl (Or.inl rfl)) (pgs_cons (pg_name (i := 9) sceach.nd rfl (Or.inl rfl)) (pgs_cons (pg_name (i := 10) sceach.nd rfl (Or.inl rfl)) pgs_nil))))))
(pss_cons (ps_par rfl sceach.nd (i := 11) (j := 12) rfl rfl (by decide) rfl rfl (pa_cons (pe_mkErr T.EBadNet hr (pa_cons (pv 0) pa_nil)) (pa_cons (pe_mkErr T.ENotKept hr (pa_cons (pv 0) (pa_cons (pv 1) pa_nil))) pa_nil)) (by rfl))
(pss_cons (ps_set (i := 13) sceach.nd rfl (Or.inl rfl) (pe_lst (pa_cons (pe_tup (pa_cons (pv 3) (pa_cons (pe_lst (pa_cons (pe_exF T.EBadText (by decide) (pv 3)) (pa_cons (pe_exF T.EBadText (by decide) (pv 3)) pa_nil))) (pa_cons (pe_int) pa_nil)))) (pa_cons (pe_tup (pa_cons (pv 4) (pa_cons (pe_lst (pa_cons (pe_exF T.EBadProgram (by decide) (pv 4)) (pa_cons (pe_exF T.EBadProgram (by decide) (pv 4)) pa_nil))) (pa_cons (pe_int) pa_nil)))) pa_nil))))
(pss_cons (ps_set (i := 13) sceach.nd rfl (Or.inl rfl) (pe_op op_catL (pv 13) (pe_lst (pa_cons (pe_tup (pa_cons (pv 5) (pa_cons (pe_lst (pa_cons (pe_exF T.EBadValue (by decide) (pv 5)) (pa_cons (pe_exF T.EBadValue (by decide) (pv 5)) pa_nil))) (pa_cons (pe_int) pa_nil)))) (pa_cons (pe_tup (pa_cons (pv 6) (pa_cons (pe_lst (pa_cons (pe_exF T.EBadName (by decide) (pv 6)) pa_nil)) (pa_cons (pe_int) pa_nil)))) (pa_cons (pe_tup (pa_cons (pv 7) (pa_cons (pe_lst (pa_cons (pe_exF T.ENoName (by decide) (pv 7)) pa_nil)) (pa_cons (pe_int) pa_nil)))) pa_nil))))))
(pss_cons (ps_set (i := 13) sceach.nd rfl (Or.inl rfl) (pe_op op_catL (pv 13) (pe_lst (pa_cons (pe_tup (pa_cons (pv 8) (pa_cons (pe_lst (pa_cons (pe_exF T.ETakenName (by decide) (pv 8)) pa_nil)) (pa_cons (pe_int) pa_nil)))) (pa_cons (pe_tup (pa_cons (pv 9) (pa_cons (pe_lst (pa_cons (pe_exF T.EBadNumber (by decide) (pv 9)) (pa_cons (pe_exF T.EBadNumber (by decide) (pv 9)) pa_nil))) (pa_cons (pe_int) pa_nil)))) pa_nil)))))
(pss_cons (ps_set (i := 13) sceach.nd rfl (Or.inl rfl) (pe_op op_catL (pv 13) (pe_lst (pa_cons (pe_tup (pa_cons (pv 10) (pa_cons (pe_lst (pa_cons (pe_exF T.ETooMany (by decide) (pv 10)) (pa_cons (pe_exF T.ETooMany (by decide) (pv 10)) (pa_cons (pe_exF T.ETooMany (by decide) (pv 10)) pa_nil)))) (pa_cons (pe_int) pa_nil)))) (pa_cons (pe_tup (pa_cons (pv 11) (pa_cons (pe_lst (pa_cons (pe_exF T.EBadNet (by decide) (pv 11)) pa_nil)) (pa_cons (pe_int) pa_nil)))) pa_nil)))))
(pss_cons (ps_set (i := 13) sceach.nd rfl (Or.inl rfl) (pe_op op_catL (pv 13) (pe_lst (pa_cons (pe_tup (pa_cons (pv 12) (pa_cons (pe_lst (pa_cons (pe_exF T.ENotKept (by decide) (pv 12)) (pa_cons (pe_exF T.ENotKept (by decide) (pv 12)) pa_nil))) (pa_cons (pe_int) pa_nil)))) pa_nil))))
(pss_one (ps_ret (pe_op op_catL (pv 13) (pe_lst (pa_cons (pe_tup (pa_cons (pe_mkErr0 T.ENothingToUndo hr) (pa_cons (pe_lst pa_nil) (pa_cons (pe_int) pa_nil)))) (pa_cons (pe_tup (pa_cons (pe_mkErr0 T.ENothingToRedo hr) (pa_cons (pe_lst pa_nil) (pa_cons (pe_int) pa_nil)))) pa_nil))))))))))))), ?_⟩
    walk_at "z0"
    repeat walk_at "e1"
    refine k _ _ _ (by walk_at "hs") (by assumption) ?_
    iterate 12 refine Rows.cons ⟨_, _, _, _, rfl, at_s (by assumption) (by walk_at "hs"), ex_s (by assumption) (by walk_at "hs"), at_s (by assumption) (by walk_at "hs")⟩ ?_
    exact Rows.nil
end
end K00

namespace K00
open PySem PySem.Spec PyProof.Rows L2 Nm
/-- data whose text is told -/
def niceD (d : PyData) : Bool := d.showable && !d.hasDict && decide (d.shown.length ≤ 1000) && PyData.strOk d.shown && decide (d.depth ≤ 60)
theorem nice_all {K : PySem.W.Frag} {H : Hp} {q1 q2 q3 : Addr} (h1 : H q1 = some (.tup [])) (h2 : H q2 = some (.tup [.int 2, .str "x"])) (h3 : H q3 = some (.tup [.int 1, .ref q2])) :
    ∀ v ∈ [V.non, .int 0, .int (-7), .int (10 ^ (30 : Int).toNat), .str "", .str "a b", .ref q1, .ref q3, .bl true, .str "cells"], ∃ d, Dp K H v d ∧ niceD d = true := by
  intro v hv
  rcases List.mem_cons.mp hv with rfl | hv
  · exact ⟨_, .non, by decide +kernel⟩
  rcases List.mem_cons.mp hv with rfl | hv
  · exact ⟨_, .int _, by decide +kernel⟩
  rcases List.mem_cons.mp hv with rfl | hv
  · exact ⟨_, .int _, by decide +kernel⟩
  rcases List.mem_cons.mp hv with rfl | hv
  · exact ⟨_, .int _, by decide +kernel⟩
  rcases List.mem_cons.mp hv with rfl | hv
  · exact ⟨_, .str _, by decide +kernel⟩
  rcases List.mem_cons.mp hv with rfl | hv
  · exact ⟨_, .str _, by decide +kernel⟩
  rcases List.mem_cons.mp hv with rfl | hv
  · exact ⟨_, .tup (SqT.of h1) .nil, by decide +kernel⟩
  rcases List.mem_cons.mp hv with rfl | hv
  · exact ⟨_, .tup (SqT.of h3) (.cons (.int _) (.cons (.tup (SqT.of h2) (.cons (.int _) (.cons (.str _) .nil))) .nil)), by decide +kernel⟩
  rcases List.mem_cons.mp hv with rfl | hv
  · exact ⟨_, .bl _, by decide +kernel⟩
  rcases List.mem_cons.mp hv with rfl | hv
  · exact ⟨_, .str _, by decide +kernel⟩
  cases hv
section
variable {K : PySem.W.Frag} {σ : L2.St} {H : Hp} {Q : VK} {D : Ends} {g : TG} {tb : TS}
theorem dps_shown : ∀ (fs : List (V × PyData)), DpAll K H (fs.map fun p => V.str p.2.shown) (fs.map fun p => PyData.str p.2.shown)
  | [] => .nil
  | _ :: l => .cons (.str _) (dps_shown l)
theorem nice_shaped {fs : List (V × PyData)} (h : ∀ p ∈ fs, niceD p.2 = true) : SeqAt.shaped (.list (fs.map fun p => PyData.str p.2.shown)) = true := by
  refine shaped_list (n := 0) (by decide) fun d hd => ?_
  obtain ⟨p, hp, rfl⟩ := List.mem_map.mp hd
  have q := h p hp
  unfold niceD at q
  simp only [Bool.and_eq_true] at q
  exact ⟨q.1.2, Nat.le_refl _⟩
/-- [repr(x) for x in xs] -/
theorem l_repr {fs : List (V × PyData)} {a : Addr} {i0 : Nat} (hi : i0 < σ.length) (hs : SqL K H a (fs.map Prod.fst)) (hz : fs.length ≤ 1000) (hn : ∀ p ∈ fs, Dp K H p.1 p.2 ∧ niceD p.2 = true)
    (k : ∀ D H', H D = none → Same H H' → H' D = some (.lst (fs.map fun p => V.str p.2.shown)) → Q (.ref D) H') : kLc (gName i0) tYes (tCB (nRepr K) (tCons (tVar i0) tNil)) [i0] σ Q (Itl K a) H := by
  refine l_pure (p := fun _ => true) (f := fun p => V.str p.2.shown) (walk_lstE (e := Prod.fst)) (by omega) (fun H1 s => s.seq hs) (fun i p H1 _ s QT q => q H1 (Same.refl _)) (fun i p H1 hp _ s Q' q => ?_) fun D H' hD s h => k D H' hD s ?_
  · obtain ⟨hd, hq⟩ := hn p (List.mem_of_getElem? hp)
    unfold niceD at hq
    simp only [Bool.and_eq_true, decide_eq_true_eq, Bool.not_eq_true'] at hq
    exact z_cb (z_cons (z_var (v := p.1) (by simp [hi]) (z_nil (z_repr (dp_keep (same_keep s) hd) hq.1.1.1.1 hq.1.1.1.2 (line_ge (by omega)) hq.2 (q H1 (Same.refl _))))))
  · rw [h]
    have e : (fs.filter fun _ => true) = fs := List.filter_eq_self.mpr fun _ _ => rfl
    rw [e]
theorem f_enumL {a : Addr} {xs : List V} (Pv : Nat → L2.St → Hp → Prop) (h0 : Pv 0 σ H) (hl : ∀ i σ H, Pv i σ H → SqL K H a xs)
    (hs : ∀ (i : Nat) x T σ H H', xs[i]? = some x → Pv i σ H → Same H H' → H' T = some (.tup [.int (i : Nat), x]) → g (.ref T) σ H' fun σ2 H2 => tb { D with nx := Pv (i + 1), ct := Pv (i + 1), bk := D.nx } σ2 H2) (hd : ∀ σ H, Pv xs.length σ H → D.nx σ H) : kFor g tb D σ (Ite K a) H :=
  for_it walk_enumL Pv h0 (fun i σ H _ p => hl i σ H p) (fun i x σ H H' hi p ⟨T, v, ex, hT, hv, eH⟩ => by subst ex eH; exact hs i v T σ H _ hv p (Same.new hT) upd_same) hd
end
theorem tolds_take {a b c : V} {i : Nat} {l : List V} (h : (tolds a b c)[i]? = some l) : i < 12 ∧ l = [a, b, c].take l.length := by
  have hi : i < 12 := (List.getElem?_eq_some_iff.mp h).1
  refine ⟨hi, ?_⟩
  match i, hi, h with
  | 0, _, h | 1, _, h | 2, _, h | 3, _, h | 4, _, h | 5, _, h | 6, _, h | 7, _, h | 8, _, h | 9, _, h | 10, _, h | 11, _, h => cases h; rfl
theorem cutV_take (xs : List V) (k : Nat) : cutV xs none (some (k : Int)) = xs.take k := by
  unfold cutV
  rw [HT.sIx_nat, HT.sIx_none, List.drop_zero, Nat.sub_zero, Nat.min_def]
  by_cases h : k ≤ xs.length
  · rw [if_pos h]
  · rw [if_neg h, List.take_length, List.take_of_length_le (by omega)]
theorem Rows.len {K : PySem.W.Frag} {H : Hp} {Cs : List Addr} {ts : List V} {ls : List (List V)} (h : Rows K H Cs ts ls) : ts.length = Cs.length := by
  induction h with
  | nil => rfl
  | cons _ _ ih => rw [List.length_cons, List.length_cons, ih]
section
variable {P : Program} {w : World} {K : PySem.W.Frag} {mg : Str → Option Value} {base : Heap}
def spLaw (K : PySem.W.Frag) : Sp := fun vs H Q _ => ∃ (a : Addr) (ns : List Int), vs = [.ref a] ∧ SqL K H a (ns.map V.int) ∧ ∀ H', Q (.bl true) H'
theorem ok_law (T : Tx P K mg) : FnG P w K mg base CX0 3 T.alaw T.fdlaw ["_law_script"] (spLaw K) := by
  have Gpen : FnOk P w K mg base CX0 1 T.apen T.fdpen ["_law_script"] (spPen K) := ok_pen T
  have Gpick : FnOk P w K mg base CX0 2 T.apick T.fdpick ["_law_pen_here", "_law_some"] (spPick K) := ok_pick T
  have Gkinds : FnOk P w K mg base CX0 1 T.akinds T.fdkinds ["_law_value"] (spKinds T) := ok_kinds T
  have Geach : FnOk P w K mg base CX0 2 T.aeach T.fdeach ["_law_a", "_law_b", "_law_c"] (spEach T) := ok_each T
  refine fnG_of T.Dlaw.F sclaw (fun vs H Q E h => ?_) (fun cdv A outer s H vs Q E hr hgd h => ?_)
  · obtain ⟨a, ns, rfl, _⟩ := h
    rfl
  · obtain ⟨a, ns, rfl, hS, k⟩ := h
    have hu := hu_of hr
    have hrpen := hr.mono (j := 1) (by decide)
    have hrkinds := hr.mono (j := 1) (by decide)
    have hrpick := hr
    have hreach := hr
    have hu61 : (A.deeper (envOfC (Str.ofString "law") (defScope slaw) s.heap.objs.size T.alaw cdv)).units + 61 < cLine := by
      have := hr.un
      omega
    refine ⟨_, pss_cons (ps_set (i := 1) sclaw.nd rfl (Or.inl rfl) (pe_callN T.Dpen Gpen hrpen pass0 (pa_cons (pv 0) pa_nil)))
(pss_cons (ps_set (i := 2) sclaw.nd rfl (Or.inl rfl) (pe_lst (pa_cons (pe_non) (pa_cons (pe_int) (pa_cons (pe_un un_neg (pe_int)) (pa_cons (pe_op op_pow (pe_int) (pe_int)) (pa_cons (pe_str) (pa_cons (pe_str) (pa_cons (pe_tup pa_nil) (pa_cons (pe_tup (pa_cons (pe_int) (pa_cons (pe_tup (pa_cons (pe_int) (pa_cons (pe_str) pa_nil))) pa_nil))) (pa_cons (pe_bl) (pa_cons (pe_str) pa_nil))))))))))))
(pss_cons (ps_set (i := 3) sclaw.nd rfl (Or.inl rfl) (pe_lst (pa_cons (pe_callN T.Dpick Gpick hrpick pass0 (pa_cons (pv 1) (pa_cons (pv 2) pa_nil))) (pa_cons (pe_callN T.Dpick Gpick hrpick pass0 (pa_cons (pv 1) (pa_cons (pv 2) pa_nil))) (pa_cons (pe_callN T.Dpick Gpick hrpick pass0 (pa_cons (pv 1) (pa_cons (pv 2) pa_nil))) pa_nil)))))
(pss_cons (ps_set (i := 4) sclaw.nd rfl (Or.inl rfl) (pe_callN T.Deach Geach hreach pass0 (pa_cons (pe_ix ix_list (pv 3) (pe_int) (fun _ _ => rfl)) (pa_cons (pe_ix ix_list (pv 3) (pe_int) (fun _ _ => rfl)) (pa_cons (pe_ix ix_list (pv 3) (pe_int) (fun _ _ => rfl)) pa_nil)))))
(pss_cons (ps_for PassesOwn.never rfl (pi_enum rfl T.n_enumerate (pa_cons (pv 4) pa_nil)) (pg_tup rfl (pgs_cons (pg_name (i := 5) sclaw.nd rfl (Or.inr rfl)) (pgs_cons (pg_tup rfl (pgs_cons (pg_name (i := 6) sclaw.nd rfl (Or.inl rfl)) (pgs_cons (pg_name (i := 7) sclaw.nd rfl (Or.inl rfl)) (pgs_cons (pg_name (i := 8) sclaw.nd rfl (Or.inl rfl)) pgs_nil)))) pgs_nil)))
(pss_cons (ps_if (pt_cmpR (op_neD hr.units) (pe_lc (own := [("_law_one", 9)]) rfl sclaw.nd (pi_list (pv 7)) (blkOk_by (own := [("_law_one", 9)]) (N := ["_law_script", "_law_pen_here", "_law_some", "_law_fields", "_law_rows", "_law_at", "_law_error", "_law_told", "_law_many", "_law_one", "_law_k"]) (sc := defScope slaw) (by decide +kernel)) (fun _ _ _ _ _ => pg_name (i := 9) sclaw.nd rfl (Or.inl rfl)) (fun _ _ _ _ _ => pts_nil) (fun _ _ _ _ _ => pe_callB (by exact call_reprD hgd hu61 : CallR _ (.builtin "repr") (nRepr K)) (by rfl) T.n_repr (by decide +kernel) (pa_cons (pv 9) pa_nil))) (pe_lc (own := [("_law_one", 9)]) rfl sclaw.nd (pi_list (pe_slice sl_list (pv 3) po_none (po_some (pv 8)))) (blkOk_by (own := [("_law_one", 9)]) (N := ["_law_script", "_law_pen_here", "_law_some", "_law_fields", "_law_rows", "_law_at", "_law_error", "_law_told", "_law_many", "_law_one", "_law_k"]) (sc := defScope slaw) (by decide +kernel)) (fun _ _ _ _ _ => pg_name (i := 9) sclaw.nd rfl (Or.inl rfl)) (fun _ _ _ _ _ => pts_nil) (fun _ _ _ _ _ => pe_callB (by exact call_reprD hgd hu61 : CallR _ (.builtin "repr") (nRepr K)) (by rfl) T.n_repr (by decide +kernel) (pa_cons (pv 9) pa_nil))) (nomark _))
(pss_one (ps_ret (pe_bl)))
(pss_nil))
(pss_cons (ps_if (pt_cut (PW.pt (pw_or (pt_not (pt_val (pe_callB call_isX (by rfl) T.n_isinstance (by decide +kernel) (pa_cons (pv 6) (pa_cons (pe_glob rfl T.gJ rel_ref) pa_nil))))) (pw_or1 (pt_not (pt_val (pe_callB call_isX (by rfl) T.n_isinstance (by decide +kernel) (pa_cons (pv 6) (pa_cons (pe_bltn (v := .ty "ValueError") rfl T.n_ValueError (by decide +kernel) rfl) pa_nil)))))))))
(pss_one (ps_ret (pe_bl)))
(pss_nil))
(pss_one (ps_if (pt_cmpR (op_neD hr.units) (pe_callN T.Dkinds Gkinds hrkinds pass0 (pa_cons (pv 6) pa_nil)) (pe_lc (own := [("_law_k", 10)]) rfl sclaw.nd (pi_range1 rfl T.n_range (pa_cons (pe_callB call_lenL (by rfl) T.n_len (by decide +kernel) (pa_cons (pv 4) pa_nil)) pa_nil)) (blkOk_by (own := [("_law_k", 10)]) (N := ["_law_script", "_law_pen_here", "_law_some", "_law_fields", "_law_rows", "_law_at", "_law_error", "_law_told", "_law_many", "_law_one", "_law_k"]) (sc := defScope slaw) (by decide +kernel)) (fun _ _ _ _ _ => pg_name (i := 10) sclaw.nd rfl (Or.inl rfl)) (fun _ _ _ _ _ => pts_nil) (fun _ _ _ _ _ => pe_cmpR op_eq (pv 10) (pv 5) (nomark _))) (nomark _))
(pss_one (ps_ret (pe_bl)))
(pss_nil))))))
(pss_one (ps_ret (pe_bl))))))), ?_⟩
    walk_at "z0"
    walk_at "zz"
    refine ⟨a, ns, rfl, hS, fun d c H1 hd s1 p1 => ?_⟩
    walk_at "zz"
    refine z_rI ⟨by decide, by decide, by decide⟩ ?_
    walk_at "zz"
    refine z_kTup (line_ge (by simp)) fun q1 H2 n2 s2 h2 => ?_
    walk_at "zz"
    refine z_kTup (line_ge (by simp)) fun q2 H3 n3 s3 h3 => ?_
    walk_at "zz"
    refine z_kTup (line_ge (by simp)) fun q3 H4 n4 s4 h4 => ?_
    walk_at "zz"
    refine z_kLst (line_ge (by simp)) fun l H5 n5 s5 h5 => ?_
    walk_at "zz"
    have p4 : Pen K H4 d c 100000000 := ((p1.same s2).same s3).same s4
    have p5 := p4.same s5
    have nice := nice_all (K := K) (s5 _ _ (s4 _ _ (s3 _ _ h2))) (s5 _ _ (s4 _ _ h3)) (s5 _ _ h4)
    have nld := p4.ne n5
    refine ⟨d, c, l, 99999999, _, rfl, p5, SqL.of h5, by simp, by simp, fun va H6 hva b6 p6 => ?_⟩
    walk_at "zz"
    have h6 := b6 _ _ nld h5
    refine ⟨d, c, l, 99999998, _, rfl, p6, SqL.of h6, by simp, by simp, fun vb H7 hvb b7 p7 => ?_⟩
    walk_at "zz"
    have h7 := b7 _ _ nld h6
    refine ⟨d, c, l, 99999997, _, rfl, p7, SqL.of h7, by simp, by simp, fun vc H8 hvc b8 p8 => ?_⟩
    walk_at "zz"
    have kp8 : Keep H5 H8 := p5.keep (b6.trans (b7.trans b8))
    obtain ⟨da, qa, na⟩ := nice va hva
    obtain ⟨db, qb, nb⟩ := nice vb hvb
    obtain ⟨dc, qc, nc⟩ := nice vc hvc
    have qa8 := dp_keep kp8 qa
    have qb8 := dp_keep kp8 qb
    have qc8 := dp_keep kp8 qc
    refine z_kLst (line_ge (by simp)) fun f H9 n9 s9 h9 => ?_
    walk_at "zz"
    refine z_ixL (SqL.of h9) rfl ?_
    walk_at "zz"
    refine z_ixL (SqL.of h9) rfl ?_
    walk_at "zz"
    refine z_ixL (SqL.of h9) rfl ?_
    walk_at "zz"
    refine ⟨va, vb, vc, rfl, fun r H10 ts s10 h10 rows => ?_⟩
    walk_at "zz"
    have hts : ts.length = 12 := rows.len
    have h9' := s10 _ _ h9
    refine ⟨r, ts, rfl, SqL.of h10, ?_⟩
    refine f_enumL (fun i σ' H' => ∃ v5 v6 v7 v8 : Option V, σ' = [some (.ref a), some (.ref d), some (.ref l), some (.ref f), some (.ref r), v5, v6, v7, v8, none, none] ∧ Same H10 H') ⟨none, none, none, none, rfl, Same.refl _⟩ (fun i σ' H' ⟨_, _, _, _, _, s'⟩ => SqL.of (s' _ _ h10)) ?_ ?_
    · rintro i x t σ' H' H11 hx ⟨v5, v6, v7, v8, rfl, s'⟩ sT hT
      have s11 : Same H10 H11 := s'.trans sT
      obtain ⟨C, tl, hC, hl, p, e, q, kvs, rfl, hp, he, hq⟩ := rows.at hx
      obtain ⟨hi, htl⟩ := tolds_take hl
      have eC : C = T.cs.getD i 0 := by
        rw [List.getD_eq_getElem?_getD, hC]
        rfl
      subst eC
      have hdat : ∀ z ∈ ([(va, da), (vb, db), (vc, dc)] : List (V × PyData)), Dp K H11 z.1 z.2 ∧ niceD z.2 = true := by
        intro z hz
        rcases List.mem_cons.mp hz with rfl | hz
        · exact ⟨dp_keep (same_keep (s9.trans (s10.trans s11))) qa8, na⟩
        rcases List.mem_cons.mp hz with rfl | hz
        · exact ⟨dp_keep (same_keep (s9.trans (s10.trans s11))) qb8, nb⟩
        rcases List.mem_cons.mp hz with rfl | hz
        · exact ⟨dp_keep (same_keep (s9.trans (s10.trans s11))) qc8, nc⟩
        cases hz
      have hdt : ∀ z ∈ ([(va, da), (vb, db), (vc, dc)] : List (V × PyData)).take tl.length, Dp K H11 z.1 z.2 ∧ niceD z.2 = true := fun z hz => hdat z (List.mem_of_mem_take hz)
      have etl : tl = (([(va, da), (vb, db), (vc, dc)] : List (V × PyData)).take tl.length).map Prod.fst := by
        rw [List.map_take]
        exact htl
      have lfs : (([(va, da), (vb, db), (vc, dc)] : List (V × PyData)).take tl.length).length ≤ 1000 := by
        rw [List.length_take]
        show min tl.length 3 ≤ 1000
        omega
      have ecut : cutV [va, vb, vc] none (some (tl.length : Int)) = (([(va, da), (vb, db), (vc, dc)] : List (V × PyData)).take tl.length).map Prod.fst := by
        rw [cutV_take, List.map_take]
        rfl
      generalize hfs : ([(va, da), (vb, db), (vc, dc)] : List (V × PyData)).take tl.length = fs at hdt etl lfs ecut
      refine z_gTup (SqT.of hT) rfl ?_
      walk_at "zz"
      refine z_gTup (SqT.of (s11 _ _ hp)) rfl ?_
      walk_at "zz"
      refine z_kIL (SqL.of (xs := fs.map Prod.fst) (by rw [← etl]; exact s11 _ _ hq)) ?_
      refine l_repr (by simp) (SqL.of (by rw [← etl]; exact s11 _ _ hq)) lfs hdt fun D1 H12 n12 s12 h12 => ?_
      walk_at "zz"
      refine z_slL (SqL.of (s12 _ _ (s11 _ _ h9'))) fun g H13 n13 s13 h13 => ?_
      rw [ecut] at h13
      walk_at "zz"
      refine z_kIL (SqL.of h13) ?_
      refine l_repr (by simp) (SqL.of h13) lfs (fun z hz => ⟨dp_keep (same_keep (s12.trans s13)) (hdt z hz).1, (hdt z hz).2⟩) fun D2 H14 n14 s14 h14 => ?_
      have sh := nice_shaped fun z hz => (hdt z hz).2
      refine z_neD (.lst (SqL.of (s14 _ _ (s13 _ _ h12))) (dps_shown _)) (.lst (SqL.of h14) (dps_shown _)) sh sh ?_
      rw [eqv_refl_shaped sh]
      walk_at "zz"
      have s14' : Same H10 H14 := s11.trans (s12.trans (s13.trans s14))
      refine z_cutB false ?_ fun H15 s15 => ?_
      · walk_at "zz"
        refine z_isX (ClsV.own _) (T.ix i hi) (he.same s14') (T.kitJ i hi) ?_
        walk_at "zz"
        refine z_isX (ClsV.ty _) (T.ix i hi) (he.same s14') (T.kitV i hi) ?_
        walk_at "zz"
        exact ⟨rfl, Same.refl _⟩
      walk_at "zz"
      refine ⟨e, kvs, i, hi, rfl, he.same (s14'.trans s15), fun D3 H16 n16 s16 h16 => ?_⟩
      walk_at "zz"
      refine z_lenL (SqL.of (s16 _ _ (s15 _ _ (s14' _ _ h10)))) ?_
      rw [hts]
      walk_at "zz"
      refine z_kIR1 (by decide) (by decide) ?_
      refine l_pure (p := fun _ => true) (f := fun j => V.bl (decide (i = j))) (walk_rng (lo := 0) (n := 12)) (by simp) (fun _ _ => trivial) (fun j y H17 _ s17 QT q' => q' H17 (Same.refl _)) (fun j y H17 hy _ s17 Q' q' => ?_) fun D4 H17 n17 s17 h17 => ?_
      · walk_at "zz"
        have ey : decide ((0 + (y : Int)) = (i : Int)) = decide (i = y) := decide_eq_decide.mpr (by omega)
        rw [ey]
        exact q' H17 (Same.refl _)
      have efl : ((List.range 12).filter fun _ => true) = List.range 12 := List.filter_eq_self.mpr fun _ _ => rfl
      rw [efl] at h17
      have e17 : (List.range 12).map (fun j => V.bl (decide (i = j))) = ((List.range 12).map fun j => decide (i = j)).map V.bl := by
        rw [List.map_map]
        rfl
      rw [e17] at h17
      have shb : SeqAt.shaped (.list (((List.range 12).map fun j => decide (i = j)).map PyData.bool)) = true := by
        refine shaped_list (n := 0) (by decide) fun d hd => ?_
        obtain ⟨b, _, rfl⟩ := List.mem_map.mp hd
        exact ⟨rfl, Nat.le_refl _⟩
      refine z_neD (.lst (SqL.of (s17 _ _ h16)) (dps_bls _)) (.lst (SqL.of h17) (dps_bls _)) shb shb ?_
      rw [eqv_refl_shaped shb]
      walk_at "zz"
      exact ⟨_, _, _, _, rfl, s14'.trans (s15.trans (s16.trans s17))⟩
    · rintro σ' H' ⟨v5, v6, v7, v8, rfl, s'⟩
      walk_at "zz"
      exact k _
end
end K00

namespace K00
open PySem PySem.Spec PyProof.Rows L2 Nm
abbrev sIni0 : Stmt := Nm.inClass (top 2) 0
theorem ini0 : NmE.Ini sIni0 ["line", "column"] :=
  ⟨⟨_, _, _, _, _, _, _, rfl, (.cons (.cons .nil)), (.cons (.cons .nil)), rfl⟩, by decide, ⟨_, rfl, rfl⟩, by decide +kernel, by decide +kernel, by decide +kernel, by decide +kernel, by decide +kernel, by decide +kernel, rfl, rfl, rfl⟩
theorem bind0 (qual : Str) (cc : Addr) (kV doc pm : Value) (an : Option Addr) (cda : Addr) (ct : Value) (us : List Value) (hl : us.length = (("self" : Str) :: ["line", "column"]).length) :
    bindArgs (PySem.W.ksFn "__init__" qual (defArgs sIni0) (defBody sIni0) (defScope sIni0) .none kV doc pm an (.ref cda) ct cc) ⟨us, []⟩ = pure ((("self" : Str) :: ["line", "column"]).zip us) := by
  match us, hl with
  | [_, _, _], _ => first | rfl | kernel_rfl | with_unfolding_all rfl
abbrev sIni1 : Stmt := Nm.inClass (top 3) 0
theorem ini1 : NmE.Ini sIni1 ["line", "what"] :=
  ⟨⟨_, _, _, _, _, _, _, rfl, (.cons (.cons .nil)), (.cons (.cons .nil)), rfl⟩, by decide, ⟨_, rfl, rfl⟩, by decide +kernel, by decide +kernel, by decide +kernel, by decide +kernel, by decide +kernel, by decide +kernel, rfl, rfl, rfl⟩
theorem bind1 (qual : Str) (cc : Addr) (kV doc pm : Value) (an : Option Addr) (cda : Addr) (ct : Value) (us : List Value) (hl : us.length = (("self" : Str) :: ["line", "what"]).length) :
    bindArgs (PySem.W.ksFn "__init__" qual (defArgs sIni1) (defBody sIni1) (defScope sIni1) .none kV doc pm an (.ref cda) ct cc) ⟨us, []⟩ = pure ((("self" : Str) :: ["line", "what"]).zip us) := by
  match us, hl with
  | [_, _, _], _ => first | rfl | kernel_rfl | with_unfolding_all rfl
abbrev sIni2 : Stmt := Nm.inClass (top 4) 0
theorem ini2 : NmE.Ini sIni2 ["value", "why"] :=
  ⟨⟨_, _, _, _, _, _, _, rfl, (.cons (.cons .nil)), (.cons (.cons .nil)), rfl⟩, by decide, ⟨_, rfl, rfl⟩, by decide +kernel, by decide +kernel, by decide +kernel, by decide +kernel, by decide +kernel, by decide +kernel, rfl, rfl, rfl⟩
theorem bind2 (qual : Str) (cc : Addr) (kV doc pm : Value) (an : Option Addr) (cda : Addr) (ct : Value) (us : List Value) (hl : us.length = (("self" : Str) :: ["value", "why"]).length) :
    bindArgs (PySem.W.ksFn "__init__" qual (defArgs sIni2) (defBody sIni2) (defScope sIni2) .none kV doc pm an (.ref cda) ct cc) ⟨us, []⟩ = pure ((("self" : Str) :: ["value", "why"]).zip us) := by
  match us, hl with
  | [_, _, _], _ => first | rfl | kernel_rfl | with_unfolding_all rfl
abbrev sIni3 : Stmt := Nm.inClass (top 5) 0
theorem ini3 : NmE.Ini sIni3 ["name"] :=
  ⟨⟨_, _, _, _, _, _, _, rfl, (.cons .nil), (.cons .nil), rfl⟩, by decide, ⟨_, rfl, rfl⟩, by decide +kernel, by decide +kernel, by decide +kernel, by decide +kernel, by decide +kernel, by decide +kernel, rfl, rfl, rfl⟩
theorem bind3 (qual : Str) (cc : Addr) (kV doc pm : Value) (an : Option Addr) (cda : Addr) (ct : Value) (us : List Value) (hl : us.length = (("self" : Str) :: ["name"]).length) :
    bindArgs (PySem.W.ksFn "__init__" qual (defArgs sIni3) (defBody sIni3) (defScope sIni3) .none kV doc pm an (.ref cda) ct cc) ⟨us, []⟩ = pure ((("self" : Str) :: ["name"]).zip us) := by
  match us, hl with
  | [_, _], _ => first | rfl | kernel_rfl | with_unfolding_all rfl
abbrev sIni4 : Stmt := Nm.inClass (top 6) 0
theorem ini4 : NmE.Ini sIni4 ["name"] :=
  ⟨⟨_, _, _, _, _, _, _, rfl, (.cons .nil), (.cons .nil), rfl⟩, by decide, ⟨_, rfl, rfl⟩, by decide +kernel, by decide +kernel, by decide +kernel, by decide +kernel, by decide +kernel, by decide +kernel, rfl, rfl, rfl⟩
theorem bind4 (qual : Str) (cc : Addr) (kV doc pm : Value) (an : Option Addr) (cda : Addr) (ct : Value) (us : List Value) (hl : us.length = (("self" : Str) :: ["name"]).length) :
    bindArgs (PySem.W.ksFn "__init__" qual (defArgs sIni4) (defBody sIni4) (defScope sIni4) .none kV doc pm an (.ref cda) ct cc) ⟨us, []⟩ = pure ((("self" : Str) :: ["name"]).zip us) := by
  match us, hl with
  | [_, _], _ => first | rfl | kernel_rfl | with_unfolding_all rfl
abbrev sIni5 : Stmt := Nm.inClass (top 7) 0
theorem ini5 : NmE.Ini sIni5 ["name"] :=
  ⟨⟨_, _, _, _, _, _, _, rfl, (.cons .nil), (.cons .nil), rfl⟩, by decide, ⟨_, rfl, rfl⟩, by decide +kernel, by decide +kernel, by decide +kernel, by decide +kernel, by decide +kernel, by decide +kernel, rfl, rfl, rfl⟩
theorem bind5 (qual : Str) (cc : Addr) (kV doc pm : Value) (an : Option Addr) (cda : Addr) (ct : Value) (us : List Value) (hl : us.length = (("self" : Str) :: ["name"]).length) :
    bindArgs (PySem.W.ksFn "__init__" qual (defArgs sIni5) (defBody sIni5) (defScope sIni5) .none kV doc pm an (.ref cda) ct cc) ⟨us, []⟩ = pure ((("self" : Str) :: ["name"]).zip us) := by
  match us, hl with
  | [_, _], _ => first | rfl | kernel_rfl | with_unfolding_all rfl
abbrev sIni6 : Stmt := Nm.inClass (top 8) 0
theorem ini6 : NmE.Ini sIni6 ["what", "number"] :=
  ⟨⟨_, _, _, _, _, _, _, rfl, (.cons (.cons .nil)), (.cons (.cons .nil)), rfl⟩, by decide, ⟨_, rfl, rfl⟩, by decide +kernel, by decide +kernel, by decide +kernel, by decide +kernel, by decide +kernel, by decide +kernel, rfl, rfl, rfl⟩
theorem bind6 (qual : Str) (cc : Addr) (kV doc pm : Value) (an : Option Addr) (cda : Addr) (ct : Value) (us : List Value) (hl : us.length = (("self" : Str) :: ["what", "number"]).length) :
    bindArgs (PySem.W.ksFn "__init__" qual (defArgs sIni6) (defBody sIni6) (defScope sIni6) .none kV doc pm an (.ref cda) ct cc) ⟨us, []⟩ = pure ((("self" : Str) :: ["what", "number"]).zip us) := by
  match us, hl with
  | [_, _, _], _ => first | rfl | kernel_rfl | with_unfolding_all rfl
abbrev sIni7 : Stmt := Nm.inClass (top 9) 0
theorem ini7 : NmE.Ini sIni7 ["what", "many", "limit"] :=
  ⟨⟨_, _, _, _, _, _, _, rfl, (.cons (.cons (.cons .nil))), (.cons (.cons (.cons .nil))), rfl⟩, by decide, ⟨_, rfl, rfl⟩, by decide +kernel, by decide +kernel, by decide +kernel, by decide +kernel, by decide +kernel, by decide +kernel, rfl, rfl, rfl⟩
theorem bind7 (qual : Str) (cc : Addr) (kV doc pm : Value) (an : Option Addr) (cda : Addr) (ct : Value) (us : List Value) (hl : us.length = (("self" : Str) :: ["what", "many", "limit"]).length) :
    bindArgs (PySem.W.ksFn "__init__" qual (defArgs sIni7) (defBody sIni7) (defScope sIni7) .none kV doc pm an (.ref cda) ct cc) ⟨us, []⟩ = pure ((("self" : Str) :: ["what", "many", "limit"]).zip us) := by
  match us, hl with
  | [_, _, _, _], _ => first | rfl | kernel_rfl | with_unfolding_all rfl
abbrev sIni8 : Stmt := Nm.inClass (top 10) 0
theorem ini8 : NmE.Ini sIni8 ["what"] :=
  ⟨⟨_, _, _, _, _, _, _, rfl, (.cons .nil), (.cons .nil), rfl⟩, by decide, ⟨_, rfl, rfl⟩, by decide +kernel, by decide +kernel, by decide +kernel, by decide +kernel, by decide +kernel, by decide +kernel, rfl, rfl, rfl⟩
theorem bind8 (qual : Str) (cc : Addr) (kV doc pm : Value) (an : Option Addr) (cda : Addr) (ct : Value) (us : List Value) (hl : us.length = (("self" : Str) :: ["what"]).length) :
    bindArgs (PySem.W.ksFn "__init__" qual (defArgs sIni8) (defBody sIni8) (defScope sIni8) .none kV doc pm an (.ref cda) ct cc) ⟨us, []⟩ = pure ((("self" : Str) :: ["what"]).zip us) := by
  match us, hl with
  | [_, _], _ => first | rfl | kernel_rfl | with_unfolding_all rfl
abbrev sIni9 : Stmt := Nm.inClass (top 11) 0
theorem ini9 : NmE.Ini sIni9 ["promise", "witness"] :=
  ⟨⟨_, _, _, _, _, _, _, rfl, (.cons (.cons .nil)), (.cons (.cons .nil)), rfl⟩, by decide, ⟨_, rfl, rfl⟩, by decide +kernel, by decide +kernel, by decide +kernel, by decide +kernel, by decide +kernel, by decide +kernel, rfl, rfl, rfl⟩
theorem bind9 (qual : Str) (cc : Addr) (kV doc pm : Value) (an : Option Addr) (cda : Addr) (ct : Value) (us : List Value) (hl : us.length = (("self" : Str) :: ["promise", "witness"]).length) :
    bindArgs (PySem.W.ksFn "__init__" qual (defArgs sIni9) (defBody sIni9) (defScope sIni9) .none kV doc pm an (.ref cda) ct cc) ⟨us, []⟩ = pure ((("self" : Str) :: ["promise", "witness"]).zip us) := by
  match us, hl with
  | [_, _, _], _ => first | rfl | kernel_rfl | with_unfolding_all rfl
abbrev sIni10 : Stmt := Nm.inClass (top 12) 0
theorem ini10 : NmE.Ini sIni10 [] :=
  ⟨⟨_, _, _, _, _, _, _, rfl, .nil, .nil, rfl⟩, by decide, ⟨_, rfl, rfl⟩, by decide +kernel, by decide +kernel, by decide +kernel, by decide +kernel, by decide +kernel, by decide +kernel, rfl, rfl, rfl⟩
theorem bind10 (qual : Str) (cc : Addr) (kV doc pm : Value) (an : Option Addr) (cda : Addr) (ct : Value) (us : List Value) (hl : us.length = (("self" : Str) :: []).length) :
    bindArgs (PySem.W.ksFn "__init__" qual (defArgs sIni10) (defBody sIni10) (defScope sIni10) .none kV doc pm an (.ref cda) ct cc) ⟨us, []⟩ = pure ((("self" : Str) :: []).zip us) := by
  match us, hl with
  | [_], _ => first | rfl | kernel_rfl | with_unfolding_all rfl
abbrev sIni11 : Stmt := Nm.inClass (top 13) 0
theorem ini11 : NmE.Ini sIni11 [] :=
  ⟨⟨_, _, _, _, _, _, _, rfl, .nil, .nil, rfl⟩, by decide, ⟨_, rfl, rfl⟩, by decide +kernel, by decide +kernel, by decide +kernel, by decide +kernel, by decide +kernel, by decide +kernel, rfl, rfl, rfl⟩
theorem bind11 (qual : Str) (cc : Addr) (kV doc pm : Value) (an : Option Addr) (cda : Addr) (ct : Value) (us : List Value) (hl : us.length = (("self" : Str) :: []).length) :
    bindArgs (PySem.W.ksFn "__init__" qual (defArgs sIni11) (defBody sIni11) (defScope sIni11) .none kV doc pm an (.ref cda) ct cc) ⟨us, []⟩ = pure ((("self" : Str) :: []).zip us) := by
  match us, hl with
  | [_], _ => first | rfl | kernel_rfl | with_unfolding_all rfl
/-- what is written of the twelve classes -/
structure Cls (P : Program) (K : PySem.W.Frag) (mg : Str → Option Value) (c0 c1 c2 c3 c4 c5 c6 c7 c8 c9 c10 c11 cJ : Addr) : Prop where
  e0 : NmE.Err P K mg "BadText" c0 ["line", "column"]
  i0 : L2.ExI K c0
  e1 : NmE.Err P K mg "BadProgram" c1 ["line", "what"]
  i1 : L2.ExI K c1
  e2 : NmE.Err P K mg "BadValue" c2 ["value", "why"]
  i2 : L2.ExI K c2
  e3 : NmE.Err P K mg "BadName" c3 ["name"]
  i3 : L2.ExI K c3
  e4 : NmE.Err P K mg "NoName" c4 ["name"]
  i4 : L2.ExI K c4
  e5 : NmE.Err P K mg "TakenName" c5 ["name"]
  i5 : L2.ExI K c5
  e6 : NmE.Err P K mg "BadNumber" c6 ["what", "number"]
  i6 : L2.ExI K c6
  e7 : NmE.Err P K mg "TooMany" c7 ["what", "many", "limit"]
  i7 : L2.ExI K c7
  e8 : NmE.Err P K mg "BadNet" c8 ["what"]
  i8 : L2.ExI K c8
  e9 : NmE.Err P K mg "NotKept" c9 ["promise", "witness"]
  i9 : L2.ExI K c9
  e10 : NmE.Err P K mg "NothingToUndo" c10 []
  i10 : L2.ExI K c10
  e11 : NmE.Err P K mg "NothingToRedo" c11 []
  i11 : L2.ExI K c11
  gJ : mg "JoinError" = some (.ref cJ)
  j0 : PySem.W.kitOne K (.ref c0) (.ref cJ) = some true
  v0 : PySem.W.kitOne K (.ref c0) (.type "ValueError") = some true
  k0_0 : PySem.W.kitOne K (.ref c0) (.ref c0) = some true
  k0_1 : PySem.W.kitOne K (.ref c0) (.ref c1) = some false
  k0_2 : PySem.W.kitOne K (.ref c0) (.ref c2) = some false
  k0_3 : PySem.W.kitOne K (.ref c0) (.ref c3) = some false
  k0_4 : PySem.W.kitOne K (.ref c0) (.ref c4) = some false
  k0_5 : PySem.W.kitOne K (.ref c0) (.ref c5) = some false
  k0_6 : PySem.W.kitOne K (.ref c0) (.ref c6) = some false
  k0_7 : PySem.W.kitOne K (.ref c0) (.ref c7) = some false
  k0_8 : PySem.W.kitOne K (.ref c0) (.ref c8) = some false
  k0_9 : PySem.W.kitOne K (.ref c0) (.ref c9) = some false
  k0_10 : PySem.W.kitOne K (.ref c0) (.ref c10) = some false
  k0_11 : PySem.W.kitOne K (.ref c0) (.ref c11) = some false
  j1 : PySem.W.kitOne K (.ref c1) (.ref cJ) = some true
  v1 : PySem.W.kitOne K (.ref c1) (.type "ValueError") = some true
  k1_0 : PySem.W.kitOne K (.ref c1) (.ref c0) = some false
  k1_1 : PySem.W.kitOne K (.ref c1) (.ref c1) = some true
  k1_2 : PySem.W.kitOne K (.ref c1) (.ref c2) = some false
  k1_3 : PySem.W.kitOne K (.ref c1) (.ref c3) = some false
  k1_4 : PySem.W.kitOne K (.ref c1) (.ref c4) = some false
  k1_5 : PySem.W.kitOne K (.ref c1) (.ref c5) = some false
  k1_6 : PySem.W.kitOne K (.ref c1) (.ref c6) = some false
  k1_7 : PySem.W.kitOne K (.ref c1) (.ref c7) = some false
  k1_8 : PySem.W.kitOne K (.ref c1) (.ref c8) = some false
  k1_9 : PySem.W.kitOne K (.ref c1) (.ref c9) = some false
  k1_10 : PySem.W.kitOne K (.ref c1) (.ref c10) = some false
  k1_11 : PySem.W.kitOne K (.ref c1) (.ref c11) = some false
  j2 : PySem.W.kitOne K (.ref c2) (.ref cJ) = some true
  v2 : PySem.W.kitOne K (.ref c2) (.type "ValueError") = some true
  k2_0 : PySem.W.kitOne K (.ref c2) (.ref c0) = some false
  k2_1 : PySem.W.kitOne K (.ref c2) (.ref c1) = some false
  k2_2 : PySem.W.kitOne K (.ref c2) (.ref c2) = some true
  k2_3 : PySem.W.kitOne K (.ref c2) (.ref c3) = some false
  k2_4 : PySem.W.kitOne K (.ref c2) (.ref c4) = some false
  k2_5 : PySem.W.kitOne K (.ref c2) (.ref c5) = some false
  k2_6 : PySem.W.kitOne K (.ref c2) (.ref c6) = some false
  k2_7 : PySem.W.kitOne K (.ref c2) (.ref c7) = some false
  k2_8 : PySem.W.kitOne K (.ref c2) (.ref c8) = some false
  k2_9 : PySem.W.kitOne K (.ref c2) (.ref c9) = some false
  k2_10 : PySem.W.kitOne K (.ref c2) (.ref c10) = some false
  k2_11 : PySem.W.kitOne K (.ref c2) (.ref c11) = some false
  j3 : PySem.W.kitOne K (.ref c3) (.ref cJ) = some true
  v3 : PySem.W.kitOne K (.ref c3) (.type "ValueError") = some true
  k3_0 : PySem.W.kitOne K (.ref c3) (.ref c0) = some false
  k3_1 : PySem.W.kitOne K (.ref c3) (.ref c1) = some false
  k3_2 : PySem.W.kitOne K (.ref c3) (.ref c2) = some false
  k3_3 : PySem.W.kitOne K (.ref c3) (.ref c3) = some true
  k3_4 : PySem.W.kitOne K (.ref c3) (.ref c4) = some false
  k3_5 : PySem.W.kitOne K (.ref c3) (.ref c5) = some false
  k3_6 : PySem.W.kitOne K (.ref c3) (.ref c6) = some false
  k3_7 : PySem.W.kitOne K (.ref c3) (.ref c7) = some false
  k3_8 : PySem.W.kitOne K (.ref c3) (.ref c8) = some false
  k3_9 : PySem.W.kitOne K (.ref c3) (.ref c9) = some false
  k3_10 : PySem.W.kitOne K (.ref c3) (.ref c10) = some false
  k3_11 : PySem.W.kitOne K (.ref c3) (.ref c11) = some false
  j4 : PySem.W.kitOne K (.ref c4) (.ref cJ) = some true
  v4 : PySem.W.kitOne K (.ref c4) (.type "ValueError") = some true
  k4_0 : PySem.W.kitOne K (.ref c4) (.ref c0) = some false
  k4_1 : PySem.W.kitOne K (.ref c4) (.ref c1) = some false
  k4_2 : PySem.W.kitOne K (.ref c4) (.ref c2) = some false
  k4_3 : PySem.W.kitOne K (.ref c4) (.ref c3) = some false
  k4_4 : PySem.W.kitOne K (.ref c4) (.ref c4) = some true
  k4_5 : PySem.W.kitOne K (.ref c4) (.ref c5) = some false
  k4_6 : PySem.W.kitOne K (.ref c4) (.ref c6) = some false
  k4_7 : PySem.W.kitOne K (.ref c4) (.ref c7) = some false
  k4_8 : PySem.W.kitOne K (.ref c4) (.ref c8) = some false
  k4_9 : PySem.W.kitOne K (.ref c4) (.ref c9) = some false
  k4_10 : PySem.W.kitOne K (.ref c4) (.ref c10) = some false
  k4_11 : PySem.W.kitOne K (.ref c4) (.ref c11) = some false
  j5 : PySem.W.kitOne K (.ref c5) (.ref cJ) = some true
  v5 : PySem.W.kitOne K (.ref c5) (.type "ValueError") = some true
  k5_0 : PySem.W.kitOne K (.ref c5) (.ref c0) = some false
  k5_1 : PySem.W.kitOne K (.ref c5) (.ref c1) = some false
  k5_2 : PySem.W.kitOne K (.ref c5) (.ref c2) = some false
  k5_3 : PySem.W.kitOne K (.ref c5) (.ref c3) = some false
  k5_4 : PySem.W.kitOne K (.ref c5) (.ref c4) = some false
  k5_5 : PySem.W.kitOne K (.ref c5) (.ref c5) = some true
  k5_6 : PySem.W.kitOne K (.ref c5) (.ref c6) = some false
  k5_7 : PySem.W.kitOne K (.ref c5) (.ref c7) = some false
  k5_8 : PySem.W.kitOne K (.ref c5) (.ref c8) = some false
  k5_9 : PySem.W.kitOne K (.ref c5) (.ref c9) = some false
  k5_10 : PySem.W.kitOne K (.ref c5) (.ref c10) = some false
  k5_11 : PySem.W.kitOne K (.ref c5) (.ref c11) = some false
  j6 : PySem.W.kitOne K (.ref c6) (.ref cJ) = some true
  v6 : PySem.W.kitOne K (.ref c6) (.type "ValueError") = some true
  k6_0 : PySem.W.kitOne K (.ref c6) (.ref c0) = some false
  k6_1 : PySem.W.kitOne K (.ref c6) (.ref c1) = some false
  k6_2 : PySem.W.kitOne K (.ref c6) (.ref c2) = some false
  k6_3 : PySem.W.kitOne K (.ref c6) (.ref c3) = some false
  k6_4 : PySem.W.kitOne K (.ref c6) (.ref c4) = some false
  k6_5 : PySem.W.kitOne K (.ref c6) (.ref c5) = some false
  k6_6 : PySem.W.kitOne K (.ref c6) (.ref c6) = some true
  k6_7 : PySem.W.kitOne K (.ref c6) (.ref c7) = some false
  k6_8 : PySem.W.kitOne K (.ref c6) (.ref c8) = some false
  k6_9 : PySem.W.kitOne K (.ref c6) (.ref c9) = some false
  k6_10 : PySem.W.kitOne K (.ref c6) (.ref c10) = some false
  k6_11 : PySem.W.kitOne K (.ref c6) (.ref c11) = some false
  j7 : PySem.W.kitOne K (.ref c7) (.ref cJ) = some true
  v7 : PySem.W.kitOne K (.ref c7) (.type "ValueError") = some true
  k7_0 : PySem.W.kitOne K (.ref c7) (.ref c0) = some false
  k7_1 : PySem.W.kitOne K (.ref c7) (.ref c1) = some false
  k7_2 : PySem.W.kitOne K (.ref c7) (.ref c2) = some false
  k7_3 : PySem.W.kitOne K (.ref c7) (.ref c3) = some false
  k7_4 : PySem.W.kitOne K (.ref c7) (.ref c4) = some false
  k7_5 : PySem.W.kitOne K (.ref c7) (.ref c5) = some false
  k7_6 : PySem.W.kitOne K (.ref c7) (.ref c6) = some false
  k7_7 : PySem.W.kitOne K (.ref c7) (.ref c7) = some true
  k7_8 : PySem.W.kitOne K (.ref c7) (.ref c8) = some false
  k7_9 : PySem.W.kitOne K (.ref c7) (.ref c9) = some false
  k7_10 : PySem.W.kitOne K (.ref c7) (.ref c10) = some false
  k7_11 : PySem.W.kitOne K (.ref c7) (.ref c11) = some false
  j8 : PySem.W.kitOne K (.ref c8) (.ref cJ) = some true
  v8 : PySem.W.kitOne K (.ref c8) (.type "ValueError") = some true
  k8_0 : PySem.W.kitOne K (.ref c8) (.ref c0) = some false
  k8_1 : PySem.W.kitOne K (.ref c8) (.ref c1) = some false
  k8_2 : PySem.W.kitOne K (.ref c8) (.ref c2) = some false
  k8_3 : PySem.W.kitOne K (.ref c8) (.ref c3) = some false
  k8_4 : PySem.W.kitOne K (.ref c8) (.ref c4) = some false
  k8_5 : PySem.W.kitOne K (.ref c8) (.ref c5) = some false
  k8_6 : PySem.W.kitOne K (.ref c8) (.ref c6) = some false
  k8_7 : PySem.W.kitOne K (.ref c8) (.ref c7) = some false
  k8_8 : PySem.W.kitOne K (.ref c8) (.ref c8) = some true
  k8_9 : PySem.W.kitOne K (.ref c8) (.ref c9) = some false
  k8_10 : PySem.W.kitOne K (.ref c8) (.ref c10) = some false
  k8_11 : PySem.W.kitOne K (.ref c8) (.ref c11) = some false
  j9 : PySem.W.kitOne K (.ref c9) (.ref cJ) = some true
  v9 : PySem.W.kitOne K (.ref c9) (.type "ValueError") = some true
  k9_0 : PySem.W.kitOne K (.ref c9) (.ref c0) = some false
  k9_1 : PySem.W.kitOne K (.ref c9) (.ref c1) = some false
  k9_2 : PySem.W.kitOne K (.ref c9) (.ref c2) = some false
  k9_3 : PySem.W.kitOne K (.ref c9) (.ref c3) = some false
  k9_4 : PySem.W.kitOne K (.ref c9) (.ref c4) = some false
  k9_5 : PySem.W.kitOne K (.ref c9) (.ref c5) = some false
  k9_6 : PySem.W.kitOne K (.ref c9) (.ref c6) = some false
  k9_7 : PySem.W.kitOne K (.ref c9) (.ref c7) = some false
  k9_8 : PySem.W.kitOne K (.ref c9) (.ref c8) = some false
  k9_9 : PySem.W.kitOne K (.ref c9) (.ref c9) = some true
  k9_10 : PySem.W.kitOne K (.ref c9) (.ref c10) = some false
  k9_11 : PySem.W.kitOne K (.ref c9) (.ref c11) = some false
  j10 : PySem.W.kitOne K (.ref c10) (.ref cJ) = some true
  v10 : PySem.W.kitOne K (.ref c10) (.type "ValueError") = some true
  k10_0 : PySem.W.kitOne K (.ref c10) (.ref c0) = some false
  k10_1 : PySem.W.kitOne K (.ref c10) (.ref c1) = some false
  k10_2 : PySem.W.kitOne K (.ref c10) (.ref c2) = some false
  k10_3 : PySem.W.kitOne K (.ref c10) (.ref c3) = some false
  k10_4 : PySem.W.kitOne K (.ref c10) (.ref c4) = some false
  k10_5 : PySem.W.kitOne K (.ref c10) (.ref c5) = some false
  k10_6 : PySem.W.kitOne K (.ref c10) (.ref c6) = some false
  k10_7 : PySem.W.kitOne K (.ref c10) (.ref c7) = some false
  k10_8 : PySem.W.kitOne K (.ref c10) (.ref c8) = some false
  k10_9 : PySem.W.kitOne K (.ref c10) (.ref c9) = some false
  k10_10 : PySem.W.kitOne K (.ref c10) (.ref c10) = some true
  k10_11 : PySem.W.kitOne K (.ref c10) (.ref c11) = some false
  j11 : PySem.W.kitOne K (.ref c11) (.ref cJ) = some true
  v11 : PySem.W.kitOne K (.ref c11) (.type "ValueError") = some true
  k11_0 : PySem.W.kitOne K (.ref c11) (.ref c0) = some false
  k11_1 : PySem.W.kitOne K (.ref c11) (.ref c1) = some false
  k11_2 : PySem.W.kitOne K (.ref c11) (.ref c2) = some false
  k11_3 : PySem.W.kitOne K (.ref c11) (.ref c3) = some false
  k11_4 : PySem.W.kitOne K (.ref c11) (.ref c4) = some false
  k11_5 : PySem.W.kitOne K (.ref c11) (.ref c5) = some false
  k11_6 : PySem.W.kitOne K (.ref c11) (.ref c6) = some false
  k11_7 : PySem.W.kitOne K (.ref c11) (.ref c7) = some false
  k11_8 : PySem.W.kitOne K (.ref c11) (.ref c8) = some false
  k11_9 : PySem.W.kitOne K (.ref c11) (.ref c9) = some false
  k11_10 : PySem.W.kitOne K (.ref c11) (.ref c10) = some false
  k11_11 : PySem.W.kitOne K (.ref c11) (.ref c11) = some true
section
variable {P : Program} {K : PySem.W.Frag} {mg : Str → Option Value} {c0 c1 c2 c3 c4 c5 c6 c7 c8 c9 c10 c11 cJ : Addr}
theorem Cls.ix (W : Cls P K mg c0 c1 c2 c3 c4 c5 c6 c7 c8 c9 c10 c11 cJ) : ∀ i, i < 12 → L2.ExI K ([c0, c1, c2, c3, c4, c5, c6, c7, c8, c9, c10, c11].getD i 0) := fun i hi => match i, hi with
  | 0, _ => W.i0
  | 1, _ => W.i1
  | 2, _ => W.i2
  | 3, _ => W.i3
  | 4, _ => W.i4
  | 5, _ => W.i5
  | 6, _ => W.i6
  | 7, _ => W.i7
  | 8, _ => W.i8
  | 9, _ => W.i9
  | 10, _ => W.i10
  | 11, _ => W.i11
theorem Cls.kitJ (W : Cls P K mg c0 c1 c2 c3 c4 c5 c6 c7 c8 c9 c10 c11 cJ) : ∀ i, i < 12 → PySem.W.kitOne K (.ref ([c0, c1, c2, c3, c4, c5, c6, c7, c8, c9, c10, c11].getD i 0)) (.ref cJ) = some true := fun i hi => match i, hi with
  | 0, _ => W.j0
  | 1, _ => W.j1
  | 2, _ => W.j2
  | 3, _ => W.j3
  | 4, _ => W.j4
  | 5, _ => W.j5
  | 6, _ => W.j6
  | 7, _ => W.j7
  | 8, _ => W.j8
  | 9, _ => W.j9
  | 10, _ => W.j10
  | 11, _ => W.j11
theorem Cls.kitV (W : Cls P K mg c0 c1 c2 c3 c4 c5 c6 c7 c8 c9 c10 c11 cJ) : ∀ i, i < 12 → PySem.W.kitOne K (.ref ([c0, c1, c2, c3, c4, c5, c6, c7, c8, c9, c10, c11].getD i 0)) (.type "ValueError") = some true := fun i hi => match i, hi with
  | 0, _ => W.v0
  | 1, _ => W.v1
  | 2, _ => W.v2
  | 3, _ => W.v3
  | 4, _ => W.v4
  | 5, _ => W.v5
  | 6, _ => W.v6
  | 7, _ => W.v7
  | 8, _ => W.v8
  | 9, _ => W.v9
  | 10, _ => W.v10
  | 11, _ => W.v11
theorem Cls.row0 (W : Cls P K mg c0 c1 c2 c3 c4 c5 c6 c7 c8 c9 c10 c11 cJ) : ∀ j, j < 12 → PySem.W.kitOne K (.ref c0) (.ref ([c0, c1, c2, c3, c4, c5, c6, c7, c8, c9, c10, c11].getD j 0)) = some (decide (0 = j)) := fun j hj => match j, hj with
  | 0, _ => W.k0_0
  | 1, _ => W.k0_1
  | 2, _ => W.k0_2
  | 3, _ => W.k0_3
  | 4, _ => W.k0_4
  | 5, _ => W.k0_5
  | 6, _ => W.k0_6
  | 7, _ => W.k0_7
  | 8, _ => W.k0_8
  | 9, _ => W.k0_9
  | 10, _ => W.k0_10
  | 11, _ => W.k0_11
theorem Cls.row1 (W : Cls P K mg c0 c1 c2 c3 c4 c5 c6 c7 c8 c9 c10 c11 cJ) : ∀ j, j < 12 → PySem.W.kitOne K (.ref c1) (.ref ([c0, c1, c2, c3, c4, c5, c6, c7, c8, c9, c10, c11].getD j 0)) = some (decide (1 = j)) := fun j hj => match j, hj with
  | 0, _ => W.k1_0
  | 1, _ => W.k1_1
  | 2, _ => W.k1_2
  | 3, _ => W.k1_3
  | 4, _ => W.k1_4
  | 5, _ => W.k1_5
  | 6, _ => W.k1_6
  | 7, _ => W.k1_7
  | 8, _ => W.k1_8
  | 9, _ => W.k1_9
  | 10, _ => W.k1_10
  | 11, _ => W.k1_11
theorem Cls.row2 (W : Cls P K mg c0 c1 c2 c3 c4 c5 c6 c7 c8 c9 c10 c11 cJ) : ∀ j, j < 12 → PySem.W.kitOne K (.ref c2) (.ref ([c0, c1, c2, c3, c4, c5, c6, c7, c8, c9, c10, c11].getD j 0)) = some (decide (2 = j)) := fun j hj => match j, hj with
  | 0, _ => W.k2_0
  | 1, _ => W.k2_1
  | 2, _ => W.k2_2
  | 3, _ => W.k2_3
  | 4, _ => W.k2_4
  | 5, _ => W.k2_5
  | 6, _ => W.k2_6
  | 7, _ => W.k2_7
  | 8, _ => W.k2_8
  | 9, _ => W.k2_9
  | 10, _ => W.k2_10
  | 11, _ => W.k2_11
theorem Cls.row3 (W : Cls P K mg c0 c1 c2 c3 c4 c5 c6 c7 c8 c9 c10 c11 cJ) : ∀ j, j < 12 → PySem.W.kitOne K (.ref c3) (.ref ([c0, c1, c2, c3, c4, c5, c6, c7, c8, c9, c10, c11].getD j 0)) = some (decide (3 = j)) := fun j hj => match j, hj with
  | 0, _ => W.k3_0
  | 1, _ => W.k3_1
  | 2, _ => W.k3_2
  | 3, _ => W.k3_3
  | 4, _ => W.k3_4
  | 5, _ => W.k3_5
  | 6, _ => W.k3_6
  | 7, _ => W.k3_7
  | 8, _ => W.k3_8
  | 9, _ => W.k3_9
  | 10, _ => W.k3_10
  | 11, _ => W.k3_11
theorem Cls.row4 (W : Cls P K mg c0 c1 c2 c3 c4 c5 c6 c7 c8 c9 c10 c11 cJ) : ∀ j, j < 12 → PySem.W.kitOne K (.ref c4) (.ref ([c0, c1, c2, c3, c4, c5, c6, c7, c8, c9, c10, c11].getD j 0)) = some (decide (4 = j)) := fun j hj => match j, hj with
  | 0, _ => W.k4_0
  | 1, _ => W.k4_1
  | 2, _ => W.k4_2
  | 3, _ => W.k4_3
  | 4, _ => W.k4_4
  | 5, _ => W.k4_5
  | 6, _ => W.k4_6
  | 7, _ => W.k4_7
  | 8, _ => W.k4_8
  | 9, _ => W.k4_9
  | 10, _ => W.k4_10
  | 11, _ => W.k4_11
theorem Cls.row5 (W : Cls P K mg c0 c1 c2 c3 c4 c5 c6 c7 c8 c9 c10 c11 cJ) : ∀ j, j < 12 → PySem.W.kitOne K (.ref c5) (.ref ([c0, c1, c2, c3, c4, c5, c6, c7, c8, c9, c10, c11].getD j 0)) = some (decide (5 = j)) := fun j hj => match j, hj with
  | 0, _ => W.k5_0
  | 1, _ => W.k5_1
  | 2, _ => W.k5_2
  | 3, _ => W.k5_3
  | 4, _ => W.k5_4
  | 5, _ => W.k5_5
  | 6, _ => W.k5_6
  | 7, _ => W.k5_7
  | 8, _ => W.k5_8
  | 9, _ => W.k5_9
  | 10, _ => W.k5_10
  | 11, _ => W.k5_11
theorem Cls.row6 (W : Cls P K mg c0 c1 c2 c3 c4 c5 c6 c7 c8 c9 c10 c11 cJ) : ∀ j, j < 12 → PySem.W.kitOne K (.ref c6) (.ref ([c0, c1, c2, c3, c4, c5, c6, c7, c8, c9, c10, c11].getD j 0)) = some (decide (6 = j)) := fun j hj => match j, hj with
  | 0, _ => W.k6_0
  | 1, _ => W.k6_1
  | 2, _ => W.k6_2
  | 3, _ => W.k6_3
  | 4, _ => W.k6_4
  | 5, _ => W.k6_5
  | 6, _ => W.k6_6
  | 7, _ => W.k6_7
  | 8, _ => W.k6_8
  | 9, _ => W.k6_9
  | 10, _ => W.k6_10
  | 11, _ => W.k6_11
theorem Cls.row7 (W : Cls P K mg c0 c1 c2 c3 c4 c5 c6 c7 c8 c9 c10 c11 cJ) : ∀ j, j < 12 → PySem.W.kitOne K (.ref c7) (.ref ([c0, c1, c2, c3, c4, c5, c6, c7, c8, c9, c10, c11].getD j 0)) = some (decide (7 = j)) := fun j hj => match j, hj with
  | 0, _ => W.k7_0
  | 1, _ => W.k7_1
  | 2, _ => W.k7_2
  | 3, _ => W.k7_3
  | 4, _ => W.k7_4
  | 5, _ => W.k7_5
  | 6, _ => W.k7_6
  | 7, _ => W.k7_7
  | 8, _ => W.k7_8
  | 9, _ => W.k7_9
  | 10, _ => W.k7_10
  | 11, _ => W.k7_11
theorem Cls.row8 (W : Cls P K mg c0 c1 c2 c3 c4 c5 c6 c7 c8 c9 c10 c11 cJ) : ∀ j, j < 12 → PySem.W.kitOne K (.ref c8) (.ref ([c0, c1, c2, c3, c4, c5, c6, c7, c8, c9, c10, c11].getD j 0)) = some (decide (8 = j)) := fun j hj => match j, hj with
  | 0, _ => W.k8_0
  | 1, _ => W.k8_1
  | 2, _ => W.k8_2
  | 3, _ => W.k8_3
  | 4, _ => W.k8_4
  | 5, _ => W.k8_5
  | 6, _ => W.k8_6
  | 7, _ => W.k8_7
  | 8, _ => W.k8_8
  | 9, _ => W.k8_9
  | 10, _ => W.k8_10
  | 11, _ => W.k8_11
theorem Cls.row9 (W : Cls P K mg c0 c1 c2 c3 c4 c5 c6 c7 c8 c9 c10 c11 cJ) : ∀ j, j < 12 → PySem.W.kitOne K (.ref c9) (.ref ([c0, c1, c2, c3, c4, c5, c6, c7, c8, c9, c10, c11].getD j 0)) = some (decide (9 = j)) := fun j hj => match j, hj with
  | 0, _ => W.k9_0
  | 1, _ => W.k9_1
  | 2, _ => W.k9_2
  | 3, _ => W.k9_3
  | 4, _ => W.k9_4
  | 5, _ => W.k9_5
  | 6, _ => W.k9_6
  | 7, _ => W.k9_7
  | 8, _ => W.k9_8
  | 9, _ => W.k9_9
  | 10, _ => W.k9_10
  | 11, _ => W.k9_11
theorem Cls.row10 (W : Cls P K mg c0 c1 c2 c3 c4 c5 c6 c7 c8 c9 c10 c11 cJ) : ∀ j, j < 12 → PySem.W.kitOne K (.ref c10) (.ref ([c0, c1, c2, c3, c4, c5, c6, c7, c8, c9, c10, c11].getD j 0)) = some (decide (10 = j)) := fun j hj => match j, hj with
  | 0, _ => W.k10_0
  | 1, _ => W.k10_1
  | 2, _ => W.k10_2
  | 3, _ => W.k10_3
  | 4, _ => W.k10_4
  | 5, _ => W.k10_5
  | 6, _ => W.k10_6
  | 7, _ => W.k10_7
  | 8, _ => W.k10_8
  | 9, _ => W.k10_9
  | 10, _ => W.k10_10
  | 11, _ => W.k10_11
theorem Cls.row11 (W : Cls P K mg c0 c1 c2 c3 c4 c5 c6 c7 c8 c9 c10 c11 cJ) : ∀ j, j < 12 → PySem.W.kitOne K (.ref c11) (.ref ([c0, c1, c2, c3, c4, c5, c6, c7, c8, c9, c10, c11].getD j 0)) = some (decide (11 = j)) := fun j hj => match j, hj with
  | 0, _ => W.k11_0
  | 1, _ => W.k11_1
  | 2, _ => W.k11_2
  | 3, _ => W.k11_3
  | 4, _ => W.k11_4
  | 5, _ => W.k11_5
  | 6, _ => W.k11_6
  | 7, _ => W.k11_7
  | 8, _ => W.k11_8
  | 9, _ => W.k11_9
  | 10, _ => W.k11_10
  | 11, _ => W.k11_11
theorem Cls.kit (W : Cls P K mg c0 c1 c2 c3 c4 c5 c6 c7 c8 c9 c10 c11 cJ) : ∀ i j, i < 12 → j < 12 → PySem.W.kitOne K (.ref ([c0, c1, c2, c3, c4, c5, c6, c7, c8, c9, c10, c11].getD i 0)) (.ref ([c0, c1, c2, c3, c4, c5, c6, c7, c8, c9, c10, c11].getD j 0)) = some (decide (i = j)) := fun i j hi hj => match i, hi with
  | 0, _ => W.row0 j hj
  | 1, _ => W.row1 j hj
  | 2, _ => W.row2 j hj
  | 3, _ => W.row3 j hj
  | 4, _ => W.row4 j hj
  | 5, _ => W.row5 j hj
  | 6, _ => W.row6 j hj
  | 7, _ => W.row7 j hj
  | 8, _ => W.row8 j hj
  | 9, _ => W.row9 j hj
  | 10, _ => W.row10 j hj
  | 11, _ => W.row11 j hj
end
end K00


open PySem PySem.W PyProof.Rows
set_option maxRecDepth 100000 in
set_option maxHeartbeats 0 in
theorem PySem.Challenge.cw_namedmeets_k00_errors_holds : PySem.Challenge.rw_namedmeets_k00_errors.Holds := by
  w_on; o_law; k_head; (case hw => w_witness2)
  k_fill
  refine Nm.walk_ofG (l := PySem.Challenge.rw_namedmeets_k00_errors) (n := 63) (k := 3) (x := "_law_script") (sp := K00.spLaw) rfl (by decide) rfl ⟨rfl, by decide, by decide⟩ (fun w h Y => PySem.W.kIn_of Y) ?F (fun K H a ns _ hS => ⟨a, ns, rfl, hS, fun _ => rfl⟩)
  case F =>
    intro w mg fa h XP KX G hmg
    obtain ⟨apen, fdpen, Dpen⟩ : ∃ a fd, Nm.Df _ mg "_law_pen" K00.spen ["_law_script"] a fd := by
      refine' Nm.df_mk KX G ?n ?l ?c ?k (fun _ _ _ _ _ _ us hl => match us, hl with | [_], _ => rfl)
      (case n => k_is); (case l => k_is); (case c => k_is); (case k => k_is)
    obtain ⟨adraw, fddraw, Ddraw⟩ : ∃ a fd, Nm.Df _ mg "_law_draw" K00.sdraw ["_law_pen_here", "_law_many"] a fd := by
      refine' Nm.df_mk KX G ?n ?l ?c ?k (fun _ _ _ _ _ _ us hl => match us, hl with | [_, _], _ => rfl)
      (case n => k_is); (case l => k_is); (case c => k_is); (case k => k_is)
    obtain ⟨apick, fdpick, Dpick⟩ : ∃ a fd, Nm.Df _ mg "_law_pick" K00.spick ["_law_pen_here", "_law_some"] a fd := by
      refine' Nm.df_mk KX G ?n ?l ?c ?k (fun _ _ _ _ _ _ us hl => match us, hl with | [_, _], _ => rfl)
      (case n => k_is); (case l => k_is); (case c => k_is); (case k => k_is)
    obtain ⟨akinds, fdkinds, Dkinds⟩ : ∃ a fd, Nm.Df _ mg "_law_kinds_of" K00.skinds ["_law_value"] a fd := by
      refine' Nm.df_mk KX G ?n ?l ?c ?k (fun _ _ _ _ _ _ us hl => match us, hl with | [_], _ => rfl)
      (case n => k_is); (case l => k_is); (case c => k_is); (case k => k_is)
    obtain ⟨aeach, fdeach, Deach⟩ : ∃ a fd, Nm.Df _ mg "_law_one_of_each" K00.seach ["_law_a", "_law_b", "_law_c"] a fd := by
      refine' Nm.df_mk KX G ?n ?l ?c ?k (fun _ _ _ _ _ _ us hl => match us, hl with | [_, _, _], _ => rfl)
      (case n => k_is); (case l => k_is); (case c => k_is); (case k => k_is)
    obtain ⟨alaw, fdlaw, Dlaw, Blaw⟩ : ∃ a fd, Nm.Df _ mg "law" K00.slaw ["_law_script"] a fd ∧ ∀ (s : Shared) (us : List Value), us.length = (["_law_script"] : List Str).length → BindsTo s fd ⟨us, []⟩ ((["_law_script"] : List Str).zip us) := by
      refine' Nm.df_mkB KX G ?n ?l ?c ?k (fun _ _ _ _ _ _ us hl => match us, hl with | [_], _ => rfl)
      (case n => k_is); (case l => k_is); (case c => k_is); (case k => k_is)
    obtain ⟨c0, c1, c2, c3, c4, c5, c6, c7, c8, c9, c10, c11, cJ, W⟩ : ∃ c0 c1 c2 c3 c4 c5 c6 c7 c8 c9 c10 c11 cJ : Addr, K00.Cls PySem.Challenge.rw_namedmeets_k00_errors.prog _ mg c0 c1 c2 c3 c4 c5 c6 c7 c8 c9 c10 c11 cJ := by
      refine' ⟨_, _, _, _, _, _, _, _, _, _, _, _, _, { e0 := NmE.err_mk (st := K00.sIni0) KX G ?n0 ?c0 ?hbm0 ?sa0 ?ga0 ?gg0 ?noN0 ?kC0 ?exC0 ?veC0 ?tyC0 ?hdC0 ?opq0 ?own0 ?nsp0 ?iC0 ?tI0 ?lI0 ?hcr0 ?hcc0 ?hcd0 ?hvs0 ?hfile0 ?sup0 ?top0 K00.ini0 (K00.bind0 _), i0 := ⟨?xcl0, ?xga0, ?xgg0, ?xsub0, ?xha0, ?xhn0, ?xht0, ?xhm0⟩, e1 := NmE.err_mk (st := K00.sIni1) KX G ?n1 ?c1 ?hbm1 ?sa1 ?ga1 ?gg1 ?noN1 ?kC1 ?exC1 ?veC1 ?tyC1 ?hdC1 ?opq1 ?own1 ?nsp1 ?iC1 ?tI1 ?lI1 ?hcr1 ?hcc1 ?hcd1 ?hvs1 ?hfile1 ?sup1 ?top1 K00.ini1 (K00.bind1 _), i1 := ⟨?xcl1, ?xga1, ?xgg1, ?xsub1, ?xha1, ?xhn1, ?xht1, ?xhm1⟩, e2 := NmE.err_mk (st := K00.sIni2) KX G ?n2 ?c2 ?hbm2 ?sa2 ?ga2 ?gg2 ?noN2 ?kC2 ?exC2 ?veC2 ?tyC2 ?hdC2 ?opq2 ?own2 ?nsp2 ?iC2 ?tI2 ?lI2 ?hcr2 ?hcc2 ?hcd2 ?hvs2 ?hfile2 ?sup2 ?top2 K00.ini2 (K00.bind2 _), i2 := ⟨?xcl2, ?xga2, ?xgg2, ?xsub2, ?xha2, ?xhn2, ?xht2, ?xhm2⟩, e3 := NmE.err_mk (st := K00.sIni3) KX G ?n3 ?c3 ?hbm3 ?sa3 ?ga3 ?gg3 ?noN3 ?kC3 ?exC3 ?veC3 ?tyC3 ?hdC3 ?opq3 ?own3 ?nsp3 ?iC3 ?tI3 ?lI3 ?hcr3 ?hcc3 ?hcd3 ?hvs3 ?hfile3 ?sup3 ?top3 K00.ini3 (K00.bind3 _), i3 := ⟨?xcl3, ?xga3, ?xgg3, ?xsub3, ?xha3, ?xhn3, ?xht3, ?xhm3⟩, e4 := NmE.err_mk (st := K00.sIni4) KX G ?n4 ?c4 ?hbm4 ?sa4 ?ga4 ?gg4 ?noN4 ?kC4 ?exC4 ?veC4 ?tyC4 ?hdC4 ?opq4 ?own4 ?nsp4 ?iC4 ?tI4 ?lI4 ?hcr4 ?hcc4 ?hcd4 ?hvs4 ?hfile4 ?sup4 ?top4 K00.ini4 (K00.bind4 _), i4 := ⟨?xcl4, ?xga4, ?xgg4, ?xsub4, ?xha4, ?xhn4, ?xht4, ?xhm4⟩, e5 := NmE.err_mk (st := K00.sIni5) KX G ?n5 ?c5 ?hbm5 ?sa5 ?ga5 ?gg5 ?noN5 ?kC5 ?exC5 ?veC5 ?tyC5 ?hdC5 ?opq5 ?own5 ?nsp5 ?iC5 ?tI5 ?lI5 ?hcr5 ?hcc5 ?hcd5 ?hvs5 ?hfile5 ?sup5 ?top5 K00.ini5 (K00.bind5 _), i5 := ⟨?xcl5, ?xga5, ?xgg5, ?xsub5, ?xha5, ?xhn5, ?xht5, ?xhm5⟩, e6 := NmE.err_mk (st := K00.sIni6) KX G ?n6 ?c6 ?hbm6 ?sa6 ?ga6 ?gg6 ?noN6 ?kC6 ?exC6 ?veC6 ?tyC6 ?hdC6 ?opq6 ?own6 ?nsp6 ?iC6 ?tI6 ?lI6 ?hcr6 ?hcc6 ?hcd6 ?hvs6 ?hfile6 ?sup6 ?top6 K00.ini6 (K00.bind6 _), i6 := ⟨?xcl6, ?xga6, ?xgg6, ?xsub6, ?xha6, ?xhn6, ?xht6, ?xhm6⟩, e7 := NmE.err_mk (st := K00.sIni7) KX G ?n7 ?c7 ?hbm7 ?sa7 ?ga7 ?gg7 ?noN7 ?kC7 ?exC7 ?veC7 ?tyC7 ?hdC7 ?opq7 ?own7 ?nsp7 ?iC7 ?tI7 ?lI7 ?hcr7 ?hcc7 ?hcd7 ?hvs7 ?hfile7 ?sup7 ?top7 K00.ini7 (K00.bind7 _), i7 := ⟨?xcl7, ?xga7, ?xgg7, ?xsub7, ?xha7, ?xhn7, ?xht7, ?xhm7⟩, e8 := NmE.err_mk (st := K00.sIni8) KX G ?n8 ?c8 ?hbm8 ?sa8 ?ga8 ?gg8 ?noN8 ?kC8 ?exC8 ?veC8 ?tyC8 ?hdC8 ?opq8 ?own8 ?nsp8 ?iC8 ?tI8 ?lI8 ?hcr8 ?hcc8 ?hcd8 ?hvs8 ?hfile8 ?sup8 ?top8 K00.ini8 (K00.bind8 _), i8 := ⟨?xcl8, ?xga8, ?xgg8, ?xsub8, ?xha8, ?xhn8, ?xht8, ?xhm8⟩, e9 := NmE.err_mk (st := K00.sIni9) KX G ?n9 ?c9 ?hbm9 ?sa9 ?ga9 ?gg9 ?noN9 ?kC9 ?exC9 ?veC9 ?tyC9 ?hdC9 ?opq9 ?own9 ?nsp9 ?iC9 ?tI9 ?lI9 ?hcr9 ?hcc9 ?hcd9 ?hvs9 ?hfile9 ?sup9 ?top9 K00.ini9 (K00.bind9 _), i9 := ⟨?xcl9, ?xga9, ?xgg9, ?xsub9, ?xha9, ?xhn9, ?xht9, ?xhm9⟩, e10 := NmE.err_mk (st := K00.sIni10) KX G ?n10 ?c10 ?hbm10 ?sa10 ?ga10 ?gg10 ?noN10 ?kC10 ?exC10 ?veC10 ?tyC10 ?hdC10 ?opq10 ?own10 ?nsp10 ?iC10 ?tI10 ?lI10 ?hcr10 ?hcc10 ?hcd10 ?hvs10 ?hfile10 ?sup10 ?top10 K00.ini10 (K00.bind10 _), i10 := ⟨?xcl10, ?xga10, ?xgg10, ?xsub10, ?xha10, ?xhn10, ?xht10, ?xhm10⟩, e11 := NmE.err_mk (st := K00.sIni11) KX G ?n11 ?c11 ?hbm11 ?sa11 ?ga11 ?gg11 ?noN11 ?kC11 ?exC11 ?veC11 ?tyC11 ?hdC11 ?opq11 ?own11 ?nsp11 ?iC11 ?tI11 ?lI11 ?hcr11 ?hcc11 ?hcd11 ?hvs11 ?hfile11 ?sup11 ?top11 K00.ini11 (K00.bind11 _), i11 := ⟨?xcl11, ?xga11, ?xgg11, ?xsub11, ?xha11, ?xhn11, ?xht11, ?xhm11⟩, gJ := PySem.W.mg_of KX G ?nJ, j0 := ?j0, v0 := ?v0, k0_0 := ?k0_0, k0_1 := ?k0_1, k0_2 := ?k0_2, k0_3 := ?k0_3, k0_4 := ?k0_4, k0_5 := ?k0_5, k0_6 := ?k0_6, k0_7 := ?k0_7, k0_8 := ?k0_8, k0_9 := ?k0_9, k0_10 := ?k0_10, k0_11 := ?k0_11, j1 := ?j1, v1 := ?v1, k1_0 := ?k1_0, k1_1 := ?k1_1, k1_2 := ?k1_2, k1_3 := ?k1_3, k1_4 := ?k1_4, k1_5 := ?k1_5, k1_6 := ?k1_6, k1_7 := ?k1_7, k1_8 := ?k1_8, k1_9 := ?k1_9, k1_10 := ?k1_10, k1_11 := ?k1_11, j2 := ?j2, v2 := ?v2, k2_0 := ?k2_0, k2_1 := ?k2_1, k2_2 := ?k2_2, k2_3 := ?k2_3, k2_4 := ?k2_4, k2_5 := ?k2_5, k2_6 := ?k2_6, k2_7 := ?k2_7, k2_8 := ?k2_8, k2_9 := ?k2_9, k2_10 := ?k2_10, k2_11 := ?k2_11, j3 := ?j3, v3 := ?v3, k3_0 := ?k3_0, k3_1 := ?k3_1, k3_2 := ?k3_2, k3_3 := ?k3_3, k3_4 := ?k3_4, k3_5 := ?k3_5, k3_6 := ?k3_6, k3_7 := ?k3_7, k3_8 := ?k3_8, k3_9 := ?k3_9, k3_10 := ?k3_10, k3_11 := ?k3_11, j4 := ?j4, v4 := ?v4, k4_0 := ?k4_0, k4_1 := ?k4_1, k4_2 := ?k4_2, k4_3 := ?k4_3, k4_4 := ?k4_4, k4_5 := ?k4_5, k4_6 := ?k4_6, k4_7 := ?k4_7, k4_8 := ?k4_8, k4_9 := ?k4_9, k4_10 := ?k4_10, k4_11 := ?k4_11, j5 := ?j5, v5 := ?v5, k5_0 := ?k5_0, k5_1 := ?k5_1, k5_2 := ?k5_2, k5_3 := ?k5_3, k5_4 := ?k5_4, k5_5 := ?k5_5, k5_6 := ?k5_6, k5_7 := ?k5_7, k5_8 := ?k5_8, k5_9 := ?k5_9, k5_10 := ?k5_10, k5_11 := ?k5_11, j6 := ?j6, v6 := ?v6, k6_0 := ?k6_0, k6_1 := ?k6_1, k6_2 := ?k6_2, k6_3 := ?k6_3, k6_4 := ?k6_4, k6_5 := ?k6_5, k6_6 := ?k6_6, k6_7 := ?k6_7, k6_8 := ?k6_8, k6_9 := ?k6_9, k6_10 := ?k6_10, k6_11 := ?k6_11, j7 := ?j7, v7 := ?v7, k7_0 := ?k7_0, k7_1 := ?k7_1, k7_2 := ?k7_2, k7_3 := ?k7_3, k7_4 := ?k7_4, k7_5 := ?k7_5, k7_6 := ?k7_6, k7_7 := ?k7_7, k7_8 := ?k7_8, k7_9 := ?k7_9, k7_10 := ?k7_10, k7_11 := ?k7_11, j8 := ?j8, v8 := ?v8, k8_0 := ?k8_0, k8_1 := ?k8_1, k8_2 := ?k8_2, k8_3 := ?k8_3, k8_4 := ?k8_4, k8_5 := ?k8_5, k8_6 := ?k8_6, k8_7 := ?k8_7, k8_8 := ?k8_8, k8_9 := ?k8_9, k8_10 := ?k8_10, k8_11 := ?k8_11, j9 := ?j9, v9 := ?v9, k9_0 := ?k9_0, k9_1 := ?k9_1, k9_2 := ?k9_2, k9_3 := ?k9_3, k9_4 := ?k9_4, k9_5 := ?k9_5, k9_6 := ?k9_6, k9_7 := ?k9_7, k9_8 := ?k9_8, k9_9 := ?k9_9, k9_10 := ?k9_10, k9_11 := ?k9_11, j10 := ?j10, v10 := ?v10, k10_0 := ?k10_0, k10_1 := ?k10_1, k10_2 := ?k10_2, k10_3 := ?k10_3, k10_4 := ?k10_4, k10_5 := ?k10_5, k10_6 := ?k10_6, k10_7 := ?k10_7, k10_8 := ?k10_8, k10_9 := ?k10_9, k10_10 := ?k10_10, k10_11 := ?k10_11, j11 := ?j11, v11 := ?v11, k11_0 := ?k11_0, k11_1 := ?k11_1, k11_2 := ?k11_2, k11_3 := ?k11_3, k11_4 := ?k11_4, k11_5 := ?k11_5, k11_6 := ?k11_6, k11_7 := ?k11_7, k11_8 := ?k11_8, k11_9 := ?k11_9, k11_10 := ?k11_10, k11_11 := ?k11_11 }⟩
      (case n0 => k_is)
      (case c0 => k_is)
      (case hbm0 => decide +kernel)
      (case sa0 => k_is)
      (case ga0 => k_is)
      (case gg0 => k_is)
      (case noN0 => intro f hf; rcases List.mem_cons.mp hf with rfl | hf; (· k_is); rcases List.mem_cons.mp hf with rfl | hf; (· k_is); cases hf)
      (case kC0 => k_is)
      (case exC0 => k_is)
      (case veC0 => k_is)
      (case tyC0 => k_is)
      (case hdC0 => k_is)
      (case opq0 => k_is)
      (case own0 => k_is)
      (case nsp0 => k_is)
      (case iC0 => k_is)
      (case tI0 => k_is)
      (case lI0 =>
        refine' NmE.fn_split ?h ?e1 ?e2 ?e3 ?e4 ?e5 ?e6 ?e7
        (case h => k_is); (case e1 => rfl); (case e2 => rfl); (case e3 => rfl); (case e4 => rfl); (case e5 => rfl); (case e6 => rfl); (case e7 => rfl))
      (case hcr0 => k_is)
      (case hcc0 => k_is)
      (case hcd0 => k_is)
      (case hvs0 => rfl)
      (case hfile0 => first | rfl | decide +kernel)
      (case sup0 => ks_is)
      (case top0 => first | rfl | decide +kernel)
      (case xcl0 => first | rfl | decide +kernel | k_is)
      (case xga0 => k_is)
      (case xgg0 => k_is)
      (case xsub0 => k_is)
      (case xha0 => k_is)
      (case xhn0 => k_is)
      (case xht0 => k_is)
      (case xhm0 => k_is)
      (case n1 => k_is)
      (case c1 => k_is)
      (case hbm1 => decide +kernel)
      (case sa1 => k_is)
      (case ga1 => k_is)
      (case gg1 => k_is)
      (case noN1 => intro f hf; rcases List.mem_cons.mp hf with rfl | hf; (· k_is); rcases List.mem_cons.mp hf with rfl | hf; (· k_is); cases hf)
      (case kC1 => k_is)
      (case exC1 => k_is)
      (case veC1 => k_is)
      (case tyC1 => k_is)
      (case hdC1 => k_is)
      (case opq1 => k_is)
      (case own1 => k_is)
      (case nsp1 => k_is)
      (case iC1 => k_is)
      (case tI1 => k_is)
      (case lI1 =>
        refine' NmE.fn_split ?h ?e1 ?e2 ?e3 ?e4 ?e5 ?e6 ?e7
        (case h => k_is); (case e1 => rfl); (case e2 => rfl); (case e3 => rfl); (case e4 => rfl); (case e5 => rfl); (case e6 => rfl); (case e7 => rfl))
      (case hcr1 => k_is)
      (case hcc1 => k_is)
      (case hcd1 => k_is)
      (case hvs1 => rfl)
      (case hfile1 => first | rfl | decide +kernel)
      (case sup1 => ks_is)
      (case top1 => first | rfl | decide +kernel)
      (case xcl1 => first | rfl | decide +kernel | k_is)
      (case xga1 => k_is)
      (case xgg1 => k_is)
      (case xsub1 => k_is)
      (case xha1 => k_is)
      (case xhn1 => k_is)
      (case xht1 => k_is)
      (case xhm1 => k_is)
      (case n2 => k_is)
      (case c2 => k_is)
      (case hbm2 => decide +kernel)
      (case sa2 => k_is)
      (case ga2 => k_is)
      (case gg2 => k_is)
      (case noN2 => intro f hf; rcases List.mem_cons.mp hf with rfl | hf; (· k_is); rcases List.mem_cons.mp hf with rfl | hf; (· k_is); cases hf)
      (case kC2 => k_is)
      (case exC2 => k_is)
      (case veC2 => k_is)
      (case tyC2 => k_is)
      (case hdC2 => k_is)
      (case opq2 => k_is)
      (case own2 => k_is)
      (case nsp2 => k_is)
      (case iC2 => k_is)
      (case tI2 => k_is)
      (case lI2 =>
        refine' NmE.fn_split ?h ?e1 ?e2 ?e3 ?e4 ?e5 ?e6 ?e7
        (case h => k_is); (case e1 => rfl); (case e2 => rfl); (case e3 => rfl); (case e4 => rfl); (case e5 => rfl); (case e6 => rfl); (case e7 => rfl))
      (case hcr2 => k_is)
      (case hcc2 => k_is)
      (case hcd2 => k_is)
      (case hvs2 => rfl)
      (case hfile2 => first | rfl | decide +kernel)
      (case sup2 => ks_is)
      (case top2 => first | rfl | decide +kernel)
      (case xcl2 => first | rfl | decide +kernel | k_is)
      (case xga2 => k_is)
      (case xgg2 => k_is)
      (case xsub2 => k_is)
      (case xha2 => k_is)
      (case xhn2 => k_is)
      (case xht2 => k_is)
      (case xhm2 => k_is)
      (case n3 => k_is)
      (case c3 => k_is)
      (case hbm3 => decide +kernel)
      (case sa3 => k_is)
      (case ga3 => k_is)
      (case gg3 => k_is)
      (case noN3 => intro f hf; rcases List.mem_cons.mp hf with rfl | hf; (· k_is); cases hf)
      (case kC3 => k_is)
      (case exC3 => k_is)
      (case veC3 => k_is)
      (case tyC3 => k_is)
      (case hdC3 => k_is)
      (case opq3 => k_is)
      (case own3 => k_is)
      (case nsp3 => k_is)
      (case iC3 => k_is)
      (case tI3 => k_is)
      (case lI3 =>
        refine' NmE.fn_split ?h ?e1 ?e2 ?e3 ?e4 ?e5 ?e6 ?e7
        (case h => k_is); (case e1 => rfl); (case e2 => rfl); (case e3 => rfl); (case e4 => rfl); (case e5 => rfl); (case e6 => rfl); (case e7 => rfl))
      (case hcr3 => k_is)
      (case hcc3 => k_is)
      (case hcd3 => k_is)
      (case hvs3 => rfl)
      (case hfile3 => first | rfl | decide +kernel)
      (case sup3 => ks_is)
      (case top3 => first | rfl | decide +kernel)
      (case xcl3 => first | rfl | decide +kernel | k_is)
      (case xga3 => k_is)
      (case xgg3 => k_is)
      (case xsub3 => k_is)
      (case xha3 => k_is)
      (case xhn3 => k_is)
      (case xht3 => k_is)
      (case xhm3 => k_is)
      (case n4 => k_is)
      (case c4 => k_is)
      (case hbm4 => decide +kernel)
      (case sa4 => k_is)
      (case ga4 => k_is)
      (case gg4 => k_is)
      (case noN4 => intro f hf; rcases List.mem_cons.mp hf with rfl | hf; (· k_is); cases hf)
      (case kC4 => k_is)
      (case exC4 => k_is)
      (case veC4 => k_is)
      (case tyC4 => k_is)
      (case hdC4 => k_is)
      (case opq4 => k_is)
      (case own4 => k_is)
      (case nsp4 => k_is)
      (case iC4 => k_is)
      (case tI4 => k_is)
      (case lI4 =>
        refine' NmE.fn_split ?h ?e1 ?e2 ?e3 ?e4 ?e5 ?e6 ?e7
        (case h => k_is); (case e1 => rfl); (case e2 => rfl); (case e3 => rfl); (case e4 => rfl); (case e5 => rfl); (case e6 => rfl); (case e7 => rfl))
      (case hcr4 => k_is)
      (case hcc4 => k_is)
      (case hcd4 => k_is)
      (case hvs4 => rfl)
      (case hfile4 => first | rfl | decide +kernel)
      (case sup4 => ks_is)
      (case top4 => first | rfl | decide +kernel)
      (case xcl4 => first | rfl | decide +kernel | k_is)
      (case xga4 => k_is)
      (case xgg4 => k_is)
      (case xsub4 => k_is)
      (case xha4 => k_is)
      (case xhn4 => k_is)
      (case xht4 => k_is)
      (case xhm4 => k_is)
      (case n5 => k_is)
      (case c5 => k_is)
      (case hbm5 => decide +kernel)
      (case sa5 => k_is)
      (case ga5 => k_is)
      (case gg5 => k_is)
      (case noN5 => intro f hf; rcases List.mem_cons.mp hf with rfl | hf; (· k_is); cases hf)
      (case kC5 => k_is)
      (case exC5 => k_is)
      (case veC5 => k_is)
      (case tyC5 => k_is)
      (case hdC5 => k_is)
      (case opq5 => k_is)
      (case own5 => k_is)
      (case nsp5 => k_is)
      (case iC5 => k_is)
      (case tI5 => k_is)
      (case lI5 =>
        refine' NmE.fn_split ?h ?e1 ?e2 ?e3 ?e4 ?e5 ?e6 ?e7
        (case h => k_is); (case e1 => rfl); (case e2 => rfl); (case e3 => rfl); (case e4 => rfl); (case e5 => rfl); (case e6 => rfl); (case e7 => rfl))
      (case hcr5 => k_is)
      (case hcc5 => k_is)
      (case hcd5 => k_is)
      (case hvs5 => rfl)
      (case hfile5 => first | rfl | decide +kernel)
      (case sup5 => ks_is)
      (case top5 => first | rfl | decide +kernel)
      (case xcl5 => first | rfl | decide +kernel | k_is)
      (case xga5 => k_is)
      (case xgg5 => k_is)
      (case xsub5 => k_is)
      (case xha5 => k_is)
      (case xhn5 => k_is)
      (case xht5 => k_is)
      (case xhm5 => k_is)
      (case n6 => k_is)
      (case c6 => k_is)
      (case hbm6 => decide +kernel)
      (case sa6 => k_is)
      (case ga6 => k_is)
      (case gg6 => k_is)
      (case noN6 => intro f hf; rcases List.mem_cons.mp hf with rfl | hf; (· k_is); rcases List.mem_cons.mp hf with rfl | hf; (· k_is); cases hf)
      (case kC6 => k_is)
      (case exC6 => k_is)
      (case veC6 => k_is)
      (case tyC6 => k_is)
      (case hdC6 => k_is)
      (case opq6 => k_is)
      (case own6 => k_is)
      (case nsp6 => k_is)
      (case iC6 => k_is)
      (case tI6 => k_is)
      (case lI6 =>
        refine' NmE.fn_split ?h ?e1 ?e2 ?e3 ?e4 ?e5 ?e6 ?e7
        (case h => k_is); (case e1 => rfl); (case e2 => rfl); (case e3 => rfl); (case e4 => rfl); (case e5 => rfl); (case e6 => rfl); (case e7 => rfl))
      (case hcr6 => k_is)
      (case hcc6 => k_is)
      (case hcd6 => k_is)
      (case hvs6 => rfl)
      (case hfile6 => first | rfl | decide +kernel)
      (case sup6 => ks_is)
      (case top6 => first | rfl | decide +kernel)
      (case xcl6 => first | rfl | decide +kernel | k_is)
      (case xga6 => k_is)
      (case xgg6 => k_is)
      (case xsub6 => k_is)
      (case xha6 => k_is)
      (case xhn6 => k_is)
      (case xht6 => k_is)
      (case xhm6 => k_is)
      (case n7 => k_is)
      (case c7 => k_is)
      (case hbm7 => decide +kernel)
      (case sa7 => k_is)
      (case ga7 => k_is)
      (case gg7 => k_is)
      (case noN7 => intro f hf; rcases List.mem_cons.mp hf with rfl | hf; (· k_is); rcases List.mem_cons.mp hf with rfl | hf; (· k_is); rcases List.mem_cons.mp hf with rfl | hf; (· k_is); cases hf)
      (case kC7 => k_is)
      (case exC7 => k_is)
      (case veC7 => k_is)
      (case tyC7 => k_is)
      (case hdC7 => k_is)
      (case opq7 => k_is)
      (case own7 => k_is)
      (case nsp7 => k_is)
      (case iC7 => k_is)
      (case tI7 => k_is)
      (case lI7 =>
        refine' NmE.fn_split ?h ?e1 ?e2 ?e3 ?e4 ?e5 ?e6 ?e7
        (case h => k_is); (case e1 => rfl); (case e2 => rfl); (case e3 => rfl); (case e4 => rfl); (case e5 => rfl); (case e6 => rfl); (case e7 => rfl))
      (case hcr7 => k_is)
      (case hcc7 => k_is)
      (case hcd7 => k_is)
      (case hvs7 => rfl)
      (case hfile7 => first | rfl | decide +kernel)
      (case sup7 => ks_is)
      (case top7 => first | rfl | decide +kernel)
      (case xcl7 => first | rfl | decide +kernel | k_is)
      (case xga7 => k_is)
      (case xgg7 => k_is)
      (case xsub7 => k_is)
      (case xha7 => k_is)
      (case xhn7 => k_is)
      (case xht7 => k_is)
      (case xhm7 => k_is)
      (case n8 => k_is)
      (case c8 => k_is)
      (case hbm8 => decide +kernel)
      (case sa8 => k_is)
      (case ga8 => k_is)
      (case gg8 => k_is)
      (case noN8 => intro f hf; rcases List.mem_cons.mp hf with rfl | hf; (· k_is); cases hf)
      (case kC8 => k_is)
      (case exC8 => k_is)
      (case veC8 => k_is)
      (case tyC8 => k_is)
      (case hdC8 => k_is)
      (case opq8 => k_is)
      (case own8 => k_is)
      (case nsp8 => k_is)
      (case iC8 => k_is)
      (case tI8 => k_is)
      (case lI8 =>
        refine' NmE.fn_split ?h ?e1 ?e2 ?e3 ?e4 ?e5 ?e6 ?e7
        (case h => k_is); (case e1 => rfl); (case e2 => rfl); (case e3 => rfl); (case e4 => rfl); (case e5 => rfl); (case e6 => rfl); (case e7 => rfl))
      (case hcr8 => k_is)
      (case hcc8 => k_is)
      (case hcd8 => k_is)
      (case hvs8 => rfl)
      (case hfile8 => first | rfl | decide +kernel)
      (case sup8 => ks_is)
      (case top8 => first | rfl | decide +kernel)
      (case xcl8 => first | rfl | decide +kernel | k_is)
      (case xga8 => k_is)
      (case xgg8 => k_is)
      (case xsub8 => k_is)
      (case xha8 => k_is)
      (case xhn8 => k_is)
      (case xht8 => k_is)
      (case xhm8 => k_is)
      (case n9 => k_is)
      (case c9 => k_is)
      (case hbm9 => decide +kernel)
      (case sa9 => k_is)
      (case ga9 => k_is)
      (case gg9 => k_is)
      (case noN9 => intro f hf; rcases List.mem_cons.mp hf with rfl | hf; (· k_is); rcases List.mem_cons.mp hf with rfl | hf; (· k_is); cases hf)
      (case kC9 => k_is)
      (case exC9 => k_is)
      (case veC9 => k_is)
      (case tyC9 => k_is)
      (case hdC9 => k_is)
      (case opq9 => k_is)
      (case own9 => k_is)
      (case nsp9 => k_is)
      (case iC9 => k_is)
      (case tI9 => k_is)
      (case lI9 =>
        refine' NmE.fn_split ?h ?e1 ?e2 ?e3 ?e4 ?e5 ?e6 ?e7
        (case h => k_is); (case e1 => rfl); (case e2 => rfl); (case e3 => rfl); (case e4 => rfl); (case e5 => rfl); (case e6 => rfl); (case e7 => rfl))
      (case hcr9 => k_is)
      (case hcc9 => k_is)
      (case hcd9 => k_is)
      (case hvs9 => rfl)
      (case hfile9 => first | rfl | decide +kernel)
      (case sup9 => ks_is)
      (case top9 => first | rfl | decide +kernel)
      (case xcl9 => first | rfl | decide +kernel | k_is)
      (case xga9 => k_is)
      (case xgg9 => k_is)
      (case xsub9 => k_is)
      (case xha9 => k_is)
      (case xhn9 => k_is)
      (case xht9 => k_is)
      (case xhm9 => k_is)
      (case n10 => k_is)
      (case c10 => k_is)
      (case hbm10 => decide +kernel)
      (case sa10 => k_is)
      (case ga10 => k_is)
      (case gg10 => k_is)
      (case noN10 => intro f hf; cases hf)
      (case kC10 => k_is)
      (case exC10 => k_is)
      (case veC10 => k_is)
      (case tyC10 => k_is)
      (case hdC10 => k_is)
      (case opq10 => k_is)
      (case own10 => k_is)
      (case nsp10 => k_is)
      (case iC10 => k_is)
      (case tI10 => k_is)
      (case lI10 =>
        refine' NmE.fn_split ?h ?e1 ?e2 ?e3 ?e4 ?e5 ?e6 ?e7
        (case h => k_is); (case e1 => rfl); (case e2 => rfl); (case e3 => rfl); (case e4 => rfl); (case e5 => rfl); (case e6 => rfl); (case e7 => rfl))
      (case hcr10 => k_is)
      (case hcc10 => k_is)
      (case hcd10 => k_is)
      (case hvs10 => rfl)
      (case hfile10 => first | rfl | decide +kernel)
      (case sup10 => ks_is)
      (case top10 => first | rfl | decide +kernel)
      (case xcl10 => first | rfl | decide +kernel | k_is)
      (case xga10 => k_is)
      (case xgg10 => k_is)
      (case xsub10 => k_is)
      (case xha10 => k_is)
      (case xhn10 => k_is)
      (case xht10 => k_is)
      (case xhm10 => k_is)
      (case n11 => k_is)
      (case c11 => k_is)
      (case hbm11 => decide +kernel)
      (case sa11 => k_is)
      (case ga11 => k_is)
      (case gg11 => k_is)
      (case noN11 => intro f hf; cases hf)
      (case kC11 => k_is)
      (case exC11 => k_is)
      (case veC11 => k_is)
      (case tyC11 => k_is)
      (case hdC11 => k_is)
      (case opq11 => k_is)
      (case own11 => k_is)
      (case nsp11 => k_is)
      (case iC11 => k_is)
      (case tI11 => k_is)
      (case lI11 =>
        refine' NmE.fn_split ?h ?e1 ?e2 ?e3 ?e4 ?e5 ?e6 ?e7
        (case h => k_is); (case e1 => rfl); (case e2 => rfl); (case e3 => rfl); (case e4 => rfl); (case e5 => rfl); (case e6 => rfl); (case e7 => rfl))
      (case hcr11 => k_is)
      (case hcc11 => k_is)
      (case hcd11 => k_is)
      (case hvs11 => rfl)
      (case hfile11 => first | rfl | decide +kernel)
      (case sup11 => ks_is)
      (case top11 => first | rfl | decide +kernel)
      (case xcl11 => first | rfl | decide +kernel | k_is)
      (case xga11 => k_is)
      (case xgg11 => k_is)
      (case xsub11 => k_is)
      (case xha11 => k_is)
      (case xhn11 => k_is)
      (case xht11 => k_is)
      (case xhm11 => k_is)
      (case nJ => k_is)
      (case j0 => kit_is); (case v0 => kit_is)
      (case k0_0 => kit_is); (case k0_1 => kit_is); (case k0_2 => kit_is); (case k0_3 => kit_is); (case k0_4 => kit_is); (case k0_5 => kit_is); (case k0_6 => kit_is); (case k0_7 => kit_is); (case k0_8 => kit_is); (case k0_9 => kit_is); (case k0_10 => kit_is); (case k0_11 => kit_is)
      (case j1 => kit_is); (case v1 => kit_is)
      (case k1_0 => kit_is); (case k1_1 => kit_is); (case k1_2 => kit_is); (case k1_3 => kit_is); (case k1_4 => kit_is); (case k1_5 => kit_is); (case k1_6 => kit_is); (case k1_7 => kit_is); (case k1_8 => kit_is); (case k1_9 => kit_is); (case k1_10 => kit_is); (case k1_11 => kit_is)
      (case j2 => kit_is); (case v2 => kit_is)
      (case k2_0 => kit_is); (case k2_1 => kit_is); (case k2_2 => kit_is); (case k2_3 => kit_is); (case k2_4 => kit_is); (case k2_5 => kit_is); (case k2_6 => kit_is); (case k2_7 => kit_is); (case k2_8 => kit_is); (case k2_9 => kit_is); (case k2_10 => kit_is); (case k2_11 => kit_is)
      (case j3 => kit_is); (case v3 => kit_is)
      (case k3_0 => kit_is); (case k3_1 => kit_is); (case k3_2 => kit_is); (case k3_3 => kit_is); (case k3_4 => kit_is); (case k3_5 => kit_is); (case k3_6 => kit_is); (case k3_7 => kit_is); (case k3_8 => kit_is); (case k3_9 => kit_is); (case k3_10 => kit_is); (case k3_11 => kit_is)
      (case j4 => kit_is); (case v4 => kit_is)
      (case k4_0 => kit_is); (case k4_1 => kit_is); (case k4_2 => kit_is); (case k4_3 => kit_is); (case k4_4 => kit_is); (case k4_5 => kit_is); (case k4_6 => kit_is); (case k4_7 => kit_is); (case k4_8 => kit_is); (case k4_9 => kit_is); (case k4_10 => kit_is); (case k4_11 => kit_is)
      (case j5 => kit_is); (case v5 => kit_is)
      (case k5_0 => kit_is); (case k5_1 => kit_is); (case k5_2 => kit_is); (case k5_3 => kit_is); (case k5_4 => kit_is); (case k5_5 => kit_is); (case k5_6 => kit_is); (case k5_7 => kit_is); (case k5_8 => kit_is); (case k5_9 => kit_is); (case k5_10 => kit_is); (case k5_11 => kit_is)
      (case j6 => kit_is); (case v6 => kit_is)
      (case k6_0 => kit_is); (case k6_1 => kit_is); (case k6_2 => kit_is); (case k6_3 => kit_is); (case k6_4 => kit_is); (case k6_5 => kit_is); (case k6_6 => kit_is); (case k6_7 => kit_is); (case k6_8 => kit_is); (case k6_9 => kit_is); (case k6_10 => kit_is); (case k6_11 => kit_is)
      (case j7 => kit_is); (case v7 => kit_is)
      (case k7_0 => kit_is); (case k7_1 => kit_is); (case k7_2 => kit_is); (case k7_3 => kit_is); (case k7_4 => kit_is); (case k7_5 => kit_is); (case k7_6 => kit_is); (case k7_7 => kit_is); (case k7_8 => kit_is); (case k7_9 => kit_is); (case k7_10 => kit_is); (case k7_11 => kit_is)
      (case j8 => kit_is); (case v8 => kit_is)
      (case k8_0 => kit_is); (case k8_1 => kit_is); (case k8_2 => kit_is); (case k8_3 => kit_is); (case k8_4 => kit_is); (case k8_5 => kit_is); (case k8_6 => kit_is); (case k8_7 => kit_is); (case k8_8 => kit_is); (case k8_9 => kit_is); (case k8_10 => kit_is); (case k8_11 => kit_is)
      (case j9 => kit_is); (case v9 => kit_is)
      (case k9_0 => kit_is); (case k9_1 => kit_is); (case k9_2 => kit_is); (case k9_3 => kit_is); (case k9_4 => kit_is); (case k9_5 => kit_is); (case k9_6 => kit_is); (case k9_7 => kit_is); (case k9_8 => kit_is); (case k9_9 => kit_is); (case k9_10 => kit_is); (case k9_11 => kit_is)
      (case j10 => kit_is); (case v10 => kit_is)
      (case k10_0 => kit_is); (case k10_1 => kit_is); (case k10_2 => kit_is); (case k10_3 => kit_is); (case k10_4 => kit_is); (case k10_5 => kit_is); (case k10_6 => kit_is); (case k10_7 => kit_is); (case k10_8 => kit_is); (case k10_9 => kit_is); (case k10_10 => kit_is); (case k10_11 => kit_is)
      (case j11 => kit_is); (case v11 => kit_is)
      (case k11_0 => kit_is); (case k11_1 => kit_is); (case k11_2 => kit_is); (case k11_3 => kit_is); (case k11_4 => kit_is); (case k11_5 => kit_is); (case k11_6 => kit_is); (case k11_7 => kit_is); (case k11_8 => kit_is); (case k11_9 => kit_is); (case k11_10 => kit_is); (case k11_11 => kit_is)
    have n_len : mg "len" = none := by
      refine' PySem.W.mg_none_of KX G ?n
      (case n => k_is)
    have n_enumerate : mg "enumerate" = none := by
      refine' PySem.W.mg_none_of KX G ?n
      (case n => k_is)
    have n_list : mg "list" = none := by
      refine' PySem.W.mg_none_of KX G ?n
      (case n => k_is)
    have n_int : mg "int" = none := by
      refine' PySem.W.mg_none_of KX G ?n
      (case n => k_is)
    have n_range : mg "range" = none := by
      refine' PySem.W.mg_none_of KX G ?n
      (case n => k_is)
    have n_isinstance : mg "isinstance" = none := by
      refine' PySem.W.mg_none_of KX G ?n
      (case n => k_is)
    have n_repr : mg "repr" = none := by
      refine' PySem.W.mg_none_of KX G ?n
      (case n => k_is)
    have n_ValueError : mg "ValueError" = none := by
      refine' PySem.W.mg_none_of KX G ?n
      (case n => k_is)
    have n_super : mg "super" = none := by
      refine' PySem.W.mg_none_of KX G ?n
      (case n => k_is)
    have e : fa = alaw := Value.ref.inj (Option.some.inj (hmg.symm.trans Dlaw.g))
    subst e
    exact ⟨_, fun s v => Blaw s [v] rfl, fun base _ _ => K00.ok_law { apen := apen, fdpen := fdpen, Dpen := Dpen, adraw := adraw, fddraw := fddraw, Ddraw := Ddraw, apick := apick, fdpick := fdpick, Dpick := Dpick, akinds := akinds, fdkinds := fdkinds, Dkinds := Dkinds, aeach := aeach, fdeach := fdeach, Deach := Deach, alaw := fa, fdlaw := fdlaw, Dlaw := Dlaw, n_len := n_len, n_enumerate := n_enumerate, n_list := n_list, n_int := n_int, n_range := n_range, n_isinstance := n_isinstance, n_repr := n_repr, n_ValueError := n_ValueError, n_super := n_super, CBadText := c0, EBadText := W.e0, CBadProgram := c1, EBadProgram := W.e1, CBadValue := c2, EBadValue := W.e2, CBadName := c3, EBadName := W.e3, CNoName := c4, ENoName := W.e4, CTakenName := c5, ETakenName := W.e5, CBadNumber := c6, EBadNumber := W.e6, CTooMany := c7, ETooMany := W.e7, CBadNet := c8, EBadNet := W.e8, CNotKept := c9, ENotKept := W.e9, CNothingToUndo := c10, ENothingToUndo := W.e10, CNothingToRedo := c11, ENothingToRedo := W.e11, CJ := cJ, gJ := W.gJ, ix := W.ix, kit := W.kit, kitJ := W.kitJ, kitV := W.kitV }⟩


