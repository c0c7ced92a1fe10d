import PyProof.Rows.All
import Wide.All
import OpenK.AllK
import Wide.FinOn
import HandS.ForMost
import HandS.Walk
import HandS.IsInst
import HandS.Flow
import HandS.Wide
import HandS.Conv
import PyProof.ListStr
import PyProof.StrOps2
import KE.GoesEnum
import HandS.Exc
import HandS.ExcInit
import HandS.ExcOwn
import HandS.TryMany
import KE.KExcSuper
import KE.KExcMake
import KE.KSuper
import HandS.Style
import KE.KDictSum
import HandS.WordsExc
import KE.RegKSuper
import HandS.ExcIs
import PySem.Challenge.RW_namedmeets_k40_lines_and_logs
set_option Elab.async false
set_option linter.all false
set_option maxRecDepth 100000
set_option maxHeartbeats 4000000
/-! The own layer: heaps that only grow but for dicts, readings by names, steps. -/
namespace Nm
open PySem PySem.Spec PyProof.Rows L2

/-! ### heaps -/
def isD : HO → Bool
  | .dK _ => true
  | .dT _ => true
  | _ => false
/-- all that is tracked stands, but dicts may change -/
def Keep (H H' : Hp) : Prop := ∀ a o, H a = some o → isD o = false → H' a = some o
theorem Keep.refl (H : Hp) : Keep H H := fun _ _ h _ => h
theorem Keep.trans {H H1 H2 : Hp} (a : Keep H H1) (b : Keep H1 H2) : Keep H H2 := fun x o h z => b x o (a x o h z) z
theorem same_keep {H H' : Hp} (a : Same H H') : Keep H H' := fun x o h _ => a x o h
theorem Keep.rdL {H H' : Hp} {a : Addr} {xs : List V} (k : Keep H H') (h : Rd H a (.lst xs)) : Rd H' a (.lst xs) := by
  rcases h with h | ⟨o, h⟩
  · exact .inl (k _ _ h rfl)
  · exact .inr ⟨o, k _ _ h rfl⟩
theorem Keep.rdT {H H' : Hp} {a : Addr} {xs : List V} (k : Keep H H') (h : Rd H a (.tup xs)) : Rd H' a (.tup xs) := by
  rcases h with h | ⟨o, h⟩
  · exact .inl (k _ _ h rfl)
  · exact .inr ⟨o, k _ _ h rfl⟩
theorem Keep.l {K : PySem.W.Frag} {H H' : Hp} {a : Addr} {xs : List V} (k : Keep H H') (h : SqL K H a xs) : SqL K H' a xs := by
  rcases h with h | h
  · exact .inl (k.rdL h)
  · exact .inr h
theorem Keep.t {K : PySem.W.Frag} {H H' : Hp} {a : Addr} {xs : List V} (k : Keep H H') (h : SqT K H a xs) : SqT K H' a xs := by
  rcases h with h | h
  · exact .inl (k.rdT h)
  · exact .inr h
mutual
theorem dp_keep {K : PySem.W.Frag} {H H' : Hp} (k : Keep H H') : ∀ {v : V} {d : PyData}, Dp K H v d → Dp K H' v d
  | _, _, .non => .non
  | _, _, .bl b => .bl b
  | _, _, .int i => .int i
  | _, _, .str x => .str x
  | _, _, .lst h l => .lst (k.l h) (dps_keep k l)
  | _, _, .tup h l => .tup (k.t h) (dps_keep k l)
theorem dps_keep {K : PySem.W.Frag} {H H' : Hp} (k : Keep H H') : ∀ {v : List V} {d : List PyData}, DpAll K H v d → DpAll K H' v d
  | _, _, .nil => .nil
  | _, _, .cons h l => .cons (dp_keep k h) (dps_keep k l)
end
theorem Same.new {H : Hp} {p : Addr} {o : HO} (h : H p = none) : Same H (upd H p o) := fun b u e => by
  rw [upd_ne (ne_of_none e h)]
  exact e
/-- an object that H does not know may change -/
theorem Same.mut {H H' : Hp} {p : Addr} {o : HO} (e : Same H H') (h : H p = none) : Same H (upd H' p o) := fun b u q => by
  rw [upd_ne (ne_of_none q h)]
  exact e b u q
theorem Keep.mut {H H' : Hp} {p : Addr} {o : HO} (e : Keep H H') (h : H p = none) : Keep H (upd H' p o) := fun b u q z => by
  rw [upd_ne (ne_of_none q h)]
  exact e b u q z
/-- all but the object at d stands -/
def But (d : Addr) (H H' : Hp) : Prop := ∀ a o, a ≠ d → H a = some o → H' a = some o
theorem But.refl (d : Addr) (H : Hp) : But d H H := fun _ _ _ h => h
theorem But.trans {d : Addr} {H H1 H2 : Hp} (a : But d H H1) (b : But d H1 H2) : But d H H2 := fun x o n h => b x o n (a x o n h)
theorem But.keep {d : Addr} {H H' : Hp} {kvs : List (Key × V)} (b : But d H H') (h : H d = some (.dK kvs)) : Keep H H' := fun a o e z => by
  refine b a o (fun q => ?_) e
  rw [q, h] at e
  cases e
  cases z
theorem But.upd {d : Addr} {H : Hp} {o : HO} : But d H (upd H d o) := fun a u n e => by
  rw [upd_ne n]
  exact e
end Nm

/-! Rules of the own layer: text * int, list(text), enumerate(text). -/
namespace Nm
open PySem PySem.Spec PyProof.Rows L2
/-- z, n times -/
def mulS (z : Str) (n : Nat) : Str := ⟨(List.replicate n z.cps.toList).flatten.toArray⟩
theorem foldl_rep (x : Array Nat) : ∀ (n : Nat) (acc : Array Nat), ((List.replicate n x).foldl (· ++ ·) acc).toList = acc.toList ++ (List.replicate n x.toList).flatten
  | 0, acc => by simp
  | n + 1, acc => by
    rw [List.replicate_succ, List.foldl_cons, foldl_rep x n, List.replicate_succ, List.flatten_cons, Array.toList_append, List.append_assoc]
theorem rep_mulS (x : Str) (n : Nat) : (⟨(List.replicate n x.cps).foldl (· ++ ·) #[]⟩ : Str) = mulS x n := by
  unfold mulS
  congr 1
  apply Array.toList_inj.mp
  rw [foldl_rep]
  simp
theorem mulS_len (x : Str) (n : Nat) : (mulS x n).length = x.length * n := by
  show ((List.replicate n x.cps.toList).flatten.toArray).size = x.cps.size * n
  simp [Nat.mul_comm]
def rMulS : R2 := fun x y H Q => ∃ z n, x = .str z ∧ y = .int n ∧ 0 ≤ n ∧ n ≤ 100000 ∧ z.length ≤ 100 ∧ Q (.str (mulS z n.toNat)) H
theorem op_mulS {X : Cx} : OpR X (binaryOp .Mult) rMulS := by
  intro pins s σ H x y v u Q I rx ry h
  obtain ⟨z, n, rfl, rfl, h0, h1, hz, q⟩ := h
  obtain ⟨t, rfl⟩ := rx
  obtain ⟨t', rfl⟩ := ry
  have hle : z.length * n.toNat ≤ 10000000 := Nat.le_trans (Nat.mul_le_mul hz (show n.toNat ≤ 100000 by omega)) (by decide)
  have hsl : (sizeLine : Nat) = 16777216 := sizeLine_eq
  refine PySem.P.mul_str ?_ ?_ ?_ ?_
  · rw [Bool.or_eq_false_iff]
    exact ⟨decide_eq_false (by omega), decide_eq_false (by omega)⟩
  · intro hn _ hc
    have e1 : (2 ^ 63 - 1 : Int) / n ≥ 100 := by
      rw [ge_iff_le, Int.le_ediv_iff_mul_le (by omega)]
      omega
    omega
  · intro _ _
    unfold Builtin.Str.tooLong
    refine decide_eq_false ?_
    omega
  · by_cases c1 : n < 1
    · rw [if_pos c1]
      have e0 : n.toNat = 0 := by omega
      rw [e0] at q
      exact ⟨by decide, .str _, H, I.tok _, ⟨_, rfl⟩, q⟩
    · rw [if_neg c1]
      by_cases c2 : (n == 1 || z.length == 0) = true
      · rw [if_pos c2]
        have e : mulS z n.toNat = z := by
          rw [Bool.or_eq_true] at c2
          rcases c2 with c | c
          · have e1 : n.toNat = 1 := by
              have := eq_of_beq c
              omega
            rw [e1]
            unfold mulS
            simp
          · have e1 : z.cps.size = 0 := eq_of_beq c
            have e2 : z.cps = #[] := Array.eq_empty_of_size_eq_zero e1
            obtain ⟨cps⟩ := z
            simp only at e2
            subst e2
            unfold mulS
            simp
        rw [e] at q
        exact ⟨.str z, H, I, ⟨t, rfl⟩, q⟩
      · rw [if_neg c2, rep_mulS]
        refine ⟨?_, .str _, H, I.tok _, ⟨_, rfl⟩, q⟩
        rw [mulS_len]
        omega

/-- list(text) -/
def signsV (z : Str) : List V := z.cps.toList.map fun c => V.str ⟨#[c]⟩
def rListS : List V → Hp → VK → Prop := fun xs H Q => ∃ z, xs = [.str z] ∧ z.length ≤ sizeLine ∧ ∀ l, H l = none → Q (.ref l) (upd H l (.lst (signsV z)))
theorem vals_signs {x : Str} {acc : Array Value} (h : ItemsOf (SignAt x) acc x.cps.size) : Vals (signsV x) acc.toList := by
  refine vals_of_at ?_ ?_
  · unfold signsV
    rw [List.length_map]
    simpa using h.1.symm
  · intro j a u ha hu
    unfold signsV at ha
    rw [List.getElem?_map] at ha
    cases e : x.cps.toList[j]? with
    | none => rw [e] at ha; cases ha
    | some c =>
      rw [e] at ha
      have ha' : V.str ⟨#[c]⟩ = a := Option.some.inj ha
      subst ha'
      obtain ⟨c', t, hc, rfl⟩ := h.2 j u (by simpa using hu)
      have e2 : x.cps[j]? = some c := by simpa using e
      rw [e2] at hc
      cases hc
      exact ⟨t, rfl⟩
theorem call_list_str' {X : Cx} (hc : X.calm = true) : CallR X (.type "list") rListS := by
  intro pins s σ H xs us Q I r h
  obtain ⟨z, rfl, hz, q⟩ := h
  obtain ⟨u, rfl, ru⟩ := vals1 r
  obtain ⟨t, rfl⟩ := ru
  refine PySem.call_list_str (I.ok.hd hc) z t (fun h' tk acc' c' hk hS hacc => ?_) hz
  refine ⟨.ref s.heap.objs.size, _, I.laid (t' := tk) (o := .lst (signsV z)) hk (Nat.le_refl _) ⟨?_, acc'.toList, c', vals_signs hacc, by simpa using hS⟩, rfl, q _ (I.hok.fresh (Nat.le_refl _))⟩
  unfold signsV
  rw [List.length_map]
  exact hz
/-! ### enumerate(text) -/
def ItE (z : Str) : It :=
  ⟨fun i _ => i < z.cps.size, fun i H v H' => ∃ T c, v = .ref T ∧ H T = none ∧ z.cps[i]? = some c ∧ H' = upd H T (.tup [.int (i : Nat), .str ⟨#[c]⟩]), fun i _ => i = z.cps.size⟩
theorem turn_enumS {P : Program} {w : World} {K : PySem.W.Frag} {elts : List Expr} {kk : Nat} {tpos : Pos} (x : Str) (t : Tok) (e it : Addr) :
    Turn P w K (.Tuple elts kk tpos) (ItE x) [e, it] e (fun i h => (∃ old, IsEnum h e it ((i : Nat) : Int) old) ∧ h.IsStrIter it (strIterType x) x t i ∧ e ≠ it) where
  mem := by simp
  obj := fun i h st b hb => by
    obtain ⟨⟨old, he⟩, ⟨o, ho, hc, hd⟩, _⟩ := st
    have e' : b = e ∨ b = it := by simpa using hb
    rcases e' with z | z
    · rw [z]; exact ⟨_, he, fun v q => nomatch q⟩
    · rw [z]; exact ⟨o, ho, fun v q => by rw [hd] at q; cases q⟩
  keep := fun i h h' st k => let ⟨⟨old, he⟩, ⟨o, ho, r⟩, hne⟩ := st; ⟨⟨old, k e (by simp) _ he⟩, ⟨o, k it (by simp) o ho, r⟩, hne⟩
  item := by
    intro X hP hw hK hc i pins s σ H E I hf st hg
    subst hP hw hK
    obtain ⟨⟨old, he⟩, hit, hne⟩ := st
    have hel : e < s.heap.objs.size := Heap.lt_size he
    have hil : it < s.heap.objs.size := by obtain ⟨_, q, _⟩ := hit; exact Heap.lt_size q
    have D := Draws.text (prog := X.prog) (w := X.w) (A := X.A.in1) (by show X.A.handled = none; exact I.ok.hd hc) it x t
    have hef : e ∉ [it] := by simpa using hne
    refine wpAny_pyNext_enum_itemC D he hit hg hne hef fun v h' tk hP ho hit' hT hsz hk => ?_
    obtain ⟨c, u, hcx, rfl⟩ := hP
    refine ⟨_, rfl, wpAny_letOwnedTupleGo_enum (s := { s with heap := h', toks := tk + 1 }) ho fun h'' he' sb => ?_⟩
    have hT2 : h''.get? s.heap.objs.size = some { cls := .type "tuple", data := .seq #[.int i tk, .str ⟨#[c]⟩ u] } := (sb.2 _ (Nat.ne_of_gt hel)).trans hT
    have new : ObjOk X.prog X.w (upd H s.heap.objs.size (.tup [.int (i : Nat), .str ⟨#[c]⟩])) h'' s.heap.objs.size (.tup [.int (i : Nat), .str ⟨#[c]⟩]) :=
      ⟨by show 2 ≤ sizeLine; decide, [.int i tk, .str ⟨#[c]⟩ u], .cons ⟨_, rfl⟩ (.cons ⟨_, rfl⟩ .nil), ⟨_, hT2, rfl, _, rfl⟩⟩
    have I1 : Inv X pins σ (upd H s.heap.objs.size (.tup [.int (i : Nat), .str ⟨#[c]⟩])) { s with heap := h'', toks := tk + 1 } :=
      I.turnedNew (ch := [e, it]) (fun b ob hb q => (sb.2 b (fun z => hb (by simp [z]))).trans (hk b ob (fun z => hb (by simp [z])) (fun z => hb (by simp [z])) q)) hf (Nat.le_refl _) new
    refine ⟨.ref s.heap.objs.size, _, I1, rfl, ⟨_, c, rfl, I.hok.fresh (Nat.le_refl _), hcx, rfl⟩, ⟨⟨.str ⟨#[c]⟩ u, ?_⟩, ?_, hne⟩, fun b hb => ?_⟩
    · have e1 : ((i + 1 : Nat) : Int) = (i : Int) + 1 := by omega
      rw [e1]; exact he'
    · obtain ⟨o, ho', r⟩ := hit'
      exact ⟨o, (sb.2 it (Ne.symm hne)).trans ho', r⟩
    · have hb' : b < s.heap.objs.size := by
        have e' : b = e ∨ b = it := by simpa using hb
        rcases e' with z | z
        · rw [z]; exact hel
        · rw [z]; exact hil
      rw [upd_ne (Nat.ne_of_lt hb')]
      exact (hf b hb).1
  done := by
    intro X hP hw hK hc i pins s σ H E I hf st hg
    subst hP hw hK
    obtain ⟨⟨old, he⟩, hit, hne⟩ := st
    have hst : s.heap.IsStrIter it (strIterType x) x t i := hit
    have hg' : i = x.cps.size := hg
    subst hg'
    have D := Draws.text (prog := X.prog) (w := X.w) (A := X.A.in1) (by show X.A.handled = none; exact I.ok.hd hc) it x t
    obtain ⟨f0, f1, f2, f3, f4, f5⟩ := hf it (by simp)
    exact wpAny_pyNext_enum_endD D he hst fun h' eb => ⟨rfl, I.turned (t' := s.toks) (fun b o hb q => eb b o hb q) f0 f1 f3 f4 f5⟩
  self := fun A i s Q E st h => let ⟨⟨_, he⟩, _⟩ := st; wpAny_pyIter_enum he h
def iEnumS (ta : TA) : TI := fun σ H R => ta σ H fun vs H1 => ∃ z, vs = [.str z] ∧ R (ItE z) H1
theorem pi_enumS {X : Cx} {e : Expr} {ta : TA} {p pos tpos : Pos} {elts : List Expr} {kk : Nat} (hg : Gl X "enumerate") (hm : X.mg "enumerate" = none) (ha : PA X [e] ta) (hs : starEach [e] X.env = [(false, eval e X.env)] := by rfl) :
    PI X (.Tuple elts kk tpos) (.Call (.Name "enumerate" p) [e] [] pos) (iEnumS ta) := by
  refine ⟨fun pins s σ H R I h => ?_⟩
  refine Call_ (ld_blt I hg hm boot_enumerate (PyProof.Rows.callWith_type1 (thn (ha.run pos pins s σ H _ I h) fun us s1 ⟨vs, H1, I1, r1, q1⟩ => ?_) hs rfl))
  obtain ⟨z, ex, q⟩ := q1
  subst ex
  obtain ⟨u, rfl, ru⟩ := vals1 r1
  obtain ⟨t, rfl⟩ := ru
  refine PySem.call_enumerate_str fun h' he hit hsz hk => wpAny_pyIter_enum he ?_
  have I2 : Inv X pins σ H1 { s1 with heap := h' } := I1.kept (t' := s1.toks) hk
  refine ⟨s1.heap.objs.size + 1, [s1.heap.objs.size + 1, s1.heap.objs.size], _, _, H1, rfl, I2, turn_enumS z t (s1.heap.objs.size + 1) s1.heap.objs.size, ⟨⟨.none, he⟩, hit, Nat.succ_ne_self _⟩, fun b hb => ?_, q⟩
  have e' : b = s1.heap.objs.size + 1 ∨ b = s1.heap.objs.size := by simpa using hb
  have hle : s1.heap.objs.size ≤ b := by
    rcases e' with z | z
    · rw [z]; exact Nat.le_add_right _ _
    · rw [z]; exact Nat.le_refl _
  exact I1.fpOk hle (I1.hok.fresh hle)
theorem walk_enumS {z : Str} : Walk (ItE z) z.cps.size (fun _ => True) (fun i H v H' => ∃ T c, v = .ref T ∧ H T = none ∧ z.cps[i]? = some c ∧ H' = upd H T (.tup [.int (i : Nat), .str ⟨#[c]⟩])) :=
  ⟨fun _ _ hi _ => hi, fun _ _ => rfl, fun _ _ _ _ _ _ y => y⟩
end Nm

/-! The own layer: readings by names, their steps (z_..). -/
namespace Nm
open PySem PySem.Spec PyProof.Rows L2
/-! ### readings that the layer has without a name -/
def nAddS : R2 := fun x y H Q => ∃ i j, x = .str i ∧ y = .str j ∧ i.length + j.length ≤ sizeLine ∧ Q (.str (i ++ j)) H
def nInC : R2 := fun x y H Q => ∃ (c : Nat) (z : Str), x = .str ⟨#[c]⟩ ∧ y = .str z ∧ Q (.bl (decide (c ∈ z.cps.toList))) H
def nNotInC : R2 := fun x y H Q => ∃ (c : Nat) (z : Str), x = .str ⟨#[c]⟩ ∧ y = .str z ∧ Q (.bl (!decide (c ∈ z.cps.toList))) H
def nIsN : R2 := fun x y H Q => y = .non ∧ Q (.bl (decide (x = .non))) H
def nNotN : R2 := fun x y H Q => y = .non ∧ Q (.bl (!decide (x = .non))) H
def nLenS : List V → Hp → VK → Prop := fun xs H Q => ∃ z, xs = [.str z] ∧ z.length ≤ sizeLine ∧ Q (.int z.length) H
def nLenL (K : PySem.W.Frag) : List V → Hp → VK → Prop := fun xs H Q => ∃ p ys, xs = [.ref p] ∧ (SqL K H p ys ∨ SqT K H p ys) ∧ Q (.int ys.length) H
def nListOf (K : PySem.W.Frag) : List V → Hp → VK → Prop := fun xs H Q => ∃ p ys, xs = [.ref p] ∧ (SqL K H p ys ∨ SqT K H p ys) ∧ ∀ l, H l = none → Q (.ref l) (upd H l (.lst ys))
def nTupleOf (K : PySem.W.Frag) : List V → Hp → VK → Prop := fun xs H Q => ∃ p ys, xs = [.ref p] ∧ ((SqL K H p ys ∧ ∀ l, H l = none → Q (.ref l) (upd H l (.tup ys))) ∨ (SqT K H p ys ∧ Q (.ref p) H))
def nInt1 : List V → Hp → VK → Prop := fun xs H Q => (∃ i, xs = [.int i] ∧ Q (.int i) H) ∨ ∃ k, xs = [.bl k] ∧ Q (.int (if k then 1 else 0)) H
section
variable {X : Cx}
theorem op_addS : OpR X (binaryOp .Add) nAddS := op_add_str
theorem op_inC : OpR X (compareOp .In) nInC := op_in_sign
theorem op_notInC : OpR X (compareOp .NotIn) nNotInC := op_notIn_sign
theorem op_isNn : OpR X (compareOp .Is) nIsN := op_isN
theorem op_notNn : OpR X (compareOp .IsNot) nNotN := op_notN
theorem call_lenS : CallR X (.builtin "len") nLenS := call_len_str
theorem call_lenL : CallR X (.builtin "len") (nLenL X.K) := call_len_seq
theorem call_listOf : CallR X (.type "list") (nListOf X.K) := call_list_of
theorem call_tupleOf : CallR X (.type "tuple") (nTupleOf X.K) := call_tuple_of
theorem call_int1n : CallR X (.type "int") nInt1 := call_int1
end

theorem rel_str {x : Str} {t : Tok} : RelV (.str x) (.str x t) := ⟨t, rfl⟩
theorem rel_int {x : Int} {t : Tok} : RelV (.int x) (.int x t) := ⟨t, rfl⟩
theorem rel_ref {a : Addr} : RelV (.ref a) (.ref a) := rfl

/-! ### a call of an own def, nothing left to defaults -/
def tCallN (sp : Sp) (E : XK) (t : TA) : TE := fun σ H Q => t σ H fun vs H1 => sp vs H1 Q E
section
variable {X : Cx} {CX : CXT} {k : Nat} {f : Addr} {fd : FuncData} {ps : List Str} {sp : Sp} {E : XK} {x : Str} {e : Expr} {es : List Expr} {t : TA} {p pos : Pos}
theorem tCallN_eq : tCallN sp E t = tCall sp [] E t := by
  funext σ H Q
  show t σ H (fun vs H1 => sp vs H1 Q E) = t σ H (fun vs H1 => sp (vs ++ []) H1 Q E)
  simp only [List.append_nil]
/-- where a def stands -/
structure Df (K : PySem.W.Frag) (mg : Str → Option Value) (x : Str) (st : Stmt) (ps : List Str) (f : Addr) (fd : FuncData) : Prop where
  F : Fun K x x st f fd
  g : mg x = some (.ref f)
  b : Binds K fd ps []
theorem pe_callN {st : Stmt} (D : Df X.K X.mg x st ps f fd) (F : FnOk X.prog X.w X.K X.mg X.base CX k f fd ps sp) (hr : Room k X.A) (hx : Passes CX X E) (ha : PA X (e :: es) t) (hg : Gl X x := by rfl)
    (hs : starEach (e :: es) X.env = (false, eval e X.env) :: starEach es X.env := by rfl) (hpl : (backTo pos (starEach es X.env)).any (·.1) = false := by rfl) (hdb : (x == ("__debug__" : Str)) = false := by decide) :
    PE X (.Call (.Name x p) (e :: es) [] pos) (tCallN sp E t) := by
  rw [tCallN_eq]
  exact pe_call F hr hg D.g D.F.kp D.b .nil hx ha (hdb := hdb) (he := hs) (hpl := hpl)
theorem pe_callN0 {st : Stmt} (D : Df X.K X.mg x st ps f fd) (F : FnOk X.prog X.w X.K X.mg X.base CX k f fd ps sp) (hr : Room k X.A) (hx : Passes CX X E) (hg : Gl X x := by rfl) (hdb : (x == ("__debug__" : Str)) = false := by decide) :
    PE X (.Call (.Name x p) [] [] pos) (tCallN sp E tNil) := by
  rw [tCallN_eq]
  exact pe_call0 F hr hg D.g D.F.kp D.b .nil hx (hdb := hdb)
end

/-! ### words between: an expression, a test -/
def tCutE (te : TE) : TE := fun σ H Q => ∃ W : V → Hp → Prop, te σ H W ∧ ∀ v H', W v H' → Q v H'
def tCutT (tt : TT) : TT := fun σ H Q => ∃ W : Bool → Hp → Prop, tt σ H W ∧ ∀ v H', W v H' → Q v H'
theorem pe_cut {X : Cx} {e : Expr} {te : TE} (h : PE X e te) : PE X e (tCutE te) := ⟨fun pins s σ H Q I ⟨W, h1, h2⟩ => thn (h.run pins s σ H W I h1) fun u s' ⟨v, H', I', r, q⟩ => ⟨v, H', I', r, h2 v H' q⟩⟩
theorem pt_cut {X : Cx} {e : Expr} {tt : TT} (h : PT X e tt) : PT X e (tCutT tt) := ⟨fun pins s σ H Q I ⟨W, h1, h2⟩ => thn (h.run pins s σ H W I h1) fun u s' ⟨H', I', q⟩ => ⟨H', I', h2 u H' q⟩⟩
theorem z_cutE {te : TE} {σ : L2.St} {H : Hp} {Q : VK} (W : V → Hp → Prop) (h1 : te σ H W) (h2 : ∀ v H', W v H' → Q v H') : tCutE te σ H Q := ⟨W, h1, h2⟩
theorem z_cutT {tt : TT} {σ : L2.St} {H : Hp} {Q : Bool → Hp → Prop} (W : Bool → Hp → Prop) (h1 : tt σ H W) (h2 : ∀ v H', W v H' → Q v H') : tCutT tt σ H Q := ⟨W, h1, h2⟩
/-- the value is known, what stood stands -/
theorem z_cutV {te : TE} {σ : L2.St} {H : Hp} {Q : VK} (v : V) (h1 : te σ H fun v' H' => v' = v ∧ Same H H') (h2 : ∀ H', Same H H' → Q v H') : tCutE te σ H Q := ⟨_, h1, fun v' H' ⟨e, s⟩ => e ▸ h2 H' s⟩
theorem z_cutB {tt : TT} {σ : L2.St} {H : Hp} {Q : Bool → Hp → Prop} (b : Bool) (h1 : tt σ H fun b' H' => b' = b ∧ Same H H') (h2 : ∀ H', Same H H' → Q b H') : tCutT tt σ H Q := ⟨_, h1, fun v' H' ⟨e, s⟩ => e ▸ h2 H' s⟩

theorem not_t {b : Bool} (h : (!b) = true) : b = false := by simpa using h
theorem not_f {b : Bool} (h : (!b) = false) : b = true := by simpa using h
theorem z_iteNT {A B : Prop} (h : B) : if (!true) = true then A else B := by simpa using h
theorem z_iteNF {A B : Prop} (h : A) : if (!false) = true then A else B := by simpa using h
/-! ### steps -/
section
variable {σ : L2.St} {H : Hp} {Q : VK} {QT : Bool → Hp → Prop} {QA : List V → Hp → Prop} {QO : Option Int → Hp → Prop} {ta tb tc te : TE} {r r' : R2} {x y v : V} {K : PySem.W.Frag} {D : Ends}
theorem z_var {i : Nat} (h : σ[i]? = some (some v)) (q : Q v H) : tVar i σ H Q := ⟨v, h, q⟩
theorem z_c (q : Q v H) : tC v σ H Q := q
theorem z_op (h : ta σ H fun x H1 => tb σ H1 fun y H2 => r x y H2 Q) : tOp r ta tb σ H Q := h
theorem z_un {r : V → Hp → VK → Prop} (h : ta σ H fun x H1 => r x H1 Q) : tUn r ta σ H Q := h
/-! two ints -/
theorem z_rI0 {g : Int → Int → V} {i j : Int} (q : Q (g i j) H) : rI0 g (.int i) (.int j) H Q := ⟨i, j, rfl, rfl, q⟩
theorem z_rI {C : Int → Int → Prop} {g : Int → Int → V} {i j : Int} (c : C i j) (q : Q (g i j) H) : rI C g (.int i) (.int j) H Q := ⟨i, j, rfl, rfl, c, q⟩
theorem z_rU {g : Int → V} {i : Int} (q : Q (g i) H) : rU g (.int i) H Q := ⟨i, rfl, q⟩
/-! == and != of plain things -/
theorem z_eqI {i j : Int} (q : Q (.bl (decide (i = j))) H) : rEq (.int i) (.int j) H Q := ⟨rfl, by
  have e : decide (V.int i = V.int j) = decide (i = j) := by simp
  rw [e]; exact q⟩
theorem z_neI {i j : Int} (q : Q (.bl (!decide (i = j))) H) : rNe (.int i) (.int j) H Q := ⟨rfl, by
  have e : decide (V.int i = V.int j) = decide (i = j) := by simp
  rw [e]; exact q⟩
theorem z_eqS {i j : Str} (q : Q (.bl (decide (i = j))) H) : rEq (.str i) (.str j) H Q := ⟨rfl, by
  have e : decide (V.str i = V.str j) = decide (i = j) := by simp
  rw [e]; exact q⟩
theorem z_neS {i j : Str} (q : Q (.bl (!decide (i = j))) H) : rNe (.str i) (.str j) H Q := ⟨rfl, by
  have e : decide (V.str i = V.str j) = decide (i = j) := by simp
  rw [e]; exact q⟩
theorem z_eq (h : scal x y = true) (q : Q (.bl (decide (x = y))) H) : rEq x y H Q := ⟨h, q⟩
theorem z_ne (h : scal x y = true) (q : Q (.bl (!decide (x = y))) H) : rNe x y H Q := ⟨h, q⟩
/-! texts -/
theorem z_addS {i j : Str} (hl : i.length + j.length ≤ sizeLine) (q : Q (.str (i ++ j)) H) : nAddS (.str i) (.str j) H Q := ⟨i, j, rfl, rfl, hl, q⟩
theorem z_inC {c : Nat} {z : Str} (q : Q (.bl (decide (c ∈ z.cps.toList))) H) : nInC (.str ⟨#[c]⟩) (.str z) H Q := ⟨c, z, rfl, rfl, q⟩
theorem z_notInC {c : Nat} {z : Str} (q : Q (.bl (!decide (c ∈ z.cps.toList))) H) : nNotInC (.str ⟨#[c]⟩) (.str z) H Q := ⟨c, z, rfl, rfl, q⟩
theorem z_mulS {z : Str} {n : Int} (h0 : 0 ≤ n) (h1 : n ≤ 100000) (hz : z.length ≤ 100) (q : Q (.str (mulS z n.toNat)) H) : rMulS (.str z) (.int n) H Q := ⟨z, n, rfl, rfl, h0, h1, hz, q⟩
theorem z_lenS {z : Str} (hz : z.length ≤ sizeLine) (q : Q (.int z.length) H) : nLenS [.str z] H Q := ⟨z, rfl, hz, q⟩
theorem z_ixS {z : Str} {i : Int} {c : Nat} (hz : z.length ≤ sizeLine) (h : atI z.cps.toList i = some c) (q : Q (.str ⟨#[c]⟩) H) : rIxS (.str z) (.int i) H Q := ⟨z, i, c, rfl, rfl, hz, h, q⟩
theorem z_slS {z : Str} {lo hi : Option Int} (hz : z.length ≤ sizeLine) (q : Q (.str (cutS z lo hi)) H) : rSlS (.str z) lo hi H Q := ⟨z, rfl, hz, q⟩
theorem z_isN (q : Q (.bl (decide (x = .non))) H) : nIsN x .non H Q := ⟨rfl, q⟩
theorem z_notN (q : Q (.bl (!decide (x = .non))) H) : nNotN x .non H Q := ⟨rfl, q⟩
/-! slices -/
theorem z_sl {rs : V → Option Int → Option Int → Hp → VK → Prop} {tl th : TO} (h : te σ H fun x H1 => tl σ H1 fun l H2 => th σ H2 fun u H3 => rs x l u H3 Q) : tSl rs te tl th σ H Q := h
theorem z_noPart (q : QO none H) : tNoPart σ H QO := q
def kPart (QO : Option Int → Hp → Prop) : VK := fun x H1 => ∃ i, x = .int i ∧ QO (some i) H1
theorem z_part (h : te σ H (kPart QO)) : tPart te σ H QO := h
theorem z_kPart {i : Int} (q : QO (some i) H) : kPart QO (.int i) H := ⟨i, rfl, q⟩
/-! arguments, displays -/
theorem z_nil (q : QA [] H) : tNil σ H QA := q
theorem z_cons {tr : TA} (h : ta σ H fun x H1 => tr σ H1 fun xs H2 => QA (x :: xs) H2) : tCons ta tr σ H QA := h
def kTup (Q : VK) : List V → Hp → Prop := fun xs H1 => xs.length ≤ sizeLine ∧ ∀ p, H1 p = none → Q (.ref p) (upd H1 p (.tup xs))
def kLst (Q : VK) : List V → Hp → Prop := fun xs H1 => xs.length ≤ sizeLine ∧ ∀ p, H1 p = none → Q (.ref p) (upd H1 p (.lst xs))
theorem z_tup {t : TA} (h : t σ H (kTup Q)) : tTup t σ H Q := h
theorem z_lst {t : TA} (h : t σ H (kLst Q)) : tLst t σ H Q := h
/-- a new object at p, the heap behind it by a letter -/
theorem new_by {H : Hp} {o : HO} {R : Addr → Hp → Prop} (k : ∀ p H', H p = none → Same H H' → H' p = some o → (∀ a, a ≠ p → H' a = H a) → R p H') : ∀ p, H p = none → R p (upd H p o) :=
  fun p hp => k p _ hp (Same.new hp) upd_same fun a ha => upd_ne ha
theorem z_kTup {xs : List V} (hl : xs.length ≤ sizeLine) (k : ∀ p H', H p = none → Same H H' → H' p = some (.tup xs) → Q (.ref p) H') : kTup Q xs H := ⟨hl, new_by (R := fun p H' => Q (.ref p) H') fun p H' a b c _ => k p H' a b c⟩
theorem z_kLst {xs : List V} (hl : xs.length ≤ sizeLine) (k : ∀ p H', H p = none → Same H H' → H' p = some (.lst xs) → Q (.ref p) H') : kLst Q xs H := ⟨hl, new_by (R := fun p H' => Q (.ref p) H') fun p H' a b c _ => k p H' a b c⟩
/-! calls -/
theorem z_cb {f : List V → Hp → VK → Prop} {t : TA} (h : t σ H fun vs H1 => f vs H1 Q) : tCB f t σ H Q := h
theorem z_call {sp : Sp} {E : XK} {t : TA} (h : t σ H fun vs H1 => sp vs H1 Q E) : tCallN sp E t σ H Q := h
theorem z_lenL {p : Addr} {ys : List V} (h : SqL K H p ys) (q : Q (.int ys.length) H) : nLenL K [.ref p] H Q := ⟨p, ys, rfl, .inl h, q⟩
theorem z_lenT {p : Addr} {ys : List V} (h : SqT K H p ys) (q : Q (.int ys.length) H) : nLenL K [.ref p] H Q := ⟨p, ys, rfl, .inr h, q⟩
theorem z_listOfL {p : Addr} {ys : List V} (h : SqL K H p ys) (k : ∀ p H', H p = none → Same H H' → H' p = some (.lst ys) → Q (.ref p) H') : nListOf K [.ref p] H Q := ⟨p, ys, rfl, .inl h, new_by (R := fun p H' => Q (.ref p) H') fun p H' a b c _ => k p H' a b c⟩
theorem z_listOfT {p : Addr} {ys : List V} (h : SqT K H p ys) (k : ∀ p H', H p = none → Same H H' → H' p = some (.lst ys) → Q (.ref p) H') : nListOf K [.ref p] H Q := ⟨p, ys, rfl, .inr h, new_by (R := fun p H' => Q (.ref p) H') fun p H' a b c _ => k p H' a b c⟩
theorem z_listS {z : Str} (hz : z.length ≤ sizeLine) (k : ∀ p H', H p = none → Same H H' → H' p = some (.lst (signsV z)) → Q (.ref p) H') : rListS [.str z] H Q := ⟨z, rfl, hz, new_by (R := fun p H' => Q (.ref p) H') fun p H' a b c _ => k p H' a b c⟩
theorem z_tupleOfL {p : Addr} {ys : List V} (h : SqL K H p ys) (k : ∀ p H', H p = none → Same H H' → H' p = some (.tup ys) → Q (.ref p) H') : nTupleOf K [.ref p] H Q := ⟨p, ys, rfl, .inl ⟨h, new_by (R := fun p H' => Q (.ref p) H') fun p H' a b c _ => k p H' a b c⟩⟩
theorem z_tupleOfT {p : Addr} {ys : List V} (h : SqT K H p ys) (q : Q (.ref p) H) : nTupleOf K [.ref p] H Q := ⟨p, ys, rfl, .inr ⟨h, q⟩⟩
theorem z_intI {i : Int} (q : Q (.int i) H) : nInt1 [.int i] H Q := .inl ⟨i, rfl, q⟩
theorem z_intB {b : Bool} (q : Q (.int (if b then 1 else 0)) H) : nInt1 [.bl b] H Q := .inr ⟨b, rfl, q⟩
/-! items -/
theorem z_ixL {p : Addr} {ys : List V} {i : Int} (h : SqL K H p ys) (e : atI ys i = some v) (q : Q v H) : rIxL K (.ref p) (.int i) H Q := ⟨p, ys, i, v, rfl, rfl, h, e, q⟩
theorem z_ixT {p : Addr} {ys : List V} {i : Int} (h : SqT K H p ys) (e : atI ys i = some v) (q : Q v H) : rIxT K (.ref p) (.int i) H Q := ⟨p, ys, i, v, rfl, rfl, h, e, q⟩
theorem z_slL {p : Addr} {ys : List V} {lo hi : Option Int} (h : SqL K H p ys) (k : ∀ p H', H p = none → Same H H' → H' p = some (.lst (cutV ys lo hi)) → Q (.ref p) H') : rSlL K (.ref p) lo hi H Q := ⟨p, ys, rfl, h, new_by (R := fun p H' => Q (.ref p) H') fun p H' a b c _ => k p H' a b c⟩
theorem z_inL {p : Addr} {ys : List V} {neg : Bool} (h : SqL K H p ys) (hx : flatV x = true) (ha : ys.all flatV = true) (q : Q (.bl (if neg then !inV x ys else inV x ys)) H) : rIn K neg x (.ref p) H Q := ⟨p, ys, rfl, .inl h, hx, ha, q⟩
theorem z_inT {p : Addr} {ys : List V} {neg : Bool} (h : SqT K H p ys) (hx : flatV x = true) (ha : ys.all flatV = true) (q : Q (.bl (if neg then !inV x ys else inV x ys)) H) : rIn K neg x (.ref p) H Q := ⟨p, ys, rfl, .inr h, hx, ha, q⟩
theorem z_eqD {d e : PyData} (h1 : Dp K H x d) (h2 : Dp K H y e) (s1 : SeqAt.shaped d = true) (s2 : SeqAt.shaped e = true) (q : Q (.bl (PyData.eqv d e)) H) : rEqD K x y H Q := ⟨d, e, h1, h2, s1, s2, q⟩
theorem z_neD {d e : PyData} (h1 : Dp K H x d) (h2 : Dp K H y e) (s1 : SeqAt.shaped d = true) (s2 : SeqAt.shaped e = true) (q : Q (.bl (!PyData.eqv d e)) H) : rNeD K x y H Q := ⟨d, e, h1, h2, s1, s2, q⟩
theorem z_all {p : Addr} {bs : List Bool} (h : SqL K H p (bs.map V.bl)) (q : Q (.bl (bs.all id)) H) : rAll K [.ref p] H Q := ⟨p, bs, rfl, h, q⟩
theorem z_isi {c : V} {t u : Value} {b : Bool} (hc : ClsV c u) (hx : TyX K H x t) (e : PySem.W.kitOne K t u = some b) (q : Q (.bl b) H) : rIsi K [x, c] H Q := ⟨x, c, t, u, b, rfl, hc, hx, e, q⟩
/-! tests -/
def kT (QT : Bool → Hp → Prop) : VK := fun x H' => ∃ k, x = .bl k ∧ QT k H'
theorem z_test (h : te σ H (kT QT)) : tTest te σ H QT := h
theorem z_tB (h : te σ H (kT QT)) : tB te σ H QT := h
theorem z_kT {b : Bool} (q : QT b H) : kT QT (.bl b) H := ⟨b, rfl, q⟩
def kCh (r' : R2) (tc : TE) (σ : L2.St) (y : V) (Q : VK) : VK := fun z H3 => ∃ k, z = .bl k ∧ (if k = true then tc σ H3 fun w' H4 => r' y w' H4 Q else Q (.bl false) H3)
theorem z_chain (h : ta σ H fun x H1 => tb σ H1 fun y H2 => r x y H2 (kCh r' tc σ y Q)) : tChain r r' ta tb tc σ H Q := h
theorem z_kCh {b : Bool} (q : if b = true then tc σ H fun w' H4 => r' y w' H4 Q else Q (.bl false) H) : kCh r' tc σ y Q (.bl b) H := ⟨b, rfl, q⟩
variable {t u : TT}
theorem z_andT (h : t σ H fun c H1 => if c = true then u σ H1 QT else QT false H1) : tAnd t u σ H QT := h
theorem z_orT (h : t σ H fun c H1 => if c = true then QT true H1 else u σ H1 QT) : tOr t u σ H QT := h
theorem z_notT (h : t σ H fun c H1 => QT (!c) H1) : tNot t σ H QT := h
def kAndV (tb : TE) (σ : L2.St) (Q : VK) : VK := fun x H1 => ∃ c, x = .bl c ∧ if c = true then tb σ H1 Q else Q (.bl false) H1
def kOrV (tb : TE) (σ : L2.St) (Q : VK) : VK := fun x H1 => ∃ c, x = .bl c ∧ if c = true then Q (.bl true) H1 else tb σ H1 Q
def kNotV (Q : VK) : VK := fun x H1 => ∃ c, x = .bl c ∧ Q (.bl (!c)) H1
theorem z_andV (h : ta σ H (kAndV tb σ Q)) : tAndV ta tb σ H Q := h
theorem z_orV (h : ta σ H (kOrV tb σ Q)) : tOrV ta tb σ H Q := h
theorem z_notV (h : ta σ H (kNotV Q)) : tNotV ta σ H Q := h
theorem z_kAndV {b : Bool} (q : if b = true then tb σ H Q else Q (.bl false) H) : kAndV tb σ Q (.bl b) H := ⟨b, rfl, q⟩
theorem z_kOrV {b : Bool} (q : if b = true then Q (.bl true) H else tb σ H Q) : kOrV tb σ Q (.bl b) H := ⟨b, rfl, q⟩
theorem z_kNotV {b : Bool} (q : Q (.bl (!b)) H) : kNotV Q (.bl b) H := ⟨b, rfl, q⟩
theorem z_ifE (h : t σ H fun c H1 => if c = true then ta σ H1 Q else tb σ H1 Q) : tIf t ta tb σ H Q := h
/-! statements -/
variable {ts us : TS}
theorem z_seq (h : ts { D with nx := us D } σ H) : tSeq ts us D σ H := h
theorem z_next (h : D.nx σ H) : tNext D σ H := h
theorem z_brk (h : D.bk σ H) : tBreak D σ H := h
theorem z_cnt (h : D.ct σ H) : tCont D σ H := h
theorem z_ret (h : te σ H D.rt) : tRet te D σ H := h
theorem z_retN (h : D.rt .non H) : tRetN D σ H := h
theorem z_ifS {c : TT} (h : c σ H fun b H1 => if b = true then ts D σ H1 else us D σ H1) : tIfS c ts us D σ H := h
theorem z_drop (h : te σ H fun _ H1 => D.nx σ H1) : tDrop te D σ H := h
theorem z_asg {g : TG} (h : te σ H fun x H1 => g x σ H1 D.nx) : tAsg te g D σ H := h
theorem z_gName {i : Nat} {QS : L2.St → Hp → Prop} (h : QS (σ.set i (some v)) H) : gName i v σ H QS := h
theorem z_gTup {n : Nat} {g : TGs} {QS : L2.St → Hp → Prop} {a : Addr} {xs : List V} (h : SqT K H a xs) (hn : xs.length = n) (q : g xs σ H QS) : gTup K n g (.ref a) σ H QS := ⟨a, xs, rfl, h, hn, q⟩
theorem z_gCons {g : TG} {gs : TGs} {QS : L2.St → Hp → Prop} {vs : List V} (q : g v σ H fun σ' H' => gs vs σ' H' QS) : gCons g gs (v :: vs) σ H QS := ⟨v, vs, rfl, q⟩
theorem z_gNil {QS : L2.St → Hp → Prop} (q : QS σ H) : gNil [] σ H QS := ⟨rfl, q⟩
def kPar (i j : Nat) (D : Ends) (σ : L2.St) : List V → Hp → Prop := fun vs H1 => ∃ v w, vs = [v, w] ∧ D.nx ((σ.set i (some v)).set j (some w)) H1
theorem z_par {i j : Nat} {t : TA} (h : t σ H (kPar i j D σ)) : tPar i j t D σ H := h
theorem z_kPar {i j : Nat} (h : D.nx ((σ.set i (some x)).set j (some y)) H) : kPar i j D σ [x, y] H := ⟨x, y, rfl, h⟩
/-! the ends -/
variable {n b c : L2.St → Hp → Prop} {rt : VK}
theorem z_nx (h : n σ H) : Ends.nx ⟨n, rt, b, c⟩ σ H := h
theorem z_rt (h : rt v H) : Ends.rt ⟨n, rt, b, c⟩ v H := h
theorem z_bk (h : b σ H) : Ends.bk ⟨n, rt, b, c⟩ σ H := h
theorem z_ct (h : c σ H) : Ends.ct ⟨n, rt, b, c⟩ σ H := h
/-! branches -/
theorem z_ite {b : Bool} {A B : Prop} (h1 : b = true → A) (h2 : b = false → B) : if b = true then A else B := by
  cases b with
  | true => exact iteT (h1 rfl)
  | false => exact iteF (h2 rfl)
/-! append -/
theorem z_bm {T : String} {f : V → List V → Hp → VK → Prop} {t : TA} (h : ta σ H fun x H1 => tyV K T x H1 ∧ t σ H1 fun xs H2 => f x xs H2 Q) : tBM K T f ta t σ H Q := h
end
end Nm

/-! The own layer: the pen of the laws (the source of all draws). -/
namespace Nm
open PySem PySem.Spec PyProof.Rows L2
def penKv (c : Addr) (a g n f : Int) : List (Key × V) :=
  [(.inr "cells", .ref c), (.inr "at", .int a), (.inr "digits", .int g), (.inr "count", .int n), (.inr "fold", .int f)]
section
variable (c : Addr) (a g n f z : Int)
theorem pen_cells : valV (penKv c a g n f) (.inr "cells") = some (.ref c) := by kernel_rfl
theorem pen_at : valV (penKv c a g n f) (.inr "at") = some (.int a) := by kernel_rfl
theorem pen_digits : valV (penKv c a g n f) (.inr "digits") = some (.int g) := by kernel_rfl
theorem pen_count : valV (penKv c a g n f) (.inr "count") = some (.int n) := by kernel_rfl
theorem pen_fold : valV (penKv c a g n f) (.inr "fold") = some (.int f) := by kernel_rfl
theorem put_at : putK (penKv c a g n f) (.inr "at") (.int z) = penKv c z g n f := by kernel_rfl
theorem put_digits : putK (penKv c a g n f) (.inr "digits") (.int z) = penKv c a z n f := by kernel_rfl
theorem put_count : putK (penKv c a g n f) (.inr "count") (.int z) = penKv c a g z f := by kernel_rfl
theorem put_fold : putK (penKv c a g n f) (.inr "fold") (.int z) = penKv c a g n z := by kernel_rfl
theorem pen_merge : mergeK [] (penKv c a g n f) = penKv c a g n f := by kernel_rfl
end
/-- a pen stands at d, its numbers in the list at c, m draws are still let -/
def Pen (K : PySem.W.Frag) (H : Hp) (d c : Addr) (m : Nat) : Prop :=
  ∃ (a g n f : Int) (ns : List Int), H d = some (.dK (penKv c a g n f)) ∧ H c = some (.lst (ns.map V.int)) ∧ 0 ≤ a ∧ 0 ≤ g ∧ 0 ≤ n ∧ n + m ≤ 1000000000 ∧ 0 ≤ f ∧ f < 2147483587
theorem Pen.less {K : PySem.W.Frag} {H : Hp} {d c : Addr} {m m' : Nat} (h : Pen K H d c m) (e : m' ≤ m) : Pen K H d c m' := by
  obtain ⟨a, g, n, f, ns, h1, h2, h3, h4, h5, h6, h7, h8⟩ := h
  exact ⟨a, g, n, f, ns, h1, h2, h3, h4, h5, by omega, h7, h8⟩
theorem Pen.same {K : PySem.W.Frag} {H H' : Hp} {d c : Addr} {m : Nat} (s : Same H H') (h : Pen K H d c m) : Pen K H' d c m := by
  obtain ⟨a, g, n, f, ns, h1, h2, h3⟩ := h
  exact ⟨a, g, n, f, ns, s _ _ h1, s _ _ h2, h3⟩
theorem Pen.keep {K : PySem.W.Frag} {H H' : Hp} {d c : Addr} {m : Nat} (b : But d H H') (h : Pen K H d c m) : Keep H H' := by
  obtain ⟨a, g, n, f, ns, h1, _⟩ := h
  exact b.keep h1
theorem Pen.ne {K : PySem.W.Frag} {H : Hp} {d c p : Addr} {m : Nat} (h : Pen K H d c m) (hp : H p = none) : p ≠ d := fun e => by
  obtain ⟨a, g, n, f, ns, h1, _⟩ := h
  rw [← e, hp] at h1
  cases h1
/-- an object that an earlier heap did not know may change -/
theorem Pen.mut {K : PySem.W.Frag} {H0 H : Hp} {d c D : Addr} {m0 m : Nat} {o : HO} (h0 : Pen K H0 d c m0) (hD : H0 D = none) (h : Pen K H d c m) : Pen K (upd H D o) d c m := by
  have nd := h0.ne hD
  obtain ⟨_, _, _, _, ns0, _, q0, _⟩ := h0
  obtain ⟨a, g, n, f, ns, h1, h2, h3⟩ := h
  exact ⟨a, g, n, f, ns, by rw [upd_ne (Ne.symm nd)]; exact h1, by rw [upd_ne (ne_of_none q0 hD)]; exact h2, h3⟩
/-- a pen that was changed -/
theorem pen_new {K : PySem.W.Frag} {H : Hp} {d c : Addr} {a g n f : Int} {kvs : List (Key × V)} {ns : List Int} {m : Nat} (h1 : H d = some (.dK kvs)) (h2 : H c = some (.lst (ns.map V.int))) (e : kvs = penKv c a g n f) (h : 0 ≤ a ∧ 0 ≤ g ∧ 0 ≤ n ∧ n + m ≤ 1000000000 ∧ 0 ≤ f ∧ f < 2147483587) : Pen K H d c m := by
  subst e
  exact ⟨a, g, n, f, ns, h1, h2, h⟩
/-- _law_draw -/
def spDraw (K : PySem.W.Frag) : Sp := fun vs H Q _ => ∃ (d c : Addr) (m : Nat) (many : Int), vs = [.ref d, .int many] ∧ Pen K H d c (m + 1) ∧ 0 < many ∧ many.natAbs.log2 < 9000 ∧
  ∀ (r : Int) H', 0 ≤ r → r < many → But d H H' → Pen K H' d c m → Q (.int r) H'
/-- _law_pen -/
def spPen (K : PySem.W.Frag) : Sp := fun vs H Q _ => ∃ (a : Addr) (ns : List Int), vs = [.ref a] ∧ SqL K H a (ns.map V.int) ∧ ∀ d c H', H d = none → Same H H' → Pen K H' d c 100000000 → Q (.ref d) H'
/-- _law_pick: the drawn item of a list -/
def spPick (K : PySem.W.Frag) : Sp := fun vs H Q _ => ∃ (d c p : Addr) (m : Nat) (ys : List V), vs = [.ref d, .ref p] ∧ Pen K H d c (m + 1) ∧ SqL K H p ys ∧ ys ≠ [] ∧ ys.length ≤ 100000 ∧
  ∀ (v : V) H', v ∈ ys → But d H H' → Pen K H' d c m → Q v H'
/-! dict steps of the pen -/
section
variable {σ : L2.St} {H : Hp} {Q : VK} {K : PySem.W.Frag} {D : Ends} {td ty tv : TE}
def kPut (D : Ends) (σ : L2.St) (v x y : V) (H3 : Hp) : Prop := ∃ a H4, x = .ref a ∧ DPut H3 a y v H4 ∧ D.nx σ H4
theorem z_dput (h : tv σ H fun v H1 => td σ H1 fun x H2 => ty σ H2 fun y H3 => kPut D σ v x y H3) : sDPut td ty tv D σ H := h
theorem z_kPutS {v : V} {d : Addr} {x : Str} {kvs : List (Key × V)} (h : H d = some (.dK kvs)) (hl : kvs.length ≤ 1000) (q : D.nx σ (upd H d (.dK (putK kvs (.inr x) v)))) : kPut D σ v (.ref d) (.str x) H :=
  ⟨d, _, rfl, DPut.k (k := Sum.inr x) h (small1000 hl), q⟩
theorem z_kPutI {v : V} {d : Addr} {x : Int} {kvs : List (Key × V)} (h : H d = some (.dK kvs)) (hl : kvs.length ≤ 1000) (q : D.nx σ (upd H d (.dK (putK kvs (.inl x) v)))) : kPut D σ v (.ref d) (.int x) H :=
  ⟨d, _, rfl, DPut.k (k := Sum.inl x) h (small1000 hl), q⟩
def kGet (Q : VK) (x y : V) (H2 : Hp) : Prop := ∃ a v, x = .ref a ∧ DGet H2 a y (some v) ∧ Q v H2
theorem z_dget (h : td σ H fun x H1 => ty σ H1 fun y H2 => kGet Q x y H2) : tDGet td ty σ H Q := h
theorem z_kGetS {v : V} {d : Addr} {x : Str} {kvs : List (Key × V)} (h : H d = some (.dK kvs)) (e : valV kvs (.inr x) = some v) (q : Q v H) : kGet Q (.ref d) (.str x) H :=
  ⟨d, v, rfl, by rw [← e]; exact DGet.k (k := Sum.inr x) h, q⟩
theorem z_kGetI {v : V} {d : Addr} {x : Int} {kvs : List (Key × V)} (h : H d = some (.dK kvs)) (e : valV kvs (.inl x) = some v) (q : Q v H) : kGet Q (.ref d) (.int x) H :=
  ⟨d, v, rfl, by rw [← e]; exact DGet.k (k := Sum.inl x) h, q⟩
end
theorem log2_small {n : Int} (h0 : 0 < n) (h : n ≤ 1000000000000000000) : n.natAbs.log2 < 9000 := by
  have : n.natAbs < 2 ^ 9000 := Nat.lt_of_le_of_lt (m := 1000000000000000000) (by omega) (by decide)
  exact (Nat.log2_lt (by omega)).mpr this
section
variable {σ : L2.St} {H : Hp} {Q : VK} {K : PySem.W.Frag} {D : Ends} {d c : Addr} {a g n f z : Int}
theorem put_gen {kvs kvs' : List (Key × V)} {x : Str} {v : V} (h : H d = some (.dK kvs)) (hl : kvs.length ≤ 1000) (e : putK kvs (.inr x) v = kvs') (k : ∀ H', But d H H' → H' d = some (.dK kvs') → D.nx σ H') : kPut D σ v (.ref d) (.str x) H :=
  z_kPutS h hl (k _ But.upd (by rw [upd_same, e]))
theorem z_put_at (h : H d = some (.dK (penKv c a g n f))) (k : ∀ H', But d H H' → H' d = some (.dK (penKv c z g n f)) → D.nx σ H') : kPut D σ (.int z) (.ref d) (.str "at") H := put_gen h (by show 5 ≤ 1000; decide) (put_at ..) k
theorem z_put_digits (h : H d = some (.dK (penKv c a g n f))) (k : ∀ H', But d H H' → H' d = some (.dK (penKv c a z n f)) → D.nx σ H') : kPut D σ (.int z) (.ref d) (.str "digits") H := put_gen h (by show 5 ≤ 1000; decide) (put_digits ..) k
theorem z_put_count (h : H d = some (.dK (penKv c a g n f))) (k : ∀ H', But d H H' → H' d = some (.dK (penKv c a g z f)) → D.nx σ H') : kPut D σ (.int z) (.ref d) (.str "count") H := put_gen h (by show 5 ≤ 1000; decide) (put_count ..) k
theorem z_put_fold (h : H d = some (.dK (penKv c a g n f))) (k : ∀ H', But d H H' → H' d = some (.dK (penKv c a g n z)) → D.nx σ H') : kPut D σ (.int z) (.ref d) (.str "fold") H := put_gen h (by show 5 ≤ 1000; decide) (put_fold ..) k
theorem z_get_cells (h : H d = some (.dK (penKv c a g n f))) (q : Q (.ref c) H) : kGet Q (.ref d) (.str "cells") H := z_kGetS h (pen_cells ..) q
theorem z_get_at (h : H d = some (.dK (penKv c a g n f))) (q : Q (.int a) H) : kGet Q (.ref d) (.str "at") H := z_kGetS h (pen_at ..) q
theorem z_get_digits (h : H d = some (.dK (penKv c a g n f))) (q : Q (.int g) H) : kGet Q (.ref d) (.str "digits") H := z_kGetS h (pen_digits ..) q
theorem z_get_count (h : H d = some (.dK (penKv c a g n f))) (q : Q (.int n) H) : kGet Q (.ref d) (.str "count") H := z_kGetS h (pen_count ..) q
theorem z_get_fold (h : H d = some (.dK (penKv c a g n f))) (q : Q (.int f) H) : kGet Q (.ref d) (.str "fold") H := z_kGetS h (pen_fold ..) q
end
/-! loops -/
section
variable {σ : L2.St} {H : Hp} {Q : VK} {K : PySem.W.Frag} {D : Ends} {g : TG} {tb : TS} {wi : TI} {ta : TA} {te : TE}
def kFor (g : TG) (tb : TS) (D : Ends) (σ : L2.St) : It → Hp → Prop := fun J H1 => ∃ W : Nat → Nat → L2.St → Hp → Prop, (∃ m, W 0 m σ H1) ∧ ∀ i m σ H, W i m σ H →
      (J.stop i H ∧ D.nx σ H) ∨ (J.go i H ∧ ∃ N : L2.St → Hp → Prop, (∀ σ' H', N σ' H' → ∃ m', m' < m ∧ W (i + 1) m' σ' H') ∧ ∀ x H', J.yld i H x H' → g x σ H' fun σ2 H2 => tb { D with nx := N, ct := N, bk := D.nx } σ2 H2)
theorem z_for (h : wi σ H (kFor g tb D σ)) : tFor wi g tb D σ H := h
def kIL (K : PySem.W.Frag) (R : It → Hp → Prop) : VK := fun x H1 => ∃ a, x = .ref a ∧ (∃ xs, SqL K H1 a xs) ∧ R (Itl K a) H1
def kIT (K : PySem.W.Frag) (R : It → Hp → Prop) : VK := fun x H1 => ∃ a, x = .ref a ∧ (∃ xs, SqT K H1 a xs) ∧ R (Itt K a) H1
def kIS (R : It → Hp → Prop) : VK := fun v H1 => ∃ x, v = .str x ∧ R (Its x) H1
def kIR1 (R : It → Hp → Prop) : List V → Hp → Prop := fun vs H1 => ∃ j : Int, vs = [.int j] ∧ -(2 ^ 62) ≤ j ∧ j < 2 ^ 62 ∧ R (Itr 0 j.toNat) H1
def kIE (R : It → Hp → Prop) : List V → Hp → Prop := fun vs H1 => ∃ z, vs = [.str z] ∧ R (ItE z) H1
variable {R : It → Hp → Prop}
theorem z_iList (h : te σ H (kIL K R)) : iList K te σ H R := h
theorem z_kIL {a : Addr} {xs : List V} (h : SqL K H a xs) (q : R (Itl K a) H) : kIL K R (.ref a) H := ⟨a, rfl, ⟨xs, h⟩, q⟩
theorem z_iTup (h : te σ H (kIT K R)) : iTup K te σ H R := h
theorem z_kIT {a : Addr} {xs : List V} (h : SqT K H a xs) (q : R (Itt K a) H) : kIT K R (.ref a) H := ⟨a, rfl, ⟨xs, h⟩, q⟩
theorem z_iStr (h : te σ H (kIS R)) : iStr te σ H R := h
theorem z_kIS {z : Str} (q : R (Its z) H) : kIS R (.str z) H := ⟨z, rfl, q⟩
theorem z_iRng1 (h : ta σ H (kIR1 R)) : iRng1 ta σ H R := h
theorem z_kIR1 {j : Int} (h0 : -(2 ^ 62) ≤ j) (h1 : j < 2 ^ 62) (q : R (Itr 0 j.toNat) H) : kIR1 R [.int j] H := ⟨j, rfl, h0, h1, q⟩
theorem z_iEnumS (h : ta σ H (kIE R)) : iEnumS ta σ H R := h
theorem z_kIE {z : Str} (q : R (ItE z) H) : kIE R [.str z] H := ⟨z, rfl, q⟩
/-- a loop over a list that stands still: Pv by the turn, the slots, the heap -/
theorem f_list {a : Addr} {xs : List V} (Pv : Nat → L2.St → Hp → Prop) (h0 : Pv 0 σ H) (hl : ∀ i σ H, Pv i σ H → SqL K H a xs)
    (hs : ∀ i x σ H, xs[i]? = some x → Pv i σ H → g x σ H fun σ2 H2 => tb { D with nx := Pv (i + 1), ct := Pv (i + 1), bk := D.nx } σ2 H2) (hd : ∀ σ H, Pv xs.length σ H → D.nx σ H) : kFor g tb D σ (Itl K a) H :=
  for_list (K := K) (a := a) (xs := xs) Pv h0 (fun i σ H _ => hl i σ H) hs hd
theorem f_tup {a : Addr} {xs : List V} (Pv : Nat → L2.St → Hp → Prop) (h0 : Pv 0 σ H) (hl : ∀ i σ H, Pv i σ H → SqT K H a xs)
    (hs : ∀ i x σ H, xs[i]? = some x → Pv i σ H → g x σ H fun σ2 H2 => tb { D with nx := Pv (i + 1), ct := Pv (i + 1), bk := D.nx } σ2 H2) (hd : ∀ σ H, Pv xs.length σ H → D.nx σ H) : kFor g tb D σ (Itt K a) H :=
  for_tup (K := K) (a := a) (xs := xs) Pv h0 (fun i σ H _ => hl i σ H) hs hd
theorem f_range {lo : Int} {n : Nat} (Pv : Nat → L2.St → Hp → Prop) (h0 : Pv 0 σ H)
    (hs : ∀ (i : Nat) σ H, i < n → Pv i σ H → g (.int (lo + i)) σ H fun σ2 H2 => tb { D with nx := Pv (i + 1), ct := Pv (i + 1), bk := D.nx } σ2 H2) (hd : ∀ σ H, Pv n σ H → D.nx σ H) : kFor g tb D σ (Itr lo n) H :=
  for_range Pv h0 hs hd
theorem f_str {z : Str} (Pv : Nat → L2.St → Hp → Prop) (h0 : Pv 0 σ H)
    (hs : ∀ i c σ H, z.cps[i]? = some c → Pv i σ H → g (.str ⟨#[c]⟩) σ H fun σ2 H2 => tb { D with nx := Pv (i + 1), ct := Pv (i + 1), bk := D.nx } σ2 H2) (hd : ∀ σ H, Pv z.cps.size σ H → D.nx σ H) : kFor g tb D σ (Its z) H :=
  for_it walk_str Pv h0 (fun _ _ _ _ _ => trivial) (fun i x σ H H' hi p ⟨e, c, hc, ev⟩ => by subst e ev; exact hs i c σ _ hc p) hd
/-- for at, sign in enumerate(text) -/
theorem f_enumS {z : Str} {i0 j0 : Nat} (Pv : Nat → L2.St → Hp → Prop) (h0 : Pv 0 σ H)
    (hs : ∀ (i : Nat) c σ H H', z.cps[i]? = some c → Pv i σ H → Same H H' → tb { D with nx := Pv (i + 1), ct := Pv (i + 1), bk := D.nx } ((σ.set i0 (some (.int (i : Nat)))).set j0 (some (.str ⟨#[c]⟩))) H') (hd : ∀ σ H, Pv z.cps.size σ H → D.nx σ H) :
    kFor (gTup K 2 (gCons (gName i0) (gCons (gName j0) gNil))) tb D σ (ItE z) H :=
  for_it walk_enumS Pv h0 (fun _ _ _ _ _ => trivial) (fun i x σ H H' hi p ⟨T, c, ev, hT, hc, eH⟩ => by
    subst ev eH
    exact ⟨T, _, rfl, SqT.of upd_same, rfl, _, _, rfl, _, _, rfl, rfl, hs i c σ H _ hc p (Same.new hT)⟩) hd
end
/-! dict displays -/
section
variable {σ : L2.St} {H : Hp} {Q : VK} {K : PySem.W.Frag}
def kDisp (Q : VK) (p : Addr) : List (V × V) → Hp → Prop := fun ps H2 => H2 p = some (.dK []) ∧ ∃ kvs : List (Key × V), ps = kvs.map (fun kv => (kV kv.1, kv.2)) ∧ kvs.length ≤ 15 ∧ Q (.ref p) (upd H2 p (.dK (mergeK [] kvs)))
theorem z_disp {trs : List (TE × TE)} (h : ∀ p H', H p = none → Same H H' → H' p = some (.dK []) → tPairs trs σ H' (kDisp Q p)) : tDisp trs σ H Q := fun p hp => h p _ hp (Same.new hp) upd_same
theorem z_pcons {tk tv : TE} {r : List (TE × TE)} {QP : List (V × V) → Hp → Prop} (h : tk σ H fun x H1 => tv σ H1 fun y H2 => tPairs r σ H2 fun ps H3 => QP ((x, y) :: ps) H3) : tPairs ((tk, tv) :: r) σ H QP := h
theorem z_pnil {QP : List (V × V) → Hp → Prop} (h : QP [] H) : tPairs [] σ H QP := h
theorem z_kDisp {p : Addr} {ps : List (V × V)} (kvs : List (Key × V)) (e : ps = kvs.map (fun kv => (kV kv.1, kv.2))) (h : H p = some (.dK [])) (hl : kvs.length ≤ 15) (k : ∀ H', But p H H' → H' p = some (.dK (mergeK [] kvs)) → Q (.ref p) H') : kDisp Q p ps H :=
  ⟨h, kvs, e, hl, k _ But.upd upd_same⟩
end
/-- a statement, then the rest, with a word between them (HandS.Codes) -/
def tCut (t u : TS) : TS := fun D σ H => ∃ Mid : L2.St → Hp → Prop, t { D with nx := Mid } σ H ∧ ∀ σ' H', Mid σ' H' → u D σ' H'
theorem pss_cut {X : Cx} {st : Stmt} {rest : List Stmt} {t u : TS} (h1 : PS X st t) (h2 : PSs X rest u) : PSs X (st :: rest) (tCut t u) := by
  refine ⟨fun pins s σ H D I h => ?_⟩
  obtain ⟨Mid, hm, hu⟩ := h
  refine wpAny_execs_cons (thn (h1.run pins s σ H { D with nx := Mid } I hm) fun f s1 q => ?_)
  cases f with
  | next =>
    obtain ⟨σ', H', I', q⟩ := q
    exact h2.run pins s1 σ' H' D I' (hu σ' H' q)
  | ret v => exact q
  | brk => exact q
  | cont => exact q
theorem z_cut {t u : TS} {D : Ends} {σ : L2.St} {H : Hp} (Mid : L2.St → Hp → Prop) (h1 : t { D with nx := Mid } σ H) (h2 : ∀ σ' H', Mid σ' H' → u D σ' H') : Nm.tCut t u D σ H := ⟨Mid, h1, h2⟩
theorem same_at {H H' : Hp} {a : Addr} {o : HO} (s : Same H H') (h : H a = some o) : H' a = some o := s a o h
theorem same_sq {K : PySem.W.Frag} {H H' : Hp} {a : Addr} {xs : List V} (s : Same H H') (h : SqL K H a xs) : SqL K H' a xs := s.seq h
theorem same_st {K : PySem.W.Frag} {H H' : Hp} {a : Addr} {xs : List V} (s : Same H H') (h : SqT K H a xs) : SqT K H' a xs := (same_keep s).t h
theorem But.same {p : Addr} {H H1 H2 : Hp} (s : Same H H1) (b : But p H1 H2) (hp : H p = none) : Same H H2 := fun a o e => b a o (ne_of_none e hp) (s a o e)
end Nm

/-! The own layer: comprehensions. -/
namespace Nm
open PySem PySem.Spec PyProof.Rows L2
def kLc (g : TG) (tt : TT) (te : TE) (vs : List Nat) (σ : L2.St) (Q : VK) : It → Hp → Prop := fun J H1 => ∀ D, H1 D = none → ∃ W : Nat → Nat → Hp → Prop, (∃ m, W 0 m (upd H1 D (.lst []))) ∧ ∀ i m H, W i m H →
  (J.stop i H ∧ Q (.ref D) H) ∨ (J.go i H ∧ ∃ Nx : Hp → Prop, (∀ H', Nx H' → ∃ m', m' < m ∧ W (i + 1) m' H') ∧ ∀ x H', J.yld i H x H' → g x (wipe σ vs) H' fun σ2 H2 => wipe σ2 vs = wipe σ vs ∧ tt σ2 H2 fun b H3 =>
    if b = true then te σ2 H3 fun y H4 => ∃ acc, H4 D = some (.lst acc) ∧ acc.length < sizeLine ∧ Nx (upd H4 D (.lst (acc ++ [y]))) else Nx H3)
section
variable {wi : TI} {g : TG} {tt : TT} {te : TE} {vs : List Nat} {σ : L2.St} {H : Hp} {Q : VK} {J : It} {K : PySem.W.Frag}
theorem z_lc (h : wi σ H (kLc g tt te vs σ Q)) : tLc wi g tt te vs σ H Q := h
theorem z_tYes {QT : Bool → Hp → Prop} (h : QT true H) : tYes σ H QT := h
def YEm {α : Type} (xs : List α) (e : α → V) : Nat → Hp → V → Hp → Prop := fun i H x H' => H' = H ∧ ∃ a, xs[i]? = some a ∧ x = e a
theorem filter_take {α : Type} (p : α → Bool) : ∀ (xs : List α) (i : Nat) (a : α), xs[i]? = some a → (xs.take (i + 1)).filter p = (xs.take i).filter p ++ (if p a = true then [a] else [])
  | [], i, a, h => by simp at h
  | x :: xs, 0, a, h => by
    have e : x = a := Option.some.inj h
    subst e
    cases q : p x <;> simp [q]
  | x :: xs, i + 1, a, h => by
    have ih := filter_take p xs i a h
    rw [List.take_succ_cons, List.take_succ_cons, List.filter_cons, List.filter_cons, ih]
    cases q : p x <;> simp
theorem set_none_twice {σ : L2.St} {i : Nat} {x : Option V} : ((σ.set i none).set i x).set i none = σ.set i none := by simp
/-- [f(x) for x in xs if p(x)], nothing of what stood changed -/
theorem l_pure {α : Type} {xs : List α} {e : α → V} {G : Hp → Prop} {i0 : Nat} (w : Walk J xs.length G (YEm xs e)) (p : α → Bool) (f : α → V) (hz : xs.length ≤ 1000000) (hG : ∀ H1, Same H H1 → G H1)
    (ht : ∀ (i : Nat) a H1, xs[i]? = some a → Same H H1 → ∀ QT : Bool → Hp → Prop, (∀ H2, Same H1 H2 → QT (p a) H2) → tt ((σ.set i0 none).set i0 (some (e a))) H1 QT)
    (he : ∀ (i : Nat) a H1, xs[i]? = some a → p a = true → Same H H1 → ∀ Q' : VK, (∀ H2, Same H1 H2 → Q' (f a) H2) → te ((σ.set i0 none).set i0 (some (e a))) H1 Q')
    (k : ∀ D H', H D = none → Same H H' → H' D = some (.lst ((xs.filter p).map f)) → Q (.ref D) H') : kLc (gName i0) tt te [i0] σ Q J H := fun D hD => by
  refine lc_it w (Pv := fun i H1 => Same H H1 ∧ H1 D = some (.lst (((xs.take i).filter p).map f))) ⟨Same.new hD, by rw [upd_same]; simp⟩ (fun i H1 _ ⟨s, _⟩ => hG H1 s) ?_ ?_
  · rintro i x H1 H1' hi ⟨s1, h1⟩ ⟨eH, a, ha, ex⟩
    subst eH ex
    refine ⟨set_none_twice, ?_⟩
    refine ht i a _ ha s1 _ fun H2 s2 => ?_
    have hf := filter_take p xs i a ha
    cases q : p a with
    | true =>
      refine iteT ?_
      refine he i a H2 ha q (s1.trans s2) _ fun H3 s3 => ?_
      refine ⟨_, s3 _ _ (s2 _ _ h1), ?_, Nm.Same.mut ((s1.trans s2).trans s3) hD, ?_⟩
      · have h2 : ((xs.take i).filter p).length ≤ i := Nat.le_trans (List.length_filter_le _ _) (by rw [List.length_take]; omega)
        rw [List.length_map, sizeLine_eq]
        omega
      · rw [upd_same, hf, q]
        simp
    | false =>
      refine iteF ?_
      refine ⟨s1.trans s2, ?_⟩
      rw [hf, q, s2 _ _ h1]
      simp
  · rintro H1 ⟨s1, h1⟩
    refine k D H1 hD s1 ?_
    rw [h1, List.take_length]
theorem walk_text {z : Str} : Walk (Its z) z.cps.toList.length (fun _ => True) (YEm z.cps.toList fun c => V.str ⟨#[c]⟩) where
  goes := fun i H hi _ => by
    have hi' : i < z.cps.size := by simpa using hi
    exact walk_str.goes i H hi' trivial
  stops := fun H _ => by
    have e : z.cps.toList.length = z.cps.size := by simp
    rw [e]
    exact walk_str.stops H trivial
  yields := fun i H x H' hi _ y => by
    have hi' : i < z.cps.size := by simpa using hi
    obtain ⟨e, c, hc, ev⟩ := walk_str.yields i H x H' hi' trivial y
    exact ⟨e, c, by simpa using hc, ev⟩
theorem walk_lst {a : Addr} {xs : List V} : Walk (Itl K a) xs.length (fun H => SqL K H a xs) (YEm xs id) where
  goes := walk_list.goes
  stops := walk_list.stops
  yields := fun i H x H' hi g y => by
    obtain ⟨e, h⟩ := walk_list.yields i H x H' hi g y
    exact ⟨e, x, h, rfl⟩
theorem walk_lstE {α : Type} {a : Addr} {xs : List α} {e : α → V} : Walk (Itl K a) xs.length (fun H => SqL K H a (xs.map e)) (YEm xs e) where
  goes := fun i H hi g => walk_list.goes i H (by rw [List.length_map]; exact hi) g
  stops := fun H g => by
    have q := walk_list.stops H g
    rw [List.length_map] at q
    exact q
  yields := fun i H x H' hi g y => by
    obtain ⟨e1, h⟩ := walk_list.yields i H x H' (by rw [List.length_map]; exact hi) g y
    rw [List.getElem?_map] at h
    cases q : xs[i]? with
    | none => rw [q] at h; cases h
    | some y => rw [q] at h; exact ⟨e1, y, q, (Option.some.inj h).symm⟩
theorem walk_tupE {α : Type} {a : Addr} {xs : List α} {e : α → V} : Walk (Itt K a) xs.length (fun H => SqT K H a (xs.map e)) (YEm xs e) where
  goes := fun i H hi g => walk_tup.goes i H (by rw [List.length_map]; exact hi) g
  stops := fun H g => by
    have q := walk_tup.stops H g
    rw [List.length_map] at q
    exact q
  yields := fun i H x H' hi g y => by
    obtain ⟨e1, h⟩ := walk_tup.yields i H x H' (by rw [List.length_map]; exact hi) g y
    rw [List.getElem?_map] at h
    cases q : xs[i]? with
    | none => rw [q] at h; cases h
    | some y => rw [q] at h; exact ⟨e1, y, q, (Option.some.inj h).symm⟩
theorem walk_rng {lo : Int} {n : Nat} : Walk (Itr lo n) (List.range n).length (fun _ => True) (YEm (List.range n) fun i => V.int (lo + (i : Nat))) where
  goes := fun i H hi g => by
    have hi' : i < n := by simpa using hi
    exact walk_range.goes i H hi' g
  stops := fun H g => by
    rw [List.length_range]
    exact walk_range.stops H g
  yields := fun i H x H' hi g y => by
    have hi' : i < n := by simpa using hi
    obtain ⟨e1, h⟩ := walk_range.yields i H x H' hi' g y
    exact ⟨e1, i, by rw [List.getElem?_range]; simpa using hi', h⟩
end
/-! texts by their signs -/
abbrev tl (z : Str) : List Nat := z.cps.toList
theorem str_ext {a b : Str} (h : tl a = tl b) : a = b := by
  obtain ⟨x⟩ := a
  obtain ⟨y⟩ := b
  congr 1
  exact Array.toList_inj.mp h
theorem str_eq {a b : Str} : (a = b) = (tl a = tl b) := propext ⟨fun h => by rw [h], str_ext⟩
theorem str_len (z : Str) : z.length = (tl z).length := by
  show z.cps.size = z.cps.toList.length
  simp
theorem tl_app (a b : Str) : tl (a ++ b) = tl a ++ tl b := by
  show (a.cps ++ b.cps).toList = _
  simp
theorem app_len (a b : Str) : (a ++ b).length = a.length + b.length := by
  rw [str_len, str_len, str_len, tl_app, List.length_append]
theorem tl_mk (l : List Nat) : tl ⟨l.toArray⟩ = l := by simp [tl]
theorem line_ge {n : Nat} (h : n ≤ 1000000) : n ≤ sizeLine := Nat.le_trans h (by decide)
theorem tl_cut (z : Str) (lo hi : Option Int) : tl (cutS z lo hi) = ((tl z).drop (HT.sIx z.length 0 lo)).take (HT.sIx z.length z.length hi - HT.sIx z.length 0 lo) := by
  unfold cutS
  exact tl_mk _
theorem cut_to (z : Str) (k : Nat) : tl (cutS z none (some (k : Int))) = (tl z).take k := by
  rw [tl_cut, HT.sIx_nat, HT.sIx_none, List.drop_zero, Nat.sub_zero, str_len, Nat.min_def]
  by_cases h : k ≤ (tl z).length
  · rw [if_pos h]
  · rw [if_neg h, List.take_length, List.take_of_length_le (by omega)]
theorem cut_from (z : Str) (k : Nat) : tl (cutS z (some (k : Int)) none) = (tl z).drop k := by
  rw [tl_cut, HT.sIx_nat, HT.sIx_none, str_len]
  by_cases h : k ≤ (tl z).length
  · rw [Nat.min_eq_left h, List.take_of_length_le (by rw [List.length_drop]; omega)]
  · rw [Nat.min_eq_right (by omega), List.drop_length, List.take_nil, List.drop_of_length_le (by omega)]
theorem cut_mid (z : Str) (a b : Nat) (h : b ≤ (tl z).length) : tl (cutS z (some (a : Int)) (some (b : Int))) = ((tl z).drop a).take (b - a) := by
  rw [tl_cut, HT.sIx_nat, HT.sIx_nat, str_len, Nat.min_eq_left h]
  by_cases q : a ≤ (tl z).length
  · rw [Nat.min_eq_left q]
  · have e : b - a = 0 := by omega
    have e2 : b - min a (tl z).length = 0 := by omega
    rw [e, e2, List.take_zero, List.take_zero]
/-- a text of one sign against a written one -/
theorem one_eq {c k : Nat} {x : Str} (e : tl x = [k]) : decide ((⟨#[c]⟩ : Str) = x) = decide (c = k) := by
  refine decide_eq_decide.mpr ?_
  rw [str_eq, e]
  refine ⟨fun h => ?_, fun h => ?_⟩
  · have h' : [c] = [k] := h
    exact (List.cons.inj h').1
  · show [c] = [k]
    rw [h]
theorem txt_eq {z x : Str} {k : List Nat} (e : tl x = k) : decide (z = x) = decide (tl z = k) := decide_eq_decide.mpr (by rw [str_eq, e])
theorem tl_mulS (z : Str) (n : Nat) : tl (mulS z n) = (List.replicate n (tl z)).flatten := by
  unfold mulS
  exact tl_mk _
end Nm

/-! The own layer: data without lists stands while a list changes; lists that grow. -/
namespace Nm
open PySem PySem.Spec PyProof.Rows L2
mutual
def noL : PyData → Bool
  | .list _ => false
  | .tuple ds => noLs ds
  | .dict _ => false
  | _ => true
def noLs : List PyData → Bool
  | [] => true
  | d :: ds => noL d && noLs ds
end
/-- tuples stand -/
def KT (K : PySem.W.Frag) (H H' : Hp) : Prop := ∀ a xs, SqT K H a xs → SqT K H' a xs
theorem KT.keep {K : PySem.W.Frag} {H H' : Hp} (k : Keep H H') : KT K H H' := fun _ _ h => k.t h
theorem KT.trans {K : PySem.W.Frag} {H H1 H2 : Hp} (a : KT K H H1) (b : KT K H1 H2) : KT K H H2 := fun x o h => b x o (a x o h)
theorem KT.upd {K : PySem.W.Frag} {H : Hp} {p : Addr} {xs : List V} {o : HO} (h : H p = some (.lst xs)) : KT K H (upd H p o) := fun a ys q => by
  rcases q with (q | ⟨u, q⟩) | q
  · exact .inl (.inl (by rw [upd_ne (ne_of q h (by intro z; cases z))]; exact q))
  · exact .inl (.inr ⟨u, by rw [upd_ne (ne_of q h (by intro z; cases z))]; exact q⟩)
  · exact .inr q
mutual
theorem dp_kt {K : PySem.W.Frag} {H H' : Hp} (k : KT K H H') : ∀ {v : V} {d : PyData}, noL d = true → Dp K H v d → Dp K H' v d
  | _, _, _, .non => .non
  | _, _, _, .bl b => .bl b
  | _, _, _, .int i => .int i
  | _, _, _, .str x => .str x
  | _, _, n, .lst h l => by simp [noL] at n
  | _, _, n, .tup h l => .tup (k _ _ h) (dps_kt k (by simpa [noL] using n) l)
theorem dps_kt {K : PySem.W.Frag} {H H' : Hp} (k : KT K H H') : ∀ {v : List V} {d : List PyData}, noLs d = true → DpAll K H v d → DpAll K H' v d
  | _, _, _, .nil => .nil
  | _, _, n, .cons h l => by
    simp only [noLs, Bool.and_eq_true] at n
    exact .cons (dp_kt k n.1 h) (dps_kt k n.2 l)
end
theorem dps_app {K : PySem.W.Frag} {H : Hp} : ∀ {vs ws : List V} {ds es : List PyData}, DpAll K H vs ds → DpAll K H ws es → DpAll K H (vs ++ ws) (ds ++ es)
  | _, _, _, _, .nil, h => h
  | _, _, _, _, .cons a l, h => .cons a (dps_app l h)
theorem dps_len {K : PySem.W.Frag} {H : Hp} : ∀ {vs : List V} {ds : List PyData}, DpAll K H vs ds → vs.length = ds.length
  | _, _, .nil => rfl
  | _, _, .cons _ l => by rw [List.length_cons, List.length_cons, dps_len l]
theorem noLs_app : ∀ (ds es : List PyData), noLs (ds ++ es) = (noLs ds && noLs es)
  | [], es => by simp [noLs]
  | d :: ds, es => by
    show (noL d && noLs (ds ++ es)) = _
    rw [noLs_app ds es]
    show _ = (noL d && noLs ds && noLs es)
    rw [Bool.and_assoc]
/-- a list at p that holds the data ds, none of them with a list in it -/
structure Grow (K : PySem.W.Frag) (H : Hp) (p : Addr) (ds : List PyData) : Prop where
  no : noLs ds = true
  ex : ∃ vs, H p = some (.lst vs) ∧ DpAll K H vs ds
theorem Grow.same {K : PySem.W.Frag} {H H' : Hp} {p : Addr} {ds : List PyData} (g : Grow K H p ds) (s : Same H H') : Grow K H' p ds := by
  obtain ⟨n, vs, h, l⟩ := g
  exact ⟨n, vs, s _ _ h, dps_keep (same_keep s) l⟩
theorem Grow.keep {K : PySem.W.Frag} {H H' : Hp} {p : Addr} {ds : List PyData} (g : Grow K H p ds) (s : Keep H H') : Grow K H' p ds := by
  obtain ⟨n, vs, h, l⟩ := g
  exact ⟨n, vs, s _ _ h rfl, dps_keep s l⟩
theorem grow_nil {K : PySem.W.Frag} {H : Hp} {p : Addr} (h : H p = some (.lst [])) : Grow K H p [] := ⟨rfl, [], h, .nil⟩
theorem Grow.sq {K : PySem.W.Frag} {H : Hp} {p : Addr} {ds : List PyData} (g : Grow K H p ds) : ∃ vs, SqL K H p vs ∧ DpAll K H vs ds ∧ vs.length = ds.length := by
  obtain ⟨n, vs, h, l⟩ := g
  exact ⟨vs, SqL.of h, l, dps_len l⟩
/-- xs.append(v) of a growing list -/
theorem z_append {K : PySem.W.Frag} {H : Hp} {p : Addr} {ds : List PyData} {v : V} {d : PyData} {Q : VK} (g : Grow K H p ds) (hv : Dp K H v d) (hn : noL d = true) (hl : ds.length ≤ 1000000) (k : ∀ H', Grow K H' p (ds ++ [d]) → (∀ H0, Same H0 H → H0 p = none → Same H0 H') → (∀ a, a ≠ p → H' a = H a) → Q .non H') :
    rAppend (.ref p) [v] H Q := by
  obtain ⟨n, vs, h, l⟩ := g
  have hlen := dps_len l
  refine ⟨p, vs, v, rfl, rfl, h, by rw [sizeLine_eq]; omega, k _ ⟨by rw [noLs_app, n]; simp [noLs, hn], _, upd_same, ?_⟩ (fun H0 s hp => Nm.Same.mut s hp) fun a ha => upd_ne ha⟩
  exact dps_app (dps_kt (KT.upd h) n l) (.cons (dp_kt (KT.upd h) hn hv) .nil)
theorem Grow.ty {K : PySem.W.Frag} {H : Hp} {p : Addr} {ds : List PyData} (g : Grow K H p ds) : tyV K "list" (.ref p) H := by
  obtain ⟨n, vs, h, l⟩ := g
  exact .inl ⟨rfl, _, SqL.of h⟩
end Nm

/-! The own layer: comprehensions over a text; == of data. -/
namespace Nm
open PySem PySem.Spec PyProof.Rows L2
section
variable {te : TE} {tt : TT} {σ : L2.St} {H : Hp} {Q : VK} {K : PySem.W.Frag}
/-- [g(c) for c in z], truth values -/
theorem l_textB {z : Str} {i0 : Nat} (g : Nat → Bool) (hz : z.length ≤ 1000000)
    (he : ∀ (c : Nat) H1, c ∈ tl z → Same H H1 → ∀ Q' : VK, Q' (.bl (g c)) H1 → te ((σ.set i0 none).set i0 (some (.str ⟨#[c]⟩))) H1 Q')
    (k : ∀ D H', H D = none → Same H H' → H' D = some (.lst (((tl z).map g).map V.bl)) → Q (.ref D) H') : kLc (gName i0) tYes te [i0] σ Q (Its z) H := by
  refine l_pure (p := fun _ => true) (f := fun c => V.bl (g c)) walk_text (by rw [← str_len]; exact hz) (fun _ _ => trivial) (fun i a H1 _ s QT q => q H1 (Same.refl _)) (fun i a H1 ha _ s Q' q => he a H1 (List.mem_of_getElem? ha) s Q' (q H1 (Same.refl _))) fun D H' hD s h => k D H' hD s ?_
  rw [h]
  have e : (z.cps.toList.filter fun _ => true) = z.cps.toList := List.filter_eq_self.mpr fun _ _ => rfl
  rw [e, List.map_map]
  rfl
/-- [1 for c in z if p(c)] -/
theorem l_textF {z : Str} {i0 : Nat} (p : Nat → Bool) (v : V) (hz : z.length ≤ 1000000)
    (ht : ∀ (c : Nat) H1, c ∈ tl z → Same H H1 → ∀ QT : Bool → Hp → Prop, QT (p c) H1 → tt ((σ.set i0 none).set i0 (some (.str ⟨#[c]⟩))) H1 QT)
    (he : ∀ (c : Nat) H1, Same H H1 → ∀ Q' : VK, Q' v H1 → te ((σ.set i0 none).set i0 (some (.str ⟨#[c]⟩))) H1 Q')
    (k : ∀ D H', H D = none → Same H H' → H' D = some (.lst (((tl z).filter p).map fun _ => v)) → Q (.ref D) H') : kLc (gName i0) tt te [i0] σ Q (Its z) H :=
  l_pure (p := p) (f := fun _ => v) walk_text (by rw [← str_len]; exact hz) (fun _ _ => trivial) (fun i a H1 ha s QT q => ht a H1 (List.mem_of_getElem? ha) s QT (q H1 (Same.refl _))) (fun i a H1 _ _ s Q' q => he a H1 s Q' (q H1 (Same.refl _))) k
end
theorem dps_ints {K : PySem.W.Frag} {H : Hp} {α : Type} (n : Int) : ∀ (l : List α), DpAll K H (l.map fun _ => V.int n) (l.map fun _ => PyData.int n)
  | [] => .nil
  | _ :: l => .cons (.int n) (dps_ints n l)
theorem dps_bls {K : PySem.W.Frag} {H : Hp} : ∀ (l : List Bool), DpAll K H (l.map V.bl) (l.map PyData.bool)
  | [] => .nil
  | b :: l => .cons (.bl b) (dps_bls l)
theorem eqvAll_nil {l : List PyData} : PyData.eqvAll l [] = decide (l = []) := by
  cases l with
  | nil => rfl
  | cons a l => rfl
theorem eqv_list_nil {l : List PyData} : PyData.eqv (.list l) (.list []) = decide (l = []) := eqvAll_nil
theorem canLayAll_iff : ∀ {l : List PyData}, PyData.canLayAll0 l = true ↔ ∀ d ∈ l, PyData.canLay0 d = true
  | [] => by simp [PyData.canLayAll0]
  | d :: l => by simp [PyData.canLayAll0, canLayAll_iff (l := l)]
theorem depthAll_le {n : Nat} : ∀ {l : List PyData}, (∀ d ∈ l, PyData.depth d ≤ n) → PyData.depthAll l ≤ n
  | [], _ => by simp [PyData.depthAll]
  | d :: l, h => by
    simp only [PyData.depthAll]
    exact Nat.max_le.mpr ⟨h d (by simp), depthAll_le fun e he => h e (by simp [he])⟩
/-- a list, a tuple, of things that are not deep -/
theorem shaped_list {n : Nat} {l : List PyData} (hn : n < 64) (h : ∀ d ∈ l, PyData.canLay0 d = true ∧ PyData.depth d ≤ n) : SeqAt.shaped (.list l) = true := by
  unfold SeqAt.shaped
  rw [Bool.and_eq_true]
  refine ⟨?_, decide_eq_true ?_⟩
  · simp only [PyData.canLay0]
    exact canLayAll_iff.mpr fun d hd => (h d hd).1
  · simp only [PyData.depth]
    have := depthAll_le (n := n) fun d hd => (h d hd).2
    omega
theorem shaped_tup {n : Nat} {l : List PyData} (hn : n < 64) (h : ∀ d ∈ l, PyData.canLay0 d = true ∧ PyData.depth d ≤ n) : SeqAt.shaped (.tuple l) = true := by
  unfold SeqAt.shaped
  rw [Bool.and_eq_true]
  refine ⟨?_, decide_eq_true ?_⟩
  · simp only [PyData.canLay0]
    exact canLayAll_iff.mpr fun d hd => (h d hd).1
  · simp only [PyData.depth]
    have := depthAll_le (n := n) fun d hd => (h d hd).2
    omega
theorem eqv_refl_shaped {d : PyData} (h : SeqAt.shaped d = true) : PyData.eqv d d = true := PySem.SeqAt.eqv_refl d (SeqAt.canLay_of_shaped h)
/-- [n for c in z if c not in x] == [] -/
theorem z_noneOf {tx ts : TE} {i : Nat} {n : Int} {z x : Str} {σ : L2.St} {H : Hp} {Q : VK} {K : PySem.W.Frag} (hz : z.length ≤ 100000) (h1 : ∀ R : VK, R (.str z) H → tx σ H R)
    (h2 : ∀ (c : Nat) H1, Same H H1 → ∀ R : VK, R (.str x) H1 → ts ((σ.set i none).set i (some (.str ⟨#[c]⟩))) H1 R) (hi : i < σ.length)
    (k : ∀ H', Same H H' → Q (.bl (decide ((tl z).filter (fun c => !decide (c ∈ tl x)) = []))) H') : tOp (rEqD K) (tLc (iStr tx) (gName i) (tTest (tOp nNotInC (tVar i) ts)) (tC (.int n)) [i]) (tLst tNil) σ H Q := by
  refine z_op (z_lc (z_iStr (h1 _ (z_kIS ?_))))
  refine l_textF (fun c => !decide (c ∈ tl x)) (.int n) (by omega) (fun c H1 _ s QT q => ?_) (fun c H1 s Q' q => q) fun D H' hD s hDl => ?_
  · refine z_test (z_op (z_var (v := .str ⟨#[c]⟩) (by simp [hi]) (h2 c H1 s _ (z_notInC (z_kT q)))))
  · refine z_lst (z_nil (z_kLst (Nat.zero_le _) fun p H2 hp s2 hp2 => ?_))
    refine z_eqD (d := .list (((tl z).filter (fun c => !decide (c ∈ tl x))).map fun _ => .int n)) (e := .list []) (.lst (SqL.of (s2 _ _ hDl)) (dps_ints n _)) (.lst (SqL.of hp2) .nil) (shaped_list (n := 0) (by decide) fun d hd => ?_) rfl ?_
    · obtain ⟨c, _, rfl⟩ := List.mem_map.mp hd
      exact ⟨rfl, Nat.le_refl _⟩
    · rw [eqv_list_nil]
      have e : decide ((((tl z).filter (fun c => !decide (c ∈ tl x))).map fun _ => PyData.int n) = []) = decide ((tl z).filter (fun c => !decide (c ∈ tl x)) = []) := decide_eq_decide.mpr List.map_eq_nil_iff
      rw [e]
      exact k H2 (s.trans s2)
/-- a text of at most n good signs -/
def okS (n : Nat) (x : Str) : Prop := x.length ≤ n ∧ PyData.strOk x = true
def okV (n : Nat) : V → Bool
  | .str x => decide (x.length ≤ n) && PyData.strOk x
  | _ => false
theorem okV_of {n : Nat} {ys : List V} {v : V} (h : ys.all (okV n) = true) (hv : v ∈ ys) : ∃ x, v = .str x ∧ okS n x := by
  have q := List.all_eq_true.mp h v hv
  cases v with
  | str x =>
    have q' : (decide (x.length ≤ n) && PyData.strOk x) = true := q
    rw [Bool.and_eq_true] at q'
    exact ⟨x, rfl, of_decide_eq_true q'.1, q'.2⟩
  | _ => cases q
theorem strOk_iff {x : Str} : PyData.strOk x = true ↔ ∀ c ∈ tl x, c < 0x110000 := by
  unfold PyData.strOk
  rw [← Array.all_toList, List.all_eq_true]
  simp
theorem okS_app {a b : Nat} {x y : Str} (hx : okS a x) (hy : okS b y) : okS (a + b) (x ++ y) := by
  refine ⟨by rw [app_len]; have := hx.1; have := hy.1; omega, ?_⟩
  rw [strOk_iff, tl_app]
  intro c hc
  rcases List.mem_append.mp hc with q | q
  · exact strOk_iff.mp hx.2 c q
  · exact strOk_iff.mp hy.2 c q
theorem okS.le {a b : Nat} {x : Str} (h : okS a x) (e : a ≤ b) : okS b x := ⟨Nat.le_trans h.1 e, h.2⟩
theorem signs_ok {z : Str} (h : PyData.strOk z = true) : (signsV z).all (okV 1) = true := by
  rw [List.all_eq_true]
  intro v hv
  obtain ⟨c, hc, rfl⟩ := List.mem_map.mp hv
  show (decide ((⟨#[c]⟩ : Str).length ≤ 1) && PyData.strOk ⟨#[c]⟩) = true
  rw [Bool.and_eq_true]
  refine ⟨rfl, strOk_iff.mpr fun c' hc' => ?_⟩
  have e : c' = c := by simpa [tl] using hc'
  rw [e]
  exact strOk_iff.mp h c hc
theorem signs_ne {z : Str} (h : 0 < z.length) : signsV z ≠ [] := by
  unfold signsV
  intro q
  have := List.map_eq_nil_iff.mp q
  rw [str_len] at h
  rw [show tl z = [] from this] at h
  exact absurd h (by decide)
theorem signs_len (z : Str) : (signsV z).length = z.length := by
  unfold signsV
  rw [List.length_map, str_len]
theorem same_but {d : Addr} {H H' : Hp} (s : Same H H') : But d H H' := fun a o _ h => s a o h
/-- a drawn text out of a list of texts -/
theorem use_pick {K : PySem.W.Frag} {H : Hp} {Q : VK} {E : XK} {d c p : Addr} {m : Nat} {ys : List V} (n : Nat) (hp : Pen K H d c (m + 1)) (h : H p = some (.lst ys)) (hok : ys.all (okV n) = true) (hne : ys ≠ []) (hl : ys.length ≤ 100000)
    (k : ∀ x H', okS n x → But d H H' → Pen K H' d c m → Q (.str x) H') : spPick K [.ref d, .ref p] H Q E :=
  ⟨d, c, p, m, ys, rfl, hp, SqL.of h, hne, hl, fun v H' hv b p' => by
    obtain ⟨x, rfl, ox⟩ := okV_of hok hv
    exact k x H' ox b p'⟩
theorem use_draw {K : PySem.W.Frag} {H : Hp} {Q : VK} {E : XK} {d c : Addr} {m : Nat} {many : Int} (hp : Pen K H d c (m + 1)) (h0 : 0 < many) (h1 : many ≤ 1000000000000000000) (k : ∀ (r : Int) H', 0 ≤ r → r < many → But d H H' → Pen K H' d c m → Q (.int r) H') : spDraw K [.ref d, .int many] H Q E :=
  ⟨d, c, m, many, rfl, hp, h0, log2_small h0 h1, k⟩
end Nm

/-! The own layer: the end. -/
namespace Nm
open PySem PySem.Spec PyProof.Rows L2
theorem walk_ofX {l : PySem.W.OpenLaw} {n k : Nat} {q : Program} {loose : List Str} {XP : (Str → Option Value) → Heap → Prop} {YP : World → Heap → Prop} {d : DefRec} {K : Params → PySem.W.Frag} {CX : CXT} {sp : PySem.W.Frag → Sp} {x : Str}
    (hn : l.most = some n) (hn2 : n ≤ sizeLine) (hdf : d.params.defaults = []) (hr : Room k callerA)
    (hY : ∀ (w : World) (h : Heap), YP w h → (K w.params).In h)
    (F : ∀ (w : World) (mg : Str → Option Value) (fa : Addr) (h : Heap), XP mg h → (K w.params).In h → h.Ns mainGlobals mg → mg d.name = some (.ref fa) →
      ∃ fd : FuncData, (∀ (s : Shared) (u : Value), BindsTo s fd ⟨[u], []⟩ [(x, u)]) ∧
        ∀ base : Heap, (K w.params).In base → base.Ns mainGlobals mg → FnOk l.prog w (K w.params) mg base CX k fa fd [x] (sp (K w.params)))
    (hsp : ∀ (K : PySem.W.Frag) (H : Hp) (a : Addr) (ns : List Int), ns.length ≤ n → SqL K H a (ns.map V.int) → sp K [.ref a] H (fun v _ => v = .bl true) fun _ _ _ => False)
    (hCX : ∀ (H : Hp) (s : Shared) (e : Value) (s' : Shared), CX [] H s (fun _ _ _ => False) e s' → False) :
    PySem.W.WalkO q loose XP YP l.row.toRowW d [] (fun f vs => PySem.call f vs) := by
  refine Att.attach_call hn hdf fun w s₀ s₁ mg mb fa o pm cd doc a vs ns G Y ho hd hcd hmg hobj hints hlen hg => ?_
  have KX := hY w _ Y
  obtain ⟨fd, hb, hF⟩ := F w mg fa _ G.X KX G.T.g hmg
  exact law_call KX G.T.g G.T.b G.T.builtins G.T.nolimit hg hobj hints (Nat.le_trans hlen hn2) hr hF hb (fun H hO hS => hsp (K w.params) H a ns hlen hS) fun H e s' => hCX H s₁ e s'
theorem df_mk {K : PySem.W.Frag} {mg : Str → Option Value} {h : Heap} {x : Str} {st : Stmt} {ps : List Str} {f : Addr} {oc : Value} {od an : Option Addr} {osl : Array (Option Value)} {kV doc pm cdv ct : Value} (X : K.In h) (G : h.Ns mainGlobals mg)
    (n : PySem.W.nsIn K mainGlobals x = some (some (.ref f)))
    (l : K.lookup f = some ⟨oc, od, .func (PySem.W.fnOf x x (defArgs st) (defBody st) (defScope st) .none kV doc pm an cdv ct), osl⟩) (c : PySem.W.codeIn K cdv x = true) (k : PySem.W.keepIn K (.ref f) = true)
    (hb : ∀ (kV doc pm : Value) (an : Option Addr) (cdv ct : Value) (us : List Value), us.length = ps.length → bindArgs (PySem.W.fnOf x x (defArgs st) (defBody st) (defScope st) .none kV doc pm an cdv ct) ⟨us, []⟩ = pure (ps.zip us)) :
    ∃ a fd, Df K mg x st ps a fd :=
  ⟨f, _, fun_mk (st := st) l c k, PySem.W.mg_of X G n, (fun_mk (st := st) l c k).binds hb⟩
theorem df_mkB {K : PySem.W.Frag} {mg : Str → Option Value} {h : Heap} {x : Str} {st : Stmt} {ps : List Str} {f : Addr} {oc : Value} {od an : Option Addr} {osl : Array (Option Value)} {kV doc pm cdv ct : Value} (X : K.In h) (G : h.Ns mainGlobals mg)
    (n : PySem.W.nsIn K mainGlobals x = some (some (.ref f)))
    (l : K.lookup f = some ⟨oc, od, .func (PySem.W.fnOf x x (defArgs st) (defBody st) (defScope st) .none kV doc pm an cdv ct), osl⟩) (c : PySem.W.codeIn K cdv x = true) (k : PySem.W.keepIn K (.ref f) = true)
    (hb : ∀ (kV doc pm : Value) (an : Option Addr) (cdv ct : Value) (us : List Value), us.length = ps.length → bindArgs (PySem.W.fnOf x x (defArgs st) (defBody st) (defScope st) .none kV doc pm an cdv ct) ⟨us, []⟩ = pure (ps.zip us)) :
    ∃ a fd, Df K mg x st ps a fd ∧ ∀ (s : Shared) (us : List Value), us.length = ps.length → BindsTo s fd ⟨us, []⟩ (ps.zip us) :=
  ⟨f, _, ⟨fun_mk (st := st) l c k, PySem.W.mg_of X G n, (fun_mk (st := st) l c k).binds hb⟩, fun s us hl => .of_eq (hb _ _ _ _ _ _ us hl)⟩
theorem str_mk {K : PySem.W.Frag} {mg : Str → Option Value} {h : Heap} {x z : Str} {t : Tok} (X : K.In h) (G : h.Ns mainGlobals mg) (n : PySem.W.nsIn K mainGlobals x = some (some (.str z t))) : ∃ t, mg x = some (.str z t) := ⟨t, PySem.W.mg_of X G n⟩
theorem loose_mk {q : Program} {lv : List (Str × PySem.W.WData)} {mg : Str → Option Value} {h : Heap} {x z : Str} (X : PySem.W.XL q lv mg h) (m : (x, PySem.W.WData.str z) ∈ lv) : ∃ t, mg x = some (.str z t) := by
  obtain ⟨v, e, r⟩ := X.2.val _ m
  obtain ⟨t, rfl, _⟩ := PySem.W.readsW_str_inv r
  exact ⟨t, e⟩
theorem tup_mk {K : PySem.W.Frag} {mg : Str → Option Value} {h : Heap} {x : Str} {a : Addr} {od : Option Addr} {its : Array Value} {n : Nat} {sl : Array (Option Value)} (xs : List V) (X : K.In h) (G : h.Ns mainGlobals mg) (e : PySem.W.nsIn K mainGlobals x = some (some (.ref a)))
    (l : K.lookup a = some ⟨.type "tuple", od, .seq its n, sl⟩) (hz : its.size ≤ sizeLine) (r : Vals xs its.toList) : ∃ a, mg x = some (.ref a) ∧ ∀ H, SqT K H a xs :=
  ⟨a, PySem.W.mg_of X G e, fun _ => .inr ⟨_, its, n, l, rfl, rfl, hz, r⟩⟩
end Nm

/-! The own layer: exception classes of the program over an own base over ValueError, whose __init__ says super().__init__(fields) and then stores each field. -/
namespace NmE
open PySem PySem.W PySem.Calls PyProof.Rows PySem.HandSPX
open L2 (defArgs defBody defScope)
/-- the stores of an __init__, field by field -/
inductive Sets : List Stmt → List Str → Prop
  | nil : Sets [] []
  | cons {f : Str} {q1 q2 q3 q4 : Pos} {r : List Stmt} {fs : List Str} (h : Sets r fs) : Sets (.Assign [.Attribute (.Name "self" q1) f q2] (.Name f q3) q4 :: r) (f :: fs)
/-- names as arguments -/
inductive Args1 : List Expr → List Str → Prop
  | nil : Args1 [] []
  | cons {f : Str} {q : Pos} {r : List Expr} {fs : List Str} (h : Args1 r fs) : Args1 (.Name f q :: r) (f :: fs)
/-- the text of such an __init__ -/
structure Ini (st : Stmt) (fs : List Str) : Prop where
  body : ∃ (p0 p1 p2 p3 p4 : Pos) (es : List Expr) (r : List Stmt), defBody st = .Expr (.Call (.Attribute (.Call (.Name "super" p0) [] [] p1) "__init__" p2) es [] p3) p4 :: r ∧ Args1 es fs ∧ Sets r fs ∧ (p2.endLine == p3.line) = true
  few : fs.length < 20
  head : ∃ ar : Arg, ((defArgs st).posonlyargs ++ (defArgs st).args).head? = some ar ∧ ar.arg = "self"
  locals : ∀ f ∈ ("self" : Str) :: fs, (defScope st).names.lookup f = some .local
  nodup : (("self" : Str) :: fs).Nodup
  nodbg : ∀ f ∈ fs, (f == ("__debug__" : Str)) = false
  sup : (defScope st).names.lookup ("super" : Str) = some .globalImplicit
  cls : (defScope st).names.lookup ("__class__" : Str) = some .free
  cells : ∀ x ∈ (defScope st).names, x.2 ≠ .cell
  co : (defScope st).isCoroutine = false
  gen : (defScope st).isGenerator = false
  kind : (defScope st).kind = .function
/-- what the written part says of the class at C -/
structure Err (P : Program) (K : Frag) (mg : Str → Option Value) (x : Str) (C : Addr) (fs : List Str) : Prop where
  gC : mg x = some (.ref C)
  cls : ∃ nm q N bs bm sn sub ab col dd k0 k1 k2 k3 k5, K.lookup C = some (excClassObj nm q C N bs bm true sn sub ab col dd k0 k1 k2 k3 k5 "ValueError.__new__") ∧ refsVE bm = true
  sa : findIn K (.ref C) "__setattr__" = some (some (.builtin "object.__setattr__"))
  ga : findIn K (.ref C) "__getattribute__" = some (some (.builtin "BaseException.__getattribute__"))
  gg : findIn K (.ref C) "__getattr__" = some none
  noN : ∀ f ∈ fs, findIn K (.ref C) f = some none
  kC : keepIn K (.ref C) = true
  exC : subIn K (.ref C) (.type "BaseException") = some true
  veC : subIn K (.ref C) (.type "ValueError") = some true
  tyC : typeIn K (.ref C) = some (.type "type")
  hdC : hasDictIn K C = true
  opq : nsIn K cStatics "thirdparty.any" = some none
  sup : ks_superIn K C C "__init__" = some (some (.builtin "ValueError.__init__"))
  own : mroIn K C (.ref C) = some true
  top : (P.main.scope.names.lookup ("super" : Str)).isSome = false
  nsp : mg "super" = none
  init : ∃ (fI cc cda : Addr) (st : Stmt) (qual : Str) (oc dV kV doc pm ct cl ccl : Value) (od an cld cdd : Option Addr) (osl csl ccs : Array (Option Value)) (vs : Array Value) (file : Str) (tf : Tok),
    findIn K (.ref C) "__init__" = some (some (.ref fI)) ∧ typeIn K (.ref fI) = some (.type "function") ∧
    K.lookup fI = some ⟨oc, od, .func (ksFn "__init__" qual (defArgs st) (defBody st) (defScope st) dV kV doc pm an (.ref cda) ct cc), osl⟩ ∧ codeIn K (.ref cda) qual = true ∧ Ini st fs ∧
    K.lookup cc = some ⟨cl, cld, .cell (some (.ref C)), csl⟩ ∧ K.lookup cda = some ⟨ccl, cdd, .fields vs, ccs⟩ ∧ vs[2]? = some (.str file tf) ∧ ((P.main.file : Str) == file) = true ∧
    ∀ us : List Value, us.length = (("self" : Str) :: fs).length → bindArgs (ksFn "__init__" qual (defArgs st) (defBody st) (defScope st) dV kV doc pm an (.ref cda) ct cc) ⟨us, []⟩ = pure ((("self" : Str) :: fs).zip us)
theorem zip_rev {v : Value} : ∀ {ns : List Str} {vs : List Value}, ns.Nodup → ∀ f : Str, (f, v) ∈ ns.zip vs → (ns.zip vs).reverse.lookup f = some v
  | [], vs, _, f, h => by simp at h
  | n :: ns, [], _, f, h => by simp at h
  | n :: ns, u :: vs, d, f, h => by
    rw [List.zip_cons_cons, List.reverse_cons, List.lookup_append]
    rw [List.zip_cons_cons] at h
    rcases List.mem_cons.mp h with q | q
    · obtain ⟨rfl, rfl⟩ := Prod.mk.inj q
      have hn : (ns.zip vs).reverse.lookup f = none := by
        cases e : (ns.zip vs).reverse.lookup f with
        | none => rfl
        | some z =>
          have m : (f, z) ∈ (ns.zip vs).reverse := by
            obtain ⟨l1, l2, e2, _⟩ := List.lookup_eq_some_iff.mp e
            rw [e2]
            simp
          exact absurd (List.of_mem_zip (List.mem_reverse.mp m)).1 (List.nodup_cons.mp d).1
      rw [hn]
      simp [List.lookup]
    · rw [zip_rev (List.nodup_cons.mp d).2 f q]
      rfl
/-- the fields as they were stored, the last one first -/
def puts {α : Type} : List Str → List α → List (Str × α) → List (Str × α)
  | f :: fs, x :: xs, acc => puts fs xs ((f, x) :: acc)
  | _, _, acc => acc
abbrev excD (C t : Addr) (d : Option Addr) : Obj := { cls := .ref C, dict := d, data := .fields #[.ref t, .none, .none, .none, .bool false, .none] }
section
variable {prog : Program} {w : World} {A : Around} {E : Value → Shared → Prop} {K : Frag} {mg : Str → Option Value} {xn : Str} {C : Addr} {gs : List Str} {h : Heap} {g : Array GenState} {d : Drawn} {t : Nat} {os : OsState} {env : Env}
theorem ldS {m : Str → Option Value} {x : Str} {pos : Pos} {v : Value} {Q : Value → Shared → Prop} {s : Shared} (hk : env.scope.kind = .function) (hl : env.scope.names.lookup x = some .local) (hn : s.heap.Ns env.locals m) (hv : m x = some v) (hd : (x == ("__debug__" : Str)) = false) (hq : Q v s) :
    wpAny (model prog w) A (eval (.Name x pos) env) Q E s := wpAny_Name (wpAny_loadName_local hk hl hn hv hq) hd
theorem ns_keep {h h' : Heap} {L : Addr} {m : Str → Option Value} (hn : h.Ns L m) (k : ∀ o, h.get? L = some o → h'.get? L = some o) : h'.Ns L m := by
  obtain ⟨o, es, ep, e, r⟩ := hn
  exact ⟨o, es, ep, k o e, r⟩
/-- the stores behind the first one -/
theorem sets_on (T : Err prog K mg xn C gs) {m : Str → Option Value} {x dx t1 : Addr} (hk : env.scope.kind = .function) (hself : m ("self" : Str) = some (.ref x)) (hsl : env.scope.names.lookup ("self" : Str) = some .local) (hdL : dx ≠ env.locals) (hdx : dx ≠ x) (hdK : K.lookup dx = none) :
    ∀ {r : List Stmt} {fs : List Str}, Sets r fs → ∀ {xs : List L2.V} {vs : List Value}, L2.Vals xs vs → xs.length = fs.length → (∀ f ∈ fs, findIn K (.ref C) f = some none ∧ env.scope.names.lookup f = some .local ∧ (f == ("__debug__" : Str)) = false) → (∀ f v, (f, v) ∈ fs.zip vs → m f = some v) →
    ∀ (acc : List (Str × L2.V)) (mA : Str → Option Value) (h : Heap) (t : Nat), acc.length + fs.length ≤ 900 → K.In h → h.Ns env.locals m → h.get? x = some (excD C t1 (some dx)) → h.Ns1 dx mA → (∀ f, L2.RelO (acc.lookup f) (mA f)) →
    ∀ (Q : Flow → Shared → Prop), (∀ h' t' mB, (∀ b o, b ≠ dx → h.get? b = some o → h'.get? b = some o) → h'.Ns1 dx mB → (∀ f, L2.RelO ((puts fs xs acc).lookup f) (mB f)) → Q .next ⟨h', g, d, t', os⟩) →
      wpAny (model prog w) A (execs r env) Q E ⟨h, g, d, t, os⟩ := by
  obtain ⟨nm, q, N, bs, bm, sn, sub, ab, col, dd, k0, k1, k2, k3, k5, hC, hbm⟩ := T.cls
  have hcl : clsIn K C = some { name := nm, bases := bs, mro := .ref C :: bm, ns := N, qualname := q, hasDict := true, slotNames := sn, subclasses := sub, abstract := ab, collection := col, hasDel := false } := by unfold clsIn; rw [hC] <;> rfl
  intro r fs S
  induction S with
  | nil =>
    intro xs vs rv hl hf hm acc mA h t hz X hn hx hns rel Q hq
    cases rv with
    | nil => exact wpAny_execs_nil (hq h t mA (fun _ _ _ z => z) hns rel)
    | cons _ _ => cases hl
  | @cons f q1 q2 q3 q4 r fs S ih =>
    intro xs vs rv hl hf hm acc mA h t hz X hn hx hns rel Q hq
    cases rv with
    | nil => cases hl
    | @cons y u ys us ry rv =>
      obtain ⟨hno, hfl, hfd⟩ := hf f (by simp)
      have hw := L2.within_of rel
      obtain ⟨oD, _, _, hoD, _, _⟩ := hns.count hw
      refine wpAny_execs_cons (plainObj_wpAny_Assign_Attribute ?_)
      refine ldS hk hfl hn (hm f u (by simp)) hfd (ldS hk hsl hn hself (by decide) ?_)
      refine set_plain X (ox := excD C t1 (some dx)) (od := some oD) ⟨hx, rfl, rfl, hoD⟩ T.sa ?_
      refine PySem.OEX.osa_old X hx hns hw (by rw [List.length_map]; have : (f :: fs).length = fs.length + 1 := rfl; omega) hcl (show refsVE (.ref C :: bm) = true from hbm) rfl hno (fun h2 t2 k2 hn2 => ?_)
      have X2 : K.In h2 := fun a o e => k2 a o (fun z => by
        rw [z, hdK] at e
        cases e) (X a o e)
      exact ih rv (by simpa using hl) (fun z hz => hf z (by simp [hz])) (fun z v hz => hm z v (by simp [hz])) ((f, y) :: acc) _ h2 t2 (by simp at hz ⊢; omega) X2 (ns_keep hn fun o e => k2 _ _ (Ne.symm hdL) e) (k2 _ _ (Ne.symm hdx) hx) hn2 (L2.relO_put ry rel) Q
        fun h3 t3 mB k3 hn3 rel3 => hq h3 t3 mB (fun b o hb e => k3 b o hb (k2 b o hb e)) hn3 rel3
theorem in_but {h h' : Heap} {x : Addr} (X : K.In h) (hx : K.lookup x = none) (k : ∀ b o, b ≠ x → h.get? b = some o → h'.get? b = some o) : K.In h' := fun a o e => k a o (fun z => by rw [z, hx] at e; cases e) (X a o e)
theorem not_in {h : Heap} {b : Addr} (X : K.In h) (hb : h.objs.size ≤ b) : K.lookup b = none := by
  cases e : K.lookup b with
  | none => rfl
  | some o => exact absurd (Heap.lt_size (X _ _ e)) (Nat.not_lt.mpr hb)
/-- what an __init__ leaves of a fresh exception at x; its fields stand in dx (if there are any) -/
structure Left (h h' : Heap) (x C : Addr) (fs : List Str) (xs : List L2.V) : Prop where
  keep : ∀ b o, b ≠ x → h.get? b = some o → h'.get? b = some o
  obj : (fs = [] ∧ ∃ t1, h'.get? x = some (excD C t1 none)) ∨ ∃ t1 dx mB, h'.get? x = some (excD C t1 (some dx)) ∧ h.objs.size ≤ dx ∧ dx ≠ x ∧ h'.Ns1 dx mB ∧ ∀ f, L2.RelO ((puts fs xs []).lookup f) (mB f)
/-- all the stores -/
theorem sets_all (T : Err prog K mg xn C gs) {m : Str → Option Value} {x t1 : Addr} (hk : env.scope.kind = .function) (hself : m ("self" : Str) = some (.ref x)) (hsl : env.scope.names.lookup ("self" : Str) = some .local) (hxL : x ≠ env.locals) (hxK : K.lookup x = none)
    {r : List Stmt} {fs : List Str} (S : Sets r fs) {xs : List L2.V} {vs : List Value} (rv : L2.Vals xs vs) (hl : xs.length = fs.length) (hf : ∀ f ∈ fs, findIn K (.ref C) f = some none ∧ env.scope.names.lookup f = some .local ∧ (f == ("__debug__" : Str)) = false) (hm : ∀ f v, (f, v) ∈ fs.zip vs → m f = some v)
    (hz : fs.length ≤ 900) (X : K.In h) (hn : h.Ns env.locals m) (hx : h.get? x = some (excD C t1 none)) {Q : Flow → Shared → Prop} (hq : ∀ h' t', Left h h' x C fs xs → Q .next ⟨h', g, d, t', os⟩) :
    wpAny (model prog w) A (execs r env) Q E ⟨h, g, d, t, os⟩ := by
  obtain ⟨nm, q, N, bs, bm, sn, sub, ab, col, dd, k0, k1, k2, k3, k5, hC, hbm⟩ := T.cls
  have hcl : clsIn K C = some { name := nm, bases := bs, mro := .ref C :: bm, ns := N, qualname := q, hasDict := true, slotNames := sn, subclasses := sub, abstract := ab, collection := col, hasDel := false } := by unfold clsIn; rw [hC] <;> rfl
  cases S with
  | nil => exact wpAny_execs_nil (hq h t ⟨fun _ _ _ z => z, .inl ⟨rfl, t1, hx⟩⟩)
  | @cons f q1 q2 q3 q4 r fs S =>
    cases rv with
    | nil => cases hl
    | @cons y u ys us ry rv =>
      obtain ⟨hno, hfl, hfd⟩ := hf f (by simp)
      refine wpAny_execs_cons (plainObj_wpAny_Assign_Attribute ?_)
      refine ldS hk hfl hn (hm f u (by simp)) hfd (ldS hk hsl hn hself (by decide) ?_)
      refine set_plain X (ox := excD C t1 none) (od := none) ⟨hx, rfl, rfl, trivial⟩ T.sa ?_
      refine exc_osa X hx hcl (show refsVE (.ref C :: bm) = true from hbm) rfl hno (fun h2 t2 dx k2 dn dne hx2 hn2 => ?_)
      have hLs := hn.lt
      refine sets_on T hk hself hsl (fun z => ?_) dne (not_in X dn) S rv (by simpa using hl) (fun z hz => hf z (by simp [hz])) (fun z v hz => hm z v (by simp [hz])) [(f, y)] _ h2 t2 (by simp at hz ⊢; omega) (in_but X hxK k2) (ns_keep hn fun o e => k2 _ _ (Ne.symm hxL) e) hx2 hn2 (L2.relO_put (fs := []) ry fun g => True.intro) Q
        fun h3 t3 mB k3 hn3 rel3 => hq h3 t3 ⟨fun b o hb e => k3 b o (fun z => ?_) (k2 b o hb e), .inr ⟨t1, dx, mB, k3 _ _ (Ne.symm dne) hx2, dn, dne, hn3, rel3⟩⟩
      · rw [z] at dn
        exact absurd hLs (Nat.not_lt.mpr dn)
      · rw [z] at e
        exact absurd (Heap.lt_size e) (Nat.not_lt.mpr dn)
theorem args_len : ∀ {es : List Expr} {fs : List Str}, Args1 es fs → es.length = fs.length
  | _, _, .nil => rfl
  | _, _, .cons h => congrArg (· + 1) (args_len h)
theorem args_names : ∀ {es : List Expr} {fs : List Str}, Args1 es fs → starEach es env = es.map fun e => (false, eval e env)
  | _, _, .nil => rfl
  | _, _, .cons h => by
    show (false, _) :: starEach _ env = _
    rw [args_names h]
    rfl
/-- the names read, one by one -/
theorem args_read {m : Str → Option Value} {pos : Pos} {s : Shared} (hk : env.scope.kind = .function) (hn : s.heap.Ns env.locals m) : ∀ {es : List Expr} {fs : List Str}, Args1 es fs → ∀ {vs : List Value}, vs.length = fs.length → (∀ f ∈ fs, env.scope.names.lookup f = some .local ∧ (f == ("__debug__" : Str)) = false) → (∀ f v, (f, v) ∈ fs.zip vs → m f = some v) →
    ∀ {Q : List Value → Shared → Prop}, Q vs s → wpAny (model prog w) A (spliced (backTo pos (starEach es env))) Q E s
  | _, _, .nil, vs, hl, hf, hm, Q, hq => by
    cases vs with
    | nil => exact Calls.spliced_nil hq
    | cons _ _ => cases hl
  | _, _, @Args1.cons f q r fs h, vs, hl, hf, hm, Q, hq => by
    cases vs with
    | nil => cases hl
    | cons u us =>
      obtain ⟨hfl, hfd⟩ := hf f (by simp)
      show wpAny _ _ (spliced ((false, eval (.Name f q) env) :: backTo pos (starEach r env))) _ _ _
      exact Calls.spliced_cons (ldS hk hfl hn (hm f u (by simp)) hfd (args_read hk hn h (by simpa using hl) (fun z hz => hf z (by simp [hz])) (fun z v hz => hm z v (by simp [hz])) hq))
/-- super().__init__ called: the arguments' tuple is laid anew -/
theorem mw_call (T : Err prog K mg xn C gs) {u x t0 : Addr} {vs : List Value} {Q : Value → Shared → Prop} (X : K.In h) (hx : h.get? x = some (excD C t0 none)) (hu : h.get? u = some (kxs_mw "ValueError.__init__" x)) (hz : vs.length ≤ sizeLine)
    (hq : ∀ h' t1, (∀ b o, b ≠ x → h.get? b = some o → h'.get? b = some o) → h'.get? x = some (excD C t1 none) → Q .none ⟨h', g, d, t, os⟩) : wpAny (model prog w) A (call (.ref u) vs) Q E ⟨h, g, d, t, os⟩ := by
  obtain ⟨nm, q, N, bs, bm, sn, sub, ab, col, dd, k0, k1, k2, k3, k5, hC, hbm⟩ := T.cls
  have FB := PySem.F.excBase_ValueError
  refine wpAny_call (codeAny_of_tree ?_)
  show wpAny _ A.in1 (callAny (.ref u) ⟨vs, []⟩) _ _ _
  simp only [callAny]
  refine wpAny_bind (wpAny_load hu ?_)
  simp only [kxs_mw, show (Value.type "method-wrapper" == Value.type "method" || Value.type "method-wrapper" == Value.type "builtin_function_or_method" || Value.type "method-wrapper" == Value.type "method-wrapper") = true by decide, if_true]
  refine KFB.if_so (by decide) (wpAny_bind (check_bound_init FB.toExcCallFacts (X _ _ hC) hx rfl (wpAny_bind (wpAny_pure (wpAny_pure ⟨plainId_quiet FB.init.plain _, codeAny_builtin FB.initEntry ?_⟩)))))
  exact exc_init_tree (cls := .ref C) (t0 := t0) (dv := none) (c2 := .none) (c3 := .none) (b4 := .bool false) hx hz fun h' k e _ => hq h' _ k e
theorem super_init (T : Err prog K mg xn C gs) {mb m : Str → Option Value} {x t0 L fI cc cda : Addr} {st : Stmt} {body : List Stmt} {fs : List Str} {es : List Expr} {p0 p1 p2 p3 p4 : Pos} {qual : Str} {oc dV kV doc pm ct cl ccl : Value} {od an cld cdd : Option Addr} {osl csl ccs : Array (Option Value)} {dat : Array Value} {file : Str} {tf : Tok} {vs : List Value} {Q : Flow → Shared → Prop}
    (hf : K.lookup fI = some ⟨oc, od, .func (ksFn "__init__" qual (defArgs st) (defBody st) (defScope st) dV kV doc pm an (.ref cda) ct cc), osl⟩) (I : Ini st fs) (hes : Args1 es fs) (hline : (p2.endLine == p3.line) = true)
    (hcc : K.lookup cc = some ⟨cl, cld, .cell (some (.ref C)), csl⟩) (hcd : K.lookup cda = some ⟨ccl, cdd, .fields dat, ccs⟩) (hvs : dat[2]? = some (.str file tf)) (hfile : ((prog.main.file : Str) == file) = true)
    (X : K.In h) (hg : h.Ns mainGlobals mg) (hb : h.Ns builtinsNs mb) (hbs : mb ("super" : Str) = some (.type "super")) (hn : h.Ns L m) (hself : m ("self" : Str) = some (.ref x)) (hm : ∀ f v, (f, v) ∈ fs.zip vs → m f = some v) (hl : vs.length = fs.length) (hz : vs.length ≤ sizeLine)
    (hx : h.get? x = some (excD C t0 none)) (hxK : K.lookup x = none) (hxL : x ≠ L)
    (hq : ∀ h' t' t1, (∀ b o, b ≠ x → h.get? b = some o → h'.get? b = some o) → h'.get? x = some (excD C t1 none) → Q .next ⟨h', g, d, t', os⟩) :
    _root_.PySem.wpAt (model prog w) A (.func body (ksEnv qual (defScope st) L fI (.ref cda) cc)) (exec (.Expr (.Call (.Attribute (.Call (.Name "super" p0) [] [] p1) "__init__" p2) es [] p3) p4) (ksEnv qual (defScope st) L fI (.ref cda) cc)) Q E ⟨h, g, d, t, os⟩ := by
  obtain ⟨nm, q, N, bs, bm, sn, sub, ab, col, dd, k0, k1, k2, k3, k5, hC, hbm⟩ := T.cls
  have hcl : clsIn K C = some { name := nm, bases := bs, mro := .ref C :: bm, ns := N, qualname := q, hasDict := true, slotNames := sn, subclasses := sub, abstract := ab, collection := col, hasDel := false } := by unfold clsIn; rw [hC] <;> rfl
  obtain ⟨ar, hhead, har⟩ := I.head
  have hxC : x ≠ C := fun z => by
    rw [z, hC] at hxK
    cases hxK
  have hsl : (defScope st).names.lookup ("self" : Str) = some .local := I.locals _ (by simp)
  have hel : es.length = fs.length := args_len hes
  have hall : ∀ l : List Expr, (l.map fun e => (false, eval e (ksEnv qual (defScope st) L fI (.ref cda) cc))).all (!·.1) = true := fun l => by
    rw [List.all_map, List.all_eq_true]
    intro _ _
    rfl
  have hform : methodCallForm (es.length + ([] : List (Option Str × Sem Value)).length) (backTo p3 (starEach es (ksEnv qual (defScope st) L fI (.ref cda) cc))) (backToKw p3 (keywordEach [] (ksEnv qual (defScope st) L fI (.ref cda) cc))) = true := by
    rw [args_names hes]
    unfold methodCallForm backTo
    rw [List.map_map, Bool.and_eq_true, Bool.and_eq_true]
    refine ⟨⟨?_, rfl⟩, decide_eq_true ?_⟩
    · rw [List.all_map, List.all_eq_true]
      intro _ _
      rfl
    · have := I.few
      show es.length + 0 + 0 < 30
      omega
  have he : eval (.Call (.Attribute (.Call (.Name "super" p0) [] [] p1) "__init__" p2) es [] p3) (ksEnv qual (defScope st) L fI (.ref cda) cc) = (do
      let ov ← attributeBase (.Call (.Name "super" p0) [] [] p1) "__init__" (ksEnv qual (defScope st) L fI (.ref cda) cc) (eval (.Call (.Name "super" p0) [] [] p1) (ksEnv qual (defScope st) L fI (.ref cda) cc))
      standAt p2.atName
      let (f, first) ← holding [ov] (getMethod ov "__init__" (do return (← importBound (.Call (.Name "super" p0) [] [] p1) (ksEnv qual (defScope st) L fI (.ref cda) cc)).getD true))
      callWith p3 f first (backTo p3 (starEach es (ksEnv qual (defScope st) L fI (.ref cda) cc))) []) := by
    show (do
      let ov ← attributeBase (.Call (.Name "super" p0) [] [] p1) "__init__" (ksEnv qual (defScope st) L fI (.ref cda) cc) (eval (.Call (.Name "super" p0) [] [] p1) (ksEnv qual (defScope st) L fI (.ref cda) cc))
      standAt p2.atName
      methodCall (.Call (.Name "super" p0) [] [] p1) "__init__" p2 p3 (ksEnv qual (defScope st) L fI (.ref cda) cc) ov (es.length + ([] : List (Option Str × Sem Value)).length) (backTo p3 (starEach es (ksEnv qual (defScope st) L fI (.ref cda) cc))) (backToKw p3 (keywordEach [] (ksEnv qual (defScope st) L fI (.ref cda) cc)))) = _
    unfold methodCall methodCallPos calleeOf
    rw [hform]
    simp only [hline, Bool.not_true, Bool.false_or, if_true, pure_bind]
    rfl
  refine ks_wpAt_Expr_any (ks_wpAt_MethodCall ?_ he) (by show ((defScope st).kind == .module && _) = false; rw [I.kind]; rfl) rfl
  refine ks_wpAt_super_base (env := ksEnv qual (defScope st) L fI (.ref cda) cc) I.sup I.cls (by decide) rfl (X _ _ hf) rfl hhead rfl (X _ _ hcd) rfl hvs hfile T.top ?_
  refine ks_loadName_global I.kind I.sup (loadGlobal_builtin (env := ksEnv qual (defScope st) L fI (.ref cda) cc) hg T.nsp hb hbs ⟨rfl, ?_⟩)
  refine wpAny_loadName_free I.kind I.cls rfl ⟨_, X _ _ hcc, rfl⟩ ?_
  rw [har]
  refine wpAny_loadName_local I.kind hsl hn hself ?_
  refine ks_wpAny_isType_cls (X _ _ hC) rfl ⟨rfl, ?_⟩
  refine ks_wpAny_call_super (X _ _ hC) rfl hx rfl (fun c e => by cases e) (looks_mroIn X T.own) (fun h1 e1 k1 => ?_)
  have X1 : K.In h1 := X.keeps k1
  have hx1 := k1 _ _ hx
  have IA : InstAt h1 x (excD C t0 none) C none := ⟨hx1, rfl, rfl, trivial⟩
  have hI : Looks (model prog w) h1 (isInstance (.ref x) (.type "ValueError")) true := IA.type.andThen (looks_subIn X1 T.veC)
  have hsup := T.sup
  unfold ks_superIn at hsup
  rw [hcl] at hsup
  refine kxs_getMethod kxs_ValueError e1 (looks_opaque X1 T.opq) (l₀ := .ref C :: bm) ((looks_clsIn X1 hcl).andThen .now) rfl X1 hsup hI hxC (by decide) ?_
  have k2 : ∀ b o, h1.get? b = some o → (h1.push (kxs_mw "ValueError.__init__" x)).get? b = some o := fun b o e => Heap.get?_push_of_some _ e
  have hu2 : (h1.push (kxs_mw "ValueError.__init__" x)).get? h1.objs.size = some (kxs_mw "ValueError.__init__" x) := Heap.get?_push_at rfl rfl
  have hn2 : (h1.push (kxs_mw "ValueError.__init__" x)).Ns L m := ns_keep hn fun o e => k2 _ _ (k1 _ _ e)
  have hpl : (backTo p3 (starEach es (ksEnv qual (defScope st) L fI (.ref cda) cc))).any (·.1) = false := by
    rw [args_names hes]
    unfold backTo
    rw [List.map_map, List.any_map, List.any_eq_false]
    intro _ _
    exact Bool.false_ne_true
  refine kxs_callWith (i := "ValueError.__init__") (x := x) hpl ?_
  have fin : KxsAt "ValueError.__init__" h1.objs.size x (h1.push (kxs_mw "ValueError.__init__" x)) ∧ wpAny (model prog w) A (call (.ref h1.objs.size) vs) (fun _ => Q .next) E ⟨h1.push (kxs_mw "ValueError.__init__" x), g, d, t + 1, os⟩ :=
    ⟨hu2, mw_call T (X1.keeps k2) (k2 _ _ hx1) hu2 hz fun h' t1 k e => hq h' _ t1 (fun b o hb z => k b o hb (k2 _ _ (k1 _ _ z))) e⟩
  have rd := args_read (prog := prog) (w := w) (A := A) (E := E) (pos := p3) (s := ⟨h1.push (kxs_mw "ValueError.__init__" x), g, d, t + 1, os⟩) (env := ksEnv qual (defScope st) L fI (.ref cda) cc) I.kind hn2 hes hl (fun f hf => ⟨I.locals f (by simp [hf]), I.nodbg f hf⟩) hm (Q := fun us s' => KxsAt "ValueError.__init__" h1.objs.size x s'.heap ∧ wpAny (model prog w) A (call (.ref h1.objs.size) us) (fun _ => Q .next) E s')
  cases hes with
  | nil =>
    cases vs with
    | nil => exact evalArgs_empty fin
    | cons _ _ => cases hl
  | cons hes' => exact Calls.evalArgs_plain (rd fin)
theorem zip_mem {ns : List Str} {vs : List Value} {n : Str} {u v : Value} {f : Str} (h : (f, v) ∈ ns.zip vs) : (f, v) ∈ (n :: ns).zip (u :: vs) := by
  rw [List.zip_cons_cons]
  exact List.mem_cons_of_mem _ h
/-- the whole __init__ -/
theorem err_init (T : Err prog K mg xn C gs) {R : Result → Shared → Prop} {s : Shared} {mb : Str → Option Value} {x t0 fI cc cda : Addr} {st : Stmt} {qual : Str} {oc dV kV doc pm ct cl ccl : Value} {od an cld cdd : Option Addr} {osl csl ccs : Array (Option Value)} {dat : Array Value} {file : Str} {tf : Tok} {xs : List L2.V} {vs : List Value}
    (hf : K.lookup fI = some ⟨oc, od, .func (ksFn "__init__" qual (defArgs st) (defBody st) (defScope st) dV kV doc pm an (.ref cda) ct cc), osl⟩) (hcr : codeIn K (.ref cda) qual = true) (I : Ini st gs)
    (hcc : K.lookup cc = some ⟨cl, cld, .cell (some (.ref C)), csl⟩) (hcd : K.lookup cda = some ⟨ccl, cdd, .fields dat, ccs⟩) (hvs : dat[2]? = some (.str file tf)) (hfile : ((prog.main.file : Str) == file) = true)
    (hbind : ∀ us : List Value, us.length = (("self" : Str) :: gs).length → bindArgs (ksFn "__init__" qual (defArgs st) (defBody st) (defScope st) dV kV doc pm an (.ref cda) ct cc) ⟨us, []⟩ = pure ((("self" : Str) :: gs).zip us))
    (X : K.In s.heap) (hlim : s.heap.NoLimit) (hg : s.heap.Ns mainGlobals mg) (hb : s.heap.Ns builtinsNs mb) (hbs : mb ("super" : Str) = some (.type "super")) (rv : L2.Vals xs vs) (hl : vs.length = gs.length)
    (hx : s.heap.get? x = some (excD C t0 none)) (hxK : K.lookup x = none) (hroom : A.depth < recursionLimit)
    (hq : ∀ h' tk, Left s.heap h' x C gs xs → R (.ok (.ret .none)) { s with heap := h', toks := tk }) : codeAny (model prog w) A (.call (.ref fI) ⟨.ref x :: vs, []⟩) R s := by
  obtain ⟨p0, p1, p2, p3, p4, es, r, hbody, hes, S, hline⟩ := I.body
  have hlen : (Value.ref x :: vs).length = (("self" : Str) :: gs).length := congrArg (· + 1) hl
  have hgs := T.noN
  have hzz : vs.length ≤ sizeLine := by
    have := I.few
    rw [sizeLine_eq]
    omega
  have hsl : (defScope st).names.lookup ("self" : Str) = some .local := I.locals _ (by simp)
  refine ks_codeAny_call_defAt (fd := ksFn "__init__" qual (defArgs st) (defBody st) (defScope st) dV kV doc pm an (.ref cda) ct cc) (body := defBody st) (binds := (("self" : Str) :: gs).zip (Value.ref x :: vs)) hroom (X _ _ hf) rfl hlim (codeRec_of X hcr) rfl (BindsTo.of_eq (hbind _ hlen)) I.cells (fun y hy => I.locals _ (List.of_mem_zip hy).1) (fun h1 hn1 k1 => ?_) I.co I.gen I.kind
  have hself : ((("self" : Str) :: gs).zip (Value.ref x :: vs)).reverse.lookup ("self" : Str) = some (.ref x) := zip_rev I.nodup _ (by simp)
  have hm : ∀ f v, (f, v) ∈ gs.zip vs → ((("self" : Str) :: gs).zip (Value.ref x :: vs)).reverse.lookup f = some v := fun f v h => zip_rev I.nodup _ (zip_mem h)
  have X1 : K.In h1 := X.keeps k1
  have hx1 := k1 _ _ hx
  have hxL : x ≠ s.heap.objs.size := Nat.ne_of_lt (Heap.lt_size hx)
  show _root_.PySem.wpAt (model prog w) (A.deeper (ksEnv qual (defScope st) s.heap.objs.size fI (.ref cda) cc)) (.func (defBody st) (ksEnv qual (defScope st) s.heap.objs.size fI (.ref cda) cc)) (execs (defBody st) (ksEnv qual (defScope st) s.heap.objs.size fI (.ref cda) cc)) _ _ _
  rw [hbody]
  refine ks_wpAt_execs_cons (super_init (d := s.drawn) (g := s.gens) (os := s.os) T hf I hes hline hcc hcd hvs hfile X1 (ns_keep hg fun o e => k1 _ _ e) (ns_keep hb fun o e => k1 _ _ e) hbs hn1 hself hm hl hzz hx1 hxK hxL fun h2 t2 t1 k2 hx2 => ?_)
  refine wpAt_of_wpAny ?_
  have hn2 : h2.Ns s.heap.objs.size _ := ns_keep hn1 fun o e => k2 _ _ (Ne.symm hxL) e
  have hLs := hn2.lt
  refine sets_all (h := h2) T I.kind hself hsl hxL hxK S rv (rv.length.trans hl) (fun f hf => ⟨hgs f hf, I.locals f (by simp [hf]), I.nodbg f hf⟩) hm (by have := I.few; omega) (in_but X1 hxK k2) hn2 hx2 fun h3 t3 D => hq h3 t3 ⟨fun b o hb e => D.keep b o hb (k2 b o hb (k1 _ _ e)), ?_⟩
  rcases D.obj with q | ⟨t4, dx, mB, q1, q2, q3⟩
  · exact .inl q
  · exact .inr ⟨t4, dx, mB, q1, Nat.le_of_lt (Nat.lt_of_lt_of_le hLs q2), q3⟩
end
end NmE
namespace L2
open PySem PySem.Spec PyProof.Rows
section
variable {X : Cx} {C : Addr} {xn : Str} {fs : List Str}
/-- the class called, made with a value for each field (there are some) -/
def tErr (C : Addr) (fs : List Str) (ta : TA) : L2.St → Hp → XK → Prop := fun σ H Q => ta σ H fun vs H1 => vs.length = fs.length ∧ ∀ d, H1 d = none → Q (.ref C) (some d) (upd H1 d (.xd (NmE.puts fs vs [])))
theorem pmk_err {e : Expr} {es : List Expr} {ta : TA} {p pos : Pos} {k : Nat} (T : NmE.Err X.prog X.K X.mg xn C fs) (hne : fs ≠ []) (hr : Room k X.A) (ha : PA X (e :: es) ta) (hg : Gl X xn := by rfl) (hdb : (xn == ("__debug__" : Str)) = false := by decide)
    (he : starEach (e :: es) X.env = (false, eval e X.env) :: starEach es X.env := by rfl) (hpl : (backTo pos (starEach es X.env)).any (·.1) = false := by rfl) :
    PMk X (.Call (.Name xn p) (e :: es) [] pos) (tErr C fs ta) := by
  intro pins s σ H Q I h
  obtain ⟨nm, q, N, bs, bm, sn, sub, ab, col, dd, k0, k1, k2, k3, k5, hC, hbm⟩ := T.cls
  obtain ⟨fI, cc, cda, st, qual, oc, dV, kV, doc, pm, ct, cl, ccl, od, an, cld, cdd, osl, csl, ccs, dat, file, tf, iC, tI, lI, hcr, ini, hcc, hcd, hvs, hfile, hbind⟩ := T.init
  refine wpAny_Call_Name_kw (ld_glob I hg T.gC ?_ hdb)
  refine PySem.W.callWith_K (h₀ := X.base) I.ok.mod.kin T.kC (thn (ha.run pos pins s σ H _ I h) fun us s1 ⟨vs, H1, I1, r1, hl, q1⟩ => ⟨I1.kIn, ?_⟩) he hpl
  show wpAny _ _ (call (.ref C) us) _ _ _
  obtain ⟨mb, hb, hbs⟩ := I1.ok.mod.blt
  have hlim := I1.nolimit
  have hgl := I1.ok.mod.glob
  have bk := I1.bk
  have KI := I1.kIn
  have hus : us.length = fs.length := r1.length.symm.trans hl
  have hzz : us.length ≤ sizeLine := by
    have := ini.few
    rw [sizeLine_eq]
    omega
  obtain ⟨hp, g, dr, tk, os⟩ := s1
  have kk : ∀ b o, hp.get? b = some o → ((hp.push (PySem.W.kdv_tup us)).push (PySem.HandSPX.excO C hp.objs.size)).get? b = some o := fun b o e => Heap.get?_push_of_some _ (Heap.get?_push_of_some _ e)
  have hget : ((hp.push (PySem.W.kdv_tup us)).push (PySem.HandSPX.excO C hp.objs.size)).get? (hp.objs.size + 1) = some (PySem.HandSPX.excO C hp.objs.size) := by heap_get
  refine wpAny_call (PySem.HandSPX.call_own PySem.F.excBase_ValueError (fun Y => PySem.HandSPX.refsVE_contains Y bm hbm) (KI _ _ hC) (PySem.W.looks_findIn KI iC) (fun self => PySem.W.bind_fn KI self tI) hzz ?_)
  refine NmE.err_init (s := ⟨(hp.push (PySem.W.kdv_tup us)).push (PySem.HandSPX.excO C hp.objs.size), g, dr, tk, os⟩) T lI hcr ini hcc hcd hvs hfile hbind (KI.keeps kk) (hlim.keeps kk) (NmE.ns_keep hgl fun o e => kk _ _ (bk _ _ e)) (NmE.ns_keep hb fun o e => kk _ _ (bk _ _ e)) ?_ r1 hus hget (NmE.not_in KI (Nat.le_succ _)) ?_ fun h' tk' D => ?_
  · exact (hbs _ (by decide)).trans (by first | rfl | kernel_rfl)
  · show X.A.depth + 1 < recursionLimit
    have := hr.dp
    omega
  · refine ⟨rfl, ?_⟩
    show MkP X pins σ Q (.ref (hp.objs.size + 1)) ⟨h', g, dr, tk', os⟩
    rcases D.obj with ⟨z, _⟩ | ⟨t1, d, mB, hx, hd, hde, hns, rel⟩
    · exact absurd z hne
    have hd' : hp.objs.size + 1 + 1 ≤ d := by
      first
        | (simpa only [Heap.size_push] using hd)
        | exact hd
    have old : ∀ b o, hp.get? b = some o → h'.get? b = some o := fun b o e => D.keep b o (Nat.ne_of_lt (Nat.lt_succ_of_lt (Heap.lt_size e))) (kk b o e)
    obtain ⟨G, g1, g2⟩ := restrict h' fun b => decide (b ≠ hp.objs.size + 1)
    have gk : ∀ b, b ≠ hp.objs.size + 1 → G.get? b = h'.get? b := fun b hb => g1 b (decide_eq_true hb)
    have ge : G.get? (hp.objs.size + 1) = none := g2 _ (by simp)
    have oldG : ∀ b o, hp.get? b = some o → G.get? b = some o := fun b o e => (gk b (Nat.ne_of_lt (Nat.lt_succ_of_lt (Heap.lt_size e)))).trans (old b o e)
    have ob : ObjOk X.prog X.w (upd H1 d (.xd (NmE.puts fs vs []))) G d (.xd (NmE.puts fs vs [])) := ⟨mB, hns.at (fun o e => (gk d hde).trans e), rel⟩
    have hds : hp.objs.size ≤ d := by omega
    have J : Inv X pins σ (upd H1 d (.xd (NmE.puts fs vs []))) ⟨G, g, dr, tk', os⟩ := I1.laid (t' := tk') oldG hds ob
    refine ⟨hp.objs.size + 1, _, _, ⟨G, g, dr, tk', os⟩, _, .ref C, some d, rfl, J, fun b o e => ?_, ge, hx, ⟨rfl, rfl⟩, rfl, rfl, ?_, rfl, I1.bare, raises_own T.exC T.tyC, q1 d (I1.hok.fresh hds)⟩
    · by_cases hb : b = hp.objs.size + 1
      · have e' : G.get? b = some o := e
        rw [hb, ge] at e'
        cases e'
      · exact (gk b hb).symm.trans e
    · rw [upd_ne (Ne.symm hde)]
      exact I1.hok.fresh (Nat.le_succ _)
/-- raise X(..) -/
def tRaiseE (C : Addr) (fs : List Str) (W : WX) (ta : TA) : TS := fun _ σ H => tErr C fs ta σ H fun cls d H' => W cls d σ H'
theorem ps_raiseE {e : Expr} {es : List Expr} {ta : TA} {W : WX} {p pos pos2 : Pos} {k : Nat} (hc : X.calm = true) (T : NmE.Err X.prog X.K X.mg xn C fs) (hne : fs ≠ []) (hr : Room k X.A) (tk : Takes X W) (ha : PA X (e :: es) ta) (hg : Gl X xn := by rfl) (hdb : (xn == ("__debug__" : Str)) = false := by decide)
    (he : starEach (e :: es) X.env = (false, eval e X.env) :: starEach es X.env := by rfl) (hpl : (backTo pos (starEach es X.env)).any (·.1) = false := by rfl) :
    PS X (.Raise (some (.Call (.Name xn p) (e :: es) [] pos)) none pos2) (tRaiseE C fs W ta) := ps_raise hc tk (pmk_err T hne hr ha hg hdb he hpl)
/-- e.f of the exception that an except suite holds -/
def tOfE (a : Addr) (C : Addr) (f : Str) (cls : Value) (d : Option Addr) (te : TE) : TE := fun σ H Q => te σ H fun x H1 => x = .ref a ∧ cls = .ref C ∧ ∃ (dd : Addr) (kvs : List (Str × V)) (v : V), d = some dd ∧ H1 dd = some (.xd kvs) ∧ kvs.lookup f = some v ∧ Q v H1
theorem pe_ofE {a : Addr} {oe : Obj} {cls : Value} {d : Option Addr} {pn : List (Addr × Obj)} {e : Expr} {te : TE} {pos : Pos} {f : Str} (T : NmE.Err X.prog X.K X.mg xn C fs) (hf : f ∈ fs) (hz : Zc cls d oe) (hfi : ∃ vs, oe.data = .fields vs) (he : PE (X.suite a ((a, oe) :: pn)) e te)
    (hb : attributeBase e f X.env (eval e X.env) = eval e X.env := by rfl) : PE (X.suite a ((a, oe) :: pn)) (.Attribute e f pos) (tOfE a C f cls d te) := by
  refine ⟨fun pins s σ H Q I h => ?_⟩
  refine attr_of hb (thn (he.run pins s σ H _ I h) fun u s1 ⟨x, H1, I1, rx, ex, ec, dd, kvs, v, ed, ea, lv, q⟩ => ?_)
  subst ex ec ed
  obtain rfl : u = Value.ref a := rx
  obtain ⟨ha, _⟩ := I1.pin (a, oe) (List.mem_append_left _ List.mem_cons_self)
  obtain ⟨vs, hd⟩ := hfi
  have hx : ObjOk X.prog X.w H1 s1.heap dd (.xd kvs) := I1.hok dd _ ea
  obtain ⟨mA, hns, hr⟩ := hx
  obtain ⟨od, ho, hl⟩ := lookIn_ns hns
  have rf := hr f
  rw [lv] at rf
  obtain ⟨u, hu, ru⟩ := RelO.some_of (v := v) (o := mA f) rf
  have J : PySem.W.InstAt s1.heap a oe C (some od) := ⟨ha, hz.1, by unfold PySem.W.notCls; rw [hd] <;> rfl, by rw [hz.2]; exact ho⟩
  exact HandSPX.exc_get I1.kIn J T.ga T.gg T.exC (PySem.W.findObj_own T.hdC (T.noN f hf) rfl (by rw [hl, hu])) (handed_of ru) ⟨v, H1, I1.tok _, ru, q⟩
end
end L2

/-! The own layer: try with several clauses, each with a name; a call of a parameter that holds a def, in a try. -/
namespace Nm
open PySem PySem.Spec PyProof.Rows L2
/-- a clause: the class, its name's slot, the reading of its suite -/
abbrev Cl3 := Value × Nat × (Addr → Value → Option Addr → TS)
/-- the ends of a suite whose name is in slot i: the name is taken away -/
def endsAt (i : Nat) (D : Ends) : Ends := { nx := fun σ H => D.nx (σ.set i none) H, rt := D.rt, bk := fun σ H => D.bk (σ.set i none) H, ct := fun σ H => D.ct (σ.set i none) H }
/-- what the clauses wish of an exception that leaves the body -/
def wClauses (K : PySem.W.Frag) (Wo : WX) (D : Ends) : List Cl3 → WX
  | [] => Wo
  | c :: l => fun cls d σ H => ∃ b, PySem.W.exmOne K cls c.1 = some b ∧ (b = true → ∀ a, H a = none → c.2.2 a cls d (endsAt c.2.1 D) (σ.set c.2.1 (some (.ref a))) H) ∧ (b = false → wClauses K Wo D l cls d σ H)
inductive Clauses (X : Cx) : List ExceptHandler → List Cl3 → Prop
  | nil : Clauses X [] []
  | cons {x n : Str} {c : Value} {i : Nat} {ts : Addr → Value → Option Addr → TS} {b₀ : Stmt} {suite : List Stmt} {np pos' : Pos} {hds : List ExceptHandler} {l : List Cl3} (hc : Names X x c) (hi : X.N[i]? = some n) (hln : X.env.kindOf n = some .local)
      (hsu : ∀ (a : Addr) (oe : Obj) (cls : Value) (d : Option Addr) (pn : List (Addr × Obj)), Zc cls d oe → (∃ vs, oe.data = .fields vs) → PSs (X.suite a ((a, oe) :: pn)) (b₀ :: suite) (ts a cls d)) (r : Clauses X hds l) :
      Clauses X (.ExceptHandler (some (.Name x np)) (some n) (b₀ :: suite) pos' :: hds) ((c, i, ts) :: l)
section
variable {X : Cx} {pins : List (Addr × Obj)} {σ : L2.St} {H : Hp} {D : Ends} {Wo : WX} {s' sI : Shared} {a : Addr} {B : Heap} {cls : Value} {d : Option Addr} {h3 : Heap}
theorem clauses_go (ok : X.Ok) (hs : X.stack = X.env :: X.outer) (hf : X.env.frame = some X.env.locals) (hN : X.N.Nodup) (tk : Takes X Wo) (J : Inv X pins σ H sI)
    (nb : ∀ b o, sI.heap.get? b = some o → b ∉ frs X.stack → B.get? b = some o) (up3 : sI.heap.UpToSlots h3) (na : H a = none) (os : s'.os = sI.os) (ag : AllBare s'.gens)
    (fl3 : HandSPX.FlyingZ B (X.env :: X.outer) a (Zc cls d) h3) (nL : a ≠ X.env.locals) (nF : a ∉ X.fs) :
    ∀ {hds : List ExceptHandler} {l : List Cl3}, Clauses X hds l → wClauses X.K Wo D l cls d σ H → wpAny (model X.prog X.w) X.A (handleBy (.ref a) X.env hds) (SP X pins D) X.xe { s' with heap := h3 } := by
  obtain ⟨o3, v3, e3, z3, d3⟩ := fl3.there
  have J3 : Inv X pins σ H { s' with heap := h3 } := J.landed nb fl3.1 up3 os ag
  have S3 := J3.suite e3 d3 na nL nF
  intro hds l hk
  induction hk with
  | nil =>
    intro w
    refine wpAny_handleBy_nil ?_
    obtain ⟨_, _, _, oe, vs, T, oT, ts', he, _, hd, h1, _⟩ := id fl3
    unfold PySem.passOn
    refine wpAny_bind (wpAny_field he hd h1 ?_)
    rw [if_neg (show ¬ ((Value.ref T == Value.none) = true) from by simp)]
    have on : wpAny (model X.prog X.w) X.A (setFlight (.ref a) X.env.frame) (fun _ s4 => wpAny (model X.prog X.w) X.A (throw (.ref a) : Sem Flow) (SP X pins D) X.xe s4) X.xe { s' with heap := h3 } := by
      rw [hf]
      exact HandSPX.setFlight_upZ fl3 fun h4 held up4 => wpAny_throw (tk _ _ ⟨a, B, sI, pins, σ, H, cls, d, rfl, J, nb, up3.trans up4, .inr (.inr (by rw [hs]; exact held)), na, os, ag, w⟩)
    first
      | exact wpAny_bind (wpAny_pure (wpAny_bind on))
      | exact wpAny_bind on
  | @cons x n c i ts b₀ suite np pos' hds2 l2 hc hi hln hsu r ih =>
    rintro ⟨b, hb, yes, no⟩
    refine wpAny_handleBy_cons (codeAny_handlers_test ?_) (by intro q; cases q)
    have its : PySem.W.Looks (model X.prog X.w) h3 (typeOf (.ref a)) cls := fun A Q E s k q => wpAny_typeOf_ref (k _ _ e3) (by rw [z3.1]; exact q)
    have LM := PySem.W.exm_one (M := model X.prog X.w) J3.kIn its hb
    have asked : ∀ {Q : Value → Shared → Prop} {E : Value → Shared → Prop}, Q c { s' with heap := h3 } → wpAny (model X.prog X.w) (X.A.mark (some (.ref a))) (eval (.Name x np) X.env) Q E { s' with heap := h3 } := fun {Q E} q => by
      obtain ⟨hg, dbg, hm | ⟨hm, hv, nn⟩⟩ := hc
      · exact ld_glob (X := X.suite a ((a, o3) :: (X.pn ++ pins))) S3 hg hm q dbg
      · exact ld_blt (X := X.suite a ((a, o3) :: (X.pn ++ pins))) S3 hg hm hv q nn dbg
    refine asked (LM.here ?_)
    cases b with
    | false => exact ih (no rfl)
    | true =>
      refine codeAny_handlers_suite_as (HandSPX.lands_againZ fl3 fun h4 fl4 up4 => ?_)
      obtain ⟨o4, v4, e4, z4, d4⟩ := fl4.there
      have S4 := (J.landed (s' := { s' with heap := h4 }) nb fl4.1 (up3.trans up4) os ag).suite e4 d4 na nL nF
      refine store_ok (X := X.suite a ((a, o4) :: (X.pn ++ pins))) (v := .ref a) S4 hN hi (.inl hln) rfl (fun s5 S5 => ?_) (.inr hln)
      refine wpAny_mono ((hsu a o4 cls d (X.pn ++ pins) z4 ⟨_, d4⟩).run [] s5 _ H _ S5 (yes rfl a na)) (fun f s6 hsp => ?_) (fun _ _ z => False.elim z)
      have gone : ∀ {σ6 : L2.St} {H6 : Hp} {Q : Shared → Prop}, Inv (X.suite a ((a, o4) :: (X.pn ++ pins))) [] σ6 H6 s6 → (∀ s7, Inv X pins (σ6.set i none) H6 s7 → Q s7) →
          wpAny (model X.prog X.w) X.A (do bindName X.env n .none; unbindBehindTheSuite X.env n pos') (fun _ s7 => Q s7) X.xe s6 := fun S6 hq => gone_ok (S6.unsuite ok) hN hi hln hq
      cases f with
      | ret u =>
        obtain ⟨v6, _, _, S6, r6, q6⟩ := hsp
        exact gone S6 fun s7 J7 => ⟨_, _, _, J7, r6, q6⟩
      | next =>
        obtain ⟨_, _, S6, q6⟩ := hsp
        exact gone S6 fun s7 J7 => ⟨_, _, J7, q6⟩
      | brk =>
        obtain ⟨_, _, S6, q6⟩ := hsp
        exact gone S6 fun s7 J7 => ⟨_, _, J7, q6⟩
      | cont =>
        obtain ⟨_, _, S6, q6⟩ := hsp
        exact gone S6 fun s7 J7 => ⟨_, _, J7, q6⟩
theorem ps_clauses {body : List Stmt} {h₀ : ExceptHandler} {hds : List ExceptHandler} {l : List Cl3} {pos : Pos} {tb : WX → TS} (hs : X.stack = X.env :: X.outer) (hf : X.env.frame = some X.env.locals) (hN : X.N.Nodup) (tk : Takes X Wo)
    (hb : ∀ (W : WX) (pn : List (Addr × Obj)) (xe : Value → Shared → Prop), Takes (X.tr pn xe) W → PassesOwn (model X.prog X.w) X.A X.env xe → PSs (X.tr pn xe) body (tb W)) (hh : Clauses X (h₀ :: hds) l) :
    PS X (.Try body (h₀ :: hds) [] [] pos) (fun D σ H => tb (wClauses X.K Wo D l) D σ H) := by
  refine ⟨fun pins s σ H D I h => wpAny_Try_except ?_⟩
  have ok := I.ok
  have hfr : X.A.frames = some (X.env :: X.outer) := by rw [ok.frames, hs]
  refine wpAny_mono ((hb (wClauses X.K Wo D l) (X.pn ++ pins) (fun e s₁ => wpAny (model X.prog X.w) X.A (noteFrame e X.env) (fun _ s₂ => wpAny (model X.prog X.w) X.A (setFlight e none) (fun _ s₃ =>
    wpAny (model X.prog X.w) X.A (handleBy e X.env (h₀ :: hds)) (SP X pins D) X.xe s₃) X.xe s₂) X.xe s₁) (fun u s' caught => ?_) PassesOwn.looking).run [] s σ H D (I.toTry _) h) (fun f s1 ran => ?_) (fun _ _ z => z)
  · obtain ⟨a, B, sI, _, σ', H', cls, d, rfl, JT, nb, up, sky, na, os, ag, w⟩ := caught
    have J : Inv X pins σ' H' sI := JT.ofTry ok
    rw [show (X.tr (X.pn ++ pins) _).stack = X.env :: X.outer from hs] at sky
    show wpAny (model X.prog X.w) X.A (noteFrame (.ref a) X.env) _ _ _
    refine Sky.land Zc.steady hfr hf sky fun h3 fl3 up3 => ?_
    obtain ⟨o3, v3, e3, _, d3⟩ := fl3.there
    have apart : a ∉ frs (X.env :: X.outer) := fun hm => by
      obtain ⟨_, o', e', hnf⟩ := fl3.2.2.1.mem hm
      rw [e3] at e'
      cases e'
      exact hnf _ d3
    have nL : a ≠ X.env.locals := fun z => apart (List.mem_filterMap.mpr ⟨X.env, List.mem_cons_self, by rw [hf, z]⟩)
    have nF : a ∉ X.fs := fun hm => by
      obtain ⟨e, he, q⟩ := List.mem_filterMap.mp hm
      exact apart (List.mem_filterMap.mpr ⟨e, List.mem_cons_of_mem _ he, q⟩)
    exact clauses_go ok hs hf hN tk J nb (up.trans up3) na os ag fl3 nL nF hh w
  · cases f with
    | ret u =>
      obtain ⟨v, _, _, J, r, q⟩ := ran
      exact ⟨v, _, _, J.ofTry ok, r, q⟩
    | next =>
      obtain ⟨_, _, J, q⟩ := ran
      exact wpAny_execs_nil ⟨_, _, J.ofTry ok, q⟩
    | brk =>
      obtain ⟨_, _, J, q⟩ := ran
      exact ⟨_, _, J.ofTry ok, q⟩
    | cont =>
      obtain ⟨_, _, J, q⟩ := ran
      exact ⟨_, _, J.ofTry ok, q⟩
end
/-- a parameter called that holds a def; what it raises is wished for at the slots -/
def tCallP (i : Nat) (f : Addr) (sp : Sp) (E : L2.St → XK) (t : TA) : TE := fun σ H Q => σ[i]? = some (some (.ref f)) ∧ t σ H fun vs H1 => sp vs H1 Q (E σ)
theorem pe_callP {X : Cx} {CX : CXT} {k i : Nat} {f : Addr} {fd : FuncData} {ps : List Str} {sp : Sp} {E : L2.St → XK} {x : Str} {p pos : Pos} {e : Expr} {es : List Expr} {t : TA}
    (F : FnOk X.prog X.w X.K X.mg X.base CX k f fd ps sp) (hr : Room k X.A) (hN : X.N[i]? = some x) (hv : Vis X.env.scope x) (hk : PySem.W.keepIn X.K (.ref f) = true) (hb : Binds X.K fd ps []) (hx : ∀ σ, PassesAt CX X σ (E σ)) (ha : PA X (e :: es) t)
    (hdb : (x == ("__debug__" : Str)) = false := by decide) (hcd : (x == ("__classdict__" : Str)) = false := by decide)
    (he : starEach (e :: es) X.env = (false, eval e X.env) :: starEach es X.env := by rfl) (hpl : (backTo pos (starEach es X.env)).any (·.1) = false := by rfl) : PE X (.Call (.Name x p) (e :: es) [] pos) (tCallP i f sp E t) := by
  refine ⟨fun pins s σ H Q I ⟨hs, ht⟩ => ?_⟩
  refine wpAny_Call_Name_kw (thn ((pe_var (pos := p) hN hv hdb hcd).run pins s σ H (fun v H1 => v = .ref f ∧ H1 = H) I ⟨.ref f, hs, rfl, rfl⟩) fun u s1 ⟨v, H1, I1, r1, ev, eH⟩ => ?_)
  subst ev eH
  obtain rfl : u = Value.ref f := r1
  exact PySem.W.callWith_K (h₀ := X.base) I.ok.mod.kin hk (thn (ha.run pos pins s1 σ _ _ I1 ht) fun us s2 ⟨vs, H2, I2, r, q⟩ => ⟨I2.kIn, run_fnS F hr hb (hx σ) I2 r q⟩) he hpl
end Nm

/-! The own layer: tuple(d), split, join, str(n), lists added, three targets, raise, comprehensions that draw. -/
namespace Nm
open PySem PySem.Spec PyProof.Rows L2
section
open PySem.W
variable {prog : Program} {w : World} {A : Around} {E : Value → Shared → Prop} {s : Shared} {T : String} {r d : Addr} {n : Nat} {P : Nat → Value → Prop} {OK : Heap → Prop}
theorem new_tuple_src {Q₁ : Value → Shared → Prop} (KS : KdlSrc prog w "dict" r d n P OK) (hh : A.handled = none) (hok : OK s.heap) (hn : n ≤ sizeLine)
    (h : ∀ (h' : Heap) (tk : Nat) (acc : Array Value), (∀ b o, s.heap.get? b = some o → h'.get? b = some o) → ItemsOf P acc n → Q₁ (.ref h'.objs.size) { s with heap := h'.push { cls := .type "tuple", data := .seq acc }, toks := tk }) :
    codeAny (model prog w) A (.call (.builtin "tuple.__new__") ⟨[.type "tuple", .ref r], []⟩) (wants Q₁ E) s := by
  refine codeAny_of_tree ?_
  show wpAny _ A.in1 (do checkBuiltinCall "tuple.__new__" ⟨[.type "tuple", .ref r], []⟩; again (.builtin "tuple.__new__" ⟨[.type "tuple", .ref r], []⟩)) _ _ s
  refine wpAny_bind (wpAny_of_eq (F.newCall_tuple_1 _) (wpAny_pure ⟨plainId_quiet F.plain_tuple_new _, codeAny_builtin F.entry_tuple_new ?_⟩))
  rw [Around.under_plainId F.plain_tuple_new _]
  have f1 := sub_tuple_self
  have f2 := init_tuple_lookup
  have f3 := madeHere_tuple
  have ty : s.TypeIs (.ref r) "dict" := KS.type s hok
  have hh1 : A.in1.handled = none := hh
  wp_walk using wpAny_typeOf ty, kdu_collect (A := A.in1) KS hh1 hok hn
  intro h' tk acc hk hacc
  show wpAny _ _ (Builtin.Tuple.tupleExact acc.toList.toArray >>= fun v => ret v) _ _ _
  unfold Builtin.Tuple.tupleExact
  rw [Array.toArray_toList]
  exact wpAny_bind (wpAny_newObj_type (wpAny_pure (h h' tk acc hk hacc)) (by show acc.size ≤ sizeLine; rw [hacc.1]; exact hn))
theorem call_tuple_src {Q : Value → Shared → Prop} (KS : KdlSrc prog w "dict" r d n P OK) (hh : A.handled = none) (hok : OK s.heap) (hn : n ≤ sizeLine)
    (hQ : ∀ (h' : Heap) (tk : Nat) (acc : Array Value), (∀ b o, s.heap.get? b = some o → h'.get? b = some o) → ItemsOf P acc n → Q (.ref h'.objs.size) { s with heap := h'.push { cls := .type "tuple", data := .seq acc }, toks := tk }) :
    wpAny (model prog w) A (call (.type "tuple") [.ref r]) Q E s := by
  refine callType_codes (Q₁ := fun obj s₁ => s₁.TypeIs obj "tuple" ∧ Q obj s₁) F.called_tuple (F.typeCall_tuple_1 _) F.entry_object_init
    (new_tuple_src (A := A.in1) KS hh hok hn fun h' tk acc hk hacc => ⟨⟨_, Heap.get?_push_size _ rfl, rfl⟩, hQ h' tk acc hk hacc⟩) fun obj s₁ h₁ => ?_
  exact ⟨h₁.1, F.args_object_init_2 obj _, object_init_meets F.called_tuple.init.lookup F.called_tuple.made (by decide) prog w A.in1 _ s₁ ⟨h₁.1, rfl, h₁.2⟩⟩
end
/-- tuple(d): the keys in their order -/
def rTupD : List V → Hp → VK → Prop := fun xs H Q => ∃ p kvs, xs = [.ref p] ∧ H p = some (.dK kvs) ∧ ∀ q, H q = none → Q (.ref q) (upd H q (.tup (kvs.map fun kv => kV kv.1)))
theorem call_tupleD {X : Cx} (hc : X.calm = true) : CallR X (.type "tuple") rTupD := by
  intro pins s σ H xs us Q I r ⟨p, kvs, e, hk, q⟩
  subst e
  obtain ⟨u, rfl, rx⟩ := vals1 r
  obtain rfl : u = Value.ref p := rx
  obtain ⟨z, lo, vs, rk, hd⟩ := (show ObjOk X.prog X.w H s.heap p (.dK kvs) from I.hok p _ hk)
  obtain ⟨ep, hat⟩ := hd.dictAt
  have hl : kvs.length = vs.length := Paired.length rk
  refine call_tuple_src (PySem.W.kdl_dict (knd := mixKind X.prog X.w) (kvs := vs) (ep := ep) lo) (I.ok.hd hc) hat (by rw [← hl]; exact z) fun h' tk acc kp items => ?_
  have keys : (kvs.map fun kv => kV kv.1) = (kvs.map (·.1)).map kV := by rw [List.map_map]; rfl
  have hz : acc.size ≤ sizeLine := by rw [items.1, ← hl]; exact z
  have rv : Vals (kvs.map fun kv => kV kv.1) acc.toList := by
    refine vals_of_at (by rw [List.length_map, Array.length_toList]; exact hl.trans items.1.symm) fun j x w h1 h2 => ?_
    obtain ⟨k, y, hky, hi⟩ := items.2 j w (by rw [← Array.getElem?_toList]; exact h2)
    rw [keys, List.getElem?_map, KV.keys rk, List.getElem?_map, hky] at h1
    cases h1
    exact keyIs_rel hi
  have I1 : Inv X pins σ H { s with heap := h', toks := tk } := I.kept (t' := tk) kp
  refine ⟨.ref h'.objs.size, upd H h'.objs.size (.tup (kvs.map fun kv => kV kv.1)), I1.laid (t' := tk) (fun b o e => Heap.get?_push_of_some _ e) (Nat.le_refl _) (show ObjOk X.prog X.w _ _ _ (.tup (kvs.map fun kv => kV kv.1)) from ⟨?_, acc.toList, rv, ?_⟩), rfl, q _ (I1.hok.fresh (Nat.le_refl _))⟩
  · rw [List.length_map]; exact z
  · rw [Array.toArray_toList]; exact IsTup.new _ _
/-! ### readings by names -/
def nStr : List V → Hp → VK → Prop := fun xs H Q => ∃ i, xs = [.int i] ∧ i.natAbs.log2 < 1920 ∧ Q (.str (toString i)) H
def nSplit : V → List V → Hp → VK → Prop := fun x xs H Q => ∃ a b, x = .str a ∧ xs = [.str b] ∧ (b.length == 0) = false ∧ a.length + 2 ≤ sizeLine ∧ rNewStrs (Txt.split a b) H Q
def nJoin (K : PySem.W.Frag) : V → List V → Hp → VK → Prop := fun x xs H Q => ∃ a p, ∃ ys : List Str, x = .str a ∧ xs = [.ref p] ∧ (SqL K H p (ys.map V.str) ∨ SqT K H p (ys.map V.str)) ∧ (ys.map (·.length)).sum + ys.length * a.length ≤ 16777216 ∧ Q (.str (Txt.join a ys)) H
section
variable {X : Cx} {o e : Expr} {to te : TE}
theorem call_strI : CallR X (.type "str") nStr := call_str_int
theorem op_catL : OpR X (binaryOp .Add) rCat := op_cat
theorem pe_splitN {apos pos : Pos} (ho : PE X o to) (he : PE X e te) (hs : starEach [e] X.env = [(false, eval e X.env)] := by rfl) (hbase : attributeBase o "split" X.env (eval o X.env) = eval o X.env := by rfl) (hline : (apos.endLine == pos.line) = true := by rfl) :
    PE X (.Call (.Attribute o "split" apos) [e] [] pos) (tM1 nSplit to te) := pe_split ho he hs hbase hline
theorem pe_joinN {apos pos : Pos} (ho : PE X o to) (he : PE X e te) (hs : starEach [e] X.env = [(false, eval e X.env)] := by rfl) (hbase : attributeBase o "join" X.env (eval o X.env) = eval o X.env := by rfl) (hline : (apos.endLine == pos.line) = true := by rfl) :
    PE X (.Call (.Attribute o "join" apos) [e] [] pos) (tM1 (nJoin X.K) to te) := pe_join ho he hs hbase hline
/-- what a called def raises goes on out -/
theorem passX {E : XK} (tk : Takes X (fun cls d _ H => E cls d H)) : Passes (L2.CX X.prog X.w) X E := fun _ _ _ _ e s' I c => tk e s' (XE.of_call I (fun _ _ _ h => h) c)
/-- a def that may raise and here does not -/
theorem passF : Passes (L2.CX X.prog X.w) X (fun _ _ _ => False) := fun _ _ _ _ _ _ _ ⟨_, _, _, _, _, _, _, _, _, _, _, _, z⟩ => z.elim
end
section
variable {σ : L2.St} {H : Hp} {Q : VK} {ta te to : TE} {t : TA} {D : Ends} {K : PySem.W.Frag} {x y : V}
def kM1 (r : V → List V → Hp → VK → Prop) (te : TE) (σ : L2.St) (Q : VK) : VK := fun x H1 => (∃ a, x = .str a) ∧ te σ H1 fun y H2 => r x [y] H2 Q
theorem z_m1 {r : V → List V → Hp → VK → Prop} (h : to σ H (kM1 r te σ Q)) : tM1 r to te σ H Q := h
theorem z_kM1 {r : V → List V → Hp → VK → Prop} {a : Str} (h : te σ H fun y H2 => r (.str a) [y] H2 Q) : kM1 r te σ Q (.str a) H := ⟨⟨a, rfl⟩, h⟩
theorem z_split {a b : Str} (hb : (b.length == 0) = false) (hz : a.length + 2 ≤ sizeLine) (k : ∀ p H', H p = none → Same H H' → H' p = some (.lst ((Txt.split a b).map V.str)) → Q (.ref p) H') : nSplit (.str a) [.str b] H Q :=
  ⟨a, b, rfl, rfl, hb, hz, new_by (R := fun p H' => Q (.ref p) H') fun p H' a b c _ => k p H' a b c⟩
theorem z_join {a : Str} {p : Addr} {ys : List Str} (h : SqL K H p (ys.map V.str)) (hz : (ys.map (·.length)).sum + ys.length * a.length ≤ 16777216) (q : Q (.str (Txt.join a ys)) H) : nJoin K (.str a) [.ref p] H Q := ⟨a, p, ys, rfl, rfl, .inl h, hz, q⟩
theorem z_strI {i : Int} (hz : i.natAbs.log2 < 1920) (q : Q (.str (toString i)) H) : nStr [.int i] H Q := ⟨i, rfl, hz, q⟩
theorem z_catL {p q : Addr} {xs ys : List V} (h1 : H p = some (.lst xs)) (h2 : H q = some (.lst ys)) (hl : xs.length + ys.length ≤ sizeLine) (k : ∀ p H', H p = none → Same H H' → H' p = some (.lst (xs ++ ys)) → Q (.ref p) H') : rCat (.ref p) (.ref q) H Q :=
  ⟨p, q, xs, ys, rfl, rfl, h1, h2, hl, new_by (R := fun p H' => Q (.ref p) H') fun p H' a b c _ => k p H' a b c⟩
def kPar3 (i j l : Nat) (D : Ends) (σ : L2.St) : List V → Hp → Prop := fun vs H1 => ∃ u v w, vs = [u, v, w] ∧ D.nx (((σ.set i (some u)).set j (some v)).set l (some w)) H1
theorem z_par3 {i j l : Nat} (h : t σ H (kPar3 i j l D σ)) : tPar3 i j l t D σ H := h
theorem z_kPar3 {i j l : Nat} {u v w : V} (h : D.nx (((σ.set i (some u)).set j (some v)).set l (some w)) H) : kPar3 i j l D σ [u, v, w] H := ⟨u, v, w, rfl, h⟩
theorem z_isB {a b : Bool} (q : Q (.bl (decide (a = b))) H) : rIsB (.bl a) (.bl b) H Q := ⟨a, b, rfl, rfl, q⟩
theorem z_notB {a b : Bool} (q : Q (.bl (!decide (a = b))) H) : rNotB (.bl a) (.bl b) H Q := ⟨a, b, rfl, rfl, q⟩
theorem z_dnewK (k : ∀ p H', H p = none → Same H H' → H' p = some (.dK []) → Q (.ref p) H') : tDNewK σ H Q := new_by (R := fun p H' => Q (.ref p) H') fun p H' a b c _ => k p H' a b c
theorem z_tupD {p : Addr} {kvs : List (Key × V)} (h : H p = some (.dK kvs)) (k : ∀ q H', H q = none → Same H H' → H' q = some (.tup (kvs.map fun kv => kV kv.1)) → Q (.ref q) H') : rTupD [.ref p] H Q := ⟨p, kvs, rfl, h, new_by (R := fun p H' => Q (.ref p) H') fun p H' a b c _ => k p H' a b c⟩
def kErr (C : Addr) (fs : List Str) (W : WX) (σ : L2.St) : List V → Hp → Prop := fun vs H1 => vs.length = fs.length ∧ ∀ d, H1 d = none → W (.ref C) (some d) σ (upd H1 d (.xd (NmE.puts fs vs [])))
theorem z_raiseE {C : Addr} {fs : List Str} {W : WX} (h : t σ H (kErr C fs W σ)) : tRaiseE C fs W t D σ H := h
theorem z_kErr {C : Addr} {fs : List Str} {W : WX} {vs : List V} (hl : vs.length = fs.length) (k : ∀ d H', H d = none → Same H H' → H' d = some (.xd (NmE.puts fs vs [])) → W (.ref C) (some d) σ H') : kErr C fs W σ vs H := ⟨hl, fun d hd => k d _ hd (Same.new hd) upd_same⟩
theorem z_kIE' {R : It → Hp → Prop} {a : Addr} {xs : List V} (h : SqL K H a xs) (q : R (Ite K a) H) : (fun (vs : List V) (H1 : Hp) => ∃ a xs, vs = [.ref a] ∧ SqL K H1 a xs ∧ R (Ite K a) H1) [.ref a] H := ⟨a, xs, rfl, h, q⟩
end
end Nm

/-! The own layer: comprehensions over enumerate(list), comprehensions that draw; parts of texts. -/
namespace Nm
open PySem PySem.Spec PyProof.Rows L2
section
variable {te : TE} {tt : TT} {σ : L2.St} {H : Hp} {Q : VK} {K : PySem.W.Frag}
theorem walk_enumL {a : Addr} {xs : List V} : Walk (Ite K a) xs.length (fun H => SqL K H a xs) (fun i H v H' => ∃ T x, v = .ref T ∧ H T = none ∧ xs[i]? = some x ∧ H' = upd H T (.tup [.int (i : Nat), x])) where
  goes := fun i H hi g => ⟨xs, xs[i], g, List.getElem?_eq_getElem hi⟩
  stops := fun H g => ⟨xs, g, Nat.le_refl _⟩
  yields := fun i H v H' hi g y => by
    obtain ⟨T, x, ev, hT, eH, q⟩ := y
    exact ⟨T, x, ev, hT, q xs g, eH⟩
theorem wipe_two {σ : L2.St} {i j : Nat} {x y : Option V} (h : i ≠ j) : wipe (((wipe σ [i, j]).set i x).set j y) [i, j] = wipe σ [i, j] := by
  show (((((σ.set j none).set i none).set i x).set j y).set j none).set i none = (σ.set j none).set i none
  apply List.ext_getElem?
  intro n
  simp only [List.getElem?_set, List.length_set]
  by_cases h1 : i = n <;> by_cases h2 : j = n <;> simp [h1, h2]
/-- [f(i, p) for i, p in enumerate(ps)], truth values -/
theorem l_enumB {ps : List Str} {a : Addr} {i0 j0 : Nat} (f : Nat → Str → Bool) (hz : ps.length ≤ 1000000) (hs : SqL K H a (ps.map V.str)) (hij : i0 ≠ j0)
    (he : ∀ (i : Nat) (p : Str) H1, ps[i]? = some p → Same H H1 → ∀ Q' : VK, (∀ H2, Same H1 H2 → Q' (.bl (f i p)) H2) → te (((wipe σ [i0, j0]).set i0 (some (.int (i : Nat)))).set j0 (some (.str p))) H1 Q')
    (k : ∀ D H', H D = none → Same H H' → H' D = some (.lst ((ps.zipIdx.map fun q => f q.2 q.1).map V.bl)) → Q (.ref D) H') : kLc (gTup K 2 (gCons (gName i0) (gCons (gName j0) gNil))) tYes te [i0, j0] σ Q (Ite K a) H := fun D hD => by
  have hl : (ps.map V.str).length = ps.length := List.length_map ..
  have hw := walk_enumL (K := K) (a := a) (xs := ps.map V.str)
  refine lc_it hw (Pv := fun i H1 => Same H H1 ∧ H1 D = some (.lst (((ps.zipIdx.take i).map fun q => f q.2 q.1).map V.bl))) ⟨Same.new hD, by rw [upd_same]; simp⟩ (fun i H1 _ ⟨s, _⟩ => s.seq hs) ?_ ?_
  · rintro i x H1 H1' hi ⟨s1, h1⟩ ⟨T, v, ex, hT, hv, eH⟩
    subst ex eH
    rw [hl] at hi
    have hp : ps[i]? = some ps[i] := List.getElem?_eq_getElem hi
    rw [List.getElem?_map, hp] at hv
    cases hv
    refine ⟨T, _, rfl, SqT.of upd_same, rfl, _, _, rfl, _, _, rfl, rfl, wipe_two hij, ?_⟩
    refine z_tYes (iteT ?_)
    refine he i ps[i] _ hp (s1.trans (Same.new hT)) _ fun H2 s2 => ?_
    refine ⟨_, s2 _ _ (Same.new hT _ _ h1), ?_, Nm.Same.mut ((s1.trans (Same.new hT)).trans s2) hD, ?_⟩
    · rw [List.length_map, List.length_map, List.length_take, List.length_zipIdx, sizeLine_eq]
      omega
    · rw [upd_same, List.take_add_one]
      have e : ps.zipIdx[i]? = some (ps[i], i) := by
        rw [List.getElem?_zipIdx, hp]
        simp
      rw [e]
      simp
  · rintro H1 ⟨s1, h1⟩
    refine k D H1 hD s1 ?_
    rw [h1, hl]
    rw [List.take_of_length_le (by rw [List.length_zipIdx]; exact Nat.le_refl _)]
/-- [.. for k in range(n)] whose items are drawn: each of them costs at most c draws -/
theorem l_draw {n : Nat} {i0 : Nat} {d c : Addr} {m : Nat} (cost : Nat) (Pr : V → Prop) (hn : n ≤ 1000) (hp : Pen K H d c (m + cost * n))
    (he : ∀ (i : Nat) H1 j, i < n → But d H H1 → Pen K H1 d c (j + cost) → ∀ Q' : VK, (∀ v H2, Pr v → But d H1 H2 → Pen K H2 d c j → Q' v H2) → te ((σ.set i0 none).set i0 (some (.int (0 + (i : Nat))))) H1 Q')
    (k : ∀ D H' ys, H D = none → But d H H' → Pen K H' d c m → ys.length = n → (∀ y ∈ ys, Pr y) → H' D = some (.lst ys) → Q (.ref D) H') : kLc (gName i0) tYes te [i0] σ Q (Itr 0 n) H := fun D hD => by
  have nd : D ≠ d := hp.ne hD
  refine lc_it walk_range (Pv := fun i H1 => But d H H1 ∧ i ≤ n ∧ Pen K H1 d c (m + cost * (n - i)) ∧ ∃ ys : List V, H1 D = some (.lst ys) ∧ ys.length = i ∧ ∀ y ∈ ys, Pr y) ⟨same_but (Same.new hD), Nat.zero_le _, ?_, [], upd_same, rfl, fun _ h => by cases h⟩ (fun _ _ _ _ => trivial) ?_ ?_
  · exact hp.mut hD hp
  · rintro i x H1 H1' hi ⟨b1, _, p1, ys, h1, hl, hpr⟩ ⟨eH, ex⟩
    subst eH ex
    refine ⟨set_none_twice, ?_⟩
    refine z_tYes (iteT ?_)
    have e1 : m + cost * (n - i) = m + cost * (n - (i + 1)) + cost := by
      have e2 : n - i = (n - (i + 1)) + 1 := by omega
      rw [e2, Nat.mul_add, Nat.mul_one, Nat.add_assoc]
    rw [e1] at p1
    refine he i _ _ hi b1 p1 _ fun v H2 hv b2 p2 => ?_
    refine ⟨ys, b2 _ _ nd h1, ?_, fun a o hne e => ?_, hi, ?_, ys ++ [v], upd_same, by simp [hl], ?_⟩
    · rw [sizeLine_eq]
      omega
    · rw [upd_ne (ne_of_none e hD)]
      exact b2 _ _ hne (b1 _ _ hne e)
    · exact hp.mut hD p2
    · intro y hy
      rcases List.mem_append.mp hy with q | q
      · exact hpr y q
      · rw [List.mem_singleton.mp q]
        exact hv
  · rintro H1 ⟨b1, _, p1, ys, h1, hl, hpr⟩
    rw [Nat.sub_self, Nat.mul_zero, Nat.add_zero] at p1
    exact k D H1 ys hD b1 p1 hl hpr h1
end
/-! lists of texts, cut -/
def cutL (ys : List Str) (lo hi : Option Int) : List Str := (ys.drop (HT.sIx ys.length 0 lo)).take (HT.sIx ys.length ys.length hi - HT.sIx ys.length 0 lo)
theorem cutV_strs (ys : List Str) (lo hi : Option Int) : cutV (ys.map V.str) lo hi = (cutL ys lo hi).map V.str := by
  unfold cutV cutL
  rw [List.length_map, List.map_take, List.map_drop]
theorem cutL_to (ys : List Str) (k : Nat) : cutL ys none (some (k : Int)) = ys.take k := by
  unfold cutL
  rw [HT.sIx_nat, HT.sIx_none, List.drop_zero, Nat.sub_zero, Nat.min_def]
  split
  · rfl
  · rw [List.take_length, List.take_of_length_le (by omega)]
theorem cutL_neg (ys : List Str) (k : Nat) (h : 0 < k) : cutL ys none (some (-(k : Int))) = ys.take (ys.length - k) := by
  unfold cutL
  have e : HT.sIx ys.length ys.length (some (-(k : Int))) = ys.length - k := by
    show (if (-(k : Int)) < 0 then ((-(k : Int)) + (ys.length : Int)).toNat else min (-(k : Int)).toNat ys.length) = _
    rw [if_pos (by omega)]
    omega
  rw [e, HT.sIx_none, List.drop_zero, Nat.sub_zero]
theorem cut_neg (z : Str) (k : Nat) (h : 0 < k) : tl (cutS z none (some (-(k : Int)))) = (tl z).take ((tl z).length - k) := by
  have e : HT.sIx z.length z.length (some (-(k : Int))) = z.length - k := by
    show (if (-(k : Int)) < 0 then ((-(k : Int)) + (z.length : Int)).toNat else min (-(k : Int)).toNat z.length) = _
    rw [if_pos (by omega)]
    omega
  rw [tl_cut, e, HT.sIx_none, List.drop_zero, Nat.sub_zero, str_len]
theorem cut_le (z : Str) (lo hi : Option Int) : (cutS z lo hi).length ≤ z.length := by
  rw [str_len, tl_cut, List.length_take, List.length_drop, str_len]
  omega
theorem cut_sub (z : Str) (lo hi : Option Int) : ∀ c ∈ tl (cutS z lo hi), c ∈ tl z := fun c hc => by
  rw [tl_cut] at hc
  exact List.mem_of_mem_drop (List.mem_of_mem_take hc)
theorem join_len (b : Str) : ∀ ys : List Str, ys ≠ [] → (Str.join b ys).length + b.length = (ys.map (·.length)).sum + ys.length * b.length
  | [], h => absurd rfl h
  | [x], _ => by
    show x.length + b.length = _
    simp
  | x :: y :: r, _ => by
    have ih := join_len b (y :: r) (by simp)
    show (x ++ b ++ Str.join b (y :: r)).length + b.length = _
    rw [app_len, app_len]
    simp only [List.map_cons, List.sum_cons, List.length_cons] at ih ⊢
    rw [Nat.succ_mul]
    omega
/-- the parts of a text together are no longer than the text -/
theorem split_sum (z b : Str) : ((Txt.split z b).map (·.length)).sum + ((Txt.split z b).length - 1) * b.length = z.length := by
  have hp := PyProof.Rows.split_pos z b
  have hne : Txt.split z b ≠ [] := fun e => by rw [e] at hp; exact absurd hp (by decide)
  have h := join_len b _ hne
  rw [StrLaws.join_split] at h
  have e : (Txt.split z b).length * b.length = ((Txt.split z b).length - 1) * b.length + b.length := by
    rw [← Nat.succ_mul]
    congr 1
    omega
  omega
theorem mem_le_sum : ∀ {l : List Nat} {n : Nat}, n ∈ l → n ≤ l.sum
  | a :: l, n, h => by
    rw [List.sum_cons]
    rcases List.mem_cons.mp h with q | q
    · omega
    · have := mem_le_sum q
      omega
theorem split_part {z b p : Str} (h : p ∈ Txt.split z b) : p.length ≤ z.length := by
  have := split_sum z b
  have := mem_le_sum (List.mem_map_of_mem (f := (·.length)) h)
  omega
theorem sum_take (l : List Nat) (n : Nat) : (l.take n).sum ≤ l.sum := by
  have h := congrArg List.sum (List.take_append_drop n l)
  rw [List.sum_append] at h
  omega
section
variable {σ : L2.St} {H : Hp} {K : PySem.W.Frag} {ta : TA} {R : It → Hp → Prop}
def kIEn (K : PySem.W.Frag) (R : It → Hp → Prop) : List V → Hp → Prop := fun vs H1 => ∃ a xs, vs = [.ref a] ∧ SqL K H1 a xs ∧ R (Ite K a) H1
theorem z_iEnum (h : ta σ H (kIEn K R)) : iEnum K ta σ H R := h
theorem z_kIEn {a : Addr} {xs : List V} (h : SqL K H a xs) (q : R (Ite K a) H) : kIEn K R [.ref a] H := ⟨a, xs, rfl, h, q⟩
end
theorem same_none {H H1 : Hp} {d : Addr} (s : Same H H1) (h : H1 d = none) : H d = none := by
  cases e : H d with
  | none => rfl
  | some o =>
    rw [s _ _ e] at h
    cases h
theorem but_none {H H1 : Hp} {d p : Addr} (b : But d H H1) (hne : p ≠ d) (h : H1 p = none) : H p = none := by
  cases e : H p with
  | none => rfl
  | some o =>
    rw [b _ _ hne e] at h
    cases h
/-- a if c else b, as a test -/
def tIfT (tc ta tb : TT) : TT := fun σ H QT => tc σ H fun c H1 => if c = true then ta σ H1 QT else tb σ H1 QT
theorem pt_ifExp {X : Cx} {c a b : Expr} {pos : Pos} {tc ta tb : TT} (hc : PT X c tc) (ha : PT X a ta) (hb : PT X b tb) : PT X (.IfExp c a b pos) (tIfT tc ta tb) := by
  refine ⟨fun pins s σ H Q I h => ?_⟩
  show wpAny _ _ (do if ← isTrue c X.env (eval c X.env) then isTrue a X.env (eval a X.env) else isTrue b X.env (eval b X.env)) _ _ _
  refine wpAny_bind (thn (hc.run pins s σ H _ I h) fun d s1 ⟨H1, I1, q1⟩ => ?_)
  cases d with
  | true => exact ha.run pins s1 σ H1 Q I1 q1
  | false => exact hb.run pins s1 σ H1 Q I1 q1
theorem z_ifT {tc ta tb : TT} {σ : L2.St} {H : Hp} {QT : Bool → Hp → Prop} (h : tc σ H fun c H1 => if c = true then ta σ H1 QT else tb σ H1 QT) : tIfT tc ta tb σ H QT := h
section
variable {σ : L2.St} {H : Hp} {Q : VK} {t : TA} {te : TE} {D : Ends} {v : V}
theorem z_callP {i : Nat} {f : Addr} {sp : Sp} {E : L2.St → XK} (h : σ[i]? = some (some (.ref f))) (q : t σ H fun vs H1 => sp vs H1 Q (E σ)) : tCallP i f sp E t σ H Q := ⟨h, q⟩
def kOfE (a C : Addr) (f : Str) (cls : Value) (d : Option Addr) (Q : VK) : VK := fun x H1 => x = .ref a ∧ cls = .ref C ∧ ∃ (dd : Addr) (kvs : List (Str × V)) (v : V), d = some dd ∧ H1 dd = some (.xd kvs) ∧ kvs.lookup f = some v ∧ Q v H1
theorem z_ofE {a C : Addr} {f : Str} {cls : Value} {d : Option Addr} (h : te σ H (kOfE a C f cls d Q)) : tOfE a C f cls d te σ H Q := h
theorem z_kOfE {a C dd : Addr} {f : Str} {kvs : List (Str × V)} (h : H dd = some (.xd kvs)) (l : kvs.lookup f = some v) (q : Q v H) : kOfE a C f (.ref C) (some dd) Q (.ref a) H := ⟨rfl, rfl, dd, kvs, v, rfl, h, l, q⟩
theorem z_rtE {i : Nat} (h : D.rt v H) : (endsAt i D).rt v H := h
/-- a clause that takes -/
theorem z_takes {K : PySem.W.Frag} {Wo : WX} {c : Cl3} {l : List Cl3} {cls : Value} {d : Option Addr} (e : PySem.W.exmOne K cls c.1 = some true) (h : ∀ a, H a = none → c.2.2 a cls d (endsAt c.2.1 D) (σ.set c.2.1 (some (.ref a))) H) : wClauses K Wo D (c :: l) cls d σ H := ⟨true, e, fun _ => h, (fun q => by cases q)⟩
theorem z_passes {K : PySem.W.Frag} {Wo : WX} {c : Cl3} {l : List Cl3} {cls : Value} {d : Option Addr} (e : PySem.W.exmOne K cls c.1 = some false) (h : wClauses K Wo D l cls d σ H) : wClauses K Wo D (c :: l) cls d σ H := ⟨false, e, (fun q => by cases q), fun _ => h⟩
end
end Nm

/-! The own layer: what the written part says of an exception class, put together. -/
namespace NmE
open PySem PySem.W PySem.Calls PyProof.Rows PySem.HandSPX
open L2 (defArgs defBody defScope)
theorem fn_split {K : Frag} {f : Addr} {oc : Value} {od : Option Addr} {osl : Array (Option Value)} {n qual : Str} {p p' : Arguments} {b b' : List Stmt} {s s' : Scope} {cl : List (Str × Addr)} {dV kV doc pm : Value} {an : Option Addr} {cdv ct : Value} {cda cc : Addr}
    (h : K.lookup f = some ⟨oc, od, .func (fnX n qual p b s cl dV kV doc pm an cdv ct), osl⟩) (e1 : n = "__init__") (e2 : p = p') (e3 : b = b') (e4 : s = s') (e5 : cl = [(("__class__" : Str), cc)]) (e6 : dV = .none) (e7 : cdv = .ref cda) :
    K.lookup f = some ⟨oc, od, .func (ksFn "__init__" qual p' b' s' .none kV doc pm an (.ref cda) ct cc), osl⟩ := by
  subst e1 e2 e3 e4 e5 e6 e7
  exact h
theorem err_mk {P : Program} {K : Frag} {mg : Str → Option Value} {h : Heap} {x : Str} {C : Addr} {fs : List Str} {st : Stmt}
    {nm q : Str} {N : Addr} {bs bm : List Value} {sn : List Str} {sub : List Value} {ab : Bool} {col : Option Bool} {dd : Option Addr} {k0 k1 k2 k3 k5 : Option Value}
    {fI cc cda : Addr} {qual : Str} {oc kV doc pm ct cl ccl : Value} {od an cld cdd : Option Addr} {osl csl ccs : Array (Option Value)} {vs : Array Value} {file : Str} {tf : Tok}
    (X : K.In h) (G : h.Ns mainGlobals mg) (n : nsIn K mainGlobals x = some (some (.ref C)))
    (c : K.lookup C = some (excClassObj nm q C N bs bm true sn sub ab col dd k0 k1 k2 k3 k5 "ValueError.__new__")) (hbm : refsVE bm = true)
    (sa : findIn K (.ref C) "__setattr__" = some (some (.builtin "object.__setattr__"))) (ga : findIn K (.ref C) "__getattribute__" = some (some (.builtin "BaseException.__getattribute__"))) (gg : findIn K (.ref C) "__getattr__" = some none)
    (noN : ∀ f ∈ fs, findIn K (.ref C) f = some none) (kC : keepIn K (.ref C) = true) (exC : subIn K (.ref C) (.type "BaseException") = some true) (veC : subIn K (.ref C) (.type "ValueError") = some true)
    (tyC : typeIn K (.ref C) = some (.type "type")) (hdC : hasDictIn K C = true) (opq : nsIn K cStatics "thirdparty.any" = some none) (own : mroIn K C (.ref C) = some true)
    (nsp : nsIn K mainGlobals "super" = some none) (iC : findIn K (.ref C) "__init__" = some (some (.ref fI))) (tI : typeIn K (.ref fI) = some (.type "function"))
    (lI : K.lookup fI = some ⟨oc, od, .func (ksFn "__init__" qual (defArgs st) (defBody st) (defScope st) .none kV doc pm an (.ref cda) ct cc), osl⟩) (hcr : codeIn K (.ref cda) qual = true)
    (hcc : K.lookup cc = some ⟨cl, cld, .cell (some (.ref C)), csl⟩) (hcd : K.lookup cda = some ⟨ccl, cdd, .fields vs, ccs⟩) (hvs : vs[2]? = some (.str file tf)) (hfile : ((P.main.file : Str) == file) = true)
    (sup : ks_superIn K C C "__init__" = some (some (.builtin "ValueError.__init__"))) (top : (P.main.scope.names.lookup ("super" : Str)).isSome = false) (ini : Ini st fs)
    (hbind : ∀ (cc : Addr) (kV doc pm : Value) (an : Option Addr) (cda : Addr) (ct : Value) (us : List Value), us.length = (("self" : Str) :: fs).length → bindArgs (ksFn "__init__" qual (defArgs st) (defBody st) (defScope st) .none kV doc pm an (.ref cda) ct cc) ⟨us, []⟩ = pure ((("self" : Str) :: fs).zip us)) :
    Err P K mg x C fs :=
  ⟨mg_of X G n, ⟨nm, q, N, bs, bm, sn, sub, ab, col, dd, k0, k1, k2, k3, k5, c, hbm⟩, sa, ga, gg, noN, kC, exC, veC, tyC, hdC, opq, sup, own, top, mg_none_of X G nsp,
    ⟨fI, cc, cda, st, qual, oc, .none, kV, doc, pm, ct, cl, ccl, od, an, cld, cdd, osl, csl, ccs, vs, file, tf, iC, tI, lI, hcr, ini, hcc, hcd, hvs, hfile, hbind cc kV doc pm an cda ct⟩⟩
/-- two classes, none of which is the other's -/
structure Two (P : Program) (K : Frag) (mg : Str → Option Value) (x1 : Str) (C1 : Addr) (fs1 : List Str) (x2 : Str) (C2 : Addr) (fs2 : List Str) : Prop where
  e1 : Err P K mg x1 C1 fs1
  e2 : Err P K mg x2 C2 fs2
  s11 : subIn K (.ref C1) (.ref C1) = some true
  s12 : subIn K (.ref C1) (.ref C2) = some false
  s21 : subIn K (.ref C2) (.ref C1) = some false
  s22 : subIn K (.ref C2) (.ref C2) = some true
end NmE
namespace Nm
open PySem L2
def inClass (s : Stmt) (j : Nat) : Stmt := match s with
  | .ClassDef _ _ _ b _ _ _ _ _ _ _ => b.getD j (.Pass ⟨0, 0, 0, 0⟩)
  | _ => .Pass ⟨0, 0, 0, 0⟩
end Nm

/-! k40, the plain law: counts, maker words, lines. -/
namespace K40
open PySem L2 Nm
def BIG : List Nat := tl "ABCDEFGHIJKLMNOPQRSTUVWXYZ"
def DIG : List Nat := tl "0123456789"
def LATER : List Nat := tl "ABCDEFGHIJKLMNOPQRSTUVWXYZabcdefghijklmnopqrstuvwxyz0123456789_"
def ALSO : List Nat := tl "abcdefghijklmnopqrstuvwxyzABCDEFGHIJKLMNOPQRSTUVWXYZ0123456789_"
def named (w f : List Nat) : Bool := decide (1 ≤ w.length) && decide (w.length ≤ 24) && decide (w.headD 0 ∈ f) && w.all fun c => decide (c ∈ LATER)
def cnt (w : List Nat) : Bool := !(decide (w = []) || !(w.all fun c => decide (c ∈ DIG))) && (decide (w = [48]) || !decide (w.headD 0 = 48))
def mk (w : List Nat) : Bool := if w.take 1 = [35] then cnt (w.drop 1) || (decide ((w.drop 1).take 1 = [45]) && (!decide (w = [35, 45, 48]) && cnt (w.drop 2))) else named w BIG
def mkL (w : List Nat) : Bool := if w.take 1 = [35] then cnt (w.drop 1) || (decide ((w.drop 1).take 1 = [45]) && (!decide ((w.drop 2).take 1 = [48]) && cnt (w.drop 2))) else named w BIG
def pt (i : Nat) (z : Str) : Bool := if i % 2 = 1 then mk (tl z) else cnt (tl z)
def parts (z : Str) : List Str := Txt.split (cutS z (some 2) none) "."
def isLine (z : Str) : Bool := decide ((tl z).take 2 = [109, 58]) && (decide ((parts z).length % 2 = 0) && ((parts z).zipIdx.map fun q => pt q.2 q.1).all id)
theorem also_later : ∀ c, decide (c ∈ ALSO) = decide (c ∈ LATER) := fun c => decide_eq_decide.mpr ⟨fun h => (by decide +kernel : ∀ c ∈ ALSO, c ∈ LATER) c h, fun h => (by decide +kernel : ∀ c ∈ LATER, c ∈ ALSO) c h⟩
theorem filter_all {p : Nat → Bool} {w : List Nat} : decide (w.filter (fun c => !p c) = []) = w.all p := by
  rw [Bool.eq_iff_iff, decide_eq_true_iff, List.filter_eq_nil_iff, List.all_eq_true]
  exact ⟨fun h c hc => by simpa using h c hc, fun h c hc => by simp [h c hc]⟩
theorem cnt_head {w : List Nat} (h : cnt w = true) : w = [48] ∨ w.headD 0 ≠ 48 := by
  unfold cnt at h
  simp only [Bool.and_eq_true, Bool.or_eq_true, decide_eq_true_eq, Bool.not_eq_true', decide_eq_false_iff_not] at h
  exact h.2
theorem mk_eq (w : List Nat) : mkL w = mk w := by
  unfold mkL mk
  by_cases h : w.take 1 = [35]
  · rw [if_pos h, if_pos h]
    congr 1
    by_cases h2 : (w.drop 1).take 1 = [45]
    · congr 1
      by_cases h3 : cnt (w.drop 2) = true
      · rw [h3, Bool.and_true, Bool.and_true]
        congr 1
        refine decide_eq_decide.mpr ?_
        match w, h, h2 with
        | a :: b :: r, h, h2 =>
          have ha : a = 35 := by simpa using h
          have hb : b = 45 := by simpa using h2
          subst ha hb
          have h3' : cnt r = true := h3
          show r.take 1 = [48] ↔ 35 :: 45 :: r = [35, 45, 48]
          constructor
          · intro q
            have qr : r.headD 0 = 48 := by
              cases r with
              | nil => cases q
              | cons x r => simpa using q
            rcases cnt_head h3' with e | e
            · rw [e]
            · exact absurd qr e
          · intro q
            have : r = [48] := by simpa using q
            rw [this]
            rfl
        | [a], h, h2 => simp at h2
      · rw [Bool.eq_false_iff.mpr h3, Bool.and_false, Bool.and_false]
    · rw [decide_eq_false h2, Bool.false_and, Bool.false_and]
  · rw [if_neg h, if_neg h]
/-- what stands ahead of the last meeting of a line -/
def parV (z : Str) : V := if (Txt.split z ".").length = 2 then .non else .str (Txt.join "." ((Txt.split z ".").take ((Txt.split z ".").length - 2)))
/-- each word once, in the order of their first times -/
def once : List Str → List Str → List Str
  | acc, [] => acc
  | acc, z :: r => once (if z ∈ acc then acc else acc ++ [z]) r
theorem once_take {l : List Str} {i : Nat} {z : Str} (h : l[i]? = some z) (acc : List Str) : once acc (l.take (i + 1)) = (if z ∈ once acc (l.take i) then once acc (l.take i) else once acc (l.take i) ++ [z]) := by
  induction l generalizing acc i with
  | nil => cases h
  | cons a l ih =>
    cases i with
    | zero =>
      have e : a = z := by simpa using h
      subst e
      rfl
    | succ i =>
      show once _ (l.take (i + 1)) = _
      rw [ih (by simpa using h)]
      rfl
def linesIn (z : Str) : List Str := once [] (((Txt.split z "\n").take ((Txt.split z "\n").length - 1)).filter isLine)
def logText (ys : List Str) : Str := Txt.join "" (ys.map fun y => y ++ "\n")
def appended (z : Str) (ys : List Str) : Str := (if z ≠ "" ∧ (tl z).getLastD 0 ≠ 10 then z ++ "\n" else z) ++ logText ys
end K40

namespace K40
open PySem PySem.Spec PyProof.Rows L2 Nm
def top (i : Nat) : Stmt := PySem.Challenge.pw_namedmeets_k40_lines_and_logs.main.body.getD i (.Pass ⟨0, 0, 0, 0⟩)
abbrev snamed : Stmt := top 9
theorem scnamed : FnScope ["word", "first", "sign"] ["word", "first"] (defScope snamed) := ⟨rfl, rfl, rfl, by decide +kernel, rfl, by decide +kernel, by decide +kernel⟩
abbrev sbig : Stmt := top 10
theorem scbig : FnScope ["word"] ["word"] (defScope sbig) := ⟨rfl, rfl, rfl, by decide +kernel, rfl, by decide +kernel, by decide +kernel⟩
abbrev scount : Stmt := top 13
theorem sccount : FnScope ["word", "sign"] ["word"] (defScope scount) := ⟨rfl, rfl, rfl, by decide +kernel, rfl, by decide +kernel, by decide +kernel⟩
abbrev smaker : Stmt := top 14
theorem scmaker : FnScope ["word"] ["word"] (defScope smaker) := ⟨rfl, rfl, rfl, by decide +kernel, rfl, by decide +kernel, by decide +kernel⟩
abbrev sline : Stmt := top 15
theorem scline : FnScope ["word", "parts", "place", "part"] ["word"] (defScope sline) := ⟨rfl, rfl, rfl, by decide +kernel, rfl, by decide +kernel, by decide +kernel⟩
abbrev sparent : Stmt := top 16
theorem scparent : FnScope ["line", "parts"] ["line"] (defScope sparent) := ⟨rfl, rfl, rfl, by decide +kernel, rfl, by decide +kernel, by decide +kernel⟩
abbrev sonce : Stmt := top 17
theorem sconce : FnScope ["words", "found", "word"] ["words"] (defScope sonce) := ⟨rfl, rfl, rfl, by decide +kernel, rfl, by decide +kernel, by decide +kernel⟩
abbrev slogtext : Stmt := top 18
theorem sclogtext : FnScope ["lines", "line"] ["lines"] (defScope slogtext) := ⟨rfl, rfl, rfl, by decide +kernel, rfl, by decide +kernel, by decide +kernel⟩
abbrev spieces : Stmt := top 19
theorem scpieces : FnScope ["text"] ["text"] (defScope spieces) := ⟨rfl, rfl, rfl, by decide +kernel, rfl, by decide +kernel, by decide +kernel⟩
abbrev slinesin : Stmt := top 20
theorem sclinesin : FnScope ["text", "piece"] ["text"] (defScope slinesin) := ⟨rfl, rfl, rfl, by decide +kernel, rfl, by decide +kernel, by decide +kernel⟩
abbrev sappended : Stmt := top 21
theorem scappended : FnScope ["text", "lines"] ["text", "lines"] (defScope sappended) := ⟨rfl, rfl, rfl, by decide +kernel, rfl, by decide +kernel, by decide +kernel⟩
abbrev spen : Stmt := top 23
theorem scpen : FnScope ["_law_script", "_law_fold", "_law_cell"] ["_law_script"] (defScope spen) := ⟨rfl, rfl, rfl, by decide +kernel, rfl, by decide +kernel, by decide +kernel⟩
abbrev sdraw : Stmt := top 24
theorem scdraw : FnScope ["_law_pen_here", "_law_many", "_law_cell", "_law_digit", "_law_mixed"] ["_law_pen_here", "_law_many"] (defScope sdraw) := ⟨rfl, rfl, rfl, by decide +kernel, rfl, by decide +kernel, by decide +kernel⟩
abbrev spick : Stmt := top 25
theorem scpick : FnScope ["_law_pen_here", "_law_some"] ["_law_pen_here", "_law_some"] (defScope spick) := ⟨rfl, rfl, rfl, by decide +kernel, rfl, by decide +kernel, by decide +kernel⟩
abbrev slcounts : Stmt := top 26
theorem sclcounts : FnScope ["_law_word", "_law_sign"] ["_law_word"] (defScope slcounts) := ⟨rfl, rfl, rfl, by decide +kernel, rfl, by decide +kernel, by decide +kernel⟩
abbrev slnamed : Stmt := top 27
theorem sclnamed : FnScope ["_law_word", "_law_first", "_law_letters", "_law_sign"] ["_law_word", "_law_first"] (defScope slnamed) := ⟨rfl, rfl, rfl, by decide +kernel, rfl, by decide +kernel, by decide +kernel⟩
abbrev slmet : Stmt := top 28
theorem sclmet : FnScope ["_law_word"] ["_law_word"] (defScope slmet) := ⟨rfl, rfl, rfl, by decide +kernel, rfl, by decide +kernel, by decide +kernel⟩
abbrev slline : Stmt := top 29
theorem sclline : FnScope ["_law_word", "_law_parts", "_law_k"] ["_law_word"] (defScope slline) := ⟨rfl, rfl, rfl, by decide +kernel, rfl, by decide +kernel, by decide +kernel⟩
abbrev sllinesin : Stmt := top 30
theorem scllinesin : FnScope ["_law_text", "_law_found", "_law_piece"] ["_law_text"] (defScope sllinesin) := ⟨rfl, rfl, rfl, by decide +kernel, rfl, by decide +kernel, by decide +kernel⟩
abbrev sllogtext : Stmt := top 31
theorem scllogtext : FnScope ["_law_lines", "_law_line"] ["_law_lines"] (defScope sllogtext) := ⟨rfl, rfl, rfl, by decide +kernel, rfl, by decide +kernel, by decide +kernel⟩
abbrev slappended : Stmt := top 32
theorem sclappended : FnScope ["_law_text", "_law_lines"] ["_law_text", "_law_lines"] (defScope slappended) := ⟨rfl, rfl, rfl, by decide +kernel, rfl, by decide +kernel, by decide +kernel⟩
abbrev sbent : Stmt := top 33
theorem scbent : FnScope ["_law_pen_here", "_law_line", "_law_cut", "_law_some"] ["_law_pen_here", "_law_line"] (defScope sbent) := ⟨rfl, rfl, rfl, by decide +kernel, rfl, by decide +kernel, by decide +kernel⟩
abbrev ssomeline : Stmt := top 34
theorem scsomeline : FnScope ["_law_pen_here", "_law_letters", "_law_line", "_law_lap", "_law_word", "_law_number", "_law_k"] ["_law_pen_here"] (defScope ssomeline) := ⟨rfl, rfl, rfl, by decide +kernel, rfl, by decide +kernel, by decide +kernel⟩
abbrev sspoilt : Stmt := top 35
theorem scspoilt : FnScope ["_law_pen_here", "_law_line", "_law_signs", "_law_place", "_law_sign", "_law_way"] ["_law_pen_here", "_law_line"] (defScope sspoilt) := ⟨rfl, rfl, rfl, by decide +kernel, rfl, by decide +kernel, by decide +kernel⟩
abbrev srefusal : Stmt := top 36
theorem screfusal : FnScope ["_law_call", "_law_odd", "e"] ["_law_call", "_law_odd"] (defScope srefusal) := ⟨rfl, rfl, rfl, by decide +kernel, rfl, by decide +kernel, by decide +kernel⟩
abbrev swordsright : Stmt := top 37
theorem scwordsright : FnScope ["_law_words", "_law_word", "_law_due", "_law_parts"] ["_law_words"] (defScope swordsright) := ⟨rfl, rfl, rfl, by decide +kernel, rfl, by decide +kernel, by decide +kernel⟩
abbrev soddright : Stmt := top 38
theorem scoddright : FnScope ["_law_pen_here", "_law_odd"] ["_law_pen_here"] (defScope soddright) := ⟨rfl, rfl, rfl, by decide +kernel, rfl, by decide +kernel, by decide +kernel⟩
abbrev slaw : Stmt := top 39
theorem sclaw : FnScope ["_law_script", "_law_pen_here", "_law_lines", "_law_words", "_law_some", "_law_text", "_law_more", "_law_longer", "_law_k", "_law_word"] ["_law_script"] (defScope slaw) := ⟨rfl, rfl, rfl, by decide +kernel, rfl, by decide +kernel, by decide +kernel⟩
/-- what the top has written -/
structure Tx (P : Program) (K : PySem.W.Frag) (mg : Str → Option Value) where
  anamed : Addr
  fdnamed : FuncData
  Dnamed : Nm.Df K mg "is_named" snamed ["word", "first"] anamed fdnamed
  abig : Addr
  fdbig : FuncData
  Dbig : Nm.Df K mg "is_big" sbig ["word"] abig fdbig
  acount : Addr
  fdcount : FuncData
  Dcount : Nm.Df K mg "is_count" scount ["word"] acount fdcount
  amaker : Addr
  fdmaker : FuncData
  Dmaker : Nm.Df K mg "is_maker_word" smaker ["word"] amaker fdmaker
  aline : Addr
  fdline : FuncData
  Dline : Nm.Df K mg "is_line" sline ["word"] aline fdline
  aparent : Addr
  fdparent : FuncData
  Dparent : Nm.Df K mg "parent_of" sparent ["line"] aparent fdparent
  aonce : Addr
  fdonce : FuncData
  Donce : Nm.Df K mg "each_once" sonce ["words"] aonce fdonce
  alogtext : Addr
  fdlogtext : FuncData
  Dlogtext : Nm.Df K mg "log_text" slogtext ["lines"] alogtext fdlogtext
  apieces : Addr
  fdpieces : FuncData
  Dpieces : Nm.Df K mg "pieces_of" spieces ["text"] apieces fdpieces
  alinesin : Addr
  fdlinesin : FuncData
  Dlinesin : Nm.Df K mg "lines_in" slinesin ["text"] alinesin fdlinesin
  aappended : Addr
  fdappended : FuncData
  Dappended : Nm.Df K mg "appended" sappended ["text", "lines"] aappended fdappended
  apen : Addr
  fdpen : FuncData
  Dpen : Nm.Df K mg "_law_pen" spen ["_law_script"] apen fdpen
  adraw : Addr
  fddraw : FuncData
  Ddraw : Nm.Df K mg "_law_draw" sdraw ["_law_pen_here", "_law_many"] adraw fddraw
  apick : Addr
  fdpick : FuncData
  Dpick : Nm.Df K mg "_law_pick" spick ["_law_pen_here", "_law_some"] apick fdpick
  alcounts : Addr
  fdlcounts : FuncData
  Dlcounts : Nm.Df K mg "_law_counts" slcounts ["_law_word"] alcounts fdlcounts
  alnamed : Addr
  fdlnamed : FuncData
  Dlnamed : Nm.Df K mg "_law_named" slnamed ["_law_word", "_law_first"] alnamed fdlnamed
  almet : Addr
  fdlmet : FuncData
  Dlmet : Nm.Df K mg "_law_met_word" slmet ["_law_word"] almet fdlmet
  alline : Addr
  fdlline : FuncData
  Dlline : Nm.Df K mg "_law_is_line" slline ["_law_word"] alline fdlline
  allinesin : Addr
  fdllinesin : FuncData
  Dllinesin : Nm.Df K mg "_law_lines_in" sllinesin ["_law_text"] allinesin fdllinesin
  allogtext : Addr
  fdllogtext : FuncData
  Dllogtext : Nm.Df K mg "_law_log_text" sllogtext ["_law_lines"] allogtext fdllogtext
  alappended : Addr
  fdlappended : FuncData
  Dlappended : Nm.Df K mg "_law_appended" slappended ["_law_text", "_law_lines"] alappended fdlappended
  abent : Addr
  fdbent : FuncData
  Dbent : Nm.Df K mg "_law_bent" sbent ["_law_pen_here", "_law_line"] abent fdbent
  asomeline : Addr
  fdsomeline : FuncData
  Dsomeline : Nm.Df K mg "_law_some_line" ssomeline ["_law_pen_here"] asomeline fdsomeline
  aspoilt : Addr
  fdspoilt : FuncData
  Dspoilt : Nm.Df K mg "_law_spoilt" sspoilt ["_law_pen_here", "_law_line"] aspoilt fdspoilt
  arefusal : Addr
  fdrefusal : FuncData
  Drefusal : Nm.Df K mg "_law_refusal" srefusal ["_law_call", "_law_odd"] arefusal fdrefusal
  awordsright : Addr
  fdwordsright : FuncData
  Dwordsright : Nm.Df K mg "_law_words_right" swordsright ["_law_words"] awordsright fdwordsright
  aoddright : Addr
  fdoddright : FuncData
  Doddright : Nm.Df K mg "_law_odd_right" soddright ["_law_pen_here"] aoddright fdoddright
  alaw : Addr
  fdlaw : FuncData
  Dlaw : Nm.Df K mg "law" slaw ["_law_script"] alaw fdlaw
  n_len : mg "len" = none
  n_all : mg "all" = none
  n_enumerate : mg "enumerate" = none
  n_tuple : mg "tuple" = none
  n_list : mg "list" = none
  n_int : mg "int" = none
  n_range : mg "range" = none
  n_isinstance : mg "isinstance" = none
  n_str : mg "str" = none
  n_bool : mg "bool" = none
  n_super : mg "super" = none
  t_BIG_LETTERS : Tok
  g_BIG_LETTERS : mg "BIG_LETTERS" = some (.str "ABCDEFGHIJKLMNOPQRSTUVWXYZ" t_BIG_LETTERS)
  t_SMALL_LETTERS : Tok
  g_SMALL_LETTERS : mg "SMALL_LETTERS" = some (.str "abcdefghijklmnopqrstuvwxyz" t_SMALL_LETTERS)
  t_DIGITS_logs : Tok
  g_DIGITS_logs : mg "DIGITS_logs" = some (.str "0123456789" t_DIGITS_logs)
  t_LATER : Tok
  g_LATER : mg "LATER" = some (.str "ABCDEFGHIJKLMNOPQRSTUVWXYZabcdefghijklmnopqrstuvwxyz0123456789_" t_LATER)
  CBadText : Addr
  EBadText : NmE.Err P K mg "BadText" CBadText ["line", "column"]
  CBadName : Addr
  EBadName : NmE.Err P K mg "BadName" CBadName ["name"]
  x_BadText_BadText : PySem.W.exmOne K (.ref CBadText) (.ref CBadText) = some true
  x_BadText_BadName : PySem.W.exmOne K (.ref CBadText) (.ref CBadName) = some false
  x_BadName_BadText : PySem.W.exmOne K (.ref CBadName) (.ref CBadText) = some false
  x_BadName_BadName : PySem.W.exmOne K (.ref CBadName) (.ref CBadName) = some true
end K40

open PySem PySem.Spec PyProof.Rows L2 Nm
local macro_rules | `(tactic| walk_at "z0") => `(tactic| (simp only [L2.start, cxOf, Cx.nox, Cx.wish, List.map_cons, List.map_nil, List.length_cons, List.length_nil, List.replicate_succ, List.replicate_zero, List.cons_append, List.nil_append, Nat.reduceAdd, Nat.reduceSub]))
local macro_rules | `(tactic| walk_at "zc") => `(tactic| first | assumption | omega | decide | (refine line_ge ?_; omega) | (unfold CMul; omega) | (unfold CDivW; refine ⟨?_, ?_⟩ <;> first | omega | assumption | decide))
local macro_rules | `(tactic| walk_at "hp") => `(tactic| first | assumption | (refine same_at (by assumption) ?_; walk_at "hp"))
local macro_rules | `(tactic| walk_at "hl") => `(tactic| first | assumption | (refine SqL.of ?_; walk_at "hp") | (refine same_sq (by assumption) ?_; walk_at "hl"))
local macro_rules | `(tactic| walk_at "ht") => `(tactic| first | assumption | (refine SqT.of ?_; walk_at "hp") | (refine same_st (by assumption) ?_; walk_at "ht"))
local macro_rules | `(tactic| walk_at "z1") => `(tactic| first
  | ((with_reducible refine' z_var ?zk ?_); (case zk => exact rfl))
  | with_reducible refine z_c ?_
  | with_reducible refine z_op ?_
  | with_reducible refine z_cons ?_
  | with_reducible refine z_nil ?_
  | with_reducible refine z_rI0 ?_
  | ((with_reducible refine z_rI ?zk ?_); (case zk => walk_at "zc"))
  | with_reducible refine z_rU ?_
  | with_reducible refine z_un ?_
  | with_reducible refine z_cb ?_
  | with_reducible refine z_call ?_
  | with_reducible refine z_dget ?_
  | ((with_reducible refine' z_get_cells ?zk ?_); (case zk => assumption))
  | ((with_reducible refine' z_get_at ?zk ?_); (case zk => assumption))
  | ((with_reducible refine' z_get_digits ?zk ?_); (case zk => assumption))
  | ((with_reducible refine' z_get_count ?zk ?_); (case zk => assumption))
  | ((with_reducible refine' z_get_fold ?zk ?_); (case zk => assumption))
  | with_reducible refine z_dput ?_
  | with_reducible refine z_test ?_
  | with_reducible refine z_tB ?_
  | with_reducible refine z_kT ?_
  | with_reducible refine z_eqI ?_
  | with_reducible refine z_neI ?_
  | with_reducible refine z_eqS ?_
  | with_reducible refine z_neS ?_
  | with_reducible refine z_inC ?_
  | with_reducible refine z_notInC ?_
  | with_reducible refine z_isN ?_
  | ((with_reducible refine z_lenS ?zk ?_); (case zk => walk_at "zc"))
  | ((with_reducible refine z_slS ?zk ?_); (case zk => walk_at "zc"))
  | ((with_reducible refine z_addS ?zk ?_); (case zk => walk_at "zc"))
  | ((with_reducible refine z_mulS ?za ?zb ?zc ?_); (case za => decide); (case zb => decide); (case zc => decide))
  | with_reducible refine z_bm ?_
  | with_reducible refine z_lc ?_
  | with_reducible refine z_tYes ?_
  | with_reducible refine z_notN ?_
  | with_reducible refine z_intI ?_
  | with_reducible refine z_intB ?_
  | with_reducible refine z_sl ?_
  | with_reducible refine z_noPart ?_
  | with_reducible refine z_part ?_
  | with_reducible refine z_kPart ?_
  | with_reducible refine z_tup ?_
  | with_reducible refine z_lst ?_
  | with_reducible refine z_chain ?_
  | with_reducible refine z_kCh ?_
  | with_reducible refine z_andT ?_
  | with_reducible refine z_orT ?_
  | with_reducible refine z_notT ?_
  | with_reducible refine z_andV ?_
  | with_reducible refine z_orV ?_
  | with_reducible refine z_notV ?_
  | with_reducible refine z_kAndV ?_
  | with_reducible refine z_kOrV ?_
  | with_reducible refine z_kNotV ?_
  | with_reducible refine z_ifE ?_
  | with_reducible refine z_seq ?_
  | with_reducible refine z_next ?_
  | with_reducible refine z_brk ?_
  | with_reducible refine z_cnt ?_
  | with_reducible refine z_ret ?_
  | with_reducible refine z_retN ?_
  | with_reducible refine z_ifS ?_
  | with_reducible refine z_drop ?_
  | with_reducible refine z_asg ?_
  | with_reducible refine z_gName ?_
  | with_reducible refine z_gCons ?_
  | with_reducible refine z_gNil ?_
  | with_reducible refine z_par ?_
  | with_reducible refine z_m1 ?_
  | with_reducible refine z_kM1 ?_
  | with_reducible refine z_par3 ?_
  | with_reducible refine z_kPar3 ?_
  | with_reducible refine z_isB ?_
  | with_reducible refine z_notB ?_
  | with_reducible refine z_raiseE ?_
  | with_reducible refine z_kPar ?_
  | with_reducible refine z_nx ?_
  | with_reducible refine z_rt ?_
  | with_reducible refine z_bk ?_
  | with_reducible refine z_ct ?_
  | with_reducible refine z_for ?_
  | with_reducible refine z_iList ?_
  | with_reducible refine z_iTup ?_
  | with_reducible refine z_iStr ?_
  | with_reducible refine z_kIS ?_
  | with_reducible refine z_iRng1 ?_
  | with_reducible refine z_iEnumS ?_
  | with_reducible refine z_iEnum ?_
  | with_reducible refine z_ifT ?_
  | ((with_reducible refine' z_callP ?zk ?_); (case zk => exact rfl))
  | with_reducible refine z_ofE ?_
  | with_reducible refine z_rtE ?_
  | with_reducible refine z_kIE ?_
  | with_reducible refine z_pcons ?_
  | with_reducible refine z_pnil ?_
  | with_reducible refine iteT ?_
  | with_reducible refine iteF ?_
  | with_reducible refine z_iteNT ?_
  | with_reducible refine z_iteNF ?_)
local macro_rules | `(tactic| walk_at "zz") => `(tactic| repeat walk_at "z1")
namespace K40
open PySem PySem.Spec PyProof.Rows L2 Nm
section
variable {P : Program} {w : World} {K : PySem.W.Frag} {mg : Str → Option Value} {base : Heap}
theorem ok_pen (T : Tx P K mg) : FnOk P w K mg base CX0 1 T.apen T.fdpen ["_law_script"] (spPen K) := by
  refine T.Dpen.F.ok scpen (fun vs H Q E h => ?_) (fun cdv A outer s H vs Q E hr h => ?_)
  · obtain ⟨a, ns, rfl, _⟩ := h
    rfl
  · obtain ⟨a, ns, rfl, hS, k⟩ := h
    have hu := hu_of hr
    refine ⟨_, pss_cons (ps_set (i := 1) scpen.nd rfl (Or.inl rfl) (pe_int))
(pss_cons (ps_for PassesOwn.never rfl (pi_list (pv 0)) (pg_name (i := 2) scpen.nd rfl (Or.inl rfl))
(pss_one (ps_set (i := 1) scpen.nd rfl (Or.inl rfl) (pe_op op_mod (pe_callTy call_int1n (by rfl) T.n_int (by decide +kernel) (pa_cons (pe_op op_add (pe_op op_mul (pv 1) (pe_int)) (pv 2)) pa_nil)) (pe_int)))))
(pss_one (ps_ret (pe_disp (pps_cons (pe_str) (pe_callTy call_listOf (by rfl) T.n_list (by decide +kernel) (pa_cons (pv 0) pa_nil)) (pps_cons (pe_str) (pe_int) (pps_cons (pe_str) (pe_int) (pps_cons (pe_str) (pe_int) (pps_cons (pe_str) (pv 1) (pps_nil)))))) (by rfl) (by rfl) (fun z => by cases z) (by decide))))), ?_⟩
    walk_at "z0"
    walk_at "zz"
    refine z_kIL hS (f_list (K := K) (a := a) (xs := ns.map V.int) (fun i σ' H' => ∃ (f : Int) (v : Option V), σ' = [some (.ref a), some (.int f), v] ∧ 0 ≤ f ∧ f < 1000000007 ∧ H' = H) ⟨0, none, rfl, by decide, by decide, rfl⟩ (fun i σ' H' ⟨_, _, _, _, _, e⟩ => e ▸ hS) ?_ ?_)
    · rintro i x σ' H' hx ⟨f, v, rfl, h0, h1, rfl⟩
      obtain ⟨z, rfl⟩ : ∃ z, x = V.int z := by
        rw [List.getElem?_map] at hx
        cases e : ns[i]? with
        | none => rw [e] at hx; cases hx
        | some z => rw [e] at hx; exact ⟨z, (Option.some.inj hx).symm⟩
      walk_at "zz"
      exact ⟨_, _, rfl, Int.emod_nonneg _ (by decide), Int.emod_lt_of_pos _ (by decide), rfl⟩
    · rintro σ' H' ⟨f, v, rfl, h0, h1, rfl⟩
      walk_at "zz"
      refine z_disp fun p H1 hp s1 h1 => ?_
      walk_at "zz"
      refine z_listOfL (s1.seq hS) fun l H2 hl s2 h2 => ?_
      walk_at "zz"
      refine z_kDisp (penKv l 0 0 0 f) rfl (s2 _ _ h1) (by show 5 ≤ 15; decide) fun H3 b3 h3 => ?_
      walk_at "zz"
      refine k p l H3 hp (b3.same (s1.trans s2) hp) ⟨0, 0, 0, f, ns, h3, ?_, by decide, by decide, by decide, by decide, h0, by omega⟩
      refine b3 _ _ ?_ h2
      exact fun e => by rw [e] at h2; rw [s2 _ _ h1] at h2; cases h2
theorem ok_draw (T : Tx P K mg) : FnOk P w K mg base CX0 1 T.adraw T.fddraw ["_law_pen_here", "_law_many"] (spDraw K) := by
  refine T.Ddraw.F.ok scdraw (fun vs H Q E h => ?_) (fun cdv A outer s H vs Q E hr h => ?_)
  · obtain ⟨d, c, m, many, rfl, _⟩ := h
    rfl
  · obtain ⟨d, c, m, many, rfl, ⟨a, g, n, f, ns, hd, hc, h0, h1, h2, h3, h4, h5⟩, hm, hl, k⟩ := h
    have hu := hu_of hr
    refine ⟨_, pss_cons (ps_dput hu (pv 0) (pe_str) (pe_op op_add (pe_dget hu (pv 0) (pe_str) (fun _ _ => rfl)) (pe_int)) rfl)
(pss_cut (ps_if (pt_cut (PW.pt (pw_and (pt_cmpR op_eq (pe_dget hu (pv 0) (pe_str) (fun _ _ => rfl)) (pe_int) (nomark _)) (pw_and1 (pt_cmpR op_lt (pe_dget hu (pv 0) (pe_str) (fun _ _ => rfl)) (pe_callB call_lenL (by rfl) T.n_len (by decide +kernel) (pa_cons (pe_dget hu (pv 0) (pe_str) (fun _ _ => rfl)) pa_nil)) (nomark _))))))
(pss_cons (ps_set (i := 2) scdraw.nd rfl (Or.inl rfl) (pe_ix ix_list (pe_dget hu (pv 0) (pe_str) (fun _ _ => rfl)) (pe_dget hu (pv 0) (pe_str) (fun _ _ => rfl)) (fun _ _ => rfl)))
(pss_cons (ps_dput hu (pv 0) (pe_str) (pe_op op_add (pe_dget hu (pv 0) (pe_str) (fun _ _ => rfl)) (pe_int)) rfl)
(pss_one (ps_if (pt_cmpR op_ge (pv 2) (pe_op op_pow (pe_int) (pe_int)) (nomark _))
(pss_one (ps_dput hu (pv 0) (pe_str) (pe_op op_sub (pv 2) (pe_op op_pow (pe_int) (pe_int))) rfl))
(pss_one (ps_dput hu (pv 0) (pe_str) (pe_op op_mod (pe_callTy call_int1n (by rfl) T.n_int (by decide +kernel) (pa_cons (pe_op op_add (pe_op op_mul (pe_dget hu (pv 0) (pe_str) (fun _ _ => rfl)) (pe_int)) (pv 2)) pa_nil)) (pe_int)) rfl))))))
(pss_nil))
(pss_cons (ps_if (pt_cmpR op_gt (pe_dget hu (pv 0) (pe_str) (fun _ _ => rfl)) (pe_int) (nomark _))
(pss_cons (ps_set (i := 3) scdraw.nd rfl (Or.inl rfl) (pe_op op_mod (pe_callTy call_int1n (by rfl) T.n_int (by decide +kernel) (pa_cons (pe_dget hu (pv 0) (pe_str) (fun _ _ => rfl)) pa_nil)) (pv 1)))
(pss_cons (ps_dput hu (pv 0) (pe_str) (pe_op op_fdivW (pe_dget hu (pv 0) (pe_str) (fun _ _ => rfl)) (pv 1)) rfl)
(pss_one (ps_ret (pv 3)))))
(pss_nil))
(pss_cons (ps_set (i := 4) scdraw.nd rfl (Or.inl rfl) (pe_op op_add (pe_op op_add (pe_dget hu (pv 0) (pe_str) (fun _ _ => rfl)) (pe_op op_mul (pe_dget hu (pv 0) (pe_str) (fun _ _ => rfl)) (pe_int))) (pe_int)))
(pss_one (ps_ret (pe_op op_mod (pe_op op_fdivW (pe_callTy call_int1n (by rfl) T.n_int (by decide +kernel) (pa_cons (pe_op op_mod (pe_op op_pow (pv 4) (pe_int)) (pe_int)) pa_nil)) (pe_int)) (pv 1))))))), ?_⟩
    walk_at "z0"
    walk_at "zz"
    refine z_put_count hd fun H1 b1 d1 => ?_
    have c1 : H1 c = some (.lst (ns.map V.int)) := (b1.keep hd) _ _ hc rfl
    refine z_cut (fun σ' H' => ∃ (v : Option V) (a g f : Int), σ' = [some (V.ref d), some (V.int many), v, none, none] ∧ But d H H' ∧ H' d = some (.dK (penKv c a g (n + 1) f)) ∧ H' c = some (.lst (ns.map V.int)) ∧ 0 ≤ a ∧ 0 ≤ g ∧ 0 ≤ f ∧ f < 2147483587) ?_ ?_
    · walk_at "zz"
      refine z_cutT (fun b H' => H' = H1 ∧ (b = true → g = 0 ∧ a < ns.length)) ?_ ?_
      · walk_at "zz"
        refine z_ite (fun eg => ?_) (fun _ => ?_)
        · walk_at "zz"
          refine z_lenL (SqL.of c1) ?_
          walk_at "zz"
          refine ⟨rfl, fun q => ⟨of_decide_eq_true eg, ?_⟩⟩
          have := of_decide_eq_true q
          rw [List.length_map] at this
          omega
        · walk_at "zz"
          exact ⟨rfl, fun q => by cases q⟩
      rintro b H' ⟨rfl, hb⟩
      refine z_ite (fun eg => ?_) (fun _ => ?_)
      · obtain ⟨eg, ea'⟩ := hb eg
        refine z_seq ?_
        · walk_at "zz"
          have hx : (ns.map V.int)[a.toNat]? = some (.int (ns.getD a.toNat 0)) := by
            rw [List.getElem?_map, List.getD_eq_getElem?_getD, List.getElem?_eq_getElem (by omega)]
            rfl
          refine z_ixL (SqL.of c1) (at_of (by omega) hx) ?_
          walk_at "zz"
          refine z_put_at d1 fun H2 b2 d2 => ?_
          have c2 : H2 c = some (.lst (ns.map V.int)) := (b2.keep d1) _ _ c1 rfl
          walk_at "zz"
          refine z_rI ⟨by decide, by decide, by decide⟩ ?_
          walk_at "zz"
          refine z_ite (fun ez => ?_) (fun _ => ?_)
          · walk_at "zz"
            refine z_rI ⟨by decide, by decide, by decide⟩ ?_
            walk_at "zz"
            refine z_put_digits d2 fun H3 b3 d3 => ?_
            walk_at "zz"
            exact ⟨_, _, _, _, rfl, (b1.trans b2).trans b3, d3, (b3.keep d2) _ _ c2 rfl, by omega, Int.sub_nonneg_of_le (of_decide_eq_true ez), h4, h5⟩
          · walk_at "zz"
            refine z_put_fold d2 fun H3 b3 d3 => ?_
            walk_at "zz"
            exact ⟨_, _, _, _, rfl, (b1.trans b2).trans b3, d3, (b3.keep d2) _ _ c2 rfl, by omega, h1, Int.emod_nonneg _ (by decide), Int.emod_lt_of_pos _ (by decide)⟩
      · walk_at "zz"
        exact ⟨_, _, _, _, rfl, b1, d1, c1, h0, h1, h4, h5⟩
    · rintro σ' H2 ⟨v, a, g, f, rfl, b2, d2, c2, h0, h1, h4, h5⟩
      walk_at "zz"
      refine z_ite (fun eg => ?_) (fun _ => ?_)
      · walk_at "zz"
        refine z_put_digits d2 fun H3 b3 d3 => ?_
        walk_at "zz"
        exact k _ H3 (Int.emod_nonneg _ (by omega)) (Int.emod_lt_of_pos _ hm) (b2.trans b3) (pen_new d3 ((b3.keep d2) _ _ c2 rfl) rfl ⟨h0, Int.ediv_nonneg h1 (by omega), by omega, by omega, h4, h5⟩)
      · walk_at "zz"
        refine z_rI ?_ ?_
        · exact ⟨by decide, by decide, by omega⟩
        walk_at "zz"
        exact k _ H2 (Int.emod_nonneg _ (by omega)) (Int.emod_lt_of_pos _ hm) b2 (pen_new d2 c2 rfl ⟨h0, h1, by omega, by omega, h4, h5⟩)
theorem ok_pick (T : Tx P K mg) : FnOk P w K mg base CX0 2 T.apick T.fdpick ["_law_pen_here", "_law_some"] (spPick K) := by
  have Gdraw : FnOk P w K mg base CX0 1 T.adraw T.fddraw ["_law_pen_here", "_law_many"] (spDraw K) := ok_draw T
  refine T.Dpick.F.ok scpick (fun vs H Q E h => ?_) (fun cdv A outer s H vs Q E hr h => ?_)
  · obtain ⟨d, c, p, m, ys, rfl, _⟩ := h
    rfl
  · obtain ⟨d, c, p, m, ys, rfl, hp, hs, hne, hlen, k⟩ := h
    have hrdraw := hr
    refine ⟨_, pss_one (ps_ret (pe_ix ix_list (pv 1) (pe_callN T.Ddraw Gdraw hrdraw pass0 (pa_cons (pv 0) (pa_cons (pe_callB call_lenL (by rfl) T.n_len (by decide +kernel) (pa_cons (pv 1) pa_nil)) pa_nil))) (fun _ _ => rfl))), ?_⟩
    walk_at "z0"
    walk_at "zz"
    refine z_lenL hs ?_
    walk_at "zz"
    have hpos : 0 < ys.length := List.length_pos_iff.mpr hne
    refine ⟨d, c, m, _, rfl, hp, by omega, ?_, fun r H' h0 h1 b hp' => ?_⟩
    · exact log2_small (by omega) (by omega)
    have hx : ys[r.toNat]? = some (ys[r.toNat]'(by omega)) := List.getElem?_eq_getElem (by omega)
    refine z_ixL ((hp.keep b).l hs) (at_of (by omega) hx) ?_
    walk_at "zz"
    exact k _ H' (List.getElem_mem _) b hp'
end
end K40

namespace K40
open PySem PySem.Spec PyProof.Rows L2 Nm
theorem head_at {z : Str} (h : 1 ≤ z.length) : atI z.cps.toList 0 = some ((tl z).headD 0) := by
  rw [str_len] at h
  cases e : tl z with
  | nil => rw [e] at h; exact absurd h (by decide)
  | cons a r =>
    show atI (tl z) ((0 : Nat) : Int) = _
    rw [e]
    exact atI_nat rfl
section
variable {P : Program} {w : World} {K : PySem.W.Frag} {mg : Str → Option Value} {base : Heap}
def spNamed : Sp := fun vs H Q _ => ∃ z f : Str, vs = [.str z, .str f] ∧ z.length ≤ 100000 ∧ ∀ b H', b = named (tl z) (tl f) → Same H H' → Q (.bl b) H'
def spW (g : List Nat → Bool) : Sp := fun vs H Q _ => ∃ z : Str, vs = [.str z] ∧ z.length ≤ 100000 ∧ ∀ b H', b = g (tl z) → Same H H' → Q (.bl b) H'
theorem ok_named (T : Tx P K mg) : FnOk P w K mg base CX0 1 T.anamed T.fdnamed ["word", "first"] spNamed := by
  refine T.Dnamed.F.ok scnamed (fun vs H Q E h => ?_) (fun cdv A outer s H vs Q E hr h => ?_)
  · obtain ⟨z, f, rfl, _⟩ := h
    rfl
  · obtain ⟨z, f, rfl, hz, k⟩ := h
    have hu := hu_of hr
    refine ⟨_, pss_one (ps_ret (pe_and (pe_chain op_le op_le (pe_int) (pe_callB call_lenS (by rfl) T.n_len (by decide +kernel) (pa_cons (pv 0) pa_nil)) (pe_int)) (pe_and (pe_cmpR op_inC (pe_ix ix_str (pv 0) (pe_int) (fun _ _ => rfl)) (pv 1) (by rfl)) (pe_one (pe_callB (cr_all rfl) (by rfl) T.n_all (by decide +kernel) (pa_cons (pe_lc (own := [("sign", 2)]) rfl scnamed.nd (pi_str (pv 0)) (blkOk_by (own := [("sign", 2)]) (N := ["word", "first", "sign"]) (sc := defScope snamed) (by decide +kernel)) (fun _ _ _ _ _ => pg_name (i := 2) scnamed.nd rfl (Or.inl rfl)) (fun _ _ _ _ _ => pts_nil) (fun _ _ _ _ _ => pe_cmpR op_inC (pv 2) (pe_glob rfl T.g_LATER rel_str) (by rfl))) pa_nil)))))), ?_⟩
    walk_at "z0"
    walk_at "zz"
    have zl := str_len z
    refine z_ite (fun e1 => ?_) (fun e1 => ?_)
    · walk_at "zz"
      have e1 := of_decide_eq_true e1
      have e1' : 1 ≤ z.length := by omega
      refine z_ite (fun e2 => ?_) (fun e2 => ?_)
      · walk_at "zz"
        have e2 := of_decide_eq_true e2
        refine z_ixS (line_ge (by omega)) (head_at e1') ?_
        walk_at "zz"
        refine z_ite (fun e3 => ?_) (fun e3 => ?_)
        · walk_at "zz"
          refine l_textB (fun c => decide (c ∈ LATER)) (by omega) (fun c H1 _ _ Q' q => ?_) fun D H1 hD s1 h1 => ?_
          · walk_at "zz"
            exact q
          · walk_at "zz"
            refine z_all (SqL.of h1) ?_
            walk_at "zz"
            refine k _ _ ?_ s1
            simp only [named, zl ▸ decide_eq_true e1', decide_eq_true (show (tl z).length ≤ 24 by omega), show decide ((tl z).headD 0 ∈ tl f) = true from e3, Bool.true_and]
            rw [List.all_map]
            rfl
        · walk_at "zz"
          refine k _ _ ?_ (Same.refl _)
          simp only [named, show decide ((tl z).headD 0 ∈ tl f) = false from e3, Bool.and_false, Bool.false_and]
      · walk_at "zz"
        have e2 := of_decide_eq_false e2
        refine k _ _ ?_ (Same.refl _)
        simp only [named, decide_eq_false (show ¬ (tl z).length ≤ 24 by omega), Bool.and_false, Bool.false_and]
    · walk_at "zz"
      have e1 := of_decide_eq_false e1
      refine k _ _ ?_ (Same.refl _)
      simp only [named, decide_eq_false (show ¬ 1 ≤ (tl z).length by omega), Bool.and_false, Bool.false_and]
theorem ok_big (T : Tx P K mg) : FnOk P w K mg base CX0 2 T.abig T.fdbig ["word"] (spW (fun w => K40.named w BIG)) := by
  have Gnamed : FnOk P w K mg base CX0 1 T.anamed T.fdnamed ["word", "first"] spNamed := ok_named T
  refine T.Dbig.F.ok scbig (fun vs H Q E h => ?_) (fun cdv A outer s H vs Q E hr h => ?_)
  · obtain ⟨z, rfl, _⟩ := h
    rfl
  · obtain ⟨z, rfl, hz, k⟩ := h
    have hrnamed := hr
    refine ⟨_, pss_one (ps_ret (pe_callN T.Dnamed Gnamed hrnamed pass0 (pa_cons (pv 0) (pa_cons (pe_glob rfl T.g_BIG_LETTERS rel_str) pa_nil)))), ?_⟩
    walk_at "z0"
    walk_at "zz"
    refine ⟨_, _, rfl, hz, fun b H' e s => ?_⟩
    walk_at "zz"
    exact k b H' e s
theorem ok_count (T : Tx P K mg) : FnOk P w K mg base CX0 1 T.acount T.fdcount ["word"] (spW cnt) := by
  refine T.Dcount.F.ok sccount (fun vs H Q E h => ?_) (fun cdv A outer s H vs Q E hr h => ?_)
  · obtain ⟨z, rfl, _⟩ := h
    rfl
  · obtain ⟨z, rfl, hz, k⟩ := h
    refine ⟨_, pss_cons (ps_if (pt_cut (PW.pt (pw_or (pt_cmpR op_eq (pv 0) (pe_str) (nomark _)) (pw_or1 (pt_not (pt_val (pe_callB (cr_all rfl) (by rfl) T.n_all (by decide +kernel) (pa_cons (pe_lc (own := [("sign", 1)]) rfl sccount.nd (pi_str (pv 0)) (blkOk_by (own := [("sign", 1)]) (N := ["word", "sign"]) (sc := defScope scount) (by decide +kernel)) (fun _ _ _ _ _ => pg_name (i := 1) sccount.nd rfl (Or.inl rfl)) (fun _ _ _ _ _ => pts_nil) (fun _ _ _ _ _ => pe_cmpR op_inC (pv 1) (pe_glob rfl T.g_DIGITS_logs rel_str) (by rfl))) pa_nil))))))))
(pss_one (ps_ret (pe_bl)))
(pss_nil))
(pss_one (ps_ret (pe_or (pe_cmpR op_eq (pv 0) (pe_str) (nomark _)) (pe_one (pe_cmpR op_ne (pe_ix ix_str (pv 0) (pe_int) (fun _ _ => rfl)) (pe_str) (nomark _)))))), ?_⟩
    walk_at "z0"
    walk_at "zz"
    have zl := str_len z
    have e0 : tl "" = [] := by decide +kernel
    have e48 : tl "0" = [48] := by decide +kernel
    have eD : tl "0123456789" = DIG := rfl
    refine z_cutB (decide (tl z = []) || !((tl z).all fun c => decide (c ∈ DIG))) ?_ fun H1 s1 => ?_
    · walk_at "zz"
      rw [txt_eq e0]
      refine z_ite (fun e => ?_) (fun e => ?_)
      · refine ⟨?_, Same.refl _⟩
        rw [e, Bool.true_or]
      · walk_at "zz"
        refine l_textB (fun c => decide (c ∈ DIG)) (by omega) (fun c H1 _ _ Q' q => ?_) fun D H1 hD s1 h1 => ?_
        · walk_at "zz"
          exact q
        walk_at "zz"
        refine z_all (SqL.of h1) ?_
        walk_at "zz"
        refine ⟨?_, s1⟩
        rw [e, Bool.false_or, List.all_map]
        rfl
    refine z_ite (fun e => ?_) (fun e => ?_)
    · walk_at "zz"
      refine k _ _ ?_ s1
      unfold cnt
      rw [e, Bool.not_true, Bool.false_and]
    · have hne : 1 ≤ z.length := by
        have q : tl z ≠ [] := fun q => by
          rw [decide_eq_true q, Bool.true_or] at e
          cases e
        have := List.length_pos_iff.mpr q
        omega
      walk_at "zz"
      rw [txt_eq e48]
      refine z_ite (fun e2 => ?_) (fun e2 => ?_)
      · walk_at "zz"
        refine k _ _ ?_ s1
        unfold cnt
        rw [e, e2, Bool.true_or, Bool.not_false, Bool.and_true]
      · walk_at "zz"
        refine z_ixS (line_ge (by omega)) (head_at hne) ?_
        walk_at "zz"
        rw [one_eq e48]
        refine k _ _ ?_ s1
        unfold cnt
        rw [e, e2, Bool.false_or, Bool.not_false, Bool.true_and]
theorem cut1 (z : Str) : tl (cutS z none (some 1)) = (tl z).take 1 := cut_to z 1
theorem cutf1 (z : Str) : tl (cutS z (some 1) none) = (tl z).drop 1 := cut_from z 1
theorem cutf2 (z : Str) : tl (cutS z (some 2) none) = (tl z).drop 2 := cut_from z 2
theorem cut12 (z : Str) : tl (cutS z (some 1) (some 2)) = ((tl z).drop 1).take 1 := by
  rw [tl_cut, show (1 : Int) = ((1 : Nat) : Int) from rfl, show (2 : Int) = ((2 : Nat) : Int) from rfl, HT.sIx_nat, HT.sIx_nat, str_len]
  match tl z with
  | [] => rfl
  | [a] => rfl
  | a :: b :: r =>
    have e1 : min 1 (a :: b :: r).length = 1 := Nat.min_eq_left (by simp)
    have e2 : min 2 (a :: b :: r).length = 2 := Nat.min_eq_left (by simp)
    rw [e1, e2]
theorem cut23 (z : Str) : tl (cutS z (some 2) (some 3)) = ((tl z).drop 2).take 1 := by
  rw [tl_cut, show (2 : Int) = ((2 : Nat) : Int) from rfl, show (3 : Int) = ((3 : Nat) : Int) from rfl, HT.sIx_nat, HT.sIx_nat, str_len]
  match tl z with
  | [] => rfl
  | [a] => rfl
  | [a, b] => rfl
  | a :: b :: c :: r =>
    have e1 : min 2 (a :: b :: c :: r).length = 2 := Nat.min_eq_left (by simp)
    have e2 : min 3 (a :: b :: c :: r).length = 3 := Nat.min_eq_left (by simp)
    rw [e1, e2]
theorem ok_maker (T : Tx P K mg) : FnOk P w K mg base CX0 3 T.amaker T.fdmaker ["word"] (spW mk) := by
  have Gbig : FnOk P w K mg base CX0 2 T.abig T.fdbig ["word"] (spW fun w => K40.named w BIG) := ok_big T
  have Gcount : FnOk P w K mg base CX0 1 T.acount T.fdcount ["word"] (spW cnt) := ok_count T
  refine T.Dmaker.F.ok scmaker (fun vs H Q E h => ?_) (fun cdv A outer s H vs Q E hr h => ?_)
  · obtain ⟨z, rfl, _⟩ := h
    rfl
  · obtain ⟨z, rfl, hz, k⟩ := h
    have hrbig := hr
    have hrcount := hr.mono (j := 1) (by decide)
    refine ⟨_, pss_cons (ps_if (pt_cmpR op_ne (pe_slice sl_str (pv 0) po_none (po_some (pe_int))) (pe_str) (nomark _))
(pss_one (ps_ret (pe_callN T.Dbig Gbig hrbig pass0 (pa_cons (pv 0) pa_nil))))
(pss_nil))
(pss_one (ps_ret (pe_or (pe_callN T.Dcount Gcount hrcount pass0 (pa_cons (pe_slice sl_str (pv 0) (po_some (pe_int)) po_none) pa_nil)) (pe_one (pe_and (pe_cmpR op_eq (pe_slice sl_str (pv 0) (po_some (pe_int)) (po_some (pe_int))) (pe_str) (nomark _)) (pe_and (pe_cmpR op_ne (pv 0) (pe_str) (nomark _)) (pe_one (pe_callN T.Dcount Gcount hrcount pass0 (pa_cons (pe_slice sl_str (pv 0) (po_some (pe_int)) po_none) pa_nil))))))))), ?_⟩
    walk_at "z0"
    walk_at "zz"
    have zl := str_len z
    have e35 : tl "#" = [35] := by decide +kernel
    have e45 : tl "-" = [45] := by decide +kernel
    have en : tl "#-0" = [35, 45, 48] := by decide +kernel
    rw [txt_eq e35, cut1]
    refine z_ite (fun e => ?_) (fun e => ?_)
    · have e := of_decide_eq_false (not_t e)
      walk_at "zz"
      refine ⟨z, rfl, hz, fun b H1 eb s1 => ?_⟩
      walk_at "zz"
      refine k _ _ ?_ s1
      rw [eb]
      unfold mk
      rw [if_neg e]
    · have e := of_decide_eq_true (not_f e)
      have em : mk (tl z) = (cnt ((tl z).drop 1) || (decide (((tl z).drop 1).take 1 = [45]) && (!decide (tl z = [35, 45, 48]) && cnt ((tl z).drop 2)))) := if_pos e
      walk_at "zz"
      refine ⟨_, rfl, Nat.le_trans (cut_le z _ _) hz, fun b H1 eb s1 => ?_⟩
      rw [cutf1] at eb
      walk_at "zz"
      refine z_ite (fun e1 => ?_) (fun e1 => ?_)
      · walk_at "zz"
        refine k _ _ ?_ s1
        rw [em, ← eb, e1, Bool.true_or]
      · walk_at "zz"
        rw [txt_eq e45, cut12]
        refine z_ite (fun e2 => ?_) (fun e2 => ?_)
        · walk_at "zz"
          rw [txt_eq en]
          refine z_ite (fun e3 => ?_) (fun e3 => ?_)
          · walk_at "zz"
            refine ⟨_, rfl, Nat.le_trans (cut_le z _ _) hz, fun b2 H2 eb2 s2 => ?_⟩
            rw [cutf2] at eb2
            walk_at "zz"
            refine k _ _ ?_ (s1.trans s2)
            rw [em, ← eb, e1, e2, e3, ← eb2]
            rfl
          · walk_at "zz"
            refine k _ _ ?_ s1
            rw [em, ← eb, e1, e2, e3]
            rfl
        · walk_at "zz"
          refine k _ _ ?_ s1
          rw [em, ← eb, e1, e2]
          rfl
end
end K40

namespace K40
open PySem PySem.Spec PyProof.Rows L2 Nm
theorem putK_keys (l : List Str) (z : Str) : putK (l.map fun z => ((Sum.inr z : Key), V.bl true)) (.inr z) (.bl true) = (if z ∈ l then l else l ++ [z]).map fun z => ((Sum.inr z : Key), V.bl true) := by
  unfold putK
  have e : ((l.map fun z => ((Sum.inr z : Key), V.bl true)).any fun kv => decide (kv.1 = (Sum.inr z : Key))) = decide (z ∈ l) := by
    rw [List.any_map, Bool.eq_iff_iff, List.any_eq_true, decide_eq_true_iff]
    constructor
    · rintro ⟨x, hx, q⟩
      have q' : (Sum.inr x : Key) = Sum.inr z := of_decide_eq_true q
      cases q'
      exact hx
    · intro h
      exact ⟨z, h, decide_eq_true rfl⟩
  rw [e]
  by_cases h : z ∈ l
  · rw [if_pos (decide_eq_true h), if_pos h, List.map_map]
    refine List.map_congr_left fun x _ => ?_
    show (if (Sum.inr x : Key) = Sum.inr z then ((Sum.inr x : Key), V.bl true) else ((Sum.inr x : Key), V.bl true)) = _
    split <;> rfl
  · rw [decide_eq_false h, if_neg Bool.false_ne_true, if_neg h, List.map_append]
    rfl
theorem once_len : ∀ (l acc : List Str), (once acc l).length ≤ acc.length + l.length
  | [], acc => Nat.le_refl _
  | z :: r, acc => by
    have := once_len r (if z ∈ acc then acc else acc ++ [z])
    show (once _ r).length ≤ _
    have h : (if z ∈ acc then acc else acc ++ [z]).length ≤ acc.length + 1 := by
      split
      · omega
      · simp
    simp only [List.length_cons]
    omega
theorem sum_le {l : List Nat} {n : Nat} (h : ∀ x ∈ l, x ≤ n) : l.sum ≤ l.length * n := by
  induction l with
  | nil => exact Nat.zero_le _
  | cons a l ih =>
    have h1 := h a (by simp)
    have h2 := ih fun x hx => h x (by simp [hx])
    rw [List.sum_cons, List.length_cons, Nat.succ_mul]
    omega
theorem str_at {K : PySem.W.Frag} {H : Hp} {z : Str} : TyX K H (.str z) (.type "str") := .base (.str z)
theorem str_is {K : PySem.W.Frag} : PySem.W.kitOne K (.type "str") (.type "str") = some true := kit_ty (by decide +kernel)
/-- no text -/
def Odd (K : PySem.W.Frag) (H : Hp) (x : V) : Prop := ∃ t : Value, TyX K H x t ∧ PySem.W.kitOne K t (.type "str") = some false
section
variable {P : Program} {w : World} {K : PySem.W.Frag} {mg : Str → Option Value} {base : Heap}
def spLine (K : PySem.W.Frag) : Sp := fun vs H Q _ => (∃ z : Str, vs = [.str z] ∧ z.length ≤ 100000 ∧ ∀ b H', b = isLine z → Same H H' → Q (.bl b) H') ∨ (∃ x, vs = [x] ∧ Odd K H x ∧ ∀ H', Same H H' → Q (.bl false) H')
theorem ok_line (T : Tx P K mg) : FnOk P w K mg base CX0 4 T.aline T.fdline ["word"] (spLine K) := by
  have Gmaker : FnOk P w K mg base CX0 3 T.amaker T.fdmaker ["word"] (spW mk) := ok_maker T
  have Gcount : FnOk P w K mg base CX0 1 T.acount T.fdcount ["word"] (spW cnt) := ok_count T
  refine T.Dline.F.ok scline (fun vs H Q E h => ?_) (fun cdv A outer s H vs Q E hr h => ?_)
  · rcases h with ⟨z, rfl, _⟩ | ⟨x, rfl, _⟩ <;> rfl
  · have hrmaker := hr
    have hrcount := hr.mono (j := 1) (by decide)
    refine ⟨_, pss_cons (ps_if (pt_cut (PW.pt (pw_or (pt_not (pt_val (pe_callB call_isi (by rfl) T.n_isinstance (by decide +kernel) (pa_cons (pv 0) (pa_cons (pe_bltn (v := .ty "str") rfl T.n_str (by decide +kernel) rfl) pa_nil))))) (pw_or1 (pt_cmpR op_ne (pe_slice sl_str (pv 0) po_none (po_some (pe_int))) (pe_str) (nomark _))))))
(pss_one (ps_ret (pe_bl)))
(pss_nil))
(pss_cons (ps_set (i := 1) scline.nd rfl (Or.inl rfl) (pe_splitN (pe_slice sl_str (pv 0) (po_some (pe_int)) po_none) (pe_str)))
(pss_cons (ps_if (pt_cmpR op_eq (pe_op op_mod (pe_callB call_lenL (by rfl) T.n_len (by decide +kernel) (pa_cons (pv 1) pa_nil)) (pe_int)) (pe_int) (nomark _))
(pss_one (ps_ret (pe_bl)))
(pss_nil))
(pss_one (ps_ret (pe_callB (cr_all rfl) (by rfl) T.n_all (by decide +kernel) (pa_cons (pe_lc (g := gTup K 2 (gCons (gName 2) (gCons (gName 3) gNil))) (own := [("place", 2), ("part", 3)]) rfl scline.nd (pi_enum rfl T.n_enumerate (pa_cons (pv 1) pa_nil)) (blkOk_by (own := [("place", 2), ("part", 3)]) (N := ["word", "parts", "place", "part"]) (sc := defScope sline) (by decide +kernel)) (fun _ _ _ _ _ => pg_tup rfl (pgs_cons (pg_name (i := 2) scline.nd rfl (Or.inl rfl) (Or.inr rfl)) (pgs_cons (pg_name (i := 3) scline.nd rfl (Or.inl rfl) (Or.inr rfl)) pgs_nil))) (fun _ _ _ _ _ => pts_nil) (fun _ _ _ _ _ => pe_cut (pe_ifExp (pt_cmpR op_eq (pe_op op_mod (pv 2) (pe_int)) (pe_int) (nomark _)) (pe_callN T.Dmaker Gmaker hrmaker pass0 (pa_cons (pv 3) pa_nil)) (pe_callN T.Dcount Gcount hrcount pass0 (pa_cons (pv 3) pa_nil))))) pa_nil)))))), ?_⟩
    walk_at "z0"
    rcases h with ⟨z, rfl, hz, k⟩ | ⟨x, rfl, ⟨t, ht, hk⟩, k⟩
    · have zl := str_len z
      have em : tl "m:" = [109, 58] := by decide +kernel
      have ec : tl (cutS z none (some 2)) = (tl z).take 2 := cut_to z 2
      walk_at "zz"
      refine z_cutB (!decide ((tl z).take 2 = [109, 58])) ?_ fun H1 s1 => ?_
      · walk_at "zz"
        refine z_isi (.ty "str") str_at str_is ?_
        walk_at "zz"
        rw [txt_eq em, ec]
        exact ⟨rfl, Same.refl _⟩
      refine z_ite (fun e => ?_) (fun e => ?_)
      · walk_at "zz"
        refine k _ _ ?_ s1
        unfold isLine
        rw [not_t e, Bool.false_and]
      · have e1 := not_f e
        walk_at "zz"
        have hl := cut_le z (some 2) none
        refine z_split (by decide +kernel) (line_ge (by omega)) fun p H2 hp s2 h2 => ?_
        walk_at "zz"
        refine z_lenL (SqL.of h2) ?_
        walk_at "zz"
        have hps : (parts z).length ≤ 100002 := Nat.le_trans (PyProof.Rows.split_le _ _) (by omega)
        have emod : ∀ n : Nat, decide ((n : Int) % 2 = 1) = decide (n % 2 = 1) := fun n => decide_eq_decide.mpr (by omega)
        rw [List.length_map, emod]
        refine z_ite (fun e2 => ?_) (fun e2 => ?_)
        · have e2 := of_decide_eq_true e2
          walk_at "zz"
          refine k _ _ ?_ (s1.trans s2)
          unfold isLine
          rw [show decide ((parts z).length % 2 = 0) = false from decide_eq_false (by show ¬ (Txt.split _ _).length % 2 = 0; omega), Bool.false_and, Bool.and_false]
        · have e2 := of_decide_eq_false e2
          walk_at "zz"
          refine z_kIEn (SqL.of h2) ?_
          refine l_enumB (K := K) (ps := parts z) pt (by omega) (SqL.of h2) (by decide) (fun i q H3 hq s3 Q' k' => ?_) fun D H3 hD s3 h3 => ?_
          · have hql : q.length ≤ 100000 := Nat.le_trans (split_part (List.mem_of_getElem? hq)) (Nat.le_trans hl hz)
            refine z_cutE (fun v H4 => Same H3 H4 ∧ v = .bl (pt i q)) ?_ ?_
            · walk_at "zz"
              rw [emod]
              refine z_ite (fun e3 => ?_) (fun e3 => ?_)
              · have e3 := of_decide_eq_true e3
                walk_at "zz"
                refine ⟨q, rfl, hql, fun b H4 eb s4 => ⟨s4, ?_⟩⟩
                rw [eb, pt, if_pos e3]
              · have e3 := of_decide_eq_false e3
                walk_at "zz"
                refine ⟨q, rfl, hql, fun b H4 eb s4 => ⟨s4, ?_⟩⟩
                rw [eb, pt, if_neg e3]
            · rintro v H4 ⟨s4, rfl⟩
              exact k' H4 s4
          · walk_at "zz"
            refine z_all (SqL.of h3) ?_
            walk_at "zz"
            refine k _ _ ?_ ((s1.trans s2).trans s3)
            unfold isLine
            rw [e1, show decide ((parts z).length % 2 = 0) = true from decide_eq_true (by show (Txt.split _ _).length % 2 = 0; omega), Bool.true_and, Bool.true_and]
    · walk_at "zz"
      refine z_cutB true ?_ fun H1 s1 => ?_
      · walk_at "zz"
        refine z_isi (.ty "str") ht hk ?_
        walk_at "zz"
        exact ⟨rfl, Same.refl _⟩
      refine iteT ?_
      walk_at "zz"
      exact k _ s1
/-- parent_of -/
def spParent (K : PySem.W.Frag) (C : Addr) : Sp := fun vs H Q E => (∃ z : Str, vs = [.str z] ∧ z.length ≤ 100000 ∧ ((isLine z = true ∧ ∀ H', Same H H' → Q (parV z) H') ∨ (isLine z = false ∧ ∀ d H', H d = none → Same H H' → H' d = some (.xd [("name", .str z)]) → E (.ref C) (some d) H'))) ∨
  (∃ x, vs = [x] ∧ Odd K H x ∧ ∀ d H', H d = none → Same H H' → H' d = some (.xd [("name", x)]) → E (.ref C) (some d) H')
theorem ok_parent (T : Tx P K mg) : FnOk P w K mg base (L2.CX P w) 5 T.aparent T.fdparent ["line"] (spParent K T.CBadName) := by
  have Gline : FnOk P w K mg base CX0 4 T.aline T.fdline ["word"] (spLine K) := ok_line T
  refine T.Dparent.F.okX scparent (fun vs H Q E h => ?_) (fun cdv A outer s H vs Q E hr h => ?_)
  · rcases h with ⟨z, rfl, _⟩ | ⟨x, rfl, _⟩ <;> rfl
  · have hrline := hr
    refine ⟨_, pss_cons (ps_if (pt_not (pt_val (pe_callN T.Dline Gline hrline pass0 (pa_cons (pv 0) pa_nil))))
(pss_one (ps_raiseE rfl T.EBadName (by decide) hr (takes_of rfl rfl rfl rfl) (pa_cons (pv 0) pa_nil)))
(pss_nil))
(pss_cons (ps_set (i := 1) scparent.nd rfl (Or.inl rfl) (pe_splitN (pv 0) (pe_str)))
(pss_one (ps_ret (pe_cut (pe_ifExp (pt_cmpR op_eq (pe_callB call_lenL (by rfl) T.n_len (by decide +kernel) (pa_cons (pv 1) pa_nil)) (pe_int) (nomark _)) (pe_non) (pe_joinN (pe_str) (pe_slice sl_list (pv 1) po_none (po_some (pe_un un_neg (pe_int)))))))))), ?_⟩
    walk_at "z0"
    rcases h with ⟨z, rfl, hz, k⟩ | ⟨x, rfl, ho, k⟩
    · walk_at "zz"
      refine .inl ⟨z, rfl, hz, fun b H1 eb s1 => ?_⟩
      walk_at "zz"
      rcases k with ⟨e, k⟩ | ⟨e, k⟩
      · rw [e] at eb
        subst eb
        refine iteF ?_
        walk_at "zz"
        refine z_split (by decide +kernel) (line_ge (by omega)) fun p H2 hp s2 h2 => ?_
        walk_at "zz"
        have hlen := PyProof.Rows.split_le z "."
        refine z_cutE (fun v H3 => Same H2 H3 ∧ v = parV z) ?_ ?_
        · walk_at "zz"
          refine z_lenL (SqL.of h2) ?_
          walk_at "zz"
          rw [List.length_map]
          refine z_ite (fun e2 => ?_) (fun e2 => ?_)
          · have e2 := of_decide_eq_true e2
            walk_at "zz"
            refine ⟨Same.refl _, ?_⟩
            unfold parV
            rw [if_pos (by omega)]
          · have e2 := of_decide_eq_false e2
            walk_at "zz"
            refine z_slL (SqL.of h2) fun q H3 hq s3 h3 => ?_
            walk_at "zz"
            rw [cutV_strs, show (-2 : Int) = -((2 : Nat) : Int) from rfl, cutL_neg _ _ (by decide)] at h3
            refine z_join (SqL.of h3) ?_ ?_
            · have q1 := split_sum z "."
              have q2 := sum_take ((Txt.split z ".").map (·.length)) ((Txt.split z ".").length - 2)
              have q3 : (".": Str).length = 1 := by decide +kernel
              rw [List.map_take, q3, List.length_take]
              omega
            · refine ⟨s3, ?_⟩
              unfold parV
              rw [if_neg (by omega)]
        · rintro v H3 ⟨s3, rfl⟩
          walk_at "zz"
          exact k H3 ((s1.trans s2).trans s3)
      · rw [e] at eb
        subst eb
        refine iteT ?_
        walk_at "zz"
        exact z_kErr rfl fun d H2 hd s2 h2 => k d H2 (same_none s1 hd) (s1.trans s2) h2
    · walk_at "zz"
      refine .inr ⟨x, rfl, ho, fun H1 s1 => ?_⟩
      walk_at "zz"
      exact z_kErr rfl fun d H2 hd s2 h2 => k d H2 (same_none s1 hd) (s1.trans s2) h2
end
end K40

namespace K40
open PySem PySem.Spec PyProof.Rows L2 Nm
section
variable {P : Program} {w : World} {K : PySem.W.Frag} {mg : Str → Option Value} {base : Heap}
def spOnce (K : PySem.W.Frag) : Sp := fun vs H Q _ => ∃ (a : Addr) (ys : List Str), vs = [.ref a] ∧ SqL K H a (ys.map V.str) ∧ ys.length ≤ 1000000 ∧ ∀ p H', Same H H' → H' p = some (.tup ((once [] ys).map V.str)) → Q (.ref p) H'
theorem ok_once (T : Tx P K mg) : FnOk P w K mg base CX0 1 T.aonce T.fdonce ["words"] (spOnce K) := by
  refine T.Donce.F.ok sconce (fun vs H Q E h => ?_) (fun cdv A outer s H vs Q E hr h => ?_)
  · obtain ⟨a, ys, rfl, _⟩ := h
    rfl
  · obtain ⟨a, ys, rfl, hs, hl, k⟩ := h
    have hu := hu_of hr
    refine ⟨_, pss_cons (ps_set (i := 1) sconce.nd rfl (Or.inl rfl) (pe_dnewK))
(pss_cons (ps_for PassesOwn.never rfl (pi_list (pv 0)) (pg_name (i := 2) sconce.nd rfl (Or.inl rfl))
(pss_one (ps_dput hu (pv 1) (pv 2) (pe_bl) rfl)))
(pss_one (ps_ret (pe_callTy (call_tupleD rfl) (by rfl) T.n_tuple (by decide +kernel) (pa_cons (pv 1) pa_nil))))), ?_⟩
    walk_at "z0"
    walk_at "zz"
    refine z_dnewK fun d H1 hd s1 h1 => ?_
    walk_at "zz"
    refine z_kIL (s1.seq hs) (f_list (K := K) (a := a) (xs := ys.map V.str) (fun i σ' H' => ∃ v : Option V, σ' = [some (.ref a), some (.ref d), v] ∧ Same H H' ∧ H' d = some (.dK ((once [] (ys.take i)).map fun z => ((Sum.inr z : Key), V.bl true)))) ⟨none, rfl, s1, h1⟩ (fun i σ' H' ⟨_, _, s2, _⟩ => s2.seq hs) ?_ ?_)
    · rintro i x σ' H' hx ⟨v, rfl, s2, h2⟩
      obtain ⟨z, hz, rfl⟩ : ∃ z, ys[i]? = some z ∧ x = V.str z := by
        rw [List.getElem?_map] at hx
        cases e : ys[i]? with
        | none => rw [e] at hx; cases hx
        | some z => rw [e] at hx; exact ⟨z, rfl, (Option.some.inj hx).symm⟩
      walk_at "zz"
      refine ⟨d, _, rfl, DPut.k (k := Sum.inr z) h2 ?_, ?_⟩
      · have := once_len (ys.take i) []
        rw [List.length_map, sizeLine_eq]
        rw [List.length_take] at this
        simp only [List.length_nil] at this
        omega
      · walk_at "zz"
        refine ⟨_, rfl, Nm.Same.mut s2 hd, ?_⟩
        rw [upd_same, putK_keys, once_take hz]
    · rintro σ' H' ⟨v, rfl, s2, h2⟩
      rw [List.length_map, List.take_length] at h2
      walk_at "zz"
      refine z_tupD h2 fun q H3 hq s3 h3 => ?_
      walk_at "zz"
      refine k q H3 (s2.trans s3) ?_
      rw [h3, List.map_map]
      rfl
def spLog (K : PySem.W.Frag) : Sp := fun vs H Q _ => ∃ (a : Addr) (ys : List Str), vs = [.ref a] ∧ SqL K H a (ys.map V.str) ∧ ys.length ≤ 1000 ∧ (∀ y ∈ ys, y.length ≤ 5000) ∧ ∀ H', Same H H' → Q (.str (logText ys)) H'
theorem log_sum {ys : List Str} (hl : ys.length ≤ 1000) (hy : ∀ y ∈ ys, y.length ≤ 5000) : ((ys.map fun y : Str => (y ++ "\n" : Str)).map (·.length)).sum + (ys.map fun y : Str => (y ++ "\n" : Str)).length * ("" : Str).length ≤ 16777216 := by
  have h : ((ys.map fun y : Str => (y ++ "\n" : Str)).map (·.length)).sum ≤ ((ys.map fun y : Str => (y ++ "\n" : Str)).map (·.length)).length * 5001 := sum_le fun x hx => by
    obtain ⟨y, hy', rfl⟩ := List.mem_map.mp hx
    obtain ⟨z, hz, rfl⟩ := List.mem_map.mp hy'
    have e1 : ("\n" : Str).length = 1 := by decide +kernel
    have := hy z hz
    show (z ++ "\n").length ≤ 5001
    rw [app_len]
    omega
  have e0 : ("" : Str).length = 0 := by decide +kernel
  rw [List.length_map, List.length_map] at h
  rw [e0, Nat.mul_zero]
  have : ys.length * 5001 ≤ 1000 * 5001 := Nat.mul_le_mul_right _ hl
  omega
theorem ok_logtext (T : Tx P K mg) : FnOk P w K mg base CX0 1 T.alogtext T.fdlogtext ["lines"] (spLog K) := by
  refine T.Dlogtext.F.ok sclogtext (fun vs H Q E h => ?_) (fun cdv A outer s H vs Q E hr h => ?_)
  · obtain ⟨a, ys, rfl, _⟩ := h
    rfl
  · obtain ⟨a, ys, rfl, hs, hl, hy, k⟩ := h
    refine ⟨_, pss_one (ps_ret (pe_joinN (pe_str) (pe_lc (own := [("line", 1)]) rfl sclogtext.nd (pi_list (pv 0)) (blkOk_by (own := [("line", 1)]) (N := ["lines", "line"]) (sc := defScope slogtext) (by decide +kernel)) (fun _ _ _ _ _ => pg_name (i := 1) sclogtext.nd rfl (Or.inl rfl)) (fun _ _ _ _ _ => pts_nil) (fun _ _ _ _ _ => pe_op op_addS (pv 1) (pe_str))))), ?_⟩
    walk_at "z0"
    walk_at "zz"
    refine z_kIL hs ?_
    refine l_pure (α := Str) (xs := ys) (e := V.str) (G := fun H => SqL K H a (ys.map V.str)) walk_lstE (fun _ => true) (fun y => V.str (y ++ "\n")) (by omega) (fun H1 s1 => s1.seq hs) (fun i y H1 hy' s1 QT q => q _ (Same.refl _)) (fun i y H1 hy' _ s1 Q' q => ?_) fun D H1 hD s1 h1 => ?_
    · walk_at "zz"
      have e1 : ("\n" : Str).length = 1 := by decide +kernel
      have := hy y (List.mem_of_getElem? hy')
      refine z_addS (line_ge (by omega)) ?_
      exact q _ (Same.refl _)
    · have e : ((ys.filter fun _ => true).map fun y => V.str (y ++ "\n")) = (ys.map fun y : Str => (y ++ "\n" : Str)).map V.str := by
        rw [List.filter_eq_self.mpr fun _ _ => rfl, List.map_map]
        rfl
      rw [e] at h1
      walk_at "zz"
      refine z_join (SqL.of h1) (log_sum hl hy) ?_
      walk_at "zz"
      exact k H1 s1
/-- the pieces of a text: all but the last -/
def pieces (z : Str) : List Str := (Txt.split z "\n").take ((Txt.split z "\n").length - 1)
def bad00 : List (Str × V) := [("column", .int 0), ("line", .int 0)]
def spPieces (K : PySem.W.Frag) (C : Addr) : Sp := fun vs H Q E => (∃ z : Str, vs = [.str z] ∧ z.length ≤ 100000 ∧ ∀ p H', Same H H' → H' p = some (.lst ((pieces z).map V.str)) → Q (.ref p) H') ∨
  (∃ x, vs = [x] ∧ Odd K H x ∧ ∀ d H', H d = none → Same H H' → H' d = some (.xd bad00) → E (.ref C) (some d) H')
theorem ok_pieces (T : Tx P K mg) : FnOk P w K mg base (L2.CX P w) 1 T.apieces T.fdpieces ["text"] (spPieces K T.CBadText) := by
  refine T.Dpieces.F.okX scpieces (fun vs H Q E h => ?_) (fun cdv A outer s H vs Q E hr h => ?_)
  · rcases h with ⟨z, rfl, _⟩ | ⟨x, rfl, _⟩ <;> rfl
  · refine ⟨_, pss_cons (ps_if (pt_not (pt_val (pe_callB call_isi (by rfl) T.n_isinstance (by decide +kernel) (pa_cons (pv 0) (pa_cons (pe_bltn (v := .ty "str") rfl T.n_str (by decide +kernel) rfl) pa_nil)))))
(pss_one (ps_raiseE rfl T.EBadText (by decide) hr (takes_of rfl rfl rfl rfl) (pa_cons (pe_int) (pa_cons (pe_int) pa_nil))))
(pss_nil))
(pss_one (ps_ret (pe_slice sl_list (pe_splitN (pv 0) (pe_str)) po_none (po_some (pe_un un_neg (pe_int)))))), ?_⟩
    walk_at "z0"
    rcases h with ⟨z, rfl, hz, k⟩ | ⟨x, rfl, ⟨t, ht, hk⟩, k⟩
    · walk_at "zz"
      refine z_isi (.ty "str") str_at str_is ?_
      walk_at "zz"
      refine z_split (by decide +kernel) (line_ge (by omega)) fun p H2 hp s2 h2 => ?_
      walk_at "zz"
      refine z_slL (SqL.of h2) fun q H3 hq s3 h3 => ?_
      walk_at "zz"
      rw [cutV_strs, show (-1 : Int) = -((1 : Nat) : Int) from rfl, cutL_neg _ _ (by decide)] at h3
      exact k q H3 (s2.trans s3) h3
    · walk_at "zz"
      refine z_isi (.ty "str") ht hk ?_
      walk_at "zz"
      exact z_kErr rfl fun d H2 hd s2 h2 => k d H2 hd s2 h2
theorem piece_len {z p : Str} (h : p ∈ pieces z) : p.length ≤ z.length := split_part (List.mem_of_mem_take h)
def spLinesIn (K : PySem.W.Frag) (C : Addr) : Sp := fun vs H Q E => (∃ z : Str, vs = [.str z] ∧ z.length ≤ 100000 ∧ ∀ p H', Same H H' → H' p = some (.tup ((linesIn z).map V.str)) → Q (.ref p) H') ∨
  (∃ x, vs = [x] ∧ Odd K H x ∧ ∀ d H', H d = none → Same H H' → H' d = some (.xd bad00) → E (.ref C) (some d) H')
theorem ok_linesin (T : Tx P K mg) : FnOk P w K mg base (L2.CX P w) 5 T.alinesin T.fdlinesin ["text"] (spLinesIn K T.CBadText) := by
  have Gpieces : FnOk P w K mg base (L2.CX P w) 1 T.apieces T.fdpieces ["text"] (spPieces K T.CBadText) := ok_pieces T
  have Gonce : FnOk P w K mg base CX0 1 T.aonce T.fdonce ["words"] (spOnce K) := ok_once T
  have Gline : FnOk P w K mg base CX0 4 T.aline T.fdline ["word"] (spLine K) := ok_line T
  refine T.Dlinesin.F.okX sclinesin (fun vs H Q E h => ?_) (fun cdv A outer s H vs Q E hr h => ?_)
  · rcases h with ⟨z, rfl, _⟩ | ⟨x, rfl, _⟩ <;> rfl
  · have hrpieces := hr.mono (j := 1) (by decide)
    have hronce := hr.mono (j := 1) (by decide)
    have hrline := hr
    refine ⟨_, pss_one (ps_ret (pe_callN T.Donce Gonce hronce pass0 (pa_cons (pe_lc (own := [("piece", 1)]) rfl sclinesin.nd (pi_list (pe_callN T.Dpieces Gpieces hrpieces (passX (takes_of rfl rfl rfl rfl)) (pa_cons (pv 0) pa_nil))) (blkOk_by (own := [("piece", 1)]) (N := ["text", "piece"]) (sc := defScope slinesin) (by decide +kernel)) (fun _ _ _ _ _ => pg_name (i := 1) sclinesin.nd rfl (Or.inl rfl)) (fun _ _ _ _ _ => pts_one (pt_val (pe_callN T.Dline Gline hrline pass0 (pa_cons (pv 1) pa_nil)))) (fun _ _ _ _ _ => pv 1)) pa_nil))), ?_⟩
    walk_at "z0"
    rcases h with ⟨z, rfl, hz, k⟩ | ⟨x, rfl, ho, k⟩
    · walk_at "zz"
      refine .inl ⟨z, rfl, hz, fun p H1 s1 h1 => ?_⟩
      refine z_kIL (SqL.of h1) ?_
      have hpl : (pieces z).length ≤ 100002 := by
        have := PyProof.Rows.split_le z "\n"
        unfold pieces
        rw [List.length_take]
        omega
      refine l_pure (α := Str) (xs := pieces z) (e := V.str) (G := fun H => SqL K H p ((pieces z).map V.str)) walk_lstE isLine V.str (by omega) (fun H2 s2 => SqL.of (s2 _ _ h1)) (fun i y H2 hy s2 QT q => ?_) (fun i y H2 hy _ s2 Q' q => ?_) fun D H2 hD s2 h2 => ?_
      · walk_at "zz"
        refine .inl ⟨y, rfl, Nat.le_trans (piece_len (List.mem_of_getElem? hy)) hz, fun b H3 eb s3 => ?_⟩
        walk_at "zz"
        rw [eb]
        exact q _ s3
      · walk_at "zz"
        exact q _ (Same.refl _)
      · walk_at "zz"
        have hf := List.length_filter_le isLine (pieces z)
        refine ⟨D, _, rfl, SqL.of h2, by omega, fun q H3 s3 h3 => ?_⟩
        walk_at "zz"
        exact k q H3 ((s1.trans s2).trans s3) h3
    · walk_at "zz"
      exact .inr ⟨x, rfl, ho, fun d H1 hd s1 h1 => k d H1 hd s1 h1⟩
def spApp (K : PySem.W.Frag) : Sp := fun vs H Q _ => ∃ (z : Str) (a : Addr) (ys : List Str), vs = [.str z, .ref a] ∧ SqL K H a (ys.map V.str) ∧ z.length ≤ 100000 ∧ ys.length ≤ 100 ∧ (∀ y ∈ ys, y.length ≤ 5000) ∧ ∀ H', Same H H' → Q (.str (appended z ys)) H'
theorem last_at {z : Str} (h : z ≠ "") : atI z.cps.toList (-1) = some ((tl z).getLastD 0) := by
  have e0 : tl "" = [] := by decide +kernel
  have hne : tl z ≠ [] := fun e => h (str_ext (by rw [e, e0]))
  obtain ⟨l, a, e⟩ : ∃ l a, tl z = l ++ [a] := ⟨_, _, (List.dropLast_concat_getLast hne).symm⟩
  show atI (tl z) (-1) = _
  rw [e, List.getLastD_concat]
  exact atI_last l a
theorem log_len {ys : List Str} (hl : ys.length ≤ 100) (hy : ∀ y ∈ ys, y.length ≤ 5000) : (logText ys).length ≤ 600000 := by
  have h := StrLaws.join_length_le "" (ys.map fun y : Str => (y ++ "\n" : Str))
  have h2 : ((ys.map fun y : Str => (y ++ "\n" : Str)).map (·.length)).sum ≤ ((ys.map fun y : Str => (y ++ "\n" : Str)).map (·.length)).length * 5001 := sum_le fun x hx => by
    obtain ⟨y, hy', rfl⟩ := List.mem_map.mp hx
    obtain ⟨z, hz, rfl⟩ := List.mem_map.mp hy'
    have e1 : ("\n" : Str).length = 1 := by decide +kernel
    have := hy z hz
    show (z ++ "\n").length ≤ 5001
    rw [app_len]
    omega
  have e0 : ("" : Str).length = 0 := by decide +kernel
  rw [e0, Nat.mul_zero] at h
  rw [List.length_map, List.length_map] at h2
  have e3 : (logText ys).length = (Str.join "" (ys.map fun y : Str => (y ++ "\n" : Str))).length := by
    unfold logText Txt.join
    rw [StrLaws.glued_eq_join]
  have : ys.length * 5001 ≤ 100 * 5001 := Nat.mul_le_mul_right _ hl
  omega
theorem ok_appended (T : Tx P K mg) : FnOk P w K mg base CX0 2 T.aappended T.fdappended ["text", "lines"] (spApp K) := by
  have Glogtext : FnOk P w K mg base CX0 1 T.alogtext T.fdlogtext ["lines"] (spLog K) := ok_logtext T
  refine T.Dappended.F.ok scappended (fun vs H Q E h => ?_) (fun cdv A outer s H vs Q E hr h => ?_)
  · obtain ⟨z, a, ys, rfl, _⟩ := h
    rfl
  · obtain ⟨z, a, ys, rfl, hs, hz, hl, hy, k⟩ := h
    have hrlogtext := hr
    refine ⟨_, pss_cut (ps_if (pt_cut (PW.pt (pw_and (pt_cmpR op_ne (pv 0) (pe_str) (nomark _)) (pw_and1 (pt_cmpR op_ne (pe_ix ix_str (pv 0) (pe_un un_neg (pe_int)) (fun _ _ => rfl)) (pe_str) (nomark _))))))
(pss_one (ps_set (i := 0) scappended.nd rfl (Or.inl rfl) (pe_op op_addS (pv 0) (pe_str))))
(pss_nil))
(pss_one (ps_ret (pe_op op_addS (pv 0) (pe_callN T.Dlogtext Glogtext hrlogtext pass0 (pa_cons (pv 1) pa_nil))))), ?_⟩
    walk_at "z0"
    walk_at "zz"
    have e10 : tl "\n" = [10] := by decide +kernel
    have e1 : ("\n" : Str).length = 1 := by decide +kernel
    have fin : ∀ (y : Str) H1, y = (if z ≠ "" ∧ (tl z).getLastD 0 ≠ 10 then z ++ "\n" else z) → Same H H1 → y.length ≤ 100001 → Q (.str (y ++ logText ys)) H1 := fun y H1 ey s1 _ => by
      rw [ey]
      exact k H1 s1
    refine z_cut (fun σ' H' => ∃ y : Str, σ' = [some (.str y), some (.ref a)] ∧ y = (if z ≠ "" ∧ (tl z).getLastD 0 ≠ 10 then z ++ "\n" else z) ∧ Same H H' ∧ y.length ≤ 100001) ?_ ?_
    · walk_at "zz"
      refine z_cutB (decide (z ≠ "" ∧ (tl z).getLastD 0 ≠ 10)) ?_ fun H1 s1 => ?_
      · walk_at "zz"
        refine z_ite (fun e => ?_) (fun e => ?_)
        · have e := of_decide_eq_false (not_t e)
          walk_at "zz"
          refine z_ixS (line_ge (by omega)) (last_at e) ?_
          walk_at "zz"
          rw [one_eq e10]
          refine ⟨?_, Same.refl _⟩
          rw [← decide_not]
          exact decide_eq_decide.mpr ⟨fun q => ⟨e, q⟩, fun q => q.2⟩
        · have e := of_decide_eq_true (not_f e)
          refine ⟨(decide_eq_false fun q => q.1 e).symm, Same.refl _⟩
      refine z_ite (fun e => ?_) (fun e => ?_)
      · have e := of_decide_eq_true e
        walk_at "zz"
        refine ⟨_, rfl, (if_pos e).symm, s1, ?_⟩
        rw [app_len]
        omega
      · have e := of_decide_eq_false e
        walk_at "zz"
        exact ⟨_, rfl, (if_neg e).symm, s1, by omega⟩
    · rintro σ' H1 ⟨y, rfl, ey, s1, yl⟩
      walk_at "zz"
      refine ⟨a, ys, rfl, s1.seq hs, by omega, hy, fun H2 s2 => ?_⟩
      have := log_len hl hy
      walk_at "zz"
      exact fin y H2 ey (s1.trans s2) yl
end
end K40

namespace K40
open PySem PySem.Spec PyProof.Rows L2 Nm
theorem all_pt {f : Nat → Str → Bool} {ps : List Str} : ((ps.zipIdx.map fun q => f q.2 q.1).all id = true) ↔ ∀ i p, ps[i]? = some p → f i p = true := by
  rw [List.all_eq_true]
  constructor
  · intro h i p hp
    exact h (f i p) (List.mem_map.mpr ⟨(p, i), List.mk_mem_zipIdx_iff_getElem?.mpr hp, rfl⟩)
  · rintro h b hb
    obtain ⟨⟨p, i⟩, hq, rfl⟩ := List.mem_map.mp hb
    exact h i p (List.mk_mem_zipIdx_iff_getElem?.mp hq)
theorem in_strs (z : Str) (l : List Str) : inV (.str z) (l.map V.str) = decide (z ∈ l) := by
  have e : ∀ x : Str, eqV (.str x) (.str z) = decide (x = z) := fun x => by
    show (x == z) = _
    rw [Bool.beq_eq_decide_eq]
  show ((l.map V.str).any fun x => eqV x (.str z)) = _
  rw [List.any_map, Bool.eq_iff_iff, List.any_eq_true, decide_eq_true_iff]
  constructor
  · rintro ⟨x, hx, q⟩
    have q' : eqV (.str x) (.str z) = true := q
    rw [e] at q'
    rw [← of_decide_eq_true q']
    exact hx
  · intro h
    exact ⟨z, h, by show eqV (.str z) (.str z) = true; rw [e]; exact decide_eq_true rfl⟩
section
variable {P : Program} {w : World} {K : PySem.W.Frag} {mg : Str → Option Value} {base : Heap}
/-- [n for c in z if c not in x] != [] -/
theorem z_someOf {tx ts : TE} {i : Nat} {n : Int} {z x : Str} {σ : L2.St} {H : Hp} {Q : VK} (hz : z.length ≤ 100000) (h1 : ∀ R : VK, R (.str z) H → tx σ H R)
    (h2 : ∀ (c : Nat) H1, Same H H1 → ∀ R : VK, R (.str x) H1 → ts ((σ.set i none).set i (some (.str ⟨#[c]⟩))) H1 R) (hi : i < σ.length)
    (k : ∀ H', Same H H' → Q (.bl (!((tl z).all fun c => decide (c ∈ tl x)))) H') : tOp (rNeD K) (tLc (iStr tx) (gName i) (tTest (tOp nNotInC (tVar i) ts)) (tC (.int n)) [i]) (tLst tNil) σ H Q := by
  refine z_op (z_lc (z_iStr (h1 _ (z_kIS ?_))))
  refine l_textF (fun c => !decide (c ∈ tl x)) (.int n) (by omega) (fun c H1 _ s QT q => ?_) (fun c H1 s Q' q => q) fun D H' hD s hDl => ?_
  · refine z_test (z_op (z_var (v := .str ⟨#[c]⟩) (by simp [hi]) (h2 c H1 s _ (z_notInC (z_kT q)))))
  · refine z_lst (z_nil (z_kLst (Nat.zero_le _) fun p H2 hp s2 hp2 => ?_))
    refine z_neD (d := .list (((tl z).filter (fun c => !decide (c ∈ tl x))).map fun _ => .int n)) (e := .list []) (.lst (SqL.of (s2 _ _ hDl)) (dps_ints n _)) (.lst (SqL.of hp2) .nil) (shaped_list (n := 0) (by decide) fun d hd => ?_) rfl ?_
    · obtain ⟨c, _, rfl⟩ := List.mem_map.mp hd
      exact ⟨rfl, Nat.le_refl _⟩
    · rw [eqv_list_nil]
      have e : decide ((((tl z).filter (fun c => !decide (c ∈ tl x))).map fun _ => PyData.int n) = []) = ((tl z).all fun c => decide (c ∈ tl x)) := by
        rw [← filter_all]
        exact decide_eq_decide.mpr List.map_eq_nil_iff
      rw [e]
      exact k H2 (s.trans s2)
theorem z_appendV {H : Hp} {p : Addr} {xs : List V} {v : V} {Q : VK} (h : H p = some (.lst xs)) (hl : xs.length ≤ 1000000) (k : ∀ H', H' p = some (.lst (xs ++ [v])) → (∀ H0, Same H0 H → H0 p = none → Same H0 H') → (∀ a, a ≠ p → H' a = H a) → Q .non H') : rAppend (.ref p) [v] H Q :=
  ⟨p, xs, v, rfl, rfl, h, by rw [sizeLine_eq]; omega, k _ upd_same (fun H0 s hp => Nm.Same.mut s hp) fun a ha => upd_ne ha⟩
theorem ok_lcounts (T : Tx P K mg) : FnOk P w K mg base CX0 1 T.alcounts T.fdlcounts ["_law_word"] (spW cnt) := by
  refine T.Dlcounts.F.ok sclcounts (fun vs H Q E h => ?_) (fun cdv A outer s H vs Q E hr h => ?_)
  · obtain ⟨z, rfl, _⟩ := h
    rfl
  · obtain ⟨z, rfl, hz, k⟩ := h
    have hu := hu_of hr
    refine ⟨_, pss_cons (ps_if (pt_cut (PW.pt (pw_or (pt_cmpR op_eq (pv 0) (pe_str) (nomark _)) (pw_or1 (pt_cmpR (op_neD hr.units) (pe_lc (own := [("_law_sign", 1)]) rfl sclcounts.nd (pi_str (pv 0)) (blkOk_by (own := [("_law_sign", 1)]) (N := ["_law_word", "_law_sign"]) (sc := defScope slcounts) (by decide +kernel)) (fun _ _ _ _ _ => pg_name (i := 1) sclcounts.nd rfl (Or.inl rfl)) (fun _ _ _ _ _ => pts_one (pt_cmpR op_notInC (pv 1) (pe_str) (by rfl))) (fun _ _ _ _ _ => pe_int)) (pe_lst pa_nil) (nomark _))))))
(pss_one (ps_ret (pe_bl)))
(pss_nil))
(pss_one (ps_ret (pe_or (pe_cmpR op_eq (pv 0) (pe_str) (nomark _)) (pe_one (pe_cmpR op_ne (pe_ix ix_str (pv 0) (pe_int) (fun _ _ => rfl)) (pe_str) (nomark _)))))), ?_⟩
    walk_at "z0"
    walk_at "zz"
    have zl := str_len z
    have e0 : tl "" = [] := by decide +kernel
    have e48 : tl "0" = [48] := by decide +kernel
    refine z_cutB (decide (tl z = []) || !((tl z).all fun c => decide (c ∈ DIG))) ?_ fun H1 s1 => ?_
    · walk_at "zz"
      rw [txt_eq e0]
      refine z_ite (fun e => ?_) (fun e => ?_)
      · refine ⟨?_, Same.refl _⟩
        rw [e, Bool.true_or]
      · refine z_test (z_someOf (z := z) (x := "0123456789") (by omega) (fun R q => ?_) (fun c H2 s2 R q => ?_) (by simp) fun H2 s2 => z_kT ?_)
        · walk_at "zz"
          exact q
        · walk_at "zz"
          exact q
        · refine ⟨?_, s2⟩
          rw [e, Bool.false_or]
          rfl
    refine z_ite (fun e => ?_) (fun e => ?_)
    · walk_at "zz"
      refine k _ _ ?_ s1
      unfold cnt
      rw [e, Bool.not_true, Bool.false_and]
    · have hne : 1 ≤ z.length := by
        have q : tl z ≠ [] := fun q => by
          rw [decide_eq_true q, Bool.true_or] at e
          cases e
        have := List.length_pos_iff.mpr q
        omega
      walk_at "zz"
      rw [txt_eq e48]
      refine z_ite (fun e2 => ?_) (fun e2 => ?_)
      · walk_at "zz"
        refine k _ _ ?_ s1
        unfold cnt
        rw [e, e2, Bool.true_or, Bool.not_false, Bool.and_true]
      · walk_at "zz"
        refine z_ixS (line_ge (by omega)) (head_at hne) ?_
        walk_at "zz"
        rw [one_eq e48]
        refine k _ _ ?_ s1
        unfold cnt
        rw [e, e2, Bool.false_or, Bool.not_false, Bool.true_and]
theorem ok_lnamed (T : Tx P K mg) : FnOk P w K mg base CX0 1 T.alnamed T.fdlnamed ["_law_word", "_law_first"] spNamed := by
  refine T.Dlnamed.F.ok sclnamed (fun vs H Q E h => ?_) (fun cdv A outer s H vs Q E hr h => ?_)
  · obtain ⟨z, f, rfl, _⟩ := h
    rfl
  · obtain ⟨z, f, rfl, hz, k⟩ := h
    have hu := hu_of hr
    refine ⟨_, pss_cons (ps_set (i := 2) sclnamed.nd rfl (Or.inr rfl) (pe_str))
(pss_cons (ps_if (pt_cut (PW.pt (pw_or (pt_cmpR op_eq (pv 0) (pe_str) (nomark _)) (pw_or (pt_cmpR op_gt (pe_callB call_lenS (by rfl) T.n_len (by decide +kernel) (pa_cons (pv 0) pa_nil)) (pe_int) (nomark _)) (pw_or1 (pt_cmpR op_notInC (pe_ix ix_str (pv 0) (pe_int) (fun _ _ => rfl)) (pv 1) (by rfl)))))))
(pss_one (ps_ret (pe_bl)))
(pss_nil))
(pss_one (ps_ret (pe_cmpR (op_eqD hr.units) (pe_lc (own := [("_law_sign", 3)]) rfl sclnamed.nd (pi_str (pv 0)) (blkOk_by (own := [("_law_sign", 3)]) (N := ["_law_word", "_law_first", "_law_letters", "_law_sign"]) (sc := defScope slnamed) (by decide +kernel)) (fun _ _ _ _ _ => pg_name (i := 3) sclnamed.nd rfl (Or.inl rfl)) (fun _ _ _ _ _ => pts_one (pt_cmpR op_notInC (pv 3) (pv 2) (by rfl))) (fun _ _ _ _ _ => pe_int)) (pe_lst pa_nil) (nomark _))))), ?_⟩
    walk_at "z0"
    walk_at "zz"
    have zl := str_len z
    have e0 : tl "" = [] := by decide +kernel
    refine z_cutB (!(decide (1 ≤ (tl z).length) && decide ((tl z).length ≤ 24) && decide ((tl z).headD 0 ∈ tl f))) ?_ fun H1 s1 => ?_
    · walk_at "zz"
      rw [txt_eq e0]
      refine z_ite (fun e => ?_) (fun e => ?_)
      · have e := of_decide_eq_true e
        refine ⟨?_, Same.refl _⟩
        rw [e]
        rfl
      · have e := of_decide_eq_false e
        have hne : 1 ≤ (tl z).length := List.length_pos_iff.mpr e
        walk_at "zz"
        rw [decide_eq_true hne, Bool.true_and]
        refine z_ite (fun e2 => ?_) (fun e2 => ?_)
        · have e2 := of_decide_eq_true e2
          refine ⟨?_, Same.refl _⟩
          rw [decide_eq_false (show ¬ (tl z).length ≤ 24 by omega)]
          rfl
        · have e2 := of_decide_eq_false e2
          walk_at "zz"
          refine z_ixS (line_ge (by omega)) (head_at (by omega)) ?_
          walk_at "zz"
          refine ⟨?_, Same.refl _⟩
          rw [decide_eq_true (show (tl z).length ≤ 24 by omega), Bool.true_and]
    refine z_ite (fun e => ?_) (fun e => ?_)
    · walk_at "zz"
      refine k _ _ ?_ s1
      unfold named
      rw [not_t e, Bool.false_and]
    · walk_at "zz"
      refine l_textF (fun c => !decide (c ∈ ALSO)) (.int 1) (by omega) (fun c H2 _ s2 QT q => ?_) (fun c H2 s2 Q' q => ?_) fun D H2 hD s2 hDl => ?_
      · walk_at "zz"
        exact q
      · walk_at "zz"
        exact q
      · walk_at "zz"
        refine z_kLst (Nat.zero_le _) fun p H3 hp s3 hp3 => ?_
        refine z_eqD (d := .list (((tl z).filter (fun c => !decide (c ∈ ALSO))).map fun _ => .int 1)) (e := .list []) (.lst (SqL.of (s3 _ _ hDl)) (dps_ints 1 _)) (.lst (SqL.of hp3) .nil) (shaped_list (n := 0) (by decide) fun d hd => ?_) rfl ?_
        · obtain ⟨c, _, rfl⟩ := List.mem_map.mp hd
          exact ⟨rfl, Nat.le_refl _⟩
        · walk_at "zz"
          refine k _ _ ?_ ((s1.trans s2).trans s3)
          rw [eqv_list_nil]
          have e5 : decide ((((tl z).filter (fun c => !decide (c ∈ ALSO))).map fun _ => PyData.int 1) = []) = ((tl z).all fun c => decide (c ∈ ALSO)) := by
            rw [← filter_all]
            exact decide_eq_decide.mpr List.map_eq_nil_iff
          rw [e5]
          unfold named
          rw [not_f e, Bool.true_and]
          exact congrArg (tl z).all (funext also_later)
theorem ok_lmet (T : Tx P K mg) : FnOk P w K mg base CX0 2 T.almet T.fdlmet ["_law_word"] (spW mk) := by
  have Glnamed : FnOk P w K mg base CX0 1 T.alnamed T.fdlnamed ["_law_word", "_law_first"] spNamed := ok_lnamed T
  have Glcounts : FnOk P w K mg base CX0 1 T.alcounts T.fdlcounts ["_law_word"] (spW cnt) := ok_lcounts T
  refine T.Dlmet.F.ok sclmet (fun vs H Q E h => ?_) (fun cdv A outer s H vs Q E hr h => ?_)
  · obtain ⟨z, rfl, _⟩ := h
    rfl
  · obtain ⟨z, rfl, hz, k⟩ := h
    have hrlnamed := hr
    have hrlcounts := hr
    refine ⟨_, pss_cons (ps_if (pt_cmpR op_ne (pe_slice sl_str (pv 0) po_none (po_some (pe_int))) (pe_str) (nomark _))
(pss_one (ps_ret (pe_callN T.Dlnamed Glnamed hrlnamed pass0 (pa_cons (pv 0) (pa_cons (pe_str) pa_nil)))))
(pss_nil))
(pss_one (ps_ret (pe_or (pe_callN T.Dlcounts Glcounts hrlcounts pass0 (pa_cons (pe_slice sl_str (pv 0) (po_some (pe_int)) po_none) pa_nil)) (pe_one (pe_and (pe_cmpR op_eq (pe_slice sl_str (pv 0) (po_some (pe_int)) (po_some (pe_int))) (pe_str) (nomark _)) (pe_and (pe_cmpR op_ne (pe_slice sl_str (pv 0) (po_some (pe_int)) (po_some (pe_int))) (pe_str) (nomark _)) (pe_one (pe_callN T.Dlcounts Glcounts hrlcounts pass0 (pa_cons (pe_slice sl_str (pv 0) (po_some (pe_int)) po_none) pa_nil))))))))), ?_⟩
    walk_at "z0"
    walk_at "zz"
    have zl := str_len z
    have e35 : tl "#" = [35] := by decide +kernel
    have e45 : tl "-" = [45] := by decide +kernel
    have e48 : tl "0" = [48] := by decide +kernel
    rw [txt_eq e35, cut1]
    refine z_ite (fun e => ?_) (fun e => ?_)
    · have e := of_decide_eq_false (not_t e)
      walk_at "zz"
      refine ⟨z, _, rfl, hz, fun b H1 eb s1 => ?_⟩
      walk_at "zz"
      refine k _ _ ?_ s1
      rw [eb]
      unfold mk
      rw [if_neg e]
      rfl
    · have e := of_decide_eq_true (not_f e)
      have em : mk (tl z) = (cnt ((tl z).drop 1) || (decide (((tl z).drop 1).take 1 = [45]) && (!decide (((tl z).drop 2).take 1 = [48]) && cnt ((tl z).drop 2)))) := (mk_eq _).symm.trans (if_pos e)
      walk_at "zz"
      refine ⟨_, rfl, Nat.le_trans (cut_le z _ _) hz, fun b H1 eb s1 => ?_⟩
      rw [cutf1] at eb
      walk_at "zz"
      refine z_ite (fun e1 => ?_) (fun e1 => ?_)
      · walk_at "zz"
        refine k _ _ ?_ s1
        rw [em, ← eb, e1, Bool.true_or]
      · walk_at "zz"
        rw [txt_eq e45, cut12]
        refine z_ite (fun e2 => ?_) (fun e2 => ?_)
        · walk_at "zz"
          rw [txt_eq e48, cut23]
          refine z_ite (fun e3 => ?_) (fun e3 => ?_)
          · walk_at "zz"
            refine ⟨_, rfl, Nat.le_trans (cut_le z _ _) hz, fun b2 H2 eb2 s2 => ?_⟩
            rw [cutf2] at eb2
            walk_at "zz"
            refine k _ _ ?_ (s1.trans s2)
            rw [em, ← eb, e1, e2, e3, ← eb2]
            rfl
          · walk_at "zz"
            refine k _ _ ?_ s1
            rw [em, ← eb, e1, e2, e3]
            rfl
        · walk_at "zz"
          refine k _ _ ?_ s1
          rw [em, ← eb, e1, e2]
          rfl
def spLLine : Sp := fun vs H Q _ => ∃ z : Str, vs = [.str z] ∧ z.length ≤ 100000 ∧ ∀ b H', b = isLine z → Same H H' → Q (.bl b) H'
theorem ok_lline (T : Tx P K mg) : FnOk P w K mg base CX0 3 T.alline T.fdlline ["_law_word"] spLLine := by
  have Glmet : FnOk P w K mg base CX0 2 T.almet T.fdlmet ["_law_word"] (spW mk) := ok_lmet T
  have Glcounts : FnOk P w K mg base CX0 1 T.alcounts T.fdlcounts ["_law_word"] (spW cnt) := ok_lcounts T
  refine T.Dlline.F.ok sclline (fun vs H Q E h => ?_) (fun cdv A outer s H vs Q E hr h => ?_)
  · obtain ⟨z, rfl, _⟩ := h
    rfl
  · obtain ⟨z, rfl, hz, k⟩ := h
    have hrlmet := hr
    have hrlcounts := hr.mono (j := 1) (by decide)
    refine ⟨_, pss_cons (ps_if (pt_cmpR op_ne (pe_slice sl_str (pv 0) po_none (po_some (pe_int))) (pe_str) (nomark _))
(pss_one (ps_ret (pe_bl)))
(pss_nil))
(pss_cons (ps_set (i := 1) sclline.nd rfl (Or.inl rfl) (pe_splitN (pe_slice sl_str (pv 0) (po_some (pe_int)) po_none) (pe_str)))
(pss_cons (ps_if (pt_cmpR op_eq (pe_op op_mod (pe_callB call_lenL (by rfl) T.n_len (by decide +kernel) (pa_cons (pv 1) pa_nil)) (pe_int)) (pe_int) (nomark _))
(pss_one (ps_ret (pe_bl)))
(pss_nil))
(pss_cons (ps_for PassesOwn.never rfl (pi_range1 rfl T.n_range (pa_cons (pe_callB call_lenL (by rfl) T.n_len (by decide +kernel) (pa_cons (pv 1) pa_nil)) pa_nil)) (pg_name (i := 2) sclline.nd rfl (Or.inl rfl))
(pss_one (ps_if (pt_not (pt_cut (pt_ifExp (pt_cmpR op_eq (pe_op op_mod (pv 2) (pe_int)) (pe_int) (nomark _)) (pt_val (pe_callN T.Dlcounts Glcounts hrlcounts pass0 (pa_cons (pe_ix ix_list (pv 1) (pv 2) (fun _ _ => rfl)) pa_nil))) (pt_val (pe_callN T.Dlmet Glmet hrlmet pass0 (pa_cons (pe_ix ix_list (pv 1) (pv 2) (fun _ _ => rfl)) pa_nil))))))
(pss_one (ps_ret (pe_bl)))
(pss_nil))))
(pss_one (ps_ret (pe_bl)))))), ?_⟩
    walk_at "z0"
    walk_at "zz"
    have zl := str_len z
    have em : tl "m:" = [109, 58] := by decide +kernel
    have ec : tl (cutS z none (some 2)) = (tl z).take 2 := cut_to z 2
    rw [txt_eq em, ec]
    refine z_ite (fun e => ?_) (fun e => ?_)
    · walk_at "zz"
      refine k _ _ ?_ (Same.refl _)
      unfold isLine
      rw [not_t e, Bool.false_and]
    · have e1 := not_f e
      walk_at "zz"
      have hl := cut_le z (some 2) none
      refine z_split (by decide +kernel) (line_ge (by omega)) fun p H2 hp s2 h2 => ?_
      walk_at "zz"
      refine z_lenL (SqL.of h2) ?_
      walk_at "zz"
      have hps : (parts z).length ≤ 100002 := Nat.le_trans (PyProof.Rows.split_le _ _) (by omega)
      have emod : ∀ n : Nat, decide ((n : Int) % 2 = 1) = decide (n % 2 = 1) := fun n => decide_eq_decide.mpr (by omega)
      have emod0 : ∀ n : Nat, decide (((0 : Int) + (n : Int)) % 2 = 0) = decide (n % 2 = 0) := fun n => decide_eq_decide.mpr (by omega)
      rw [List.length_map, emod]
      refine z_ite (fun e2 => ?_) (fun e2 => ?_)
      · have e2 := of_decide_eq_true e2
        walk_at "zz"
        refine k _ _ ?_ s2
        unfold isLine
        rw [show decide ((parts z).length % 2 = 0) = false from decide_eq_false (by show ¬ (Txt.split _ _).length % 2 = 0; omega), Bool.false_and, Bool.and_false]
      · have e2 := of_decide_eq_false e2
        have ev : isLine z = ((parts z).zipIdx.map fun q => pt q.2 q.1).all id := by
          unfold isLine
          rw [e1, show decide ((parts z).length % 2 = 0) = true from decide_eq_true (by show (Txt.split _ _).length % 2 = 0; omega), Bool.true_and, Bool.true_and]
        walk_at "zz"
        refine z_lenL (SqL.of h2) ?_
        have hlp : ((parts z).map V.str).length = (parts z).length := List.length_map ..
        walk_at "zz"
        refine z_kIR1 (by omega) (by have : ((Txt.split (cutS z (some 2) none) ".").map V.str).length = (parts z).length := hlp; omega) ?_
        refine f_range (fun i σ' H' => ∃ v : Option V, σ' = [some (.str z), some (.ref p), v] ∧ Same H H' ∧ H' p = some (.lst ((parts z).map V.str)) ∧ ∀ j q, j < i → (parts z)[j]? = some q → pt j q = true) ⟨none, rfl, s2, h2, fun j q hj => absurd hj (Nat.not_lt_zero _)⟩ ?_ ?_
        · rintro i σ' H' hi ⟨v, rfl, s3, h3, hall⟩
          have hi' : i < (parts z).length := by
            have : ((Txt.split (cutS z (some 2) none) ".").map V.str).length = (parts z).length := hlp
            omega
          have hq : (parts z)[i]? = some (parts z)[i] := List.getElem?_eq_getElem hi'
          generalize (parts z)[i] = q at hq
          have hx : ((parts z).map V.str)[(0 + (i : Int)).toNat]? = some (.str q) := by
            rw [show (0 + (i : Int)).toNat = i by omega, List.getElem?_map, hq]
            rfl
          have hql : q.length ≤ 100000 := Nat.le_trans (split_part (List.mem_of_getElem? hq)) (Nat.le_trans hl hz)
          walk_at "zz"
          refine z_cutB (pt i q) ?_ fun H4 s4 => ?_
          · walk_at "zz"
            rw [emod0]
            refine z_ite (fun e3 => ?_) (fun e3 => ?_)
            · have e3 := of_decide_eq_true e3
              walk_at "zz"
              refine z_ixL (SqL.of h3) (at_of (by omega) hx) ?_
              walk_at "zz"
              refine ⟨q, rfl, hql, fun b H4 eb s4 => ?_⟩
              walk_at "zz"
              refine ⟨?_, s4⟩
              rw [eb, pt, if_neg (by omega)]
            · have e3 := of_decide_eq_false e3
              walk_at "zz"
              refine z_ixL (SqL.of h3) (at_of (by omega) hx) ?_
              walk_at "zz"
              refine ⟨q, rfl, hql, fun b H4 eb s4 => ?_⟩
              walk_at "zz"
              refine ⟨?_, s4⟩
              rw [eb, pt, if_pos (by omega)]
          · walk_at "zz"
            refine z_ite (fun e4 => ?_) (fun e4 => ?_)
            · walk_at "zz"
              refine k _ _ ?_ (s3.trans s4)
              rw [ev]
              cases e5 : ((parts z).zipIdx.map fun q => pt q.2 q.1).all id with
              | false => rfl
              | true =>
                have := all_pt.mp e5 i q hq
                rw [not_t e4] at this
                cases this
            · walk_at "zz"
              refine ⟨_, rfl, s3.trans s4, s4 _ _ h3, fun j q' hj hq' => ?_⟩
              by_cases e5 : j = i
              · subst e5
                rw [hq] at hq'
                cases hq'
                exact not_f e4
              · exact hall j q' (by omega) hq'
        · rintro σ' H' ⟨v, rfl, s3, h3, hall⟩
          walk_at "zz"
          refine k _ _ ?_ s3
          rw [ev]
          refine (all_pt.mpr fun j q hq => hall j q ?_ hq).symm
          have : ((Txt.split (cutS z (some 2) none) ".").map V.str).length = (parts z).length := hlp
          have := (List.getElem?_eq_some_iff.mp hq).1
          omega
end
end K40

namespace K40
open PySem PySem.Spec PyProof.Rows L2 Nm
section
variable {P : Program} {w : World} {K : PySem.W.Frag} {mg : Str → Option Value} {base : Heap}
theorem lines_take {l : List Str} {i : Nat} {z : Str} (h : l[i]? = some z) : once [] ((l.take (i + 1)).filter isLine) = (if isLine z = true ∧ z ∉ once [] ((l.take i).filter isLine) then once [] ((l.take i).filter isLine) ++ [z] else once [] ((l.take i).filter isLine)) := by
  have app : ∀ (r acc : List Str) (z : Str), once acc (r ++ [z]) = (if z ∈ once acc r then once acc r else once acc r ++ [z]) := by
    intro r
    induction r with
    | nil => intro acc z; rfl
    | cons a r ih => intro acc z; exact ih _ z
  rw [List.take_add_one, h, Option.toList_some, List.filter_append]
  by_cases e : isLine z = true
  · have ef : [z].filter isLine = [z] := by simp [e]
    rw [ef, app]
    by_cases m : z ∈ once [] ((l.take i).filter isLine)
    · rw [if_pos m, if_neg fun q => q.2 m]
    · rw [if_neg m, if_pos ⟨e, m⟩]
  · have ef : [z].filter isLine = [] := by simp [e]
    rw [ef, List.append_nil, if_neg fun q => e q.1]
def spLLinesIn : Sp := fun vs H Q _ => ∃ z : Str, vs = [.str z] ∧ z.length ≤ 100000 ∧ ∀ p H', Same H H' → H' p = some (.lst ((linesIn z).map V.str)) → Q (.ref p) H'
theorem ok_llinesin (T : Tx P K mg) : FnOk P w K mg base CX0 4 T.allinesin T.fdllinesin ["_law_text"] spLLinesIn := by
  have Glline : FnOk P w K mg base CX0 3 T.alline T.fdlline ["_law_word"] spLLine := ok_lline T
  refine T.Dllinesin.F.ok scllinesin (fun vs H Q E h => ?_) (fun cdv A outer s H vs Q E hr h => ?_)
  · obtain ⟨z, rfl, _⟩ := h
    rfl
  · obtain ⟨z, rfl, hz, k⟩ := h
    have hrlline := hr
    refine ⟨_, pss_cons (ps_set (i := 1) scllinesin.nd rfl (Or.inl rfl) (pe_lst pa_nil))
(pss_cons (ps_for PassesOwn.never rfl (pi_list (pe_slice sl_list (pe_splitN (pv 0) (pe_str)) po_none (po_some (pe_un un_neg (pe_int))))) (pg_name (i := 2) scllinesin.nd rfl (Or.inl rfl))
(pss_one (ps_if (pt_cut (PW.pt (pw_and (pt_val (pe_callN T.Dlline Glline hrlline pass0 (pa_cons (pv 2) pa_nil))) (pw_and1 (pt_cmpR op_notIn_seq (pv 2) (pv 1) (by rfl))))))
(pss_one (ps_expr (pe_bm PySem.F.plainAttrs_list PySem.F.slot_list_append PySem.F.type_list_append mt_append (pv 1) (pa_cons (pv 2) pa_nil))))
(pss_nil))))
(pss_one (ps_ret (pv 1)))), ?_⟩
    walk_at "z0"
    walk_at "zz"
    refine z_kLst (Nat.zero_le _) fun p H1 hp s1 h1 => ?_
    walk_at "zz"
    refine z_split (by decide +kernel) (line_ge (by omega)) fun q H2 hq s2 h2 => ?_
    walk_at "zz"
    refine z_slL (SqL.of h2) fun q3 H3 hq3 s3 h3 => ?_
    rw [cutV_strs, show (-1 : Int) = -((1 : Nat) : Int) from rfl, cutL_neg _ _ (by decide)] at h3
    have hpl : (pieces z).length ≤ 100002 := by
      have := PyProof.Rows.split_le z "\n"
      unfold pieces
      rw [List.length_take]
      omega
    have np : p ≠ q3 := fun e => by
      rw [← e] at hq3
      rw [s2 _ _ h1] at hq3
      cases hq3
    have h3p : H3 p = some (.lst []) := s3 _ _ (s2 _ _ h1)
    refine z_kIL (SqL.of h3) (f_list (K := K) (a := q3) (xs := (pieces z).map V.str) (fun i σ' H' => ∃ v : Option V, σ' = [some (.str z), some (.ref p), v] ∧ Same H H' ∧ H' q3 = some (.lst ((pieces z).map V.str)) ∧ H' p = some (.lst ((once [] (((pieces z).take i).filter isLine)).map V.str))) ⟨none, rfl, (s1.trans s2).trans s3, h3, h3p⟩ (fun i σ' H' ⟨_, _, _, h, _⟩ => SqL.of h) ?_ ?_)
    · rintro i x σ' H' hx ⟨v, rfl, s4, h4, h5⟩
      obtain ⟨y, hy, rfl⟩ : ∃ y, (pieces z)[i]? = some y ∧ x = V.str y := by
        rw [List.getElem?_map] at hx
        cases e : (pieces z)[i]? with
        | none => rw [e] at hx; cases hx
        | some y => rw [e] at hx; exact ⟨y, rfl, (Option.some.inj hx).symm⟩
      have hlen : (once [] (((pieces z).take i).filter isLine)).length ≤ 100002 := by
        have q1 := once_len (((pieces z).take i).filter isLine) []
        have q2 := List.length_filter_le isLine ((pieces z).take i)
        rw [List.length_take] at q2
        simp only [List.length_nil] at q1
        omega
      generalize hl : once [] (((pieces z).take i).filter isLine) = acc at h5 hlen
      have hstep : once [] (((pieces z).take (i + 1)).filter isLine) = if isLine y = true ∧ y ∉ acc then acc ++ [y] else acc := by rw [lines_take hy, hl]
      walk_at "zz"
      refine z_cutB (decide (isLine y = true ∧ y ∉ acc)) ?_ fun H5 s5 => ?_
      · walk_at "zz"
        refine ⟨y, rfl, Nat.le_trans (piece_len (List.mem_of_getElem? hy)) hz, fun b H5 eb s5 => ?_⟩
        walk_at "zz"
        rw [eb]
        refine z_ite (fun e => ?_) (fun e => ?_)
        · walk_at "zz"
          refine z_inL (SqL.of (s5 _ _ h5)) rfl (by rw [List.all_map, List.all_eq_true]; intro _ _; rfl) ?_
          rw [if_pos rfl, in_strs]
          walk_at "zz"
          refine ⟨?_, s5⟩
          rw [← decide_not]
          exact decide_eq_decide.mpr ⟨fun q => ⟨e, q⟩, fun q => q.2⟩
        · refine ⟨(decide_eq_false fun q => ?_).symm, s5⟩
          rw [e] at q
          cases q.1
      refine z_ite (fun e => ?_) (fun e => ?_)
      · have e := of_decide_eq_true e
        rw [if_pos e] at hstep
        walk_at "zz"
        refine ⟨.inl ⟨rfl, _, SqL.of (s5 _ _ h5)⟩, ?_⟩
        walk_at "zz"
        refine z_appendV (s5 _ _ h5) (by rw [List.length_map]; omega) fun H6 h6 a6 b6 => ?_
        walk_at "zz"
        refine ⟨_, rfl, a6 H (s4.trans s5) hp, ?_, ?_⟩
        · rw [b6 _ (Ne.symm np)]
          exact s5 _ _ h4
        · rw [h6, hstep, List.map_append]
          rfl
      · have e := of_decide_eq_false e
        rw [if_neg e] at hstep
        walk_at "zz"
        exact ⟨_, rfl, s4.trans s5, s5 _ _ h4, by rw [hstep]; exact s5 _ _ h5⟩
    · rintro σ' H' ⟨v, rfl, s4, h4, h5⟩
      walk_at "zz"
      refine k p H' s4 ?_
      rw [h5, List.length_map, List.take_length]
      rfl
theorem ok_llogtext (T : Tx P K mg) : FnOk P w K mg base CX0 1 T.allogtext T.fdllogtext ["_law_lines"] (spLog K) := by
  refine T.Dllogtext.F.ok scllogtext (fun vs H Q E h => ?_) (fun cdv A outer s H vs Q E hr h => ?_)
  · obtain ⟨a, ys, rfl, _⟩ := h
    rfl
  · obtain ⟨a, ys, rfl, hs, hl, hy, k⟩ := h
    refine ⟨_, pss_one (ps_ret (pe_joinN (pe_str) (pe_lc (own := [("_law_line", 1)]) rfl scllogtext.nd (pi_list (pv 0)) (blkOk_by (own := [("_law_line", 1)]) (N := ["_law_lines", "_law_line"]) (sc := defScope sllogtext) (by decide +kernel)) (fun _ _ _ _ _ => pg_name (i := 1) scllogtext.nd rfl (Or.inl rfl)) (fun _ _ _ _ _ => pts_nil) (fun _ _ _ _ _ => pe_op op_addS (pv 1) (pe_str))))), ?_⟩
    walk_at "z0"
    walk_at "zz"
    refine z_kIL hs ?_
    refine l_pure (α := Str) (xs := ys) (e := V.str) (G := fun H => SqL K H a (ys.map V.str)) walk_lstE (fun _ => true) (fun y => V.str (y ++ "\n")) (by omega) (fun H1 s1 => s1.seq hs) (fun i y H1 hy' s1 QT q => q _ (Same.refl _)) (fun i y H1 hy' _ s1 Q' q => ?_) fun D H1 hD s1 h1 => ?_
    · walk_at "zz"
      have e1 : ("\n" : Str).length = 1 := by decide +kernel
      have := hy y (List.mem_of_getElem? hy')
      refine z_addS (line_ge (by omega)) ?_
      exact q _ (Same.refl _)
    · have e : ((ys.filter fun _ => true).map fun y => V.str (y ++ "\n")) = (ys.map fun y : Str => (y ++ "\n" : Str)).map V.str := by
        rw [List.filter_eq_self.mpr fun _ _ => rfl, List.map_map]
        rfl
      rw [e] at h1
      walk_at "zz"
      refine z_join (SqL.of h1) (log_sum hl hy) ?_
      walk_at "zz"
      exact k H1 s1
theorem ok_lappended (T : Tx P K mg) : FnOk P w K mg base CX0 2 T.alappended T.fdlappended ["_law_text", "_law_lines"] (spApp K) := by
  have Gllogtext : FnOk P w K mg base CX0 1 T.allogtext T.fdllogtext ["_law_lines"] (spLog K) := ok_llogtext T
  refine T.Dlappended.F.ok sclappended (fun vs H Q E h => ?_) (fun cdv A outer s H vs Q E hr h => ?_)
  · obtain ⟨z, a, ys, rfl, _⟩ := h
    rfl
  · obtain ⟨z, a, ys, rfl, hs, hz, hl, hy, k⟩ := h
    have hrllogtext := hr
    refine ⟨_, pss_one (ps_ret (pe_op op_addS (pe_op op_addS (pv 0) (pe_cut (pe_ifExp (pt_cut (PW.pt (pw_and (pt_cmpR op_ne (pv 0) (pe_str) (nomark _)) (pw_and1 (pt_cmpR op_ne (pe_ix ix_str (pv 0) (pe_un un_neg (pe_int)) (fun _ _ => rfl)) (pe_str) (nomark _)))))) (pe_str) (pe_str)))) (pe_callN T.Dllogtext Gllogtext hrllogtext pass0 (pa_cons (pv 1) pa_nil)))), ?_⟩
    walk_at "z0"
    walk_at "zz"
    have e10 : tl "\n" = [10] := by decide +kernel
    have e1 : ("\n" : Str).length = 1 := by decide +kernel
    have e0 : tl "" = [] := by decide +kernel
    have el : ("" : Str).length = 0 := by decide +kernel
    refine z_cutE (fun v H' => Same H H' ∧ v = .str (if z ≠ "" ∧ (tl z).getLastD 0 ≠ 10 then "\n" else "")) ?_ ?_
    · walk_at "zz"
      refine z_cutB (decide (z ≠ "" ∧ (tl z).getLastD 0 ≠ 10)) ?_ fun H1 s1 => ?_
      · walk_at "zz"
        refine z_ite (fun e => ?_) (fun e => ?_)
        · have e := of_decide_eq_false (not_t e)
          walk_at "zz"
          refine z_ixS (line_ge (by omega)) (last_at e) ?_
          walk_at "zz"
          rw [one_eq e10]
          refine ⟨?_, Same.refl _⟩
          rw [← decide_not]
          exact decide_eq_decide.mpr ⟨fun q => ⟨e, q⟩, fun q => q.2⟩
        · have e := of_decide_eq_true (not_f e)
          refine ⟨(decide_eq_false fun q => q.1 e).symm, Same.refl _⟩
      refine z_ite (fun e => ?_) (fun e => ?_)
      · have e := of_decide_eq_true e
        walk_at "zz"
        exact ⟨s1, by rw [if_pos e]⟩
      · have e := of_decide_eq_false e
        walk_at "zz"
        exact ⟨s1, by rw [if_neg e]⟩
    · rintro v H1 ⟨s1, rfl⟩
      have hc : (if z ≠ "" ∧ (tl z).getLastD 0 ≠ 10 then ("\n" : Str) else "").length ≤ 1 := by
        split
        · omega
        · omega
      generalize hg : (if z ≠ "" ∧ (tl z).getLastD 0 ≠ 10 then ("\n" : Str) else "") = g at hc
      have eg : z ++ g = (if z ≠ "" ∧ (tl z).getLastD 0 ≠ 10 then z ++ "\n" else z) := by
        rw [← hg]
        split
        · rfl
        · exact str_ext (by rw [tl_app, e0, List.append_nil])
      have hzg := app_len z g
      walk_at "zz"
      refine ⟨a, ys, rfl, s1.seq hs, by omega, hy, fun H2 s2 => ?_⟩
      have := log_len hl hy
      walk_at "zz"
      rw [eg]
      exact k H2 (s1.trans s2)
end
end K40

namespace K40
open PySem PySem.Spec PyProof.Rows L2 Nm
theorem okS_cut {n : Nat} {z : Str} (h : okS n z) (lo hi : Option Int) : okS n (cutS z lo hi) := ⟨Nat.le_trans (cut_le z lo hi) h.1, strOk_iff.mpr fun c hc => strOk_iff.mp h.2 c (cut_sub z lo hi c hc)⟩
theorem okS_int {i : Int} (h : i.natAbs < 10 ^ 62) : okS 63 (toString i : String) := by
  refine ⟨?_, strOk_iff.mpr ?_⟩
  · have q := int_text_length_le10 (a := i) (k := 62) (by decide) h
    rw [str_len]
    show (PySem.Str.ofString (toString i)).cps.toList.length ≤ 63
    have q' : (toString i).toList.length ≤ 63 := by
      rw [String.length_toList]
      exact q
    rw [Str.ofString_eq_toList]
    simpa using q'
  · intro c hc
    have hc' : c ∈ (PySem.Str.ofString (toString i)).cps.toList := hc
    rw [Str.ofString_eq_toList] at hc'
    obtain ⟨ch, _, rfl⟩ := List.mem_map.mp (show c ∈ (toString i).toList.map Char.toNat by simpa using hc')
    have v := ch.valid
    show ch.val.toNat < 0x110000
    rcases v with v | v
    · have : ch.val.toNat < 0xd800 := v
      omega
    · exact v.2
theorem log_small {i : Int} (h : i.natAbs < 10 ^ 62) : i.natAbs.log2 < 1920 := by
  by_cases h0 : i.natAbs = 0
  · rw [h0]
    decide
  · refine (Nat.log2_lt h0).mpr ?_
    exact Nat.lt_of_lt_of_le h (by decide +kernel)
theorem okS_one {c : Nat} {n : Nat} (hn : 1 ≤ n) (h : c < 0x110000) : okS n ⟨#[c]⟩ := ⟨hn, strOk_iff.mpr fun c' hc' => by
  have e : c' = c := by simpa [tl] using hc'
  rw [e]
  exact h⟩
theorem okS_at {n : Nat} {z : Str} {c : Nat} {i : Int} (h : okS n z) (hc : atI z.cps.toList i = some c) : c < 0x110000 := by
  unfold atI at hc
  cases e : ixN z.cps.toList.length i with
  | none => rw [e] at hc; cases hc
  | some j =>
    rw [e] at hc
    exact strOk_iff.mp h.2 c (List.mem_of_getElem? hc)
theorem all_app {n : Nat} {xs ys : List V} (h1 : xs.all (okV n) = true) (h2 : ys.all (okV n) = true) : (xs ++ ys).all (okV n) = true := by rw [List.all_append, h1, h2]; rfl
theorem okV_str {n : Nat} {x : Str} (h : okS n x) : okV n (.str x) = true := by
  show (decide (x.length ≤ n) && PyData.strOk x) = true
  rw [decide_eq_true h.1, h.2]
  rfl
/-- the texts of a display are good: the written ones by a look, the others by what is known -/
theorem all_cons {n : Nat} {x : V} {xs : List V} (h1 : okV n x = true) (h2 : xs.all (okV n) = true) : (x :: xs).all (okV n) = true := by rw [List.all_cons, h1, h2]; rfl
section
variable {P : Program} {w : World} {K : PySem.W.Frag} {mg : Str → Option Value} {base : Heap}
def spBent (K : PySem.W.Frag) : Sp := fun vs H Q _ => ∃ (d c : Addr) (m : Nat) (z : Str), vs = [.ref d, .str z] ∧ Pen K H d c (m + 3) ∧ okS 800 z ∧ ∀ x H', okS 2000 x → But d H H' → Pen K H' d c m → Q (.str x) H'
theorem ok_bent (T : Tx P K mg) : FnOk P w K mg base CX0 3 T.abent T.fdbent ["_law_pen_here", "_law_line"] (spBent K) := by
  have Gdraw : FnOk P w K mg base CX0 1 T.adraw T.fddraw ["_law_pen_here", "_law_many"] (spDraw K) := ok_draw T
  have Gpick : FnOk P w K mg base CX0 2 T.apick T.fdpick ["_law_pen_here", "_law_some"] (spPick K) := ok_pick T
  refine T.Dbent.F.ok scbent (fun vs H Q E h => ?_) (fun cdv A outer s H vs Q E hr h => ?_)
  · obtain ⟨d, c, m, z, rfl, _⟩ := h
    rfl
  · obtain ⟨d, c, m, z, rfl, hp, oz, k⟩ := h
    have hrdraw := hr.mono (j := 1) (by decide)
    have hrpick := hr
    have zl := oz.1
    have l1 : okS 7 ".0.Cons" := ⟨by decide +kernel, by decide +kernel⟩
    have l2 : okS 6 ".1.Nil" := ⟨by decide +kernel, by decide +kernel⟩
    have l3 : okS 1 "." := ⟨by decide +kernel, by decide +kernel⟩
    have l4 : okS 1 "x" := ⟨by decide +kernel, by decide +kernel⟩
    have l1' := l1.1
    have l2' := l2.1
    have l3' := l3.1
    have l4' := l4.1
    refine ⟨_, pss_cons (ps_set (i := 2) scbent.nd rfl (Or.inl rfl) (pe_slice sl_str (pv 1) po_none (po_some (pe_callN T.Ddraw Gdraw hrdraw pass0 (pa_cons (pv 0) (pa_cons (pe_op op_add (pe_callB call_lenS (by rfl) T.n_len (by decide +kernel) (pa_cons (pv 1) pa_nil)) (pe_int)) pa_nil))))))
(pss_cons (ps_set (i := 3) scbent.nd rfl (Or.inl rfl) (pe_lst (pa_cons (pe_slice sl_str (pv 1) po_none (po_some (pe_un un_neg (pe_int)))) (pa_cons (pe_op op_addS (pv 1) (pe_str)) (pa_cons (pe_op op_addS (pv 1) (pe_str)) (pa_cons (pe_op op_addS (pv 1) (pe_str)) (pa_cons (pv 2) (pa_cons (pv 2) (pa_cons (pe_str) (pa_cons (pe_str) (pa_cons (pe_op op_addS (pe_str) (pv 1)) (pa_cons (pe_slice sl_str (pv 1) (po_some (pe_int)) po_none) pa_nil))))))))))))
(pss_cons (ps_set (i := 3) scbent.nd rfl (Or.inl rfl) (pe_op op_catL (pv 3) (pe_lst (pa_cons (pe_str) (pa_cons (pe_str) (pa_cons (pe_str) (pa_cons (pe_str) (pa_cons (pe_str) (pa_cons (pe_str) (pa_cons (pe_str) (pa_cons (pe_op op_addS (pv 1) (pv 1)) pa_nil)))))))))))
(pss_cons (ps_set (i := 3) scbent.nd rfl (Or.inl rfl) (pe_op op_catL (pv 3) (pe_lst (pa_cons (pe_op op_addS (pe_str) (pe_op op_mulS (pe_str) (pe_op op_add (pe_int) (pe_callN T.Ddraw Gdraw hrdraw pass0 (pa_cons (pv 0) (pa_cons (pe_int) pa_nil)))))) (pa_cons (pe_str) (pa_cons (pe_str) (pa_cons (pe_str) (pa_cons (pe_str) (pa_cons (pe_str) pa_nil)))))))))
(pss_one (ps_ret (pe_callN T.Dpick Gpick hrpick pass0 (pa_cons (pv 0) (pa_cons (pe_op op_catL (pv 3) (pe_lst (pa_cons (pe_str) pa_nil))) pa_nil)))))))), ?_⟩
    walk_at "z0"
    walk_at "zz"
    refine use_draw (m := m + 2) hp (by omega) (by omega) fun r H1 r0 r1 b1 p1 => ?_
    walk_at "zz"
    refine z_kLst (by show 10 ≤ sizeLine; decide) fun q2 H2 hq2 s2 h2 => ?_
    walk_at "zz"
    refine z_kLst (by show 8 ≤ sizeLine; decide) fun q3 H3 hq3 s3 h3 => ?_
    walk_at "zz"
    refine z_catL (s3 _ _ h2) h3 (by show 18 ≤ sizeLine; decide) fun q4 H4 hq4 s4 h4 => ?_
    walk_at "zz"
    have p4 : Pen K H4 d c (m + 2) := ((p1.same s2).same s3).same s4
    refine use_draw (m := m + 1) p4 (by decide) (by decide) fun r5 H5 r50 r51 b5 p5 => ?_
    walk_at "zz"
    refine z_mulS (by omega) (by omega) (by decide) ?_
    have ob : okS 25 (mulS "B" (24 + r5).toNat) := by
      refine ⟨by rw [mulS_len]; show 1 * (24 + r5).toNat ≤ 25; omega, strOk_iff.mpr fun c hc => ?_⟩
      rw [tl_mulS] at hc
      obtain ⟨l, hl, hcl⟩ := List.mem_flatten.mp hc
      rw [(List.mem_replicate.mp hl).2] at hcl
      exact (by decide +kernel : ∀ c ∈ tl "B", c < 0x110000) c hcl
    have om : okS 4 "m:0." := ⟨by decide +kernel, by decide +kernel⟩
    have obl := ob.1
    refine z_addS (line_ge (by have := om.1; omega)) ?_
    walk_at "zz"
    refine z_kLst (by show 6 ≤ sizeLine; decide) fun q6 H6 hq6 s6 h6 => ?_
    walk_at "zz"
    have h46 := s6 _ _ (b5 _ _ (((p1.same s2).same s3).ne hq4) h4)
    refine z_catL h46 h6 (by show 24 ≤ sizeLine; decide) fun q7 H7 hq7 s7 h7 => ?_
    walk_at "zz"
    refine z_kLst (by show 1 ≤ sizeLine; decide) fun q8 H8 hq8 s8 h8 => ?_
    walk_at "zz"
    refine z_catL (s8 _ _ h7) h8 (by show 25 ≤ sizeLine; decide) fun q9 H9 hq9 s9 h9 => ?_
    walk_at "zz"
    have p9 : Pen K H9 d c (m + 1) := (((p5.same s6).same s7).same s8).same s9
    have lz := fun {n : Nat} {x : Str} (hx : okS n x) (hn : n ≤ 2000) => okV_str (hx.le hn)
    have oc : ∀ lo hi, okV 2000 (.str (cutS z lo hi)) = true := fun lo hi => lz (okS_cut oz lo hi) (by decide)
    refine use_pick 2000 p9 h9 (all_app (all_app (all_app ?_ ?_) ?_) ?_) (by simp) (by simp) fun x H10 ox b10 p10 => ?_
    · exact all_cons (oc _ _) (all_cons (lz (okS_app oz l1) (by decide)) (all_cons (lz (okS_app oz l2) (by decide)) (all_cons (lz (okS_app oz l3) (by decide)) (all_cons (oc _ _) (all_cons (oc _ _)
        (all_cons (by decide +kernel) (all_cons (by decide +kernel) (all_cons (lz (okS_app l4 oz) (by decide)) (all_cons (oc _ _) rfl)))))))))
    · exact all_cons (by decide +kernel) (all_cons (by decide +kernel) (all_cons (by decide +kernel) (all_cons (by decide +kernel) (all_cons (by decide +kernel) (all_cons (by decide +kernel) (all_cons (by decide +kernel) (all_cons (lz (okS_app oz oz) (by decide)) rfl)))))))
    · exact all_cons (lz (okS_app om ob) (by decide)) (by decide +kernel)
    · decide +kernel
    · walk_at "zz"
      exact k x H10 ox (b1.trans ((same_but s2).trans ((same_but s3).trans ((same_but s4).trans (b5.trans ((same_but s6).trans ((same_but s7).trans ((same_but s8).trans ((same_but s9).trans b10))))))))) (p10.less (by omega))
def spSpoilt (K : PySem.W.Frag) : Sp := fun vs H Q _ => ∃ (d c : Addr) (m : Nat) (z : Str), vs = [.ref d, .str z] ∧ Pen K H d c (m + 3) ∧ okS 800 z ∧ 1 ≤ z.length ∧ ∀ x H', okS 2000 x → But d H H' → Pen K H' d c m → Q (.str x) H'
theorem ok_spoilt (T : Tx P K mg) : FnOk P w K mg base CX0 3 T.aspoilt T.fdspoilt ["_law_pen_here", "_law_line"] (spSpoilt K) := by
  have Gdraw : FnOk P w K mg base CX0 1 T.adraw T.fddraw ["_law_pen_here", "_law_many"] (spDraw K) := ok_draw T
  have Gpick : FnOk P w K mg base CX0 2 T.apick T.fdpick ["_law_pen_here", "_law_some"] (spPick K) := ok_pick T
  refine T.Dspoilt.F.ok scspoilt (fun vs H Q E h => ?_) (fun cdv A outer s H vs Q E hr h => ?_)
  · obtain ⟨d, c, m, z, rfl, _⟩ := h
    rfl
  · obtain ⟨d, c, m, z, rfl, hp, oz, hz, k⟩ := h
    have hrdraw := hr.mono (j := 1) (by decide)
    have hrpick := hr
    have zl := oz.1
    refine ⟨_, pss_cons (ps_set (i := 2) scspoilt.nd rfl (Or.inl rfl) (pe_lst (pa_cons (pe_str) (pa_cons (pe_str) (pa_cons (pe_str) (pa_cons (pe_str) (pa_cons (pe_str) (pa_cons (pe_str) (pa_cons (pe_str) (pa_cons (pe_str) (pa_cons (pe_str) (pa_cons (pe_str) (pa_cons (pe_str) (pa_cons (pe_str) pa_nil))))))))))))))
(pss_cons (ps_par3 rfl scspoilt.nd (i := 3) (j := 4) (l := 5) rfl rfl rfl (by decide) (by decide) (by decide) rfl rfl rfl (pa_cons (pe_callN T.Ddraw Gdraw hrdraw pass0 (pa_cons (pv 0) (pa_cons (pe_callB call_lenS (by rfl) T.n_len (by decide +kernel) (pa_cons (pv 1) pa_nil)) pa_nil))) (pa_cons (pe_callN T.Dpick Gpick hrpick pass0 (pa_cons (pv 0) (pa_cons (pv 2) pa_nil))) (pa_cons (pe_callN T.Ddraw Gdraw hrdraw pass0 (pa_cons (pv 0) (pa_cons (pe_int) pa_nil))) pa_nil))) (by rfl))
(pss_one (ps_ret (pe_op op_addS (pe_op op_addS (pe_slice sl_str (pv 1) po_none (po_some (pv 3))) (pe_cut (pe_ifExp (pt_cmpR op_gt (pv 5) (pe_int) (nomark _)) (pv 4) (pe_str)))) (pe_slice sl_str (pv 1) (po_some (pe_op op_add (pv 3) (pe_callTy call_int1n (by rfl) T.n_int (by decide +kernel) (pa_cons (pe_cmpR op_lt (pv 5) (pe_int) (nomark _)) pa_nil)))) po_none))))), ?_⟩
    walk_at "z0"
    walk_at "zz"
    refine z_kLst (by show 12 ≤ sizeLine; decide) fun q1 H1 hq1 s1 h1 => ?_
    walk_at "zz"
    refine use_draw (m := m + 2) (hp.same s1) (by omega) (by omega) fun r H2 r0 r1 b2 p2 => ?_
    walk_at "zz"
    have h2 := b2 _ _ (hp.ne hq1) h1
    refine use_pick 1 (m := m + 1) p2 h2 (by decide +kernel) (by simp) (by simp) fun x H3 ox b3 p3 => ?_
    walk_at "zz"
    refine use_draw (m := m) p3 (by decide) (by decide) fun r4 H4 r40 r41 b4 p4 => ?_
    walk_at "zz"
    have c1 := cut_le z none (some r)
    refine z_cutE (fun v H5 => Same H4 H5 ∧ ∃ y, v = .str y ∧ okS 1 y) ?_ ?_
    · walk_at "zz"
      refine z_ite (fun e => ?_) (fun e => ?_)
      · walk_at "zz"
        exact ⟨Same.refl _, x, rfl, ox⟩
      · walk_at "zz"
        exact ⟨Same.refl _, _, rfl, by decide +kernel, by decide +kernel⟩
    · rintro v H5 ⟨s5, y, rfl, oy⟩
      have oyl := oy.1
      have a1 := app_len (cutS z none (some r)) y
      walk_at "zz"
      have c2 := cut_le z (some (r + if decide (r4 < 2) = true then 1 else 0)) none
      refine z_addS (line_ge (by omega)) ?_
      walk_at "zz"
      refine k _ H5 ?_ ((same_but s1).trans (b2.trans (b3.trans (b4.trans (same_but s5))))) (p4.same s5)
      exact (okS_app (okS_app (okS_cut oz _ _) oy) (okS_cut oz _ _)).le (by decide)
end
end K40

namespace K40
open PySem PySem.Spec PyProof.Rows L2 Nm
theorem tl_join : ∀ zs : List Str, tl (Txt.join "" zs) = (zs.map tl).flatten := by
  have e0 : tl "" = [] := by decide +kernel
  have key : ∀ zs : List Str, tl (Str.join "" zs) = (zs.map tl).flatten := by
    intro zs
    induction zs with
    | nil => exact e0
    | cons x r ih =>
      cases r with
      | nil => simp [Str.join]
      | cons y r =>
        show tl (x ++ ("" : Str) ++ Str.join "" (y :: r)) = _
        rw [tl_app, tl_app, e0, ih, List.append_nil]
        rfl
  intro zs
  unfold Txt.join
  rw [StrLaws.glued_eq_join]
  exact key zs
theorem okS_join {zs : List Str} {n k : Nat} (hl : zs.length ≤ k) (h : ∀ z ∈ zs, okS n z) : okS (k * n) (Txt.join "" zs) := by
  refine ⟨?_, strOk_iff.mpr fun c hc => ?_⟩
  · rw [str_len, tl_join, List.length_flatten]
    have q : ((zs.map tl).map List.length).sum ≤ ((zs.map tl).map List.length).length * n := sum_le fun x hx => by
      obtain ⟨l, hl, rfl⟩ := List.mem_map.mp hx
      obtain ⟨z, hz, rfl⟩ := List.mem_map.mp hl
      rw [← str_len]
      exact (h z hz).1
    rw [List.length_map, List.length_map] at q
    exact Nat.le_trans q (Nat.mul_le_mul_right _ hl)
  · rw [tl_join] at hc
    obtain ⟨l, hl, hcl⟩ := List.mem_flatten.mp hc
    obtain ⟨z, hz, rfl⟩ := List.mem_map.mp hl
    exact strOk_iff.mp (h z hz).2 c hcl
theorem strs_of {n : Nat} : ∀ {ys : List V}, (∀ y ∈ ys, ∃ z : Str, y = .str z ∧ okS n z) → ∃ zs : List Str, ys = zs.map V.str ∧ ∀ z ∈ zs, okS n z
  | [], _ => ⟨[], rfl, fun _ h => by cases h⟩
  | y :: ys, h => by
    obtain ⟨z, rfl, oz⟩ := h y (by simp)
    obtain ⟨zs, rfl, ozs⟩ := strs_of (ys := ys) fun x hx => h x (by simp [hx])
    refine ⟨z :: zs, rfl, fun x hx => ?_⟩
    rcases List.mem_cons.mp hx with q | q
    · rw [q]; exact oz
    · exact ozs x q
def LET : Str := "abcdefghijklmnopqrstuvwxyzABCDEFGHIJKLMNOPQRSTUVWXYZ0123456789_"
theorem let_len : LET.length = 63 := by decide +kernel
theorem let_ok : okS 63 LET := ⟨Nat.le_of_eq let_len, by decide +kernel⟩
theorem let_at {r : Int} (h0 : 0 ≤ r) (h1 : r < 63) : ∃ c, atI LET.cps.toList r = some c ∧ c < 0x110000 := by
  have hl : r.toNat < LET.cps.toList.length := by
    have := let_len
    rw [str_len] at this
    show r.toNat < (tl LET).length
    omega
  have er : ((r.toNat : Nat) : Int) = r := by omega
  have e := atI_nat (xs := LET.cps.toList) (List.getElem?_eq_getElem hl)
  rw [er] at e
  exact ⟨_, e, okS_at let_ok e⟩
section
variable {P : Program} {w : World} {K : PySem.W.Frag} {mg : Str → Option Value} {base : Heap}
def spSomeL (K : PySem.W.Frag) : Sp := fun vs H Q _ => ∃ (d c : Addr) (m : Nat), vs = [.ref d] ∧ Pen K H d c (m + 60) ∧ ∀ x H', okS 700 x → 1 ≤ x.length → But d H H' → Pen K H' d c m → Q (.str x) H'
theorem ok_someline (T : Tx P K mg) : FnOk P w K mg base CX0 3 T.asomeline T.fdsomeline ["_law_pen_here"] (spSomeL K) := by
  have Gdraw : FnOk P w K mg base CX0 1 T.adraw T.fddraw ["_law_pen_here", "_law_many"] (spDraw K) := ok_draw T
  have Gpick : FnOk P w K mg base CX0 2 T.apick T.fdpick ["_law_pen_here", "_law_some"] (spPick K) := ok_pick T
  refine T.Dsomeline.F.ok scsomeline (fun vs H Q E h => ?_) (fun cdv A outer s H vs Q E hr h => ?_)
  · obtain ⟨d, c, m, rfl, _⟩ := h
    rfl
  · obtain ⟨d, c, m, rfl, hp, k⟩ := h
    have hrdraw := hr.mono (j := 1) (by decide)
    have hrpick := hr
    have om : okS 2 "m:" := ⟨by decide +kernel, by decide +kernel⟩
    have oml : ("m:" : Str).length = 2 := by decide +kernel
    have od : okS 1 "." := ⟨by decide +kernel, by decide +kernel⟩
    have odl := od.1
    have oh : okS 1 "#" := ⟨by decide +kernel, by decide +kernel⟩
    have ohl := oh.1
    have big62 : (10 : Nat) ^ 62 = 100000000000000000000000000000000000000000000000000000000000000 := by decide +kernel
    refine ⟨_, pss_cons (ps_set (i := 1) scsomeline.nd rfl (Or.inr rfl) (pe_str))
(pss_cons (ps_set (i := 2) scsomeline.nd rfl (Or.inl rfl) (pe_op op_addS (pe_str) (pe_callTy call_strI (by rfl) T.n_str (by decide +kernel) (pa_cons (pe_callN T.Dpick Gpick hrpick pass0 (pa_cons (pv 0) (pa_cons (pe_lst (pa_cons (pe_int) (pa_cons (pe_int) (pa_cons (pe_int) (pa_cons (pe_int) (pa_cons (pe_callN T.Ddraw Gdraw hrdraw pass0 (pa_cons (pv 0) (pa_cons (pe_int) pa_nil))) pa_nil)))))) pa_nil))) pa_nil))))
(pss_cons (ps_for PassesOwn.never rfl (pi_range1 rfl T.n_range (pa_cons (pe_op op_add (pe_int) (pe_callN T.Ddraw Gdraw hrdraw pass0 (pa_cons (pv 0) (pa_cons (pe_int) pa_nil)))) pa_nil)) (pg_name (i := 3) scsomeline.nd rfl (Or.inl rfl))
(pss_cut (ps_if (pt_cmpR op_gt (pv 3) (pe_int) (nomark _))
(pss_one (ps_set (i := 2) scsomeline.nd rfl (Or.inl rfl) (pe_op op_addS (pe_op op_addS (pv 2) (pe_str)) (pe_callTy call_strI (by rfl) T.n_str (by decide +kernel) (pa_cons (pe_callN T.Ddraw Gdraw hrdraw pass0 (pa_cons (pv 0) (pa_cons (pe_int) pa_nil))) pa_nil)))))
(pss_nil))
(pss_cons (ps_set (i := 4) scsomeline.nd rfl (Or.inl rfl) (pe_joinN (pe_str) (pe_lc (own := [("_law_k", 6)]) rfl scsomeline.nd (pi_range1 rfl T.n_range (pa_cons (pe_callN T.Ddraw Gdraw hrdraw pass0 (pa_cons (pv 0) (pa_cons (pe_int) pa_nil))) pa_nil)) (blkOk_by (own := [("_law_k", 6)]) (N := ["_law_pen_here", "_law_letters", "_law_line", "_law_lap", "_law_word", "_law_number", "_law_k"]) (sc := defScope ssomeline) (by decide +kernel)) (fun _ _ _ _ _ => pg_name (i := 6) scsomeline.nd rfl (Or.inl rfl)) (fun _ _ _ _ _ => pts_nil) (fun _ _ _ _ _ => pe_ix ix_str (pv 1) (pe_callN T.Ddraw Gdraw hrdraw pass0 (pa_cons (pv 0) (pa_cons (pe_int) pa_nil))) (fun _ _ => rfl)))))
(pss_cons (ps_set (i := 4) scsomeline.nd rfl (Or.inl rfl) (pe_op op_addS (pe_ix ix_str (pv 1) (pe_op op_add (pe_int) (pe_callN T.Ddraw Gdraw hrdraw pass0 (pa_cons (pv 0) (pa_cons (pe_int) pa_nil)))) (fun _ _ => rfl)) (pv 4)))
(pss_cons (ps_set (i := 5) scsomeline.nd rfl (Or.inl rfl) (pe_callN T.Dpick Gpick hrpick pass0 (pa_cons (pv 0) (pa_cons (pe_lst (pa_cons (pe_int) (pa_cons (pe_int) (pa_cons (pe_un un_neg (pe_int)) (pa_cons (pe_op op_sub (pe_callN T.Ddraw Gdraw hrdraw pass0 (pa_cons (pv 0) (pa_cons (pe_op op_pow (pe_int) (pe_int)) pa_nil))) (pe_op op_pow (pe_int) (pe_int))) (pa_cons (pe_op op_add (pe_op op_pow (pe_int) (pe_int)) (pe_callN T.Ddraw Gdraw hrdraw pass0 (pa_cons (pv 0) (pa_cons (pe_int) pa_nil)))) pa_nil)))))) pa_nil))))
(pss_one (ps_set (i := 2) scsomeline.nd rfl (Or.inl rfl) (pe_op op_addS (pe_op op_addS (pv 2) (pe_str)) (pe_callN T.Dpick Gpick hrpick pass0 (pa_cons (pv 0) (pa_cons (pe_lst (pa_cons (pv 4) (pa_cons (pv 4) (pa_cons (pe_op op_addS (pe_str) (pe_callTy call_strI (by rfl) T.n_str (by decide +kernel) (pa_cons (pv 5) pa_nil))) (pa_cons (pe_str) (pa_cons (pe_str) pa_nil)))))) pa_nil)))))))))))
(pss_one (ps_ret (pv 2))))), ?_⟩
    walk_at "z0"
    walk_at "zz"
    refine use_draw (m := m + 59) hp (by decide) (by decide) fun r H1 r0 r1 b1 p1 => ?_
    walk_at "zz"
    refine z_kLst (by show 5 ≤ sizeLine; decide) fun q2 H2 hq2 s2 h2 => ?_
    walk_at "zz"
    refine ⟨d, c, q2, m + 58, _, rfl, p1.same s2, SqL.of h2, by simp, by simp, fun v H3 hv b3 p3 => ?_⟩
    obtain ⟨n, rfl, n0, n1⟩ : ∃ n : Int, v = .int n ∧ 0 ≤ n ∧ n ≤ 1000 := by
      simp only [List.mem_cons, List.not_mem_nil, or_false] at hv
      rcases hv with q | q | q | q | q <;> exact ⟨_, q, by omega, by omega⟩
    have hn : n.natAbs < 10 ^ 62 := by rw [big62]; omega
    have on := okS_int hn
    have onl := on.1
    walk_at "zz"
    refine z_strI (log_small hn) ?_
    walk_at "zz"
    have b03 : But d H H3 := b1.trans ((same_but s2).trans b3)
    refine use_draw (m := m + 57) p3 (by decide) (by decide) fun r4 H4 r40 r41 b4 p4 => ?_
    walk_at "zz"
    refine z_kIR1 (by omega) (by omega) ?_
    have l0 := app_len "m:" (toString n : String)
    refine f_range (fun i σ' H' => ∃ (x : Str) (v3 v4 v5 : Option V), σ' = [some (.ref d), some (.str LET), some (.str x), v3, v4, v5, none] ∧ okS (65 + 150 * i) x ∧ 1 ≤ x.length ∧ i ≤ 4 ∧ But d H H' ∧ Pen K H' d c (m + 12 * (4 - i))) ⟨_, none, none, none, rfl, (okS_app om on).le (by omega), by omega, by omega, b03.trans b4, p4.less (by omega)⟩ ?_ ?_
    · rintro i σ' H5 hi ⟨x, v3, v4, v5, rfl, ox, x1, hi4, b5, p5⟩
      have hi3 : i ≤ 3 := by omega
      have oxl := ox.1
      have pn : 12 * (4 - i) = 12 * (4 - (i + 1)) + 12 := by omega
      rw [pn] at p5
      refine z_gName ?_
      refine z_cut (fun σ6 H6 => ∃ y : Str, σ6 = [some (.ref d), some (.str LET), some (.str y), some (.int (0 + (i : Int))), v4, v5, none] ∧ okS (65 + 150 * i + 64) y ∧ 1 ≤ y.length ∧ But d H H6 ∧ Pen K H6 d c (m + 12 * (4 - (i + 1)) + 11)) ?_ ?_
      · walk_at "zz"
        refine z_ite (fun e => ?_) (fun e => ?_)
        · walk_at "zz"
          have a1 := app_len x "."
          refine use_draw (m := m + 12 * (4 - (i + 1)) + 11) p5 (by decide) (by decide) fun r6 H6 r60 r61 b6 p6 => ?_
          have hn6 : r6.natAbs < 10 ^ 62 := by rw [big62]; omega
          have on6 := okS_int hn6
          have on6l := on6.1
          have a2 := app_len (x ++ ".") (toString r6 : String)
          walk_at "zz"
          refine z_strI (log_small hn6) ?_
          walk_at "zz"
          exact ⟨_, rfl, (okS_app (okS_app ox od) on6).le (by omega), by omega, b5.trans b6, p6⟩
        · walk_at "zz"
          exact ⟨x, rfl, ox.le (by omega), x1, b5, p5.less (by omega)⟩
      · rintro σ6 H6 ⟨y, rfl, oy, y1, b6, p6⟩
        have oyl := oy.1
        walk_at "zz"
        refine use_draw (m := m + 12 * (4 - (i + 1)) + 10) p6 (by decide) (by decide) fun r7 H7 r70 r71 b7 p7 => ?_
        walk_at "zz"
        refine z_kIR1 (by omega) (by omega) ?_
        refine l_draw (d := d) (c := c) (m := m + 12 * (4 - (i + 1)) + 6) 1 (fun v => ∃ z : Str, v = .str z ∧ okS 1 z) (by omega) (p7.less (by omega)) (fun j H8 jj hj b8 p8 Q' k' => ?_) fun D H8 ys hD b8 p8 hl hys h8 => ?_
        · walk_at "zz"
          refine use_draw (m := jj) p8 (by decide) (by decide) fun r9 H9 r90 r91 b9 p9 => ?_
          obtain ⟨ch, hch, och⟩ := let_at r90 r91
          refine z_ixS (line_ge (by show LET.length ≤ _; rw [let_len]; decide)) hch ?_
          exact k' _ H9 ⟨_, rfl, okS_one (by decide) och⟩ b9 p9
        obtain ⟨zs, rfl, ozs⟩ := strs_of hys
        rw [List.length_map] at hl
        walk_at "zz"
        have ow := okS_join (k := 4) (by omega : zs.length ≤ 4) ozs
        refine z_join (SqL.of h8) ?_ ?_
        · have q : (zs.map (·.length)).sum ≤ (zs.map (·.length)).length * 1 := sum_le fun x hx => by
            obtain ⟨z, hz, rfl⟩ := List.mem_map.mp hx
            exact (ozs z hz).1
          have e0 : ("" : Str).length = 0 := by decide +kernel
          rw [List.length_map] at q
          rw [e0]
          omega
        generalize Txt.join "" zs = wd at ow ⊢
        have owl := ow.1
        walk_at "zz"
        refine use_draw (m := m + 12 * (4 - (i + 1)) + 5) p8 (by decide) (by decide) fun r9 H9 r90 r91 b9 p9 => ?_
        walk_at "zz"
        obtain ⟨ch, hch, och⟩ := let_at (r := 26 + r9) (by omega) (by omega)
        refine z_ixS (line_ge (by show LET.length ≤ _; rw [let_len]; decide)) hch ?_
        have oc := okS_one (n := 1) (by decide) och
        have ocl := oc.1
        walk_at "zz"
        have ow2 := okS_app oc ow
        generalize (⟨#[ch]⟩ : Str) ++ wd = wd2 at ow2 ⊢
        refine z_rI ⟨by decide, by decide, by decide⟩ ?_
        walk_at "zz"
        refine use_draw (m := m + 12 * (4 - (i + 1)) + 4) p9 (by decide +kernel) (by decide +kernel) fun ra Ha ra0 ra1 ba pa => ?_
        have ra1' : ra < 1000000000000 := by simpa using ra1
        walk_at "zz"
        refine z_rI ⟨by decide, by decide, by decide⟩ ?_
        walk_at "zz"
        refine z_rI ⟨by decide, by decide, by decide⟩ ?_
        walk_at "zz"
        refine use_draw (m := m + 12 * (4 - (i + 1)) + 3) pa (by decide) (by decide) fun rb Hb rb0 rb1 bb pb => ?_
        walk_at "zz"
        refine z_kLst (by show 5 ≤ sizeLine; decide) fun qc Hc hqc sc hc => ?_
        walk_at "zz"
        refine ⟨d, c, qc, m + 12 * (4 - (i + 1)) + 2, _, rfl, pb.same sc, SqL.of hc, by simp, by simp, fun v Hd hv bd pd => ?_⟩
        obtain ⟨nu, rfl, hnu⟩ : ∃ nu : Int, v = .int nu ∧ nu.natAbs < 10 ^ 62 := by
          have e11 : (10 : Int) ^ (Int.toNat 11) = 100000000000 := by decide +kernel
          have e60 : (10 : Int) ^ (Int.toNat 60) = 1000000000000000000000000000000000000000000000000000000000000 := by decide +kernel
          rw [big62]
          simp only [List.mem_cons, List.not_mem_nil, or_false] at hv
          rcases hv with q | q | q | q | q
          · exact ⟨_, q, by decide⟩
          · exact ⟨_, q, by decide⟩
          · exact ⟨_, q, by decide⟩
          · refine ⟨_, q, ?_⟩
            rw [e11]
            omega
          · refine ⟨_, q, ?_⟩
            rw [e60]
            omega
        have onu := okS_int hnu
        have onul := onu.1
        walk_at "zz"
        have a3 := app_len y "."
        refine z_strI (log_small hnu) ?_
        walk_at "zz"
        refine z_kLst (by show 5 ≤ sizeLine; decide) fun qe He hqe se he => ?_
        walk_at "zz"
        refine use_pick 70 (m := m + 12 * (4 - (i + 1)) + 1) (pd.same se) he ?_ (by simp) (by simp) fun xl Hf oxl' bf pf => ?_
        · exact all_cons (okV_str (ow2.le (by decide))) (all_cons (okV_str (ow2.le (by decide))) (all_cons (okV_str ((okS_app oh onu).le (by decide))) (by decide +kernel)))
        have oxll := oxl'.1
        have a4 := app_len (y ++ ".") xl
        refine z_addS (line_ge (by omega)) ?_
        walk_at "zz"
        refine ⟨_, _, _, _, rfl, (okS_app (okS_app oy od) oxl').le (by omega), by omega, by omega, ?_, pf.less (by omega)⟩
        exact b6.trans (b7.trans (b8.trans (b9.trans (ba.trans (bb.trans ((same_but sc).trans (bd.trans ((same_but se).trans bf))))))))
    · rintro σ' H5 ⟨x, v3, v4, v5, rfl, ox, x1, hi4, b5, p5⟩
      walk_at "zz"
      exact k x H5 (ox.le (by omega)) x1 b5 (p5.less (by omega))
end
end K40

namespace K40
open PySem PySem.Spec PyProof.Rows L2 Nm
/-- the drawn things that are no texts -/
def OddI (H : Hp) (v : V) : Prop := v = .non ∨ v = .int 7 ∨ v = .bl true ∨ (∃ p, v = .ref p ∧ H p = some (.tup [.str "m:0.Nil"])) ∨ (∃ p, v = .ref p ∧ H p = some (.lst [.str "m:0.Nil"]))
theorem OddI.same {H H' : Hp} {v : V} (h : OddI H v) (s : Same H H') : OddI H' v := by
  rcases h with h | h | h | ⟨p, h, e⟩ | ⟨p, h, e⟩
  · exact .inl h
  · exact .inr (.inl h)
  · exact .inr (.inr (.inl h))
  · exact .inr (.inr (.inr (.inl ⟨p, h, s _ _ e⟩)))
  · exact .inr (.inr (.inr (.inr ⟨p, h, s _ _ e⟩)))
theorem OddI.odd {K : PySem.W.Frag} {H : Hp} {v : V} (h : OddI H v) : Odd K H v := by
  rcases h with rfl | rfl | rfl | ⟨p, rfl, e⟩ | ⟨p, rfl, e⟩
  · exact ⟨_, .base .non, kit_ty (by decide +kernel)⟩
  · exact ⟨_, .base (.int 7), kit_ty (by decide +kernel)⟩
  · exact ⟨_, .base (.bl true), kit_ty (by decide +kernel)⟩
  · exact ⟨_, .base (.tup e), kit_ty (by decide +kernel)⟩
  · exact ⟨_, .base (.lst e), kit_ty (by decide +kernel)⟩
theorem OddI.data {K : PySem.W.Frag} {H : Hp} {v : V} (h : OddI H v) : ∃ d, Dp K H v d ∧ SeqAt.shaped (.tuple [.str "name", d]) = true := by
  rcases h with rfl | rfl | rfl | ⟨p, rfl, e⟩ | ⟨p, rfl, e⟩
  · exact ⟨_, .non, by decide +kernel⟩
  · exact ⟨_, .int 7, by decide +kernel⟩
  · exact ⟨_, .bl true, by decide +kernel⟩
  · exact ⟨_, .tup (SqT.of e) (.cons (.str _) .nil), by decide +kernel⟩
  · exact ⟨_, .lst (SqL.of e) (.cons (.str _) .nil), by decide +kernel⟩
theorem scal_parV (z : Str) : scal (parV z) (parV z) = true := by
  unfold parV
  split <;> rfl
theorem shaped_name {z : Str} (h : PyData.strOk z = true) : SeqAt.shaped (.tuple [.str "name", .str z]) = true := by
  refine shaped_tup (n := 0) (by decide) fun d hd => ?_
  have hd' : d = .str "name" ∨ d = .str z := by simpa using hd
  rcases hd' with rfl | rfl
  · exact ⟨by decide +kernel, Nat.le_refl _⟩
  · exact ⟨h, Nat.le_refl _⟩
theorem lk_line : List.lookup ("line" : Str) bad00 = some (V.int 0) := by kernel_rfl
theorem lk_column : List.lookup ("column" : Str) bad00 = some (V.int 0) := by kernel_rfl
section
variable {P : Program} {w : World} {K : PySem.W.Frag} {mg : Str → Option Value} {base : Heap}
def spRefusal (K : PySem.W.Frag) (ap al : Addr) : Sp := fun vs H Q _ =>
  (∃ x, vs = [.ref ap, x] ∧ ((∃ z : Str, x = .str z ∧ z.length ≤ 100000 ∧ isLine z = false) ∨ Odd K H x) ∧ ∀ p H', Same H H' → H' p = some (.tup [.str "name", x]) → Q (.ref p) H') ∨
  (∃ x, vs = [.ref al, x] ∧ Odd K H x ∧ ∀ p H', Same H H' → H' p = some (.tup [.str "text", .int 0, .int 0]) → Q (.ref p) H')
theorem ok_refusal (T : Tx P K mg) : FnOk P w K mg base CX0 6 T.arefusal T.fdrefusal ["_law_call", "_law_odd"] (spRefusal K T.aparent T.alinesin) := by
  have Gparent : FnOk P w K mg base (L2.CX P w) 5 T.aparent T.fdparent ["line"] (spParent K T.CBadName) := ok_parent T
  have Glinesin : FnOk P w K mg base (L2.CX P w) 5 T.alinesin T.fdlinesin ["text"] (spLinesIn K T.CBadText) := ok_linesin T
  refine T.Drefusal.F.ok screfusal (fun vs H Q E h => ?_) (fun cdv A outer s H vs Q E hr h => ?_)
  · rcases h with ⟨x, rfl, _⟩ | ⟨x, rfl, _⟩ <;> rfl
  · have hrparent := hr
    have hrlinesin := hr
    rcases h with ⟨x, rfl, hx, k⟩ | ⟨x, rfl, ho, k⟩
    · refine ⟨_, pss_cons (ps_clauses rfl rfl screfusal.nd takes0 (fun W pn xe tk _ => pss_one (ps_expr (pe_callP Gparent hrparent (i := 0) rfl (Or.inl rfl) T.Dparent.F.kp T.Dparent.b (fun σ => passAt tk σ) (pa_cons (pv 1) pa_nil))))
(.cons ⟨rfl, by decide, .inl T.EBadName.gC⟩ (i := 2) rfl rfl (fun a oe cls d pn hz hf => pss_one (ps_ret (pe_tup (pa_cons (pe_str) (pa_cons (pe_ofE T.EBadName (f := "name") (by decide) hz hf (pv 2)) pa_nil)))))
(.cons ⟨rfl, by decide, .inl T.EBadText.gC⟩ (i := 2) rfl rfl (fun a oe cls d pn hz hf => pss_one (ps_ret (pe_tup (pa_cons (pe_str) (pa_cons (pe_ofE T.EBadText (f := "line") (by decide) hz hf (pv 2)) (pa_cons (pe_ofE T.EBadText (f := "column") (by decide) hz hf (pv 2)) pa_nil))))))
(.nil))))
(pss_one (ps_ret (pe_non))), ?_⟩
      walk_at "z0"
      walk_at "zz"
      rcases hx with ⟨z, rfl, hz, ez⟩ | ho
      · refine .inl ⟨z, rfl, hz, .inr ⟨ez, fun d H1 hd s1 h1 => ?_⟩⟩
        refine z_takes T.x_BadName_BadName fun a ha => ?_
        dsimp only [endsAt]
        walk_at "zz"
        refine z_kOfE (v := .str z) h1 (by simp [List.lookup]) ?_
        walk_at "zz"
        refine z_kTup (by show 2 ≤ sizeLine; decide) fun p H2 hp s2 h2 => ?_
        walk_at "zz"
        exact k p H2 (s1.trans s2) h2
      · refine .inr ⟨x, rfl, ho, fun d H1 hd s1 h1 => ?_⟩
        refine z_takes T.x_BadName_BadName fun a ha => ?_
        dsimp only [endsAt]
        walk_at "zz"
        refine z_kOfE (v := x) h1 (by simp [List.lookup]) ?_
        walk_at "zz"
        refine z_kTup (by show 2 ≤ sizeLine; decide) fun p H2 hp s2 h2 => ?_
        walk_at "zz"
        exact k p H2 (s1.trans s2) h2
    · refine ⟨_, pss_cons (ps_clauses rfl rfl screfusal.nd takes0 (fun W pn xe tk _ => pss_one (ps_expr (pe_callP Glinesin hrlinesin (i := 0) rfl (Or.inl rfl) T.Dlinesin.F.kp T.Dlinesin.b (fun σ => passAt tk σ) (pa_cons (pv 1) pa_nil))))
(.cons ⟨rfl, by decide, .inl T.EBadName.gC⟩ (i := 2) rfl rfl (fun a oe cls d pn hz hf => pss_one (ps_ret (pe_tup (pa_cons (pe_str) (pa_cons (pe_ofE T.EBadName (f := "name") (by decide) hz hf (pv 2)) pa_nil)))))
(.cons ⟨rfl, by decide, .inl T.EBadText.gC⟩ (i := 2) rfl rfl (fun a oe cls d pn hz hf => pss_one (ps_ret (pe_tup (pa_cons (pe_str) (pa_cons (pe_ofE T.EBadText (f := "line") (by decide) hz hf (pv 2)) (pa_cons (pe_ofE T.EBadText (f := "column") (by decide) hz hf (pv 2)) pa_nil))))))
(.nil))))
(pss_one (ps_ret (pe_non))), ?_⟩
      walk_at "z0"
      walk_at "zz"
      refine .inr ⟨x, rfl, ho, fun d H1 hd s1 h1 => ?_⟩
      refine z_passes T.x_BadText_BadName ?_
      refine z_takes T.x_BadText_BadText fun a ha => ?_
      dsimp only [endsAt]
      walk_at "zz"
      refine z_kOfE (v := .int 0) h1 lk_line ?_
      walk_at "zz"
      refine z_kOfE (v := .int 0) h1 lk_column ?_
      walk_at "zz"
      refine z_kTup (by show 3 ≤ sizeLine; decide) fun p H2 hp s2 h2 => ?_
      walk_at "zz"
      exact k p H2 (s1.trans s2) h2
def spWR (K : PySem.W.Frag) : Sp := fun vs H Q _ => ∃ (a : Addr) (ys : List Str), vs = [.ref a] ∧ SqL K H a (ys.map V.str) ∧ (∀ y ∈ ys, okS 2000 y) ∧ ∀ H', Same H H' → Q (.bl true) H'
theorem ok_wordsright (T : Tx P K mg) : FnOk P w K mg base CX0 7 T.awordsright T.fdwordsright ["_law_words"] (spWR K) := by
  have Gparent : FnOk P w K mg base (L2.CX P w) 5 T.aparent T.fdparent ["line"] (spParent K T.CBadName) := ok_parent T
  have Gline : FnOk P w K mg base CX0 4 T.aline T.fdline ["word"] (spLine K) := ok_line T
  have Glline : FnOk P w K mg base CX0 3 T.alline T.fdlline ["_law_word"] spLLine := ok_lline T
  have Grefusal : FnOk P w K mg base CX0 6 T.arefusal T.fdrefusal ["_law_call", "_law_odd"] (spRefusal K T.aparent T.alinesin) := ok_refusal T
  refine T.Dwordsright.F.ok scwordsright (fun vs H Q E h => ?_) (fun cdv A outer s H vs Q E hr h => ?_)
  · obtain ⟨a, ys, rfl, _⟩ := h
    rfl
  · obtain ⟨a, ys, rfl, hs, hy, k⟩ := h
    have hrparent := hr.mono (j := 5) (by decide)
    have hrline := hr.mono (j := 4) (by decide)
    have hrlline := hr.mono (j := 3) (by decide)
    have hrrefusal := hr
    refine ⟨_, pss_cons (ps_for PassesOwn.never rfl (pi_list (pv 0)) (pg_name (i := 1) scwordsright.nd rfl (Or.inl rfl))
(pss_cons (ps_set (i := 2) scwordsright.nd rfl (Or.inl rfl) (pe_callN T.Dlline Glline hrlline pass0 (pa_cons (pv 1) pa_nil)))
(pss_cons (ps_if (pt_cut (PW.pt (pw_or (pt_not (pt_val (pe_callB call_isi (by rfl) T.n_isinstance (by decide +kernel) (pa_cons (pe_callN T.Dline Gline hrline pass0 (pa_cons (pv 1) pa_nil)) (pa_cons (pe_bltn (v := .ty "bool") rfl T.n_bool (by decide +kernel) rfl) pa_nil))))) (pw_or1 (pt_cmpR op_ne (pe_callN T.Dline Gline hrline pass0 (pa_cons (pv 1) pa_nil)) (pv 2) (nomark _))))))
(pss_one (ps_ret (pe_bl)))
(pss_nil))
(pss_one (ps_if (pt_not (pt_val (pv 2)))
(pss_one (ps_if (pt_cmpR (op_neD hr.units) (pe_callN T.Drefusal Grefusal hrrefusal pass0 (pa_cons (pe_glob rfl T.Dparent.g rel_ref) (pa_cons (pv 1) pa_nil))) (pe_tup (pa_cons (pe_str) (pa_cons (pv 1) pa_nil))) (nomark _))
(pss_one (ps_ret (pe_bl)))
(pss_nil)))
(pss_cons (ps_set (i := 3) scwordsright.nd rfl (Or.inl rfl) (pe_splitN (pv 1) (pe_str)))
(pss_one (ps_if (pt_cmpR op_ne (pe_callN T.Dparent Gparent hrparent passF (pa_cons (pv 1) pa_nil)) (pe_cut (pe_ifExp (pt_cmpR op_eq (pe_callB call_lenL (by rfl) T.n_len (by decide +kernel) (pa_cons (pv 3) pa_nil)) (pe_int) (nomark _)) (pe_non) (pe_joinN (pe_str) (pe_slice sl_list (pv 3) po_none (po_some (pe_op op_sub (pe_callB call_lenL (by rfl) T.n_len (by decide +kernel) (pa_cons (pv 3) pa_nil)) (pe_int))))))) (nomark _))
(pss_one (ps_ret (pe_bl)))
(pss_nil)))))))))
(pss_one (ps_ret (pe_bl))), ?_⟩
    walk_at "z0"
    walk_at "zz"
    refine z_kIL hs (f_list (K := K) (a := a) (xs := ys.map V.str) (fun i σ' H' => ∃ v1 v2 v3 : Option V, σ' = [some (.ref a), v1, v2, v3] ∧ Same H H') ⟨_, _, _, rfl, Same.refl _⟩ (fun i σ' H' ⟨_, _, _, _, s⟩ => s.seq hs) ?_ ?_)
    · rintro i x σ' H1 hx ⟨v1, v2, v3, rfl, s1⟩
      obtain ⟨z, hz, rfl⟩ : ∃ z, ys[i]? = some z ∧ x = V.str z := by
        rw [List.getElem?_map] at hx
        cases e : ys[i]? with
        | none => rw [e] at hx; cases hx
        | some z => rw [e] at hx; exact ⟨z, rfl, (Option.some.inj hx).symm⟩
      have oz := hy z (List.mem_of_getElem? hz)
      have ozl := oz.1
      walk_at "zz"
      refine ⟨z, rfl, by omega, fun b H2 eb s2 => ?_⟩
      subst eb
      walk_at "zz"
      refine z_cutB false ?_ fun H3 s3 => ?_
      · walk_at "zz"
        refine .inl ⟨z, rfl, by omega, fun b H3 eb s3 => ?_⟩
        walk_at "zz"
        refine z_isi (.ty "bool") (.base (.bl b)) (kit_ty (by decide +kernel) : PySem.W.kitOne K (.type "bool") (.type "bool") = some true) ?_
        walk_at "zz"
        refine .inl ⟨z, rfl, by omega, fun b2 H4 eb2 s4 => ?_⟩
        subst eb2
        walk_at "zz"
        refine z_ne rfl ?_
        walk_at "zz"
        exact ⟨by simp, s3.trans s4⟩
      refine iteF ?_
      walk_at "zz"
      refine z_ite (fun e => ?_) (fun e => ?_)
      · have e := not_t e
        walk_at "zz"
        refine .inl ⟨.str z, rfl, .inl ⟨z, rfl, by omega, e⟩, fun p H4 s4 h4 => ?_⟩
        walk_at "zz"
        refine z_kTup (by show 2 ≤ sizeLine; decide) fun q H5 hq s5 h5 => ?_
        walk_at "zz"
        refine z_neD (d := .tuple [.str "name", .str z]) (.tup (SqT.of (s5 _ _ h4)) (.cons (.str _) (.cons (.str _) .nil))) (.tup (SqT.of h5) (.cons (.str _) (.cons (.str _) .nil))) (shaped_name oz.2) (shaped_name oz.2) ?_
        rw [eqv_refl_shaped (shaped_name oz.2)]
        walk_at "zz"
        exact ⟨_, _, _, rfl, (((s1.trans s2).trans s3).trans s4).trans s5⟩
      · have e := not_f e
        walk_at "zz"
        refine z_split (by decide +kernel) (line_ge (by omega)) fun p H4 hp s4 h4 => ?_
        walk_at "zz"
        refine .inl ⟨z, rfl, by omega, .inl ⟨e, fun H5 s5 => ?_⟩⟩
        have h5 := s5 _ _ h4
        refine z_cutE (fun v H6 => Same H5 H6 ∧ v = parV z) ?_ ?_
        · walk_at "zz"
          refine z_lenL (SqL.of h5) ?_
          walk_at "zz"
          rw [List.length_map]
          refine z_ite (fun e2 => ?_) (fun e2 => ?_)
          · have e2 := of_decide_eq_true e2
            walk_at "zz"
            refine ⟨Same.refl _, ?_⟩
            unfold parV
            rw [if_pos (by omega)]
          · have e2 := of_decide_eq_false e2
            walk_at "zz"
            refine z_lenL (SqL.of h5) ?_
            walk_at "zz"
            refine z_slL (SqL.of h5) fun q H6 hq s6 h6 => ?_
            walk_at "zz"
            have hps := PyProof.Rows.split_pos z "."
            have hsl := PyProof.Rows.split_le z "."
            have ecut : cutL (Txt.split z ".") none (some (((((Txt.split z ".").map V.str).length : Nat) : Int) - 2)) = (Txt.split z ".").take ((Txt.split z ".").length - 2) := by
              rw [List.length_map]
              by_cases h2 : 2 ≤ (Txt.split z ".").length
              · rw [show (((Txt.split z ".").length : Nat) : Int) - 2 = (((Txt.split z ".").length - 2 : Nat) : Int) by omega, cutL_to]
              · have h1 : (Txt.split z ".").length = 1 := by omega
                rw [h1, show ((1 : Nat) : Int) - 2 = -((1 : Nat) : Int) by decide, cutL_neg _ _ (by decide), h1]
            rw [cutV_strs, ecut] at h6
            refine z_join (SqL.of h6) ?_ ?_
            · have q1 := split_sum z "."
              have q2 := sum_take ((Txt.split z ".").map (·.length)) ((Txt.split z ".").length - 2)
              have q3 : (".": Str).length = 1 := by decide +kernel
              rw [List.map_take, q3, List.length_take]
              omega
            · refine ⟨s6, ?_⟩
              unfold parV
              rw [if_neg (by omega)]
        · rintro v H6 ⟨s6, rfl⟩
          refine z_ne (scal_parV z) ?_
          rw [decide_eq_true rfl]
          walk_at "zz"
          exact ⟨_, _, _, rfl, ((((s1.trans s2).trans s3).trans s4).trans s5).trans s6⟩
    · rintro σ' H1 ⟨v1, v2, v3, rfl, s1⟩
      walk_at "zz"
      exact k H1 s1
def spOR (K : PySem.W.Frag) : Sp := fun vs H Q _ => ∃ (d c : Addr) (m : Nat), vs = [.ref d] ∧ Pen K H d c (m + 1) ∧ ∀ H', But d H H' → Pen K H' d c m → Q (.bl true) H'
theorem ok_oddright (T : Tx P K mg) : FnOk P w K mg base CX0 7 T.aoddright T.fdoddright ["_law_pen_here"] (spOR K) := by
  have Gpick : FnOk P w K mg base CX0 2 T.apick T.fdpick ["_law_pen_here", "_law_some"] (spPick K) := ok_pick T
  have Gline : FnOk P w K mg base CX0 4 T.aline T.fdline ["word"] (spLine K) := ok_line T
  have Grefusal : FnOk P w K mg base CX0 6 T.arefusal T.fdrefusal ["_law_call", "_law_odd"] (spRefusal K T.aparent T.alinesin) := ok_refusal T
  refine T.Doddright.F.ok scoddright (fun vs H Q E h => ?_) (fun cdv A outer s H vs Q E hr h => ?_)
  · obtain ⟨d, c, m, rfl, _⟩ := h
    rfl
  · obtain ⟨d, c, m, rfl, hp, k⟩ := h
    have hrpick := hr.mono (j := 2) (by decide)
    have hrline := hr.mono (j := 4) (by decide)
    have hrrefusal := hr
    refine ⟨_, pss_cons (ps_set (i := 1) scoddright.nd rfl (Or.inl rfl) (pe_callN T.Dpick Gpick hrpick pass0 (pa_cons (pv 0) (pa_cons (pe_lst (pa_cons (pe_non) (pa_cons (pe_int) (pa_cons (pe_bl) (pa_cons (pe_tup (pa_cons (pe_str) pa_nil)) (pa_cons (pe_lst (pa_cons (pe_str) pa_nil)) pa_nil)))))) pa_nil))))
(pss_cons (ps_if (pt_cut (PW.pt (pw_or (pt_cmpR op_notBl (pe_callN T.Dline Gline hrline pass0 (pa_cons (pv 1) pa_nil)) (pe_bl) (nomark _)) (pw_or1 (pt_cmpR (op_neD hr.units) (pe_callN T.Drefusal Grefusal hrrefusal pass0 (pa_cons (pe_glob rfl T.Dparent.g rel_ref) (pa_cons (pv 1) pa_nil))) (pe_tup (pa_cons (pe_str) (pa_cons (pv 1) pa_nil))) (nomark _))))))
(pss_one (ps_ret (pe_bl)))
(pss_nil))
(pss_one (ps_ret (pe_cmpR (op_eqD hr.units) (pe_callN T.Drefusal Grefusal hrrefusal pass0 (pa_cons (pe_glob rfl T.Dlinesin.g rel_ref) (pa_cons (pv 1) pa_nil))) (pe_tup (pa_cons (pe_str) (pa_cons (pe_int) (pa_cons (pe_int) pa_nil)))) (nomark _))))), ?_⟩
    walk_at "z0"
    walk_at "zz"
    refine z_kTup (by show 1 ≤ sizeLine; decide) fun q1 H1 hq1 s1 h1 => ?_
    walk_at "zz"
    refine z_kLst (by show 1 ≤ sizeLine; decide) fun q2 H2 hq2 s2 h2 => ?_
    walk_at "zz"
    refine z_kLst (by show 5 ≤ sizeLine; decide) fun q3 H3 hq3 s3 h3 => ?_
    walk_at "zz"
    have p3 := ((hp.same s1).same s2).same s3
    refine ⟨d, c, q3, m, _, rfl, p3, SqL.of h3, by simp, by simp, fun v H4 hv b4 p4 => ?_⟩
    have n1 : q1 ≠ d := hp.ne hq1
    have n2 : q2 ≠ d := (hp.same s1).ne hq2
    have ov : OddI H4 v := by
      simp only [List.mem_cons, List.not_mem_nil, or_false] at hv
      rcases hv with q | q | q | q | q
      · exact .inl q
      · exact .inr (.inl q)
      · exact .inr (.inr (.inl q))
      · exact .inr (.inr (.inr (.inl ⟨q1, q, b4 _ _ n1 (s3 _ _ (s2 _ _ h1))⟩)))
      · exact .inr (.inr (.inr (.inr ⟨q2, q, b4 _ _ n2 (s3 _ _ h2)⟩)))
    walk_at "zz"
    refine z_cutB false ?_ fun H5 s5 => ?_
    · walk_at "zz"
      refine .inr ⟨v, rfl, ov.odd, fun H5 s5 => ?_⟩
      walk_at "zz"
      rw [show (!decide (false = false)) = false from rfl]
      refine iteF ?_
      walk_at "zz"
      refine .inl ⟨v, rfl, .inr (ov.same s5).odd, fun p H6 s6 h6 => ?_⟩
      walk_at "zz"
      refine z_kTup (by show 2 ≤ sizeLine; decide) fun q H7 hq s7 h7 => ?_
      walk_at "zz"
      obtain ⟨dd, hd, hsh⟩ := (((ov.same s5).same s6).same s7).data (K := K)
      refine z_neD (d := .tuple [.str "name", dd]) (.tup (SqT.of (s7 _ _ h6)) (.cons (.str _) (.cons hd .nil))) (.tup (SqT.of h7) (.cons (.str _) (.cons hd .nil))) hsh hsh ?_
      rw [eqv_refl_shaped hsh]
      walk_at "zz"
      exact ⟨rfl, (s5.trans s6).trans s7⟩
    refine iteF ?_
    walk_at "zz"
    refine .inr ⟨v, rfl, (ov.same s5).odd, fun p H6 s6 h6 => ?_⟩
    walk_at "zz"
    refine z_kTup (by show 3 ≤ sizeLine; decide) fun q H7 hq s7 h7 => ?_
    walk_at "zz"
    have hsh : SeqAt.shaped (.tuple [.str "text", .int 0, .int 0]) = true := by decide +kernel
    refine z_eqD (d := .tuple [.str "text", .int 0, .int 0]) (.tup (SqT.of (s7 _ _ h6)) (.cons (.str _) (.cons (.int _) (.cons (.int _) .nil)))) (.tup (SqT.of h7) (.cons (.str _) (.cons (.int _) (.cons (.int _) .nil)))) hsh hsh ?_
    rw [eqv_refl_shaped hsh]
    walk_at "zz"
    exact k H7 ((same_but s1).trans ((same_but s2).trans ((same_but s3).trans (b4.trans ((same_but s5).trans ((same_but s6).trans (same_but s7))))))) (((p4.same s5).same s6).same s7)
end
end K40

namespace K40
open PySem PySem.Spec PyProof.Rows L2 Nm
theorem strs_P {Pz : Str → Prop} : ∀ {ys : List V}, (∀ y ∈ ys, ∃ z : Str, y = .str z ∧ Pz z) → ∃ zs : List Str, ys = zs.map V.str ∧ ∀ z ∈ zs, Pz z
  | [], _ => ⟨[], rfl, fun _ h => by cases h⟩
  | y :: ys, h => by
    obtain ⟨z, rfl, oz⟩ := h y (by simp)
    obtain ⟨zs, rfl, ozs⟩ := strs_P (ys := ys) fun x hx => h x (by simp [hx])
    refine ⟨z :: zs, rfl, fun x hx => ?_⟩
    rcases List.mem_cons.mp hx with q | q
    · rw [q]; exact oz
    · exact ozs x q
theorem all_strs {n : Nat} {zs : List Str} (h : ∀ z ∈ zs, okS n z) : (zs.map V.str).all (okV n) = true := by
  rw [List.all_map, List.all_eq_true]
  intro z hz
  exact okV_str (h z hz)
theorem mem_join {b p : Str} {c : Nat} : ∀ {ys : List Str}, p ∈ ys → c ∈ tl p → c ∈ tl (Str.join b ys)
  | [x], hp, hc => by
    rw [List.mem_singleton.mp hp] at hc
    exact hc
  | x :: y :: r, hp, hc => by
    show c ∈ tl (x ++ b ++ Str.join b (y :: r))
    rw [tl_app, tl_app]
    rcases List.mem_cons.mp hp with q | q
    · rw [q] at hc
      exact List.mem_append_left _ (List.mem_append_left _ hc)
    · exact List.mem_append_right _ (mem_join q hc)
theorem split_ok {z b p : Str} (h : PyData.strOk z = true) (hp : p ∈ Txt.split z b) : PyData.strOk p = true := strOk_iff.mpr fun c hc => by
  have q := mem_join (b := b) hp hc
  rw [StrLaws.join_split] at q
  exact strOk_iff.mp h c q
theorem once_mem {x : Str} : ∀ {l acc : List Str}, x ∈ once acc l → x ∈ acc ∨ x ∈ l
  | [], acc, h => .inl h
  | z :: r, acc, h => by
    rcases once_mem (l := r) h with q | q
    · by_cases m : z ∈ acc
      · rw [if_pos m] at q
        exact .inl q
      · rw [if_neg m] at q
        rcases List.mem_append.mp q with q | q
        · exact .inl q
        · rw [List.mem_singleton.mp q]
          exact .inr (by simp)
    · exact .inr (by simp [q])
theorem lines_shaped {z : Str} (h : PyData.strOk z = true) : SeqAt.shaped (.tuple ((linesIn z).map PyData.str)) = true := by
  refine shaped_tup (n := 0) (by decide) fun d hd => ?_
  obtain ⟨x, hx, rfl⟩ := List.mem_map.mp hd
  refine ⟨?_, Nat.le_refl _⟩
  rcases once_mem hx with q | q
  · cases q
  · exact split_ok h (List.mem_of_mem_take (List.mem_filter.mp q).1)
theorem dps_strs {K : PySem.W.Frag} {H : Hp} : ∀ (l : List Str), DpAll K H (l.map V.str) (l.map PyData.str)
  | [] => .nil
  | z :: l => .cons (.str z) (dps_strs l)
theorem okS_log {zs : List Str} {n k : Nat} (hl : zs.length ≤ k) (h : ∀ z ∈ zs, okS n z) : okS (k * (n + 1)) (logText zs) := by
  have on : okS 1 "\n" := ⟨by decide +kernel, by decide +kernel⟩
  refine okS_join (by rw [List.length_map]; exact hl) fun z hz => ?_
  obtain ⟨y, hy, rfl⟩ := List.mem_map.mp hz
  exact okS_app (h y hy) on
section
variable {P : Program} {w : World} {K : PySem.W.Frag} {mg : Str → Option Value} {base : Heap}
def spLaw (K : PySem.W.Frag) : Sp := fun vs H Q _ => ∃ (a : Addr) (ns : List Int), vs = [.ref a] ∧ SqL K H a (ns.map V.int) ∧ ∀ H', Q (.bl true) H'
theorem ok_law (T : Tx P K mg) : FnOk P w K mg base CX0 8 T.alaw T.fdlaw ["_law_script"] (spLaw K) := by
  have Gpen : FnOk P w K mg base CX0 1 T.apen T.fdpen ["_law_script"] (spPen K) := ok_pen T
  have Gdraw : FnOk P w K mg base CX0 1 T.adraw T.fddraw ["_law_pen_here", "_law_many"] (spDraw K) := ok_draw T
  have Gpick : FnOk P w K mg base CX0 2 T.apick T.fdpick ["_law_pen_here", "_law_some"] (spPick K) := ok_pick T
  have Gsomeline : FnOk P w K mg base CX0 3 T.asomeline T.fdsomeline ["_law_pen_here"] (spSomeL K) := ok_someline T
  have Gspoilt : FnOk P w K mg base CX0 3 T.aspoilt T.fdspoilt ["_law_pen_here", "_law_line"] (spSpoilt K) := ok_spoilt T
  have Gbent : FnOk P w K mg base CX0 3 T.abent T.fdbent ["_law_pen_here", "_law_line"] (spBent K) := ok_bent T
  have Gwordsright : FnOk P w K mg base CX0 7 T.awordsright T.fdwordsright ["_law_words"] (spWR K) := ok_wordsright T
  have Goddright : FnOk P w K mg base CX0 7 T.aoddright T.fdoddright ["_law_pen_here"] (spOR K) := ok_oddright T
  have Glogtext : FnOk P w K mg base CX0 1 T.alogtext T.fdlogtext ["lines"] (spLog K) := ok_logtext T
  have Glinesin : FnOk P w K mg base (L2.CX P w) 5 T.alinesin T.fdlinesin ["text"] (spLinesIn K T.CBadText) := ok_linesin T
  have Gllinesin : FnOk P w K mg base CX0 4 T.allinesin T.fdllinesin ["_law_text"] spLLinesIn := ok_llinesin T
  have Gappended : FnOk P w K mg base CX0 2 T.aappended T.fdappended ["text", "lines"] (spApp K) := ok_appended T
  have Glappended : FnOk P w K mg base CX0 2 T.alappended T.fdlappended ["_law_text", "_law_lines"] (spApp K) := ok_lappended T
  refine T.Dlaw.F.ok sclaw (fun vs H Q E h => ?_) (fun cdv A outer s H vs Q E hr h => ?_)
  · obtain ⟨a, ns, rfl, _⟩ := h
    rfl
  · obtain ⟨a, ns, rfl, hS, k⟩ := h
    have hrpen := hr.mono (j := 1) (by decide)
    have hrdraw := hr.mono (j := 1) (by decide)
    have hrpick := hr.mono (j := 2) (by decide)
    have hrsomeline := hr.mono (j := 3) (by decide)
    have hrspoilt := hr.mono (j := 3) (by decide)
    have hrbent := hr.mono (j := 3) (by decide)
    have hrwordsright := hr
    have hroddright := hr
    have hrlogtext := hr.mono (j := 1) (by decide)
    have hrlinesin := hr.mono (j := 5) (by decide)
    have hrllinesin := hr.mono (j := 4) (by decide)
    have hrappended := hr.mono (j := 2) (by decide)
    have hrlappended := hr.mono (j := 2) (by decide)
    refine ⟨_, pss_cons (ps_set (i := 1) sclaw.nd rfl (Or.inr rfl) (pe_callN T.Dpen Gpen hrpen pass0 (pa_cons (pv 0) pa_nil)))
(pss_cons (ps_set (i := 2) sclaw.nd rfl (Or.inr rfl) (pe_lc (own := [("_law_k", 8)]) rfl sclaw.nd (pi_range1 rfl T.n_range (pa_cons (pe_op op_add (pe_int) (pe_callN T.Ddraw Gdraw hrdraw pass0 (pa_cons (pv 1) (pa_cons (pe_int) pa_nil)))) pa_nil)) (blkOk_by (own := [("_law_k", 8)]) (N := ["_law_script", "_law_pen_here", "_law_lines", "_law_words", "_law_some", "_law_text", "_law_more", "_law_longer", "_law_k", "_law_word"]) (sc := defScope slaw) (by decide +kernel)) (fun _ _ _ _ _ => pg_name (i := 8) sclaw.nd rfl (Or.inl rfl)) (fun _ _ _ _ _ => pts_nil) (fun _ _ _ _ _ => pe_callN T.Dsomeline Gsomeline hrsomeline pass0 (pa_cons (pv 1) pa_nil))))
(pss_cons (ps_set (i := 3) sclaw.nd rfl (Or.inr rfl) (pe_op op_catL (pv 2) (pe_lc (own := [("_law_k", 8)]) rfl sclaw.nd (pi_range1 rfl T.n_range (pa_cons (pe_int) pa_nil)) (blkOk_by (own := [("_law_k", 8)]) (N := ["_law_script", "_law_pen_here", "_law_lines", "_law_words", "_law_some", "_law_text", "_law_more", "_law_longer", "_law_k", "_law_word"]) (sc := defScope slaw) (by decide +kernel)) (fun _ _ _ _ _ => pg_name (i := 8) sclaw.nd rfl (Or.inl rfl)) (fun _ _ _ _ _ => pts_nil) (fun _ _ _ _ _ => pe_callN T.Dspoilt Gspoilt hrspoilt pass0 (pa_cons (pv 1) (pa_cons (pe_callN T.Dpick Gpick hrpick pass0 (pa_cons (pv 1) (pa_cons (pv 2) pa_nil))) pa_nil))))))
(pss_cons (ps_set (i := 3) sclaw.nd rfl (Or.inr rfl) (pe_op op_catL (pv 3) (pe_lc (own := [("_law_k", 8)]) rfl sclaw.nd (pi_range1 rfl T.n_range (pa_cons (pe_int) pa_nil)) (blkOk_by (own := [("_law_k", 8)]) (N := ["_law_script", "_law_pen_here", "_law_lines", "_law_words", "_law_some", "_law_text", "_law_more", "_law_longer", "_law_k", "_law_word"]) (sc := defScope slaw) (by decide +kernel)) (fun _ _ _ _ _ => pg_name (i := 8) sclaw.nd rfl (Or.inl rfl)) (fun _ _ _ _ _ => pts_nil) (fun _ _ _ _ _ => pe_callN T.Dbent Gbent hrbent pass0 (pa_cons (pv 1) (pa_cons (pe_ix (by exact ix_list : IxR _ (rIxL K)) (pv 2) (pe_int) (fun _ _ => rfl)) pa_nil))))))
(pss_cons (ps_if (pt_cut (PW.pt (pw_or (pt_not (pt_val (pe_callN T.Dwordsright Gwordsright hrwordsright pass0 (pa_cons (pe_op op_catL (pv 3) (pe_lst (pa_cons (pe_str) (pa_cons (pe_str) (pa_cons (pe_str) (pa_cons (pe_str) (pa_cons (pe_str) (pa_cons (pe_str) pa_nil)))))))) pa_nil)))) (pw_or1 (pt_not (pt_val (pe_callN T.Doddright Goddright hroddright pass0 (pa_cons (pv 1) pa_nil))))))))
(pss_one (ps_ret (pe_bl)))
(pss_nil))
(pss_cons (ps_setLc (i := 4) (own := [("_law_k", 8)]) rfl sclaw.nd rfl rfl (sw_true rfl rfl rfl (by decide +kernel)) (pi_range1 rfl T.n_range (pa_cons (pe_callN T.Ddraw Gdraw hrdraw pass0 (pa_cons (pv 1) (pa_cons (pe_int) pa_nil))) pa_nil)) (blkOk_by (own := [("_law_k", 8)]) (N := ["_law_script", "_law_pen_here", "_law_lines", "_law_words", "_law_some", "_law_text", "_law_more", "_law_longer", "_law_k", "_law_word"]) (sc := defScope slaw) (by decide +kernel)) (fun _ _ _ _ _ => pg_name (i := 8) sclaw.nd rfl (Or.inl rfl)) (fun _ _ _ _ _ => pts_nil) (fun _ _ _ _ _ => pe_callN T.Dpick Gpick hrpick pass0 (pa_cons (pv 1) (pa_cons (pe_op op_catL (pe_op op_catL (pv 3) (pv 2)) (pe_lst (pa_cons (pe_str) pa_nil))) pa_nil))))
(pss_cons (ps_set (i := 5) sclaw.nd rfl (Or.inl rfl) (pe_joinN (pe_str) (pe_lc (own := [("_law_word", 9)]) rfl sclaw.nd (pi_list (pv 4)) (blkOk_by (own := [("_law_word", 9)]) (N := ["_law_script", "_law_pen_here", "_law_lines", "_law_words", "_law_some", "_law_text", "_law_more", "_law_longer", "_law_k", "_law_word"]) (sc := defScope slaw) (by decide +kernel)) (fun _ _ _ _ _ => pg_name (i := 9) sclaw.nd rfl (Or.inl rfl)) (fun _ _ _ _ _ => pts_nil) (fun _ _ _ _ _ => pe_op op_addS (pv 9) (pe_str)))))
(pss_cons (ps_if (pt_cmpR op_ne (pe_callN T.Dlogtext Glogtext hrlogtext pass0 (pa_cons (pv 4) pa_nil)) (pv 5) (nomark _))
(pss_one (ps_ret (pe_bl)))
(pss_nil))
(pss_cons (ps_set (i := 5) sclaw.nd rfl (Or.inl rfl) (pe_slice sl_str (pv 5) po_none (po_some (pe_op op_sub (pe_callB call_lenS (by rfl) T.n_len (by decide +kernel) (pa_cons (pv 5) pa_nil)) (pe_op op_mul (pe_callN T.Ddraw Gdraw hrdraw pass0 (pa_cons (pv 1) (pa_cons (pe_int) pa_nil))) (pe_callN T.Ddraw Gdraw hrdraw pass0 (pa_cons (pv 1) (pa_cons (pe_op op_add (pe_callB call_lenS (by rfl) T.n_len (by decide +kernel) (pa_cons (pv 5) pa_nil)) (pe_int)) pa_nil))))))))
(pss_cons (ps_if (pt_cmpR (op_neD hr.units) (pe_callN T.Dlinesin Glinesin hrlinesin passF (pa_cons (pv 5) pa_nil)) (pe_callTy call_tupleOf (by rfl) T.n_tuple (by decide +kernel) (pa_cons (pe_callN T.Dllinesin Gllinesin hrllinesin pass0 (pa_cons (pv 5) pa_nil)) pa_nil)) (nomark _))
(pss_one (ps_ret (pe_bl)))
(pss_nil))
(pss_cons (ps_setLc (i := 6) (own := [("_law_k", 8)]) rfl sclaw.nd rfl rfl (sw_true rfl rfl rfl (by decide +kernel)) (pi_range1 rfl T.n_range (pa_cons (pe_callN T.Ddraw Gdraw hrdraw pass0 (pa_cons (pv 1) (pa_cons (pe_int) pa_nil))) pa_nil)) (blkOk_by (own := [("_law_k", 8)]) (N := ["_law_script", "_law_pen_here", "_law_lines", "_law_words", "_law_some", "_law_text", "_law_more", "_law_longer", "_law_k", "_law_word"]) (sc := defScope slaw) (by decide +kernel)) (fun _ _ _ _ _ => pg_name (i := 8) sclaw.nd rfl (Or.inl rfl)) (fun _ _ _ _ _ => pts_nil) (fun _ _ _ _ _ => pe_callN T.Dpick Gpick hrpick pass0 (pa_cons (pv 1) (pa_cons (pv 2) pa_nil))))
(pss_cons (ps_set (i := 7) sclaw.nd rfl (Or.inl rfl) (pe_callN T.Dappended Gappended hrappended pass0 (pa_cons (pv 5) (pa_cons (pv 6) pa_nil))))
(pss_cons (ps_if (pt_cmpR op_ne (pv 7) (pe_callN T.Dlappended Glappended hrlappended pass0 (pa_cons (pv 5) (pa_cons (pv 6) pa_nil))) (nomark _))
(pss_one (ps_ret (pe_bl)))
(pss_nil))
(pss_one (ps_ret (pe_cmpR (op_eqD hr.units) (pe_callN T.Dlinesin Glinesin hrlinesin passF (pa_cons (pv 7) pa_nil)) (pe_callTy call_tupleOf (by rfl) T.n_tuple (by decide +kernel) (pa_cons (pe_callN T.Dllinesin Gllinesin hrllinesin pass0 (pa_cons (pv 7) pa_nil)) pa_nil)) (nomark _)))))))))))))))), ?_⟩
    walk_at "z0"
    walk_at "zz"
    refine ⟨a, ns, rfl, hS, fun d c H1 hd s1 p1 => ?_⟩
    walk_at "zz"
    refine use_draw (m := 99999999) (p1.less (by omega)) (by decide) (by decide) fun r H2 r0 r1 b2 p2 => ?_
    walk_at "zz"
    refine z_kIR1 (by omega) (by omega) ?_
    refine l_draw (d := d) (c := c) (m := 99990000) 60 (fun v => ∃ z : Str, v = .str z ∧ (okS 700 z ∧ 1 ≤ z.length)) (by omega) (p2.less (by omega)) (fun i H3 j hi b3 p3 Q' k' => ?_) fun D H3 ys hD b3 p3 hl hys h3 => ?_
    · walk_at "zz"
      refine ⟨d, c, j, rfl, p3, fun x H4 ox x1 b4 p4 => ?_⟩
      exact k' _ H4 ⟨x, rfl, ox, x1⟩ b4 p4
    obtain ⟨ls, rfl, ols⟩ := strs_P hys
    rw [List.length_map] at hl
    have nD : D ≠ d := p2.ne hD
    have ls4 : ls.length ≤ 4 := by omega
    have ls2 : 2 ≤ ls.length := by omega
    walk_at "zz"
    refine z_kIR1 (by decide) (by decide) ?_
    refine l_draw (d := d) (c := c) (m := 99980000) 4 (fun v => ∃ z : Str, v = .str z ∧ okS 2000 z) (by decide) (p3.less (by omega)) (fun i H4 j hi b4 p4 Q' k' => ?_) fun D2 H4 ys2 hD2 b4 p4 hl2 hys2 h4 => ?_
    · have h4 := b4 _ _ nD h3
      walk_at "zz"
      refine ⟨d, c, D, j + 3, _, rfl, p4, SqL.of h4, ?_, ?_, fun v H5 hv b5 p5 => ?_⟩
      · intro q
        have := congrArg List.length q
        rw [List.length_map] at this
        simp only [List.length_nil] at this
        omega
      · rw [List.length_map]
        omega
      obtain ⟨z, hz, rfl⟩ := List.mem_map.mp hv
      obtain ⟨oz, z1⟩ := ols z hz
      walk_at "zz"
      refine ⟨d, c, j, z, rfl, p5, oz.le (by decide), z1, fun x H6 ox b6 p6 => ?_⟩
      exact k' _ H6 ⟨x, rfl, ox⟩ (b5.trans b6) p6
    obtain ⟨sp, rfl, osp⟩ := strs_P hys2
    rw [List.length_map] at hl2
    have hn6 : (6 : Int).toNat = 6 := rfl
    have sp6 : sp.length = 6 := by omega
    have h34 := b4 _ _ nD h3
    walk_at "zz"
    refine z_catL h34 h4 (by rw [List.length_map, List.length_map, sizeLine_eq]; omega) fun q5 H5 hq5 s5 h5 => ?_
    rw [← List.map_append] at h5
    walk_at "zz"
    refine z_kIR1 (by decide) (by decide) ?_
    have p5 := p4.same s5
    have nq5 : q5 ≠ d := p4.ne hq5
    have h35 := s5 _ _ h34
    refine l_draw (d := d) (c := c) (m := 99970000) 3 (fun v => ∃ z : Str, v = .str z ∧ okS 2000 z) (by decide) (p5.less (by omega)) (fun i H6 j hi b6 p6 Q' k' => ?_) fun D3 H6 ys3 hD3 b6 p6 hl3 hys3 h6 => ?_
    · walk_at "zz"
      have hx : (ls.map V.str)[(0 : Int).toNat]? = some (.str (ls[0]'(by omega))) := by
        show (ls.map V.str)[0]? = _
        rw [List.getElem?_map, List.getElem?_eq_getElem (by omega)]
        rfl
      refine z_ixL (SqL.of (b6 _ _ nD h35)) (at_of (by decide) hx) ?_
      walk_at "zz"
      refine ⟨d, c, j, _, rfl, p6, (ols _ (List.getElem_mem _)).1.le (by decide), fun x H7 ox b7 p7 => ?_⟩
      exact k' _ H7 ⟨x, rfl, ox⟩ b7 p7
    obtain ⟨be, rfl, obe⟩ := strs_P hys3
    rw [List.length_map] at hl3
    have be6 : be.length = 6 := by omega
    have h56 := b6 _ _ nq5 h5
    walk_at "zz"
    refine z_catL h56 h6 (by rw [List.length_map, List.length_map, List.length_append, sizeLine_eq]; omega) fun q7 H7 hq7 s7 h7 => ?_
    rw [← List.map_append] at h7
    have p7 := p6.same s7
    have nq7 : q7 ≠ d := p6.ne hq7
    have h37 := s7 _ _ (b6 _ _ nD h35)
    have owd : ∀ z ∈ ls ++ sp ++ be, okS 2000 z := fun z hz => by
      rcases List.mem_append.mp hz with q | q
      · rcases List.mem_append.mp q with q | q
        · exact (ols z q).1.le (by decide)
        · exact osp z q
      · exact obe z q
    have wdl : (ls ++ sp ++ be).length ≤ 16 := by
      rw [List.length_append, List.length_append]
      omega
    generalize ls ++ sp ++ be = wd at owd wdl h7
    walk_at "zz"
    refine z_cutT (fun b H' => b = false ∧ But d H7 H' ∧ Pen K H' d c 99960000) ?_ ?_
    · walk_at "zz"
      refine z_kLst (by show 6 ≤ sizeLine; decide) fun q8 H8 hq8 s8 h8 => ?_
      walk_at "zz"
      refine z_catL (s8 _ _ h7) h8 (by rw [List.length_map, sizeLine_eq]; show wd.length + 6 ≤ _; omega) fun q9 H9 hq9 s9 h9 => ?_
      have e9 : wd.map V.str ++ [V.str "", V.str "m", V.str "m:", V.str "m:0", V.str "m:0.", V.str "."] = (wd ++ (["", "m", "m:", "m:0", "m:0.", "."] : List Str)).map V.str := by rw [List.map_append]; rfl
      rw [e9] at h9
      walk_at "zz"
      refine ⟨q9, _, rfl, SqL.of h9, fun z hz => ?_, fun H10 s10 => ?_⟩
      · rcases List.mem_append.mp hz with q | q
        · exact owd z q
        · exact (by decide +kernel : ∀ z ∈ (["", "m", "m:", "m:0", "m:0.", "."] : List Str), z.length ≤ 2000 ∧ PyData.strOk z = true) z q
      walk_at "zz"
      have p10 := ((p7.same s8).same s9).same s10
      refine ⟨d, c, 99960000, rfl, p10.less (by omega), fun H11 b11 p11 => ?_⟩
      walk_at "zz"
      exact ⟨rfl, (same_but ((s8.trans s9).trans s10)).trans b11, p11⟩
    rintro b H8 ⟨rfl, b8, p8⟩
    have h78 := b8 _ _ nq7 h7
    have h38 := b8 _ _ nD h37
    refine iteF ?_
    walk_at "zz"
    refine use_draw (m := 99959999) p8 (by decide) (by decide) fun r9 H9 r90 r91 b9 p9 => ?_
    walk_at "zz"
    refine z_kIR1 (by omega) (by omega) ?_
    have h79 := b9 _ _ nq7 h78
    have h39 := b9 _ _ nD h38
    refine l_draw (d := d) (c := c) (m := 99950000) 1 (fun v => ∃ z : Str, v = .str z ∧ okS 2000 z) (by omega) (p9.less (by omega)) (fun i Ha j hi ba pa Q' k' => ?_) fun D4 Ha ys4 hD4 ba pa hl4 hys4 ha => ?_
    · have w1 := ba _ _ nq7 h79
      have w2 := ba _ _ nD h39
      walk_at "zz"
      refine z_catL w1 w2 (by rw [List.length_map, List.length_map, sizeLine_eq]; omega) fun qb Hb hqb sb hb => ?_
      walk_at "zz"
      refine z_kLst (by show 1 ≤ sizeLine; decide) fun qc Hc hqc sc hc => ?_
      walk_at "zz"
      refine z_catL (sc _ _ hb) hc (by rw [List.length_append, List.length_map, List.length_map, sizeLine_eq]; show wd.length + ls.length + 1 ≤ _; omega) fun qd Hd hqd sd hd' => ?_
      walk_at "zz"
      have pd := ((pa.same sb).same sc).same sd
      refine use_pick 2000 (m := j) pd hd' (all_app (all_app (all_strs owd) (all_strs fun z hz => (ols z hz).1.le (by decide))) (by decide +kernel)) (by simp) (by rw [List.length_append, List.length_append, List.length_map, List.length_map]; show wd.length + ls.length + 1 ≤ _; omega) fun x He ox be' pe' => ?_
      exact k' _ He ⟨x, rfl, ox⟩ ((same_but ((sb.trans sc).trans sd)).trans be') pe'
    obtain ⟨so, rfl, oso⟩ := strs_P hys4
    rw [List.length_map] at hl4
    have sol : so.length ≤ 11 := by omega
    have nD4 : D4 ≠ d := p9.ne hD4
    have h3a := ba _ _ nD h39
    walk_at "zz"
    refine z_kIL (SqL.of ha) ?_
    refine l_pure (α := Str) (xs := so) (e := V.str) (G := fun H => SqL K H D4 (so.map V.str)) walk_lstE (fun _ => true) (fun y => V.str (y ++ "\n")) (by omega) (fun H1 s1 => SqL.of (s1 _ _ ha)) (fun i y H1 hy' s1 QT q => q _ (Same.refl _)) (fun i y H1 hy' _ s1 Q' q => ?_) fun Db Hb hDb sb hb => ?_
    · walk_at "zz"
      have e1 : ("\n" : Str).length = 1 := by decide +kernel
      have := (oso y (List.mem_of_getElem? hy')).1
      refine z_addS (line_ge (by omega)) ?_
      exact q _ (Same.refl _)
    have eb : ((so.filter fun _ => true).map fun y => V.str (y ++ "\n")) = (so.map fun y : Str => (y ++ "\n" : Str)).map V.str := by
      rw [List.filter_eq_self.mpr fun _ _ => rfl, List.map_map]
      rfl
    rw [eb] at hb
    walk_at "zz"
    refine z_join (SqL.of hb) (log_sum (by omega) fun y hy => Nat.le_trans (oso y hy).1 (by decide)) ?_
    have olog : okS 22011 (logText so) := okS_log (k := 11) sol oso
    walk_at "zz"
    refine ⟨D4, so, rfl, SqL.of (sb _ _ ha), by omega, fun y hy => Nat.le_trans (oso y hy).1 (by decide), fun Hc sc => ?_⟩
    walk_at "zz"
    rw [show decide (logText so = Txt.join "" (so.map fun y : Str => (y ++ "\n" : Str))) = true from decide_eq_true rfl]
    walk_at "zz"
    have el : Txt.join "" (so.map fun y : Str => (y ++ "\n" : Str)) = logText so := rfl
    rw [el]
    generalize logText so = tx at olog
    have txl := olog.1
    have pc := (pa.same sb).same sc
    have h3c := sc _ _ (sb _ _ h3a)
    walk_at "zz"
    refine use_draw (m := 99940001) (pc.less (by omega)) (by decide) (by decide) fun rd Hd rd0 rd1 bd pd => ?_
    walk_at "zz"
    refine use_draw (m := 99940000) pd (by omega) (by omega) fun re He re0 re1 be' pe' => ?_
    walk_at "zz"
    generalize hlo : (some ((tx.length : Int) - rd * re)) = lo
    have otx := okS_cut olog none lo
    generalize cutS tx none lo = t2 at otx
    have t2l := otx.1
    have h3e := be' _ _ nD (bd _ _ nD h3c)
    walk_at "zz"
    have two : ∀ (z : Str) (Hx : Hp) (R : VK), z.length ≤ 100000 → PyData.strOk z = true → True := fun _ _ _ _ _ => trivial
    refine .inl ⟨t2, rfl, by omega, fun p Hf sf hf => ?_⟩
    walk_at "zz"
    refine ⟨t2, rfl, by omega, fun q Hg sg hg => ?_⟩
    walk_at "zz"
    refine z_tupleOfL (SqL.of hg) fun u Hh hu sh hh => ?_
    walk_at "zz"
    have hsh := lines_shaped otx.2
    refine z_neD (d := .tuple ((linesIn t2).map PyData.str)) (.tup (SqT.of (sh _ _ (sg _ _ hf))) (dps_strs _)) (.tup (SqT.of hh) (dps_strs _)) hsh hsh ?_
    rw [eqv_refl_shaped hsh]
    walk_at "zz"
    have ph := ((pe'.same sf).same sg).same sh
    have h3h := sh _ _ (sg _ _ (sf _ _ h3e))
    refine use_draw (m := 99939999) ph (by decide) (by decide) fun ri Hi ri0 ri1 bi pi => ?_
    walk_at "zz"
    refine z_kIR1 (by omega) (by omega) ?_
    have h3i := bi _ _ nD h3h
    refine l_draw (d := d) (c := c) (m := 99930000) 1 (fun v => ∃ z : Str, v = .str z ∧ okS 700 z) (by omega) (pi.less (by omega)) (fun i Hj j hi bj pj Q' k' => ?_) fun D5 Hj ys5 hD5 bj pj hl5 hys5 hj => ?_
    · have w2 := bj _ _ nD h3i
      walk_at "zz"
      refine ⟨d, c, D, j, _, rfl, pj, SqL.of w2, ?_, ?_, fun v Hk hv bk pk => ?_⟩
      · intro q
        have := congrArg List.length q
        rw [List.length_map] at this
        simp only [List.length_nil] at this
        omega
      · rw [List.length_map]
        omega
      obtain ⟨z, hz, rfl⟩ := List.mem_map.mp hv
      exact k' _ Hk ⟨z, rfl, (ols z hz).1⟩ bk pk
    obtain ⟨mo, rfl, omo⟩ := strs_P hys5
    rw [List.length_map] at hl5
    have mol : mo.length ≤ 3 := by omega
    have omy : ∀ y ∈ mo, y.length ≤ 5000 := fun y hy => Nat.le_trans (omo y hy).1 (by decide)
    walk_at "zz"
    refine ⟨t2, D5, mo, rfl, SqL.of hj, by omega, by omega, omy, fun Hk sk => ?_⟩
    walk_at "zz"
    refine ⟨t2, D5, mo, rfl, SqL.of (sk _ _ hj), by omega, by omega, omy, fun Hl sl => ?_⟩
    walk_at "zz"
    rw [show decide (K40.appended t2 mo = K40.appended t2 mo) = true from decide_eq_true rfl]
    walk_at "zz"
    have olo : okS 30000 (K40.appended t2 mo) := by
      have o1 : okS 22012 (if t2 ≠ "" ∧ (tl t2).getLastD 0 ≠ 10 then t2 ++ "\n" else t2) := by
        split
        · exact okS_app otx (⟨by decide +kernel, by decide +kernel⟩ : okS 1 "\n")
        · exact otx.le (by decide)
      exact (okS_app o1 (okS_log (k := 3) mol omo)).le (by decide)
    generalize K40.appended t2 mo = lo2 at olo
    have lol := olo.1
    walk_at "zz"
    refine .inl ⟨lo2, rfl, by omega, fun p Hm sm hm => ?_⟩
    walk_at "zz"
    refine ⟨lo2, rfl, by omega, fun q Hn sn hn => ?_⟩
    walk_at "zz"
    refine z_tupleOfL (SqL.of hn) fun u Ho hu so' ho => ?_
    walk_at "zz"
    have hsh2 := lines_shaped olo.2
    refine z_eqD (d := .tuple ((linesIn lo2).map PyData.str)) (.tup (SqT.of (so' _ _ (sn _ _ hm))) (dps_strs _)) (.tup (SqT.of ho) (dps_strs _)) hsh2 hsh2 ?_
    rw [eqv_refl_shaped hsh2]
    walk_at "zz"
    exact k _
end
end K40

namespace K40
open PySem PySem.Spec PyProof.Rows L2 Nm
abbrev sIniText : Stmt := Nm.inClass (top 2) 0
abbrev sIniName : Stmt := Nm.inClass (top 3) 0
theorem ini_text : NmE.Ini sIniText ["line", "column"] :=
  ⟨⟨_, _, _, _, _, _, _, rfl, .cons (.cons .nil), .cons (.cons .nil), rfl⟩, by decide, ⟨_, rfl, rfl⟩, by decide +kernel, by decide +kernel, by decide +kernel, by decide +kernel, by decide +kernel, by decide +kernel, rfl, rfl, rfl⟩
theorem ini_name : NmE.Ini sIniName ["name"] :=
  ⟨⟨_, _, _, _, _, _, _, rfl, .cons .nil, .cons .nil, rfl⟩, by decide, ⟨_, rfl, rfl⟩, by decide +kernel, by decide +kernel, by decide +kernel, by decide +kernel, by decide +kernel, by decide +kernel, rfl, rfl, rfl⟩
theorem bind_text (qual : Str) (cc : Addr) (kV doc pm : Value) (an : Option Addr) (cda : Addr) (ct : Value) (us : List Value) (hl : us.length = (("self" : Str) :: ["line", "column"]).length) :
    bindArgs (PySem.W.ksFn "__init__" qual (defArgs sIniText) (defBody sIniText) (defScope sIniText) .none kV doc pm an (.ref cda) ct cc) ⟨us, []⟩ = pure ((("self" : Str) :: ["line", "column"]).zip us) := by
  match us, hl with
  | [_, _, _], _ => first | rfl | kernel_rfl | with_unfolding_all rfl
theorem bind_name (qual : Str) (cc : Addr) (kV doc pm : Value) (an : Option Addr) (cda : Addr) (ct : Value) (us : List Value) (hl : us.length = (("self" : Str) :: ["name"]).length) :
    bindArgs (PySem.W.ksFn "__init__" qual (defArgs sIniName) (defBody sIniName) (defScope sIniName) .none kV doc pm an (.ref cda) ct cc) ⟨us, []⟩ = pure ((("self" : Str) :: ["name"]).zip us) := by
  match us, hl with
  | [_, _], _ => first | rfl | kernel_rfl | with_unfolding_all rfl
end K40

open PySem PySem.W PyProof.Rows
set_option maxRecDepth 100000 in
set_option maxHeartbeats 0 in
theorem PySem.Challenge.cw_namedmeets_k40_lines_and_logs_holds : PySem.Challenge.rw_namedmeets_k40_lines_and_logs.Holds := by
  w_on; o_law; k_head; (case hw => w_witness2)
  k_fill
  refine Nm.walk_ofX (l := PySem.Challenge.rw_namedmeets_k40_lines_and_logs) (n := 63) (k := 8) (x := "_law_script") (CX := L2.CX0) (sp := K40.spLaw) rfl (by decide) rfl ⟨rfl, by decide, by decide⟩ (fun w h Y => PySem.W.kIn_of Y) ?F (fun K H a ns _ hS => ⟨a, ns, rfl, hS, fun _ => rfl⟩) (fun _ _ _ _ z => z)
  case F =>
    intro w mg fa h XP KX G hmg
    obtain ⟨anamed, fdnamed, Dnamed⟩ : ∃ a fd, Nm.Df _ mg "is_named" K40.snamed ["word", "first"] a fd := by
      refine' Nm.df_mk KX G ?n ?l ?c ?k (fun _ _ _ _ _ _ us hl => match us, hl with | [_, _], _ => rfl)
      (case n => k_is); (case l => k_is); (case c => k_is); (case k => k_is)
    obtain ⟨abig, fdbig, Dbig⟩ : ∃ a fd, Nm.Df _ mg "is_big" K40.sbig ["word"] a fd := by
      refine' Nm.df_mk KX G ?n ?l ?c ?k (fun _ _ _ _ _ _ us hl => match us, hl with | [_], _ => rfl)
      (case n => k_is); (case l => k_is); (case c => k_is); (case k => k_is)
    obtain ⟨acount, fdcount, Dcount⟩ : ∃ a fd, Nm.Df _ mg "is_count" K40.scount ["word"] a fd := by
      refine' Nm.df_mk KX G ?n ?l ?c ?k (fun _ _ _ _ _ _ us hl => match us, hl with | [_], _ => rfl)
      (case n => k_is); (case l => k_is); (case c => k_is); (case k => k_is)
    obtain ⟨amaker, fdmaker, Dmaker⟩ : ∃ a fd, Nm.Df _ mg "is_maker_word" K40.smaker ["word"] a fd := by
      refine' Nm.df_mk KX G ?n ?l ?c ?k (fun _ _ _ _ _ _ us hl => match us, hl with | [_], _ => rfl)
      (case n => k_is); (case l => k_is); (case c => k_is); (case k => k_is)
    obtain ⟨aline, fdline, Dline⟩ : ∃ a fd, Nm.Df _ mg "is_line" K40.sline ["word"] a fd := by
      refine' Nm.df_mk KX G ?n ?l ?c ?k (fun _ _ _ _ _ _ us hl => match us, hl with | [_], _ => rfl)
      (case n => k_is); (case l => k_is); (case c => k_is); (case k => k_is)
    obtain ⟨aparent, fdparent, Dparent⟩ : ∃ a fd, Nm.Df _ mg "parent_of" K40.sparent ["line"] a fd := by
      refine' Nm.df_mk KX G ?n ?l ?c ?k (fun _ _ _ _ _ _ us hl => match us, hl with | [_], _ => rfl)
      (case n => k_is); (case l => k_is); (case c => k_is); (case k => k_is)
    obtain ⟨aonce, fdonce, Donce⟩ : ∃ a fd, Nm.Df _ mg "each_once" K40.sonce ["words"] a fd := by
      refine' Nm.df_mk KX G ?n ?l ?c ?k (fun _ _ _ _ _ _ us hl => match us, hl with | [_], _ => rfl)
      (case n => k_is); (case l => k_is); (case c => k_is); (case k => k_is)
    obtain ⟨alogtext, fdlogtext, Dlogtext⟩ : ∃ a fd, Nm.Df _ mg "log_text" K40.slogtext ["lines"] a fd := by
      refine' Nm.df_mk KX G ?n ?l ?c ?k (fun _ _ _ _ _ _ us hl => match us, hl with | [_], _ => rfl)
      (case n => k_is); (case l => k_is); (case c => k_is); (case k => k_is)
    obtain ⟨apieces, fdpieces, Dpieces⟩ : ∃ a fd, Nm.Df _ mg "pieces_of" K40.spieces ["text"] a fd := by
      refine' Nm.df_mk KX G ?n ?l ?c ?k (fun _ _ _ _ _ _ us hl => match us, hl with | [_], _ => rfl)
      (case n => k_is); (case l => k_is); (case c => k_is); (case k => k_is)
    obtain ⟨alinesin, fdlinesin, Dlinesin⟩ : ∃ a fd, Nm.Df _ mg "lines_in" K40.slinesin ["text"] a fd := by
      refine' Nm.df_mk KX G ?n ?l ?c ?k (fun _ _ _ _ _ _ us hl => match us, hl with | [_], _ => rfl)
      (case n => k_is); (case l => k_is); (case c => k_is); (case k => k_is)
    obtain ⟨aappended, fdappended, Dappended⟩ : ∃ a fd, Nm.Df _ mg "appended" K40.sappended ["text", "lines"] a fd := by
      refine' Nm.df_mk KX G ?n ?l ?c ?k (fun _ _ _ _ _ _ us hl => match us, hl with | [_, _], _ => rfl)
      (case n => k_is); (case l => k_is); (case c => k_is); (case k => k_is)
    obtain ⟨apen, fdpen, Dpen⟩ : ∃ a fd, Nm.Df _ mg "_law_pen" K40.spen ["_law_script"] a fd := by
      refine' Nm.df_mk KX G ?n ?l ?c ?k (fun _ _ _ _ _ _ us hl => match us, hl with | [_], _ => rfl)
      (case n => k_is); (case l => k_is); (case c => k_is); (case k => k_is)
    obtain ⟨adraw, fddraw, Ddraw⟩ : ∃ a fd, Nm.Df _ mg "_law_draw" K40.sdraw ["_law_pen_here", "_law_many"] a fd := by
      refine' Nm.df_mk KX G ?n ?l ?c ?k (fun _ _ _ _ _ _ us hl => match us, hl with | [_, _], _ => rfl)
      (case n => k_is); (case l => k_is); (case c => k_is); (case k => k_is)
    obtain ⟨apick, fdpick, Dpick⟩ : ∃ a fd, Nm.Df _ mg "_law_pick" K40.spick ["_law_pen_here", "_law_some"] a fd := by
      refine' Nm.df_mk KX G ?n ?l ?c ?k (fun _ _ _ _ _ _ us hl => match us, hl with | [_, _], _ => rfl)
      (case n => k_is); (case l => k_is); (case c => k_is); (case k => k_is)
    obtain ⟨alcounts, fdlcounts, Dlcounts⟩ : ∃ a fd, Nm.Df _ mg "_law_counts" K40.slcounts ["_law_word"] a fd := by
      refine' Nm.df_mk KX G ?n ?l ?c ?k (fun _ _ _ _ _ _ us hl => match us, hl with | [_], _ => rfl)
      (case n => k_is); (case l => k_is); (case c => k_is); (case k => k_is)
    obtain ⟨alnamed, fdlnamed, Dlnamed⟩ : ∃ a fd, Nm.Df _ mg "_law_named" K40.slnamed ["_law_word", "_law_first"] a fd := by
      refine' Nm.df_mk KX G ?n ?l ?c ?k (fun _ _ _ _ _ _ us hl => match us, hl with | [_, _], _ => rfl)
      (case n => k_is); (case l => k_is); (case c => k_is); (case k => k_is)
    obtain ⟨almet, fdlmet, Dlmet⟩ : ∃ a fd, Nm.Df _ mg "_law_met_word" K40.slmet ["_law_word"] a fd := by
      refine' Nm.df_mk KX G ?n ?l ?c ?k (fun _ _ _ _ _ _ us hl => match us, hl with | [_], _ => rfl)
      (case n => k_is); (case l => k_is); (case c => k_is); (case k => k_is)
    obtain ⟨alline, fdlline, Dlline⟩ : ∃ a fd, Nm.Df _ mg "_law_is_line" K40.slline ["_law_word"] a fd := by
      refine' Nm.df_mk KX G ?n ?l ?c ?k (fun _ _ _ _ _ _ us hl => match us, hl with | [_], _ => rfl)
      (case n => k_is); (case l => k_is); (case c => k_is); (case k => k_is)
    obtain ⟨allinesin, fdllinesin, Dllinesin⟩ : ∃ a fd, Nm.Df _ mg "_law_lines_in" K40.sllinesin ["_law_text"] a fd := by
      refine' Nm.df_mk KX G ?n ?l ?c ?k (fun _ _ _ _ _ _ us hl => match us, hl with | [_], _ => rfl)
      (case n => k_is); (case l => k_is); (case c => k_is); (case k => k_is)
    obtain ⟨allogtext, fdllogtext, Dllogtext⟩ : ∃ a fd, Nm.Df _ mg "_law_log_text" K40.sllogtext ["_law_lines"] a fd := by
      refine' Nm.df_mk KX G ?n ?l ?c ?k (fun _ _ _ _ _ _ us hl => match us, hl with | [_], _ => rfl)
      (case n => k_is); (case l => k_is); (case c => k_is); (case k => k_is)
    obtain ⟨alappended, fdlappended, Dlappended⟩ : ∃ a fd, Nm.Df _ mg "_law_appended" K40.slappended ["_law_text", "_law_lines"] a fd := by
      refine' Nm.df_mk KX G ?n ?l ?c ?k (fun _ _ _ _ _ _ us hl => match us, hl with | [_, _], _ => rfl)
      (case n => k_is); (case l => k_is); (case c => k_is); (case k => k_is)
    obtain ⟨abent, fdbent, Dbent⟩ : ∃ a fd, Nm.Df _ mg "_law_bent" K40.sbent ["_law_pen_here", "_law_line"] a fd := by
      refine' Nm.df_mk KX G ?n ?l ?c ?k (fun _ _ _ _ _ _ us hl => match us, hl with | [_, _], _ => rfl)
      (case n => k_is); (case l => k_is); (case c => k_is); (case k => k_is)
    obtain ⟨asomeline, fdsomeline, Dsomeline⟩ : ∃ a fd, Nm.Df _ mg "_law_some_line" K40.ssomeline ["_law_pen_here"] a fd := by
      refine' Nm.df_mk KX G ?n ?l ?c ?k (fun _ _ _ _ _ _ us hl => match us, hl with | [_], _ => rfl)
      (case n => k_is); (case l => k_is); (case c => k_is); (case k => k_is)
    obtain ⟨aspoilt, fdspoilt, Dspoilt⟩ : ∃ a fd, Nm.Df _ mg "_law_spoilt" K40.sspoilt ["_law_pen_here", "_law_line"] a fd := by
      refine' Nm.df_mk KX G ?n ?l ?c ?k (fun _ _ _ _ _ _ us hl => match us, hl with | [_, _], _ => rfl)
      (case n => k_is); (case l => k_is); (case c => k_is); (case k => k_is)
    obtain ⟨arefusal, fdrefusal, Drefusal⟩ : ∃ a fd, Nm.Df _ mg "_law_refusal" K40.srefusal ["_law_call", "_law_odd"] a fd := by
      refine' Nm.df_mk KX G ?n ?l ?c ?k (fun _ _ _ _ _ _ us hl => match us, hl with | [_, _], _ => rfl)
      (case n => k_is); (case l => k_is); (case c => k_is); (case k => k_is)
    obtain ⟨awordsright, fdwordsright, Dwordsright⟩ : ∃ a fd, Nm.Df _ mg "_law_words_right" K40.swordsright ["_law_words"] a fd := by
      refine' Nm.df_mk KX G ?n ?l ?c ?k (fun _ _ _ _ _ _ us hl => match us, hl with | [_], _ => rfl)
      (case n => k_is); (case l => k_is); (case c => k_is); (case k => k_is)
    obtain ⟨aoddright, fdoddright, Doddright⟩ : ∃ a fd, Nm.Df _ mg "_law_odd_right" K40.soddright ["_law_pen_here"] a fd := by
      refine' Nm.df_mk KX G ?n ?l ?c ?k (fun _ _ _ _ _ _ us hl => match us, hl with | [_], _ => rfl)
      (case n => k_is); (case l => k_is); (case c => k_is); (case k => k_is)
    obtain ⟨alaw, fdlaw, Dlaw, Blaw⟩ : ∃ a fd, Nm.Df _ mg "law" K40.slaw ["_law_script"] a fd ∧ ∀ (s : Shared) (us : List Value), us.length = (["_law_script"] : List Str).length → BindsTo s fd ⟨us, []⟩ ((["_law_script"] : List Str).zip us) := by
      refine' Nm.df_mkB KX G ?n ?l ?c ?k (fun _ _ _ _ _ _ us hl => match us, hl with | [_], _ => rfl)
      (case n => k_is); (case l => k_is); (case c => k_is); (case k => k_is)
    obtain ⟨CBadText, CBadName, W2⟩ : ∃ C1 C2 : Addr, NmE.Two PySem.Challenge.rw_namedmeets_k40_lines_and_logs.prog _ mg "BadText" C1 ["line", "column"] "BadName" C2 ["name"] := by
      refine' ⟨_, _, ⟨NmE.err_mk (st := K40.sIniText) KX G ?n0 ?c0 ?hbm0 ?sa0 ?ga0 ?gg0 ?noN0 ?kC0 ?exC0 ?veC0 ?tyC0 ?hdC0 ?opq0 ?own0 ?nsp0 ?iC0 ?tI0 ?lI0 ?hcr0 ?hcc0 ?hcd0 ?hvs0 ?hfile0 ?sup0 ?top0 K40.ini_text (K40.bind_text _), NmE.err_mk (st := K40.sIniName) KX G ?n1 ?c1 ?hbm1 ?sa1 ?ga1 ?gg1 ?noN1 ?kC1 ?exC1 ?veC1 ?tyC1 ?hdC1 ?opq1 ?own1 ?nsp1 ?iC1 ?tI1 ?lI1 ?hcr1 ?hcc1 ?hcd1 ?hvs1 ?hfile1 ?sup1 ?top1 K40.ini_name (K40.bind_name _), ?s11, ?s12, ?s21, ?s22⟩⟩
      (case n0 => k_is)
      (case c0 => k_is)
      (case hbm0 => decide +kernel)
      (case sa0 => k_is)
      (case ga0 => k_is)
      (case gg0 => k_is)
      (case noN0 => intro f hf; rcases List.mem_cons.mp hf with rfl | hf; (· k_is); rcases List.mem_cons.mp hf with rfl | hf; (· k_is); cases hf)
      (case kC0 => k_is)
      (case exC0 => k_is)
      (case veC0 => k_is)
      (case tyC0 => k_is)
      (case hdC0 => k_is)
      (case opq0 => k_is)
      (case own0 => k_is)
      (case nsp0 => k_is)
      (case iC0 => k_is)
      (case tI0 => k_is)
      (case lI0 =>
        refine' NmE.fn_split ?h ?e1 ?e2 ?e3 ?e4 ?e5 ?e6 ?e7
        (case h => k_is); (case e1 => rfl); (case e2 => rfl); (case e3 => rfl); (case e4 => rfl); (case e5 => rfl); (case e6 => rfl); (case e7 => rfl))
      (case hcr0 => k_is)
      (case hcc0 => k_is)
      (case hcd0 => k_is)
      (case hvs0 => rfl)
      (case hfile0 => first | rfl | decide +kernel)
      (case sup0 => ks_is)
      (case top0 => first | rfl | decide +kernel)
      (case n1 => k_is)
      (case c1 => k_is)
      (case hbm1 => decide +kernel)
      (case sa1 => k_is)
      (case ga1 => k_is)
      (case gg1 => k_is)
      (case noN1 => intro f hf; rcases List.mem_cons.mp hf with rfl | hf; (· k_is); cases hf)
      (case kC1 => k_is)
      (case exC1 => k_is)
      (case veC1 => k_is)
      (case tyC1 => k_is)
      (case hdC1 => k_is)
      (case opq1 => k_is)
      (case own1 => k_is)
      (case nsp1 => k_is)
      (case iC1 => k_is)
      (case tI1 => k_is)
      (case lI1 =>
        refine' NmE.fn_split ?h ?e1 ?e2 ?e3 ?e4 ?e5 ?e6 ?e7
        (case h => k_is); (case e1 => rfl); (case e2 => rfl); (case e3 => rfl); (case e4 => rfl); (case e5 => rfl); (case e6 => rfl); (case e7 => rfl))
      (case hcr1 => k_is)
      (case hcc1 => k_is)
      (case hcd1 => k_is)
      (case hvs1 => rfl)
      (case hfile1 => first | rfl | decide +kernel)
      (case sup1 => ks_is)
      (case top1 => first | rfl | decide +kernel)
      (case s11 => k_is)
      (case s12 => k_is)
      (case s21 => k_is)
      (case s22 => k_is)
    obtain ⟨tBIG_LETTERS, gBIG_LETTERS⟩ : ∃ t, mg "BIG_LETTERS" = some (.str "ABCDEFGHIJKLMNOPQRSTUVWXYZ" t) := by
      refine' Nm.str_mk KX G ?n
      (case n => k_is)
    obtain ⟨tSMALL_LETTERS, gSMALL_LETTERS⟩ : ∃ t, mg "SMALL_LETTERS" = some (.str "abcdefghijklmnopqrstuvwxyz" t) := by
      refine' Nm.str_mk KX G ?n
      (case n => k_is)
    obtain ⟨tDIGITS_logs, gDIGITS_logs⟩ : ∃ t, mg "DIGITS_logs" = some (.str "0123456789" t) := by
      refine' Nm.str_mk KX G ?n
      (case n => k_is)
    obtain ⟨tLATER, gLATER⟩ : ∃ t, mg "LATER" = some (.str "ABCDEFGHIJKLMNOPQRSTUVWXYZabcdefghijklmnopqrstuvwxyz0123456789_" t) := Nm.loose_mk XP (.head _)
    have n_len : mg "len" = none := by
      refine' PySem.W.mg_none_of KX G ?n
      (case n => k_is)
    have n_all : mg "all" = none := by
      refine' PySem.W.mg_none_of KX G ?n
      (case n => k_is)
    have n_enumerate : mg "enumerate" = none := by
      refine' PySem.W.mg_none_of KX G ?n
      (case n => k_is)
    have n_tuple : mg "tuple" = none := by
      refine' PySem.W.mg_none_of KX G ?n
      (case n => k_is)
    have n_list : mg "list" = none := by
      refine' PySem.W.mg_none_of KX G ?n
      (case n => k_is)
    have n_int : mg "int" = none := by
      refine' PySem.W.mg_none_of KX G ?n
      (case n => k_is)
    have n_range : mg "range" = none := by
      refine' PySem.W.mg_none_of KX G ?n
      (case n => k_is)
    have n_isinstance : mg "isinstance" = none := by
      refine' PySem.W.mg_none_of KX G ?n
      (case n => k_is)
    have n_str : mg "str" = none := by
      refine' PySem.W.mg_none_of KX G ?n
      (case n => k_is)
    have n_bool : mg "bool" = none := by
      refine' PySem.W.mg_none_of KX G ?n
      (case n => k_is)
    have n_super : mg "super" = none := by
      refine' PySem.W.mg_none_of KX G ?n
      (case n => k_is)
    have e : fa = alaw := Value.ref.inj (Option.some.inj (hmg.symm.trans Dlaw.g))
    subst e
    exact ⟨_, fun s v => Blaw s [v] rfl, fun base _ _ => K40.ok_law { anamed := anamed, fdnamed := fdnamed, Dnamed := Dnamed, abig := abig, fdbig := fdbig, Dbig := Dbig, acount := acount, fdcount := fdcount, Dcount := Dcount, amaker := amaker, fdmaker := fdmaker, Dmaker := Dmaker, aline := aline, fdline := fdline, Dline := Dline, aparent := aparent, fdparent := fdparent, Dparent := Dparent, aonce := aonce, fdonce := fdonce, Donce := Donce, alogtext := alogtext, fdlogtext := fdlogtext, Dlogtext := Dlogtext, apieces := apieces, fdpieces := fdpieces, Dpieces := Dpieces, alinesin := alinesin, fdlinesin := fdlinesin, Dlinesin := Dlinesin, aappended := aappended, fdappended := fdappended, Dappended := Dappended, apen := apen, fdpen := fdpen, Dpen := Dpen, adraw := adraw, fddraw := fddraw, Ddraw := Ddraw, apick := apick, fdpick := fdpick, Dpick := Dpick, alcounts := alcounts, fdlcounts := fdlcounts, Dlcounts := Dlcounts, alnamed := alnamed, fdlnamed := fdlnamed, Dlnamed := Dlnamed, almet := almet, fdlmet := fdlmet, Dlmet := Dlmet, alline := alline, fdlline := fdlline, Dlline := Dlline, allinesin := allinesin, fdllinesin := fdllinesin, Dllinesin := Dllinesin, allogtext := allogtext, fdllogtext := fdllogtext, Dllogtext := Dllogtext, alappended := alappended, fdlappended := fdlappended, Dlappended := Dlappended, abent := abent, fdbent := fdbent, Dbent := Dbent, asomeline := asomeline, fdsomeline := fdsomeline, Dsomeline := Dsomeline, aspoilt := aspoilt, fdspoilt := fdspoilt, Dspoilt := Dspoilt, arefusal := arefusal, fdrefusal := fdrefusal, Drefusal := Drefusal, awordsright := awordsright, fdwordsright := fdwordsright, Dwordsright := Dwordsright, aoddright := aoddright, fdoddright := fdoddright, Doddright := Doddright, alaw := fa, fdlaw := fdlaw, Dlaw := Dlaw, t_BIG_LETTERS := tBIG_LETTERS, g_BIG_LETTERS := gBIG_LETTERS, t_SMALL_LETTERS := tSMALL_LETTERS, g_SMALL_LETTERS := gSMALL_LETTERS, t_DIGITS_logs := tDIGITS_logs, g_DIGITS_logs := gDIGITS_logs, t_LATER := tLATER, g_LATER := gLATER, n_len := n_len, n_all := n_all, n_enumerate := n_enumerate, n_tuple := n_tuple, n_list := n_list, n_int := n_int, n_range := n_range, n_isinstance := n_isinstance, n_str := n_str, n_bool := n_bool, n_super := n_super, CBadText := CBadText, EBadText := W2.e1, CBadName := CBadName, EBadName := W2.e2, x_BadText_BadText := PySem.W.exm_ref W2.e1.exC W2.e1.hdC W2.e1.tyC W2.s11, x_BadText_BadName := PySem.W.exm_ref W2.e2.exC W2.e2.hdC W2.e2.tyC W2.s12, x_BadName_BadText := PySem.W.exm_ref W2.e1.exC W2.e1.hdC W2.e1.tyC W2.s21, x_BadName_BadName := PySem.W.exm_ref W2.e2.exC W2.e2.hdC W2.e2.tyC W2.s22 }⟩


