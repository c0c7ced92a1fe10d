import PyProof.Rows.All
import Wide.All
import OpenK.AllK
import Wide.FinOn
import HandS.ForMost
import HandS.Walk
import HandS.IsInst
import HandS.Flow
import HandS.Wide
import HandS.Conv
import PyProof.ListStr
import PyProof.StrOps2
import KE.GoesEnum
import HandS.Exc
import HandS.ExcInit
import HandS.ExcOwn
import HandS.TryMany
import KE.KExcSuper
import KE.KExcMake
import KE.KSuper
import HandS.Style
import KE.KDictSum
import HandS.WordsExc
import KE.RegKSuper
import HandS.ExcIs
import KE.KExcIs
import PyProof.ReprRoads
import PyProof.CallFns
import HandS.OwnEq
import HandS.TupAny
import HandS.Zip
import PyProof.InstNe
import PyProof.EqKinds
import KE.GoesMore
import PyProof.EnumMake
import PySem.Challenge.RW_namedmeets_k01_values_and_places
set_option Elab.async false
set_option linter.all false
set_option maxRecDepth 100000
set_option maxHeartbeats 4000000
/-! The own layer: heaps that only grow but for dicts, readings by names, steps. -/
namespace Nm
open PySem PySem.Spec PyProof.Rows L2

/-! ### heaps -/
def isD : HO → Bool
  | .dK _ => true
  | .dT _ => true
  | _ => false
/-- all that is tracked stands, but dicts may change -/
def Keep (H H' : Hp) : Prop := ∀ a o, H a = some o → isD o = false → H' a = some o
theorem Keep.refl (H : Hp) : Keep H H := fun _ _ h _ => h
theorem Keep.trans {H H1 H2 : Hp} (a : Keep H H1) (b : Keep H1 H2) : Keep H H2 := fun x o h z => b x o (a x o h z) z
theorem same_keep {H H' : Hp} (a : Same H H') : Keep H H' := fun x o h _ => a x o h
theorem Keep.rdL {H H' : Hp} {a : Addr} {xs : List V} (k : Keep H H') (h : Rd H a (.lst xs)) : Rd H' a (.lst xs) := by
  rcases h with h | ⟨o, h⟩
  · exact .inl (k _ _ h rfl)
  · exact .inr ⟨o, k _ _ h rfl⟩
theorem Keep.rdT {H H' : Hp} {a : Addr} {xs : List V} (k : Keep H H') (h : Rd H a (.tup xs)) : Rd H' a (.tup xs) := by
  rcases h with h | ⟨o, h⟩
  · exact .inl (k _ _ h rfl)
  · exact .inr ⟨o, k _ _ h rfl⟩
theorem Keep.l {K : PySem.W.Frag} {H H' : Hp} {a : Addr} {xs : List V} (k : Keep H H') (h : SqL K H a xs) : SqL K H' a xs := by
  rcases h with h | h
  · exact .inl (k.rdL h)
  · exact .inr h
theorem Keep.t {K : PySem.W.Frag} {H H' : Hp} {a : Addr} {xs : List V} (k : Keep H H') (h : SqT K H a xs) : SqT K H' a xs := by
  rcases h with h | h
  · exact .inl (k.rdT h)
  · exact .inr h
mutual
theorem dp_keep {K : PySem.W.Frag} {H H' : Hp} (k : Keep H H') : ∀ {v : V} {d : PyData}, Dp K H v d → Dp K H' v d
  | _, _, .non => .non
  | _, _, .bl b => .bl b
  | _, _, .int i => .int i
  | _, _, .str x => .str x
  | _, _, .lst h l => .lst (k.l h) (dps_keep k l)
  | _, _, .tup h l => .tup (k.t h) (dps_keep k l)
theorem dps_keep {K : PySem.W.Frag} {H H' : Hp} (k : Keep H H') : ∀ {v : List V} {d : List PyData}, DpAll K H v d → DpAll K H' v d
  | _, _, .nil => .nil
  | _, _, .cons h l => .cons (dp_keep k h) (dps_keep k l)
end
theorem Same.new {H : Hp} {p : Addr} {o : HO} (h : H p = none) : Same H (upd H p o) := fun b u e => by
  rw [upd_ne (ne_of_none e h)]
  exact e
/-- an object that H does not know may change -/
theorem Same.mut {H H' : Hp} {p : Addr} {o : HO} (e : Same H H') (h : H p = none) : Same H (upd H' p o) := fun b u q => by
  rw [upd_ne (ne_of_none q h)]
  exact e b u q
theorem Keep.mut {H H' : Hp} {p : Addr} {o : HO} (e : Keep H H') (h : H p = none) : Keep H (upd H' p o) := fun b u q z => by
  rw [upd_ne (ne_of_none q h)]
  exact e b u q z
/-- all but the object at d stands -/
def But (d : Addr) (H H' : Hp) : Prop := ∀ a o, a ≠ d → H a = some o → H' a = some o
theorem But.refl (d : Addr) (H : Hp) : But d H H := fun _ _ _ h => h
theorem But.trans {d : Addr} {H H1 H2 : Hp} (a : But d H H1) (b : But d H1 H2) : But d H H2 := fun x o n h => b x o n (a x o n h)
theorem But.keep {d : Addr} {H H' : Hp} {kvs : List (Key × V)} (b : But d H H') (h : H d = some (.dK kvs)) : Keep H H' := fun a o e z => by
  refine b a o (fun q => ?_) e
  rw [q, h] at e
  cases e
  cases z
theorem But.upd {d : Addr} {H : Hp} {o : HO} : But d H (upd H d o) := fun a u n e => by
  rw [upd_ne n]
  exact e
end Nm

/-! Rules of the own layer: text * int, list(text), enumerate(text). -/
namespace Nm
open PySem PySem.Spec PyProof.Rows L2
/-- z, n times -/
def mulS (z : Str) (n : Nat) : Str := ⟨(List.replicate n z.cps.toList).flatten.toArray⟩
theorem foldl_rep (x : Array Nat) : ∀ (n : Nat) (acc : Array Nat), ((List.replicate n x).foldl (· ++ ·) acc).toList = acc.toList ++ (List.replicate n x.toList).flatten
  | 0, acc => by simp
  | n + 1, acc => by
    rw [List.replicate_succ, List.foldl_cons, foldl_rep x n, List.replicate_succ, List.flatten_cons, Array.toList_append, List.append_assoc]
theorem rep_mulS (x : Str) (n : Nat) : (⟨(List.replicate n x.cps).foldl (· ++ ·) #[]⟩ : Str) = mulS x n := by
  unfold mulS
  congr 1
  apply Array.toList_inj.mp
  rw [foldl_rep]
  simp
theorem mulS_len (x : Str) (n : Nat) : (mulS x n).length = x.length * n := by
  show ((List.replicate n x.cps.toList).flatten.toArray).size = x.cps.size * n
  simp [Nat.mul_comm]
def rMulS : R2 := fun x y H Q => ∃ z n, x = .str z ∧ y = .int n ∧ 0 ≤ n ∧ n ≤ 100000 ∧ z.length ≤ 100 ∧ Q (.str (mulS z n.toNat)) H
theorem op_mulS {X : Cx} : OpR X (binaryOp .Mult) rMulS := by
  intro pins s σ H x y v u Q I rx ry h
  obtain ⟨z, n, rfl, rfl, h0, h1, hz, q⟩ := h
  obtain ⟨t, rfl⟩ := rx
  obtain ⟨t', rfl⟩ := ry
  have hle : z.length * n.toNat ≤ 10000000 := Nat.le_trans (Nat.mul_le_mul hz (show n.toNat ≤ 100000 by omega)) (by decide)
  have hsl : (sizeLine : Nat) = 16777216 := sizeLine_eq
  refine PySem.P.mul_str ?_ ?_ ?_ ?_
  · rw [Bool.or_eq_false_iff]
    exact ⟨decide_eq_false (by omega), decide_eq_false (by omega)⟩
  · intro hn _ hc
    have e1 : (2 ^ 63 - 1 : Int) / n ≥ 100 := by
      rw [ge_iff_le, Int.le_ediv_iff_mul_le (by omega)]
      omega
    omega
  · intro _ _
    unfold Builtin.Str.tooLong
    refine decide_eq_false ?_
    omega
  · by_cases c1 : n < 1
    · rw [if_pos c1]
      have e0 : n.toNat = 0 := by omega
      rw [e0] at q
      exact ⟨by decide, .str _, H, I.tok _, ⟨_, rfl⟩, q⟩
    · rw [if_neg c1]
      by_cases c2 : (n == 1 || z.length == 0) = true
      · rw [if_pos c2]
        have e : mulS z n.toNat = z := by
          rw [Bool.or_eq_true] at c2
          rcases c2 with c | c
          · have e1 : n.toNat = 1 := by
              have := eq_of_beq c
              omega
            rw [e1]
            unfold mulS
            simp
          · have e1 : z.cps.size = 0 := eq_of_beq c
            have e2 : z.cps = #[] := Array.eq_empty_of_size_eq_zero e1
            obtain ⟨cps⟩ := z
            simp only at e2
            subst e2
            unfold mulS
            simp
        rw [e] at q
        exact ⟨.str z, H, I, ⟨t, rfl⟩, q⟩
      · rw [if_neg c2, rep_mulS]
        refine ⟨?_, .str _, H, I.tok _, ⟨_, rfl⟩, q⟩
        rw [mulS_len]
        omega

/-- list(text) -/
def signsV (z : Str) : List V := z.cps.toList.map fun c => V.str ⟨#[c]⟩
def rListS : List V → Hp → VK → Prop := fun xs H Q => ∃ z, xs = [.str z] ∧ z.length ≤ sizeLine ∧ ∀ l, H l = none → Q (.ref l) (upd H l (.lst (signsV z)))
theorem vals_signs {x : Str} {acc : Array Value} (h : ItemsOf (SignAt x) acc x.cps.size) : Vals (signsV x) acc.toList := by
  refine vals_of_at ?_ ?_
  · unfold signsV
    rw [List.length_map]
    simpa using h.1.symm
  · intro j a u ha hu
    unfold signsV at ha
    rw [List.getElem?_map] at ha
    cases e : x.cps.toList[j]? with
    | none => rw [e] at ha; cases ha
    | some c =>
      rw [e] at ha
      have ha' : V.str ⟨#[c]⟩ = a := Option.some.inj ha
      subst ha'
      obtain ⟨c', t, hc, rfl⟩ := h.2 j u (by simpa using hu)
      have e2 : x.cps[j]? = some c := by simpa using e
      rw [e2] at hc
      cases hc
      exact ⟨t, rfl⟩
theorem call_list_str' {X : Cx} (hc : X.calm = true) : CallR X (.type "list") rListS := by
  intro pins s σ H xs us Q I r h
  obtain ⟨z, rfl, hz, q⟩ := h
  obtain ⟨u, rfl, ru⟩ := vals1 r
  obtain ⟨t, rfl⟩ := ru
  refine PySem.call_list_str (I.ok.hd hc) z t (fun h' tk acc' c' hk hS hacc => ?_) hz
  refine ⟨.ref s.heap.objs.size, _, I.laid (t' := tk) (o := .lst (signsV z)) hk (Nat.le_refl _) ⟨?_, acc'.toList, c', vals_signs hacc, by simpa using hS⟩, rfl, q _ (I.hok.fresh (Nat.le_refl _))⟩
  unfold signsV
  rw [List.length_map]
  exact hz
/-! ### enumerate(text) -/
def ItE (z : Str) : It :=
  ⟨fun i _ => i < z.cps.size, fun i H v H' => ∃ T c, v = .ref T ∧ H T = none ∧ z.cps[i]? = some c ∧ H' = upd H T (.tup [.int (i : Nat), .str ⟨#[c]⟩]), fun i _ => i = z.cps.size⟩
theorem turn_enumS {P : Program} {w : World} {K : PySem.W.Frag} {elts : List Expr} {kk : Nat} {tpos : Pos} (x : Str) (t : Tok) (e it : Addr) :
    Turn P w K (.Tuple elts kk tpos) (ItE x) [e, it] e (fun i h => (∃ old, IsEnum h e it ((i : Nat) : Int) old) ∧ h.IsStrIter it (strIterType x) x t i ∧ e ≠ it) where
  mem := by simp
  obj := fun i h st b hb => by
    obtain ⟨⟨old, he⟩, ⟨o, ho, hc, hd⟩, _⟩ := st
    have e' : b = e ∨ b = it := by simpa using hb
    rcases e' with z | z
    · rw [z]; exact ⟨_, he, fun v q => nomatch q⟩
    · rw [z]; exact ⟨o, ho, fun v q => by rw [hd] at q; cases q⟩
  keep := fun i h h' st k => let ⟨⟨old, he⟩, ⟨o, ho, r⟩, hne⟩ := st; ⟨⟨old, k e (by simp) _ he⟩, ⟨o, k it (by simp) o ho, r⟩, hne⟩
  item := by
    intro X hP hw hK hc i pins s σ H E I hf st hg
    subst hP hw hK
    obtain ⟨⟨old, he⟩, hit, hne⟩ := st
    have hel : e < s.heap.objs.size := Heap.lt_size he
    have hil : it < s.heap.objs.size := by obtain ⟨_, q, _⟩ := hit; exact Heap.lt_size q
    have D := Draws.text (prog := X.prog) (w := X.w) (A := X.A.in1) (by show X.A.handled = none; exact I.ok.hd hc) it x t
    have hef : e ∉ [it] := by simpa using hne
    refine wpAny_pyNext_enum_itemC D he hit hg hne hef fun v h' tk hP ho hit' hT hsz hk => ?_
    obtain ⟨c, u, hcx, rfl⟩ := hP
    refine ⟨_, rfl, wpAny_letOwnedTupleGo_enum (s := { s with heap := h', toks := tk + 1 }) ho fun h'' he' sb => ?_⟩
    have hT2 : h''.get? s.heap.objs.size = some { cls := .type "tuple", data := .seq #[.int i tk, .str ⟨#[c]⟩ u] } := (sb.2 _ (Nat.ne_of_gt hel)).trans hT
    have new : ObjOk X.prog X.w (upd H s.heap.objs.size (.tup [.int (i : Nat), .str ⟨#[c]⟩])) h'' s.heap.objs.size (.tup [.int (i : Nat), .str ⟨#[c]⟩]) :=
      ⟨by show 2 ≤ sizeLine; decide, [.int i tk, .str ⟨#[c]⟩ u], .cons ⟨_, rfl⟩ (.cons ⟨_, rfl⟩ .nil), ⟨_, hT2, rfl, _, rfl⟩⟩
    have I1 : Inv X pins σ (upd H s.heap.objs.size (.tup [.int (i : Nat), .str ⟨#[c]⟩])) { s with heap := h'', toks := tk + 1 } :=
      I.turnedNew (ch := [e, it]) (fun b ob hb q => (sb.2 b (fun z => hb (by simp [z]))).trans (hk b ob (fun z => hb (by simp [z])) (fun z => hb (by simp [z])) q)) hf (Nat.le_refl _) new
    refine ⟨.ref s.heap.objs.size, _, I1, rfl, ⟨_, c, rfl, I.hok.fresh (Nat.le_refl _), hcx, rfl⟩, ⟨⟨.str ⟨#[c]⟩ u, ?_⟩, ?_, hne⟩, fun b hb => ?_⟩
    · have e1 : ((i + 1 : Nat) : Int) = (i : Int) + 1 := by omega
      rw [e1]; exact he'
    · obtain ⟨o, ho', r⟩ := hit'
      exact ⟨o, (sb.2 it (Ne.symm hne)).trans ho', r⟩
    · have hb' : b < s.heap.objs.size := by
        have e' : b = e ∨ b = it := by simpa using hb
        rcases e' with z | z
        · rw [z]; exact hel
        · rw [z]; exact hil
      rw [upd_ne (Nat.ne_of_lt hb')]
      exact (hf b hb).1
  done := by
    intro X hP hw hK hc i pins s σ H E I hf st hg
    subst hP hw hK
    obtain ⟨⟨old, he⟩, hit, hne⟩ := st
    have hst : s.heap.IsStrIter it (strIterType x) x t i := hit
    have hg' : i = x.cps.size := hg
    subst hg'
    have D := Draws.text (prog := X.prog) (w := X.w) (A := X.A.in1) (by show X.A.handled = none; exact I.ok.hd hc) it x t
    obtain ⟨f0, f1, f2, f3, f4, f5⟩ := hf it (by simp)
    exact wpAny_pyNext_enum_endD D he hst fun h' eb => ⟨rfl, I.turned (t' := s.toks) (fun b o hb q => eb b o hb q) f0 f1 f3 f4 f5⟩
  self := fun A i s Q E st h => let ⟨⟨_, he⟩, _⟩ := st; wpAny_pyIter_enum he h
def iEnumS (ta : TA) : TI := fun σ H R => ta σ H fun vs H1 => ∃ z, vs = [.str z] ∧ R (ItE z) H1
theorem pi_enumS {X : Cx} {e : Expr} {ta : TA} {p pos tpos : Pos} {elts : List Expr} {kk : Nat} (hg : Gl X "enumerate") (hm : X.mg "enumerate" = none) (ha : PA X [e] ta) (hs : starEach [e] X.env = [(false, eval e X.env)] := by rfl) :
    PI X (.Tuple elts kk tpos) (.Call (.Name "enumerate" p) [e] [] pos) (iEnumS ta) := by
  refine ⟨fun pins s σ H R I h => ?_⟩
  refine Call_ (ld_blt I hg hm boot_enumerate (PyProof.Rows.callWith_type1 (thn (ha.run pos pins s σ H _ I h) fun us s1 ⟨vs, H1, I1, r1, q1⟩ => ?_) hs rfl))
  obtain ⟨z, ex, q⟩ := q1
  subst ex
  obtain ⟨u, rfl, ru⟩ := vals1 r1
  obtain ⟨t, rfl⟩ := ru
  refine PySem.call_enumerate_str fun h' he hit hsz hk => wpAny_pyIter_enum he ?_
  have I2 : Inv X pins σ H1 { s1 with heap := h' } := I1.kept (t' := s1.toks) hk
  refine ⟨s1.heap.objs.size + 1, [s1.heap.objs.size + 1, s1.heap.objs.size], _, _, H1, rfl, I2, turn_enumS z t (s1.heap.objs.size + 1) s1.heap.objs.size, ⟨⟨.none, he⟩, hit, Nat.succ_ne_self _⟩, fun b hb => ?_, q⟩
  have e' : b = s1.heap.objs.size + 1 ∨ b = s1.heap.objs.size := by simpa using hb
  have hle : s1.heap.objs.size ≤ b := by
    rcases e' with z | z
    · rw [z]; exact Nat.le_add_right _ _
    · rw [z]; exact Nat.le_refl _
  exact I1.fpOk hle (I1.hok.fresh hle)
theorem walk_enumS {z : Str} : Walk (ItE z) z.cps.size (fun _ => True) (fun i H v H' => ∃ T c, v = .ref T ∧ H T = none ∧ z.cps[i]? = some c ∧ H' = upd H T (.tup [.int (i : Nat), .str ⟨#[c]⟩])) :=
  ⟨fun _ _ hi _ => hi, fun _ _ => rfl, fun _ _ _ _ _ _ y => y⟩
end Nm

/-! The own layer: readings by names, their steps (z_..). -/
namespace Nm
open PySem PySem.Spec PyProof.Rows L2
/-! ### readings that the layer has without a name -/
def nAddS : R2 := fun x y H Q => ∃ i j, x = .str i ∧ y = .str j ∧ i.length + j.length ≤ sizeLine ∧ Q (.str (i ++ j)) H
def nInC : R2 := fun x y H Q => ∃ (c : Nat) (z : Str), x = .str ⟨#[c]⟩ ∧ y = .str z ∧ Q (.bl (decide (c ∈ z.cps.toList))) H
def nNotInC : R2 := fun x y H Q => ∃ (c : Nat) (z : Str), x = .str ⟨#[c]⟩ ∧ y = .str z ∧ Q (.bl (!decide (c ∈ z.cps.toList))) H
def nIsN : R2 := fun x y H Q => y = .non ∧ Q (.bl (decide (x = .non))) H
def nNotN : R2 := fun x y H Q => y = .non ∧ Q (.bl (!decide (x = .non))) H
def nLenS : List V → Hp → VK → Prop := fun xs H Q => ∃ z, xs = [.str z] ∧ z.length ≤ sizeLine ∧ Q (.int z.length) H
def nLenL (K : PySem.W.Frag) : List V → Hp → VK → Prop := fun xs H Q => ∃ p ys, xs = [.ref p] ∧ (SqL K H p ys ∨ SqT K H p ys) ∧ Q (.int ys.length) H
def nListOf (K : PySem.W.Frag) : List V → Hp → VK → Prop := fun xs H Q => ∃ p ys, xs = [.ref p] ∧ (SqL K H p ys ∨ SqT K H p ys) ∧ ∀ l, H l = none → Q (.ref l) (upd H l (.lst ys))
def nTupleOf (K : PySem.W.Frag) : List V → Hp → VK → Prop := fun xs H Q => ∃ p ys, xs = [.ref p] ∧ ((SqL K H p ys ∧ ∀ l, H l = none → Q (.ref l) (upd H l (.tup ys))) ∨ (SqT K H p ys ∧ Q (.ref p) H))
def nInt1 : List V → Hp → VK → Prop := fun xs H Q => (∃ i, xs = [.int i] ∧ Q (.int i) H) ∨ ∃ k, xs = [.bl k] ∧ Q (.int (if k then 1 else 0)) H
section
variable {X : Cx}
theorem op_addS : OpR X (binaryOp .Add) nAddS := op_add_str
theorem op_inC : OpR X (compareOp .In) nInC := op_in_sign
theorem op_notInC : OpR X (compareOp .NotIn) nNotInC := op_notIn_sign
theorem op_isNn : OpR X (compareOp .Is) nIsN := op_isN
theorem op_notNn : OpR X (compareOp .IsNot) nNotN := op_notN
theorem call_lenS : CallR X (.builtin "len") nLenS := call_len_str
theorem call_lenL : CallR X (.builtin "len") (nLenL X.K) := call_len_seq
theorem call_listOf : CallR X (.type "list") (nListOf X.K) := call_list_of
theorem call_tupleOf : CallR X (.type "tuple") (nTupleOf X.K) := call_tuple_of
theorem call_int1n : CallR X (.type "int") nInt1 := call_int1
end

theorem rel_str {x : Str} {t : Tok} : RelV (.str x) (.str x t) := ⟨t, rfl⟩
theorem rel_int {x : Int} {t : Tok} : RelV (.int x) (.int x t) := ⟨t, rfl⟩
theorem rel_ref {a : Addr} : RelV (.ref a) (.ref a) := rfl

/-! ### a call of an own def, nothing left to defaults -/
def tCallN (sp : Sp) (E : XK) (t : TA) : TE := fun σ H Q => t σ H fun vs H1 => sp vs H1 Q E
section
variable {X : Cx} {CX : CXT} {k : Nat} {f : Addr} {fd : FuncData} {ps : List Str} {sp : Sp} {E : XK} {x : Str} {e : Expr} {es : List Expr} {t : TA} {p pos : Pos}
theorem tCallN_eq : tCallN sp E t = tCall sp [] E t := by
  funext σ H Q
  show t σ H (fun vs H1 => sp vs H1 Q E) = t σ H (fun vs H1 => sp (vs ++ []) H1 Q E)
  simp only [List.append_nil]
/-- where a def stands -/
structure Df (K : PySem.W.Frag) (mg : Str → Option Value) (x : Str) (st : Stmt) (ps : List Str) (f : Addr) (fd : FuncData) : Prop where
  F : Fun K x x st f fd
  g : mg x = some (.ref f)
  b : Binds K fd ps []
theorem pe_callN {st : Stmt} (D : Df X.K X.mg x st ps f fd) (F : FnOk X.prog X.w X.K X.mg X.base CX k f fd ps sp) (hr : Room k X.A) (hx : Passes CX X E) (ha : PA X (e :: es) t) (hg : Gl X x := by rfl)
    (hs : starEach (e :: es) X.env = (false, eval e X.env) :: starEach es X.env := by rfl) (hpl : (backTo pos (starEach es X.env)).any (·.1) = false := by rfl) (hdb : (x == ("__debug__" : Str)) = false := by decide) :
    PE X (.Call (.Name x p) (e :: es) [] pos) (tCallN sp E t) := by
  rw [tCallN_eq]
  exact pe_call F hr hg D.g D.F.kp D.b .nil hx ha (hdb := hdb) (he := hs) (hpl := hpl)
theorem pe_callN0 {st : Stmt} (D : Df X.K X.mg x st ps f fd) (F : FnOk X.prog X.w X.K X.mg X.base CX k f fd ps sp) (hr : Room k X.A) (hx : Passes CX X E) (hg : Gl X x := by rfl) (hdb : (x == ("__debug__" : Str)) = false := by decide) :
    PE X (.Call (.Name x p) [] [] pos) (tCallN sp E tNil) := by
  rw [tCallN_eq]
  exact pe_call0 F hr hg D.g D.F.kp D.b .nil hx (hdb := hdb)
end

/-! ### words between: an expression, a test -/
def tCutE (te : TE) : TE := fun σ H Q => ∃ W : V → Hp → Prop, te σ H W ∧ ∀ v H', W v H' → Q v H'
def tCutT (tt : TT) : TT := fun σ H Q => ∃ W : Bool → Hp → Prop, tt σ H W ∧ ∀ v H', W v H' → Q v H'
theorem pe_cut {X : Cx} {e : Expr} {te : TE} (h : PE X e te) : PE X e (tCutE te) := ⟨fun pins s σ H Q I ⟨W, h1, h2⟩ => thn (h.run pins s σ H W I h1) fun u s' ⟨v, H', I', r, q⟩ => ⟨v, H', I', r, h2 v H' q⟩⟩
theorem pt_cut {X : Cx} {e : Expr} {tt : TT} (h : PT X e tt) : PT X e (tCutT tt) := ⟨fun pins s σ H Q I ⟨W, h1, h2⟩ => thn (h.run pins s σ H W I h1) fun u s' ⟨H', I', q⟩ => ⟨H', I', h2 u H' q⟩⟩
theorem z_cutE {te : TE} {σ : L2.St} {H : Hp} {Q : VK} (W : V → Hp → Prop) (h1 : te σ H W) (h2 : ∀ v H', W v H' → Q v H') : tCutE te σ H Q := ⟨W, h1, h2⟩
theorem z_cutT {tt : TT} {σ : L2.St} {H : Hp} {Q : Bool → Hp → Prop} (W : Bool → Hp → Prop) (h1 : tt σ H W) (h2 : ∀ v H', W v H' → Q v H') : tCutT tt σ H Q := ⟨W, h1, h2⟩
/-- the value is known, what stood stands -/
theorem z_cutV {te : TE} {σ : L2.St} {H : Hp} {Q : VK} (v : V) (h1 : te σ H fun v' H' => v' = v ∧ Same H H') (h2 : ∀ H', Same H H' → Q v H') : tCutE te σ H Q := ⟨_, h1, fun v' H' ⟨e, s⟩ => e ▸ h2 H' s⟩
theorem z_cutB {tt : TT} {σ : L2.St} {H : Hp} {Q : Bool → Hp → Prop} (b : Bool) (h1 : tt σ H fun b' H' => b' = b ∧ Same H H') (h2 : ∀ H', Same H H' → Q b H') : tCutT tt σ H Q := ⟨_, h1, fun v' H' ⟨e, s⟩ => e ▸ h2 H' s⟩

theorem not_t {b : Bool} (h : (!b) = true) : b = false := by simpa using h
theorem not_f {b : Bool} (h : (!b) = false) : b = true := by simpa using h
theorem z_iteNT {A B : Prop} (h : B) : if (!true) = true then A else B := by simpa using h
theorem z_iteNF {A B : Prop} (h : A) : if (!false) = true then A else B := by simpa using h
/-! ### steps -/
section
variable {σ : L2.St} {H : Hp} {Q : VK} {QT : Bool → Hp → Prop} {QA : List V → Hp → Prop} {QO : Option Int → Hp → Prop} {ta tb tc te : TE} {r r' : R2} {x y v : V} {K : PySem.W.Frag} {D : Ends}
theorem z_var {i : Nat} (h : σ[i]? = some (some v)) (q : Q v H) : tVar i σ H Q := ⟨v, h, q⟩
theorem z_c (q : Q v H) : tC v σ H Q := q
theorem z_op (h : ta σ H fun x H1 => tb σ H1 fun y H2 => r x y H2 Q) : tOp r ta tb σ H Q := h
theorem z_un {r : V → Hp → VK → Prop} (h : ta σ H fun x H1 => r x H1 Q) : tUn r ta σ H Q := h
/-! two ints -/
theorem z_rI0 {g : Int → Int → V} {i j : Int} (q : Q (g i j) H) : rI0 g (.int i) (.int j) H Q := ⟨i, j, rfl, rfl, q⟩
theorem z_rI {C : Int → Int → Prop} {g : Int → Int → V} {i j : Int} (c : C i j) (q : Q (g i j) H) : rI C g (.int i) (.int j) H Q := ⟨i, j, rfl, rfl, c, q⟩
theorem z_rU {g : Int → V} {i : Int} (q : Q (g i) H) : rU g (.int i) H Q := ⟨i, rfl, q⟩
/-! == and != of plain things -/
theorem z_eqI {i j : Int} (q : Q (.bl (decide (i = j))) H) : rEq (.int i) (.int j) H Q := ⟨rfl, by
  have e : decide (V.int i = V.int j) = decide (i = j) := by simp
  rw [e]; exact q⟩
theorem z_neI {i j : Int} (q : Q (.bl (!decide (i = j))) H) : rNe (.int i) (.int j) H Q := ⟨rfl, by
  have e : decide (V.int i = V.int j) = decide (i = j) := by simp
  rw [e]; exact q⟩
theorem z_eqS {i j : Str} (q : Q (.bl (decide (i = j))) H) : rEq (.str i) (.str j) H Q := ⟨rfl, by
  have e : decide (V.str i = V.str j) = decide (i = j) := by simp
  rw [e]; exact q⟩
theorem z_neS {i j : Str} (q : Q (.bl (!decide (i = j))) H) : rNe (.str i) (.str j) H Q := ⟨rfl, by
  have e : decide (V.str i = V.str j) = decide (i = j) := by simp
  rw [e]; exact q⟩
theorem z_eq (h : scal x y = true) (q : Q (.bl (decide (x = y))) H) : rEq x y H Q := ⟨h, q⟩
theorem z_ne (h : scal x y = true) (q : Q (.bl (!decide (x = y))) H) : rNe x y H Q := ⟨h, q⟩
/-! texts -/
theorem z_addS {i j : Str} (hl : i.length + j.length ≤ sizeLine) (q : Q (.str (i ++ j)) H) : nAddS (.str i) (.str j) H Q := ⟨i, j, rfl, rfl, hl, q⟩
theorem z_inC {c : Nat} {z : Str} (q : Q (.bl (decide (c ∈ z.cps.toList))) H) : nInC (.str ⟨#[c]⟩) (.str z) H Q := ⟨c, z, rfl, rfl, q⟩
theorem z_notInC {c : Nat} {z : Str} (q : Q (.bl (!decide (c ∈ z.cps.toList))) H) : nNotInC (.str ⟨#[c]⟩) (.str z) H Q := ⟨c, z, rfl, rfl, q⟩
theorem z_mulS {z : Str} {n : Int} (h0 : 0 ≤ n) (h1 : n ≤ 100000) (hz : z.length ≤ 100) (q : Q (.str (mulS z n.toNat)) H) : rMulS (.str z) (.int n) H Q := ⟨z, n, rfl, rfl, h0, h1, hz, q⟩
theorem z_lenS {z : Str} (hz : z.length ≤ sizeLine) (q : Q (.int z.length) H) : nLenS [.str z] H Q := ⟨z, rfl, hz, q⟩
theorem z_ixS {z : Str} {i : Int} {c : Nat} (hz : z.length ≤ sizeLine) (h : atI z.cps.toList i = some c) (q : Q (.str ⟨#[c]⟩) H) : rIxS (.str z) (.int i) H Q := ⟨z, i, c, rfl, rfl, hz, h, q⟩
theorem z_slS {z : Str} {lo hi : Option Int} (hz : z.length ≤ sizeLine) (q : Q (.str (cutS z lo hi)) H) : rSlS (.str z) lo hi H Q := ⟨z, rfl, hz, q⟩
theorem z_isN (q : Q (.bl (decide (x = .non))) H) : nIsN x .non H Q := ⟨rfl, q⟩
theorem z_notN (q : Q (.bl (!decide (x = .non))) H) : nNotN x .non H Q := ⟨rfl, q⟩
/-! slices -/
theorem z_sl {rs : V → Option Int → Option Int → Hp → VK → Prop} {tl th : TO} (h : te σ H fun x H1 => tl σ H1 fun l H2 => th σ H2 fun u H3 => rs x l u H3 Q) : tSl rs te tl th σ H Q := h
theorem z_noPart (q : QO none H) : tNoPart σ H QO := q
def kPart (QO : Option Int → Hp → Prop) : VK := fun x H1 => ∃ i, x = .int i ∧ QO (some i) H1
theorem z_part (h : te σ H (kPart QO)) : tPart te σ H QO := h
theorem z_kPart {i : Int} (q : QO (some i) H) : kPart QO (.int i) H := ⟨i, rfl, q⟩
/-! arguments, displays -/
theorem z_nil (q : QA [] H) : tNil σ H QA := q
theorem z_cons {tr : TA} (h : ta σ H fun x H1 => tr σ H1 fun xs H2 => QA (x :: xs) H2) : tCons ta tr σ H QA := h
def kTup (Q : VK) : List V → Hp → Prop := fun xs H1 => xs.length ≤ sizeLine ∧ ∀ p, H1 p = none → Q (.ref p) (upd H1 p (.tup xs))
def kLst (Q : VK) : List V → Hp → Prop := fun xs H1 => xs.length ≤ sizeLine ∧ ∀ p, H1 p = none → Q (.ref p) (upd H1 p (.lst xs))
theorem z_tup {t : TA} (h : t σ H (kTup Q)) : tTup t σ H Q := h
theorem z_lst {t : TA} (h : t σ H (kLst Q)) : tLst t σ H Q := h
/-- a new object at p, the heap behind it by a letter -/
theorem new_by {H : Hp} {o : HO} {R : Addr → Hp → Prop} (k : ∀ p H', H p = none → Same H H' → H' p = some o → (∀ a, a ≠ p → H' a = H a) → R p H') : ∀ p, H p = none → R p (upd H p o) :=
  fun p hp => k p _ hp (Same.new hp) upd_same fun a ha => upd_ne ha
theorem z_kTup {xs : List V} (hl : xs.length ≤ sizeLine) (k : ∀ p H', H p = none → Same H H' → H' p = some (.tup xs) → Q (.ref p) H') : kTup Q xs H := ⟨hl, new_by (R := fun p H' => Q (.ref p) H') fun p H' a b c _ => k p H' a b c⟩
theorem z_kLst {xs : List V} (hl : xs.length ≤ sizeLine) (k : ∀ p H', H p = none → Same H H' → H' p = some (.lst xs) → Q (.ref p) H') : kLst Q xs H := ⟨hl, new_by (R := fun p H' => Q (.ref p) H') fun p H' a b c _ => k p H' a b c⟩
/-! calls -/
theorem z_cb {f : List V → Hp → VK → Prop} {t : TA} (h : t σ H fun vs H1 => f vs H1 Q) : tCB f t σ H Q := h
theorem z_call {sp : Sp} {E : XK} {t : TA} (h : t σ H fun vs H1 => sp vs H1 Q E) : tCallN sp E t σ H Q := h
theorem z_lenL {p : Addr} {ys : List V} (h : SqL K H p ys) (q : Q (.int ys.length) H) : nLenL K [.ref p] H Q := ⟨p, ys, rfl, .inl h, q⟩
theorem z_lenT {p : Addr} {ys : List V} (h : SqT K H p ys) (q : Q (.int ys.length) H) : nLenL K [.ref p] H Q := ⟨p, ys, rfl, .inr h, q⟩
theorem z_listOfL {p : Addr} {ys : List V} (h : SqL K H p ys) (k : ∀ p H', H p = none → Same H H' → H' p = some (.lst ys) → Q (.ref p) H') : nListOf K [.ref p] H Q := ⟨p, ys, rfl, .inl h, new_by (R := fun p H' => Q (.ref p) H') fun p H' a b c _ => k p H' a b c⟩
theorem z_listOfT {p : Addr} {ys : List V} (h : SqT K H p ys) (k : ∀ p H', H p = none → Same H H' → H' p = some (.lst ys) → Q (.ref p) H') : nListOf K [.ref p] H Q := ⟨p, ys, rfl, .inr h, new_by (R := fun p H' => Q (.ref p) H') fun p H' a b c _ => k p H' a b c⟩
theorem z_listS {z : Str} (hz : z.length ≤ sizeLine) (k : ∀ p H', H p = none → Same H H' → H' p = some (.lst (signsV z)) → Q (.ref p) H') : rListS [.str z] H Q := ⟨z, rfl, hz, new_by (R := fun p H' => Q (.ref p) H') fun p H' a b c _ => k p H' a b c⟩
theorem z_tupleOfL {p : Addr} {ys : List V} (h : SqL K H p ys) (k : ∀ p H', H p = none → Same H H' → H' p = some (.tup ys) → Q (.ref p) H') : nTupleOf K [.ref p] H Q := ⟨p, ys, rfl, .inl ⟨h, new_by (R := fun p H' => Q (.ref p) H') fun p H' a b c _ => k p H' a b c⟩⟩
theorem z_tupleOfT {p : Addr} {ys : List V} (h : SqT K H p ys) (q : Q (.ref p) H) : nTupleOf K [.ref p] H Q := ⟨p, ys, rfl, .inr ⟨h, q⟩⟩
theorem z_intI {i : Int} (q : Q (.int i) H) : nInt1 [.int i] H Q := .inl ⟨i, rfl, q⟩
theorem z_intB {b : Bool} (q : Q (.int (if b then 1 else 0)) H) : nInt1 [.bl b] H Q := .inr ⟨b, rfl, q⟩
/-! items -/
theorem z_ixL {p : Addr} {ys : List V} {i : Int} (h : SqL K H p ys) (e : atI ys i = some v) (q : Q v H) : rIxL K (.ref p) (.int i) H Q := ⟨p, ys, i, v, rfl, rfl, h, e, q⟩
theorem z_ixT {p : Addr} {ys : List V} {i : Int} (h : SqT K H p ys) (e : atI ys i = some v) (q : Q v H) : rIxT K (.ref p) (.int i) H Q := ⟨p, ys, i, v, rfl, rfl, h, e, q⟩
theorem z_slL {p : Addr} {ys : List V} {lo hi : Option Int} (h : SqL K H p ys) (k : ∀ p H', H p = none → Same H H' → H' p = some (.lst (cutV ys lo hi)) → Q (.ref p) H') : rSlL K (.ref p) lo hi H Q := ⟨p, ys, rfl, h, new_by (R := fun p H' => Q (.ref p) H') fun p H' a b c _ => k p H' a b c⟩
theorem z_inL {p : Addr} {ys : List V} {neg : Bool} (h : SqL K H p ys) (hx : flatV x = true) (ha : ys.all flatV = true) (q : Q (.bl (if neg then !inV x ys else inV x ys)) H) : rIn K neg x (.ref p) H Q := ⟨p, ys, rfl, .inl h, hx, ha, q⟩
theorem z_inT {p : Addr} {ys : List V} {neg : Bool} (h : SqT K H p ys) (hx : flatV x = true) (ha : ys.all flatV = true) (q : Q (.bl (if neg then !inV x ys else inV x ys)) H) : rIn K neg x (.ref p) H Q := ⟨p, ys, rfl, .inr h, hx, ha, q⟩
theorem z_eqD {d e : PyData} (h1 : Dp K H x d) (h2 : Dp K H y e) (s1 : SeqAt.shaped d = true) (s2 : SeqAt.shaped e = true) (q : Q (.bl (PyData.eqv d e)) H) : rEqD K x y H Q := ⟨d, e, h1, h2, s1, s2, q⟩
theorem z_neD {d e : PyData} (h1 : Dp K H x d) (h2 : Dp K H y e) (s1 : SeqAt.shaped d = true) (s2 : SeqAt.shaped e = true) (q : Q (.bl (!PyData.eqv d e)) H) : rNeD K x y H Q := ⟨d, e, h1, h2, s1, s2, q⟩
theorem z_all {p : Addr} {bs : List Bool} (h : SqL K H p (bs.map V.bl)) (q : Q (.bl (bs.all id)) H) : rAll K [.ref p] H Q := ⟨p, bs, rfl, h, q⟩
theorem z_isi {c : V} {t u : Value} {b : Bool} (hc : ClsV c u) (hx : TyX K H x t) (e : PySem.W.kitOne K t u = some b) (q : Q (.bl b) H) : rIsi K [x, c] H Q := ⟨x, c, t, u, b, rfl, hc, hx, e, q⟩
/-! tests -/
def kT (QT : Bool → Hp → Prop) : VK := fun x H' => ∃ k, x = .bl k ∧ QT k H'
theorem z_test (h : te σ H (kT QT)) : tTest te σ H QT := h
theorem z_tB (h : te σ H (kT QT)) : tB te σ H QT := h
theorem z_kT {b : Bool} (q : QT b H) : kT QT (.bl b) H := ⟨b, rfl, q⟩
def kCh (r' : R2) (tc : TE) (σ : L2.St) (y : V) (Q : VK) : VK := fun z H3 => ∃ k, z = .bl k ∧ (if k = true then tc σ H3 fun w' H4 => r' y w' H4 Q else Q (.bl false) H3)
theorem z_chain (h : ta σ H fun x H1 => tb σ H1 fun y H2 => r x y H2 (kCh r' tc σ y Q)) : tChain r r' ta tb tc σ H Q := h
theorem z_kCh {b : Bool} (q : if b = true then tc σ H fun w' H4 => r' y w' H4 Q else Q (.bl false) H) : kCh r' tc σ y Q (.bl b) H := ⟨b, rfl, q⟩
variable {t u : TT}
theorem z_andT (h : t σ H fun c H1 => if c = true then u σ H1 QT else QT false H1) : tAnd t u σ H QT := h
theorem z_orT (h : t σ H fun c H1 => if c = true then QT true H1 else u σ H1 QT) : tOr t u σ H QT := h
theorem z_notT (h : t σ H fun c H1 => QT (!c) H1) : tNot t σ H QT := h
def kAndV (tb : TE) (σ : L2.St) (Q : VK) : VK := fun x H1 => ∃ c, x = .bl c ∧ if c = true then tb σ H1 Q else Q (.bl false) H1
def kOrV (tb : TE) (σ : L2.St) (Q : VK) : VK := fun x H1 => ∃ c, x = .bl c ∧ if c = true then Q (.bl true) H1 else tb σ H1 Q
def kNotV (Q : VK) : VK := fun x H1 => ∃ c, x = .bl c ∧ Q (.bl (!c)) H1
theorem z_andV (h : ta σ H (kAndV tb σ Q)) : tAndV ta tb σ H Q := h
theorem z_orV (h : ta σ H (kOrV tb σ Q)) : tOrV ta tb σ H Q := h
theorem z_notV (h : ta σ H (kNotV Q)) : tNotV ta σ H Q := h
theorem z_kAndV {b : Bool} (q : if b = true then tb σ H Q else Q (.bl false) H) : kAndV tb σ Q (.bl b) H := ⟨b, rfl, q⟩
theorem z_kOrV {b : Bool} (q : if b = true then Q (.bl true) H else tb σ H Q) : kOrV tb σ Q (.bl b) H := ⟨b, rfl, q⟩
theorem z_kNotV {b : Bool} (q : Q (.bl (!b)) H) : kNotV Q (.bl b) H := ⟨b, rfl, q⟩
theorem z_ifE (h : t σ H fun c H1 => if c = true then ta σ H1 Q else tb σ H1 Q) : tIf t ta tb σ H Q := h
/-! statements -/
variable {ts us : TS}
theorem z_seq (h : ts { D with nx := us D } σ H) : tSeq ts us D σ H := h
theorem z_next (h : D.nx σ H) : tNext D σ H := h
theorem z_brk (h : D.bk σ H) : tBreak D σ H := h
theorem z_cnt (h : D.ct σ H) : tCont D σ H := h
theorem z_ret (h : te σ H D.rt) : tRet te D σ H := h
theorem z_retN (h : D.rt .non H) : tRetN D σ H := h
theorem z_ifS {c : TT} (h : c σ H fun b H1 => if b = true then ts D σ H1 else us D σ H1) : tIfS c ts us D σ H := h
theorem z_drop (h : te σ H fun _ H1 => D.nx σ H1) : tDrop te D σ H := h
theorem z_asg {g : TG} (h : te σ H fun x H1 => g x σ H1 D.nx) : tAsg te g D σ H := h
theorem z_gName {i : Nat} {QS : L2.St → Hp → Prop} (h : QS (σ.set i (some v)) H) : gName i v σ H QS := h
theorem z_gTup {n : Nat} {g : TGs} {QS : L2.St → Hp → Prop} {a : Addr} {xs : List V} (h : SqT K H a xs) (hn : xs.length = n) (q : g xs σ H QS) : gTup K n g (.ref a) σ H QS := ⟨a, xs, rfl, h, hn, q⟩
theorem z_gCons {g : TG} {gs : TGs} {QS : L2.St → Hp → Prop} {vs : List V} (q : g v σ H fun σ' H' => gs vs σ' H' QS) : gCons g gs (v :: vs) σ H QS := ⟨v, vs, rfl, q⟩
theorem z_gNil {QS : L2.St → Hp → Prop} (q : QS σ H) : gNil [] σ H QS := ⟨rfl, q⟩
def kPar (i j : Nat) (D : Ends) (σ : L2.St) : List V → Hp → Prop := fun vs H1 => ∃ v w, vs = [v, w] ∧ D.nx ((σ.set i (some v)).set j (some w)) H1
theorem z_par {i j : Nat} {t : TA} (h : t σ H (kPar i j D σ)) : tPar i j t D σ H := h
theorem z_kPar {i j : Nat} (h : D.nx ((σ.set i (some x)).set j (some y)) H) : kPar i j D σ [x, y] H := ⟨x, y, rfl, h⟩
/-! the ends -/
variable {n b c : L2.St → Hp → Prop} {rt : VK}
theorem z_nx (h : n σ H) : Ends.nx ⟨n, rt, b, c⟩ σ H := h
theorem z_rt (h : rt v H) : Ends.rt ⟨n, rt, b, c⟩ v H := h
theorem z_bk (h : b σ H) : Ends.bk ⟨n, rt, b, c⟩ σ H := h
theorem z_ct (h : c σ H) : Ends.ct ⟨n, rt, b, c⟩ σ H := h
/-! branches -/
theorem z_ite {b : Bool} {A B : Prop} (h1 : b = true → A) (h2 : b = false → B) : if b = true then A else B := by
  cases b with
  | true => exact iteT (h1 rfl)
  | false => exact iteF (h2 rfl)
/-! append -/
theorem z_bm {T : String} {f : V → List V → Hp → VK → Prop} {t : TA} (h : ta σ H fun x H1 => tyV K T x H1 ∧ t σ H1 fun xs H2 => f x xs H2 Q) : tBM K T f ta t σ H Q := h
end
end Nm

/-! The own layer: the pen of the laws (the source of all draws). -/
namespace Nm
open PySem PySem.Spec PyProof.Rows L2
def penKv (c : Addr) (a g n f : Int) : List (Key × V) :=
  [(.inr "cells", .ref c), (.inr "at", .int a), (.inr "digits", .int g), (.inr "count", .int n), (.inr "fold", .int f)]
section
variable (c : Addr) (a g n f z : Int)
theorem pen_cells : valV (penKv c a g n f) (.inr "cells") = some (.ref c) := by kernel_rfl
theorem pen_at : valV (penKv c a g n f) (.inr "at") = some (.int a) := by kernel_rfl
theorem pen_digits : valV (penKv c a g n f) (.inr "digits") = some (.int g) := by kernel_rfl
theorem pen_count : valV (penKv c a g n f) (.inr "count") = some (.int n) := by kernel_rfl
theorem pen_fold : valV (penKv c a g n f) (.inr "fold") = some (.int f) := by kernel_rfl
theorem put_at : putK (penKv c a g n f) (.inr "at") (.int z) = penKv c z g n f := by kernel_rfl
theorem put_digits : putK (penKv c a g n f) (.inr "digits") (.int z) = penKv c a z n f := by kernel_rfl
theorem put_count : putK (penKv c a g n f) (.inr "count") (.int z) = penKv c a g z f := by kernel_rfl
theorem put_fold : putK (penKv c a g n f) (.inr "fold") (.int z) = penKv c a g n z := by kernel_rfl
theorem pen_merge : mergeK [] (penKv c a g n f) = penKv c a g n f := by kernel_rfl
end
/-- a pen stands at d, its numbers in the list at c, m draws are still let -/
def Pen (K : PySem.W.Frag) (H : Hp) (d c : Addr) (m : Nat) : Prop :=
  ∃ (a g n f : Int) (ns : List Int), H d = some (.dK (penKv c a g n f)) ∧ H c = some (.lst (ns.map V.int)) ∧ 0 ≤ a ∧ 0 ≤ g ∧ 0 ≤ n ∧ n + m ≤ 1000000000 ∧ 0 ≤ f ∧ f < 2147483587
theorem Pen.less {K : PySem.W.Frag} {H : Hp} {d c : Addr} {m m' : Nat} (h : Pen K H d c m) (e : m' ≤ m) : Pen K H d c m' := by
  obtain ⟨a, g, n, f, ns, h1, h2, h3, h4, h5, h6, h7, h8⟩ := h
  exact ⟨a, g, n, f, ns, h1, h2, h3, h4, h5, by omega, h7, h8⟩
theorem Pen.same {K : PySem.W.Frag} {H H' : Hp} {d c : Addr} {m : Nat} (s : Same H H') (h : Pen K H d c m) : Pen K H' d c m := by
  obtain ⟨a, g, n, f, ns, h1, h2, h3⟩ := h
  exact ⟨a, g, n, f, ns, s _ _ h1, s _ _ h2, h3⟩
theorem Pen.keep {K : PySem.W.Frag} {H H' : Hp} {d c : Addr} {m : Nat} (b : But d H H') (h : Pen K H d c m) : Keep H H' := by
  obtain ⟨a, g, n, f, ns, h1, _⟩ := h
  exact b.keep h1
theorem Pen.ne {K : PySem.W.Frag} {H : Hp} {d c p : Addr} {m : Nat} (h : Pen K H d c m) (hp : H p = none) : p ≠ d := fun e => by
  obtain ⟨a, g, n, f, ns, h1, _⟩ := h
  rw [← e, hp] at h1
  cases h1
/-- an object that an earlier heap did not know may change -/
theorem Pen.mut {K : PySem.W.Frag} {H0 H : Hp} {d c D : Addr} {m0 m : Nat} {o : HO} (h0 : Pen K H0 d c m0) (hD : H0 D = none) (h : Pen K H d c m) : Pen K (upd H D o) d c m := by
  have nd := h0.ne hD
  obtain ⟨_, _, _, _, ns0, _, q0, _⟩ := h0
  obtain ⟨a, g, n, f, ns, h1, h2, h3⟩ := h
  exact ⟨a, g, n, f, ns, by rw [upd_ne (Ne.symm nd)]; exact h1, by rw [upd_ne (ne_of_none q0 hD)]; exact h2, h3⟩
/-- a pen that was changed -/
theorem pen_new {K : PySem.W.Frag} {H : Hp} {d c : Addr} {a g n f : Int} {kvs : List (Key × V)} {ns : List Int} {m : Nat} (h1 : H d = some (.dK kvs)) (h2 : H c = some (.lst (ns.map V.int))) (e : kvs = penKv c a g n f) (h : 0 ≤ a ∧ 0 ≤ g ∧ 0 ≤ n ∧ n + m ≤ 1000000000 ∧ 0 ≤ f ∧ f < 2147483587) : Pen K H d c m := by
  subst e
  exact ⟨a, g, n, f, ns, h1, h2, h⟩
/-- _law_draw -/
def spDraw (K : PySem.W.Frag) : Sp := fun vs H Q _ => ∃ (d c : Addr) (m : Nat) (many : Int), vs = [.ref d, .int many] ∧ Pen K H d c (m + 1) ∧ 0 < many ∧ many.natAbs.log2 < 9000 ∧
  ∀ (r : Int) H', 0 ≤ r → r < many → But d H H' → Pen K H' d c m → Q (.int r) H'
/-- _law_pen -/
def spPen (K : PySem.W.Frag) : Sp := fun vs H Q _ => ∃ (a : Addr) (ns : List Int), vs = [.ref a] ∧ SqL K H a (ns.map V.int) ∧ ∀ d c H', H d = none → Same H H' → Pen K H' d c 100000000 → Q (.ref d) H'
/-- _law_pick: the drawn item of a list -/
def spPick (K : PySem.W.Frag) : Sp := fun vs H Q _ => ∃ (d c p : Addr) (m : Nat) (ys : List V), vs = [.ref d, .ref p] ∧ Pen K H d c (m + 1) ∧ SqL K H p ys ∧ ys ≠ [] ∧ ys.length ≤ 100000 ∧
  ∀ (v : V) H', v ∈ ys → But d H H' → Pen K H' d c m → Q v H'
/-! dict steps of the pen -/
section
variable {σ : L2.St} {H : Hp} {Q : VK} {K : PySem.W.Frag} {D : Ends} {td ty tv : TE}
def kPut (D : Ends) (σ : L2.St) (v x y : V) (H3 : Hp) : Prop := ∃ a H4, x = .ref a ∧ DPut H3 a y v H4 ∧ D.nx σ H4
theorem z_dput (h : tv σ H fun v H1 => td σ H1 fun x H2 => ty σ H2 fun y H3 => kPut D σ v x y H3) : sDPut td ty tv D σ H := h
theorem z_kPutS {v : V} {d : Addr} {x : Str} {kvs : List (Key × V)} (h : H d = some (.dK kvs)) (hl : kvs.length ≤ 1000) (q : D.nx σ (upd H d (.dK (putK kvs (.inr x) v)))) : kPut D σ v (.ref d) (.str x) H :=
  ⟨d, _, rfl, DPut.k (k := Sum.inr x) h (small1000 hl), q⟩
theorem z_kPutI {v : V} {d : Addr} {x : Int} {kvs : List (Key × V)} (h : H d = some (.dK kvs)) (hl : kvs.length ≤ 1000) (q : D.nx σ (upd H d (.dK (putK kvs (.inl x) v)))) : kPut D σ v (.ref d) (.int x) H :=
  ⟨d, _, rfl, DPut.k (k := Sum.inl x) h (small1000 hl), q⟩
def kGet (Q : VK) (x y : V) (H2 : Hp) : Prop := ∃ a v, x = .ref a ∧ DGet H2 a y (some v) ∧ Q v H2
theorem z_dget (h : td σ H fun x H1 => ty σ H1 fun y H2 => kGet Q x y H2) : tDGet td ty σ H Q := h
theorem z_kGetS {v : V} {d : Addr} {x : Str} {kvs : List (Key × V)} (h : H d = some (.dK kvs)) (e : valV kvs (.inr x) = some v) (q : Q v H) : kGet Q (.ref d) (.str x) H :=
  ⟨d, v, rfl, by rw [← e]; exact DGet.k (k := Sum.inr x) h, q⟩
theorem z_kGetI {v : V} {d : Addr} {x : Int} {kvs : List (Key × V)} (h : H d = some (.dK kvs)) (e : valV kvs (.inl x) = some v) (q : Q v H) : kGet Q (.ref d) (.int x) H :=
  ⟨d, v, rfl, by rw [← e]; exact DGet.k (k := Sum.inl x) h, q⟩
end
theorem log2_small {n : Int} (h0 : 0 < n) (h : n ≤ 1000000000000000000) : n.natAbs.log2 < 9000 := by
  have : n.natAbs < 2 ^ 9000 := Nat.lt_of_le_of_lt (m := 1000000000000000000) (by omega) (by decide)
  exact (Nat.log2_lt (by omega)).mpr this
section
variable {σ : L2.St} {H : Hp} {Q : VK} {K : PySem.W.Frag} {D : Ends} {d c : Addr} {a g n f z : Int}
theorem put_gen {kvs kvs' : List (Key × V)} {x : Str} {v : V} (h : H d = some (.dK kvs)) (hl : kvs.length ≤ 1000) (e : putK kvs (.inr x) v = kvs') (k : ∀ H', But d H H' → H' d = some (.dK kvs') → D.nx σ H') : kPut D σ v (.ref d) (.str x) H :=
  z_kPutS h hl (k _ But.upd (by rw [upd_same, e]))
theorem z_put_at (h : H d = some (.dK (penKv c a g n f))) (k : ∀ H', But d H H' → H' d = some (.dK (penKv c z g n f)) → D.nx σ H') : kPut D σ (.int z) (.ref d) (.str "at") H := put_gen h (by show 5 ≤ 1000; decide) (put_at ..) k
theorem z_put_digits (h : H d = some (.dK (penKv c a g n f))) (k : ∀ H', But d H H' → H' d = some (.dK (penKv c a z n f)) → D.nx σ H') : kPut D σ (.int z) (.ref d) (.str "digits") H := put_gen h (by show 5 ≤ 1000; decide) (put_digits ..) k
theorem z_put_count (h : H d = some (.dK (penKv c a g n f))) (k : ∀ H', But d H H' → H' d = some (.dK (penKv c a g z f)) → D.nx σ H') : kPut D σ (.int z) (.ref d) (.str "count") H := put_gen h (by show 5 ≤ 1000; decide) (put_count ..) k
theorem z_put_fold (h : H d = some (.dK (penKv c a g n f))) (k : ∀ H', But d H H' → H' d = some (.dK (penKv c a g n z)) → D.nx σ H') : kPut D σ (.int z) (.ref d) (.str "fold") H := put_gen h (by show 5 ≤ 1000; decide) (put_fold ..) k
theorem z_get_cells (h : H d = some (.dK (penKv c a g n f))) (q : Q (.ref c) H) : kGet Q (.ref d) (.str "cells") H := z_kGetS h (pen_cells ..) q
theorem z_get_at (h : H d = some (.dK (penKv c a g n f))) (q : Q (.int a) H) : kGet Q (.ref d) (.str "at") H := z_kGetS h (pen_at ..) q
theorem z_get_digits (h : H d = some (.dK (penKv c a g n f))) (q : Q (.int g) H) : kGet Q (.ref d) (.str "digits") H := z_kGetS h (pen_digits ..) q
theorem z_get_count (h : H d = some (.dK (penKv c a g n f))) (q : Q (.int n) H) : kGet Q (.ref d) (.str "count") H := z_kGetS h (pen_count ..) q
theorem z_get_fold (h : H d = some (.dK (penKv c a g n f))) (q : Q (.int f) H) : kGet Q (.ref d) (.str "fold") H := z_kGetS h (pen_fold ..) q
end
/-! loops -/
section
variable {σ : L2.St} {H : Hp} {Q : VK} {K : PySem.W.Frag} {D : Ends} {g : TG} {tb : TS} {wi : TI} {ta : TA} {te : TE}
def kFor (g : TG) (tb : TS) (D : Ends) (σ : L2.St) : It → Hp → Prop := fun J H1 => ∃ W : Nat → Nat → L2.St → Hp → Prop, (∃ m, W 0 m σ H1) ∧ ∀ i m σ H, W i m σ H →
      (J.stop i H ∧ D.nx σ H) ∨ (J.go i H ∧ ∃ N : L2.St → Hp → Prop, (∀ σ' H', N σ' H' → ∃ m', m' < m ∧ W (i + 1) m' σ' H') ∧ ∀ x H', J.yld i H x H' → g x σ H' fun σ2 H2 => tb { D with nx := N, ct := N, bk := D.nx } σ2 H2)
theorem z_for (h : wi σ H (kFor g tb D σ)) : tFor wi g tb D σ H := h
def kIL (K : PySem.W.Frag) (R : It → Hp → Prop) : VK := fun x H1 => ∃ a, x = .ref a ∧ (∃ xs, SqL K H1 a xs) ∧ R (Itl K a) H1
def kIT (K : PySem.W.Frag) (R : It → Hp → Prop) : VK := fun x H1 => ∃ a, x = .ref a ∧ (∃ xs, SqT K H1 a xs) ∧ R (Itt K a) H1
def kIS (R : It → Hp → Prop) : VK := fun v H1 => ∃ x, v = .str x ∧ R (Its x) H1
def kIR1 (R : It → Hp → Prop) : List V → Hp → Prop := fun vs H1 => ∃ j : Int, vs = [.int j] ∧ -(2 ^ 62) ≤ j ∧ j < 2 ^ 62 ∧ R (Itr 0 j.toNat) H1
def kIE (R : It → Hp → Prop) : List V → Hp → Prop := fun vs H1 => ∃ z, vs = [.str z] ∧ R (ItE z) H1
variable {R : It → Hp → Prop}
theorem z_iList (h : te σ H (kIL K R)) : iList K te σ H R := h
theorem z_kIL {a : Addr} {xs : List V} (h : SqL K H a xs) (q : R (Itl K a) H) : kIL K R (.ref a) H := ⟨a, rfl, ⟨xs, h⟩, q⟩
theorem z_iTup (h : te σ H (kIT K R)) : iTup K te σ H R := h
theorem z_kIT {a : Addr} {xs : List V} (h : SqT K H a xs) (q : R (Itt K a) H) : kIT K R (.ref a) H := ⟨a, rfl, ⟨xs, h⟩, q⟩
theorem z_iStr (h : te σ H (kIS R)) : iStr te σ H R := h
theorem z_kIS {z : Str} (q : R (Its z) H) : kIS R (.str z) H := ⟨z, rfl, q⟩
theorem z_iRng1 (h : ta σ H (kIR1 R)) : iRng1 ta σ H R := h
theorem z_kIR1 {j : Int} (h0 : -(2 ^ 62) ≤ j) (h1 : j < 2 ^ 62) (q : R (Itr 0 j.toNat) H) : kIR1 R [.int j] H := ⟨j, rfl, h0, h1, q⟩
theorem z_iEnumS (h : ta σ H (kIE R)) : iEnumS ta σ H R := h
theorem z_kIE {z : Str} (q : R (ItE z) H) : kIE R [.str z] H := ⟨z, rfl, q⟩
/-- a loop over a list that stands still: Pv by the turn, the slots, the heap -/
theorem f_list {a : Addr} {xs : List V} (Pv : Nat → L2.St → Hp → Prop) (h0 : Pv 0 σ H) (hl : ∀ i σ H, Pv i σ H → SqL K H a xs)
    (hs : ∀ i x σ H, xs[i]? = some x → Pv i σ H → g x σ H fun σ2 H2 => tb { D with nx := Pv (i + 1), ct := Pv (i + 1), bk := D.nx } σ2 H2) (hd : ∀ σ H, Pv xs.length σ H → D.nx σ H) : kFor g tb D σ (Itl K a) H :=
  for_list (K := K) (a := a) (xs := xs) Pv h0 (fun i σ H _ => hl i σ H) hs hd
theorem f_tup {a : Addr} {xs : List V} (Pv : Nat → L2.St → Hp → Prop) (h0 : Pv 0 σ H) (hl : ∀ i σ H, Pv i σ H → SqT K H a xs)
    (hs : ∀ i x σ H, xs[i]? = some x → Pv i σ H → g x σ H fun σ2 H2 => tb { D with nx := Pv (i + 1), ct := Pv (i + 1), bk := D.nx } σ2 H2) (hd : ∀ σ H, Pv xs.length σ H → D.nx σ H) : kFor g tb D σ (Itt K a) H :=
  for_tup (K := K) (a := a) (xs := xs) Pv h0 (fun i σ H _ => hl i σ H) hs hd
theorem f_range {lo : Int} {n : Nat} (Pv : Nat → L2.St → Hp → Prop) (h0 : Pv 0 σ H)
    (hs : ∀ (i : Nat) σ H, i < n → Pv i σ H → g (.int (lo + i)) σ H fun σ2 H2 => tb { D with nx := Pv (i + 1), ct := Pv (i + 1), bk := D.nx } σ2 H2) (hd : ∀ σ H, Pv n σ H → D.nx σ H) : kFor g tb D σ (Itr lo n) H :=
  for_range Pv h0 hs hd
theorem f_str {z : Str} (Pv : Nat → L2.St → Hp → Prop) (h0 : Pv 0 σ H)
    (hs : ∀ i c σ H, z.cps[i]? = some c → Pv i σ H → g (.str ⟨#[c]⟩) σ H fun σ2 H2 => tb { D with nx := Pv (i + 1), ct := Pv (i + 1), bk := D.nx } σ2 H2) (hd : ∀ σ H, Pv z.cps.size σ H → D.nx σ H) : kFor g tb D σ (Its z) H :=
  for_it walk_str Pv h0 (fun _ _ _ _ _ => trivial) (fun i x σ H H' hi p ⟨e, c, hc, ev⟩ => by subst e ev; exact hs i c σ _ hc p) hd
/-- for at, sign in enumerate(text) -/
theorem f_enumS {z : Str} {i0 j0 : Nat} (Pv : Nat → L2.St → Hp → Prop) (h0 : Pv 0 σ H)
    (hs : ∀ (i : Nat) c σ H H', z.cps[i]? = some c → Pv i σ H → Same H H' → tb { D with nx := Pv (i + 1), ct := Pv (i + 1), bk := D.nx } ((σ.set i0 (some (.int (i : Nat)))).set j0 (some (.str ⟨#[c]⟩))) H') (hd : ∀ σ H, Pv z.cps.size σ H → D.nx σ H) :
    kFor (gTup K 2 (gCons (gName i0) (gCons (gName j0) gNil))) tb D σ (ItE z) H :=
  for_it walk_enumS Pv h0 (fun _ _ _ _ _ => trivial) (fun i x σ H H' hi p ⟨T, c, ev, hT, hc, eH⟩ => by
    subst ev eH
    exact ⟨T, _, rfl, SqT.of upd_same, rfl, _, _, rfl, _, _, rfl, rfl, hs i c σ H _ hc p (Same.new hT)⟩) hd
end
/-! dict displays -/
section
variable {σ : L2.St} {H : Hp} {Q : VK} {K : PySem.W.Frag}
def kDisp (Q : VK) (p : Addr) : List (V × V) → Hp → Prop := fun ps H2 => H2 p = some (.dK []) ∧ ∃ kvs : List (Key × V), ps = kvs.map (fun kv => (kV kv.1, kv.2)) ∧ kvs.length ≤ 15 ∧ Q (.ref p) (upd H2 p (.dK (mergeK [] kvs)))
theorem z_disp {trs : List (TE × TE)} (h : ∀ p H', H p = none → Same H H' → H' p = some (.dK []) → tPairs trs σ H' (kDisp Q p)) : tDisp trs σ H Q := fun p hp => h p _ hp (Same.new hp) upd_same
theorem z_pcons {tk tv : TE} {r : List (TE × TE)} {QP : List (V × V) → Hp → Prop} (h : tk σ H fun x H1 => tv σ H1 fun y H2 => tPairs r σ H2 fun ps H3 => QP ((x, y) :: ps) H3) : tPairs ((tk, tv) :: r) σ H QP := h
theorem z_pnil {QP : List (V × V) → Hp → Prop} (h : QP [] H) : tPairs [] σ H QP := h
theorem z_kDisp {p : Addr} {ps : List (V × V)} (kvs : List (Key × V)) (e : ps = kvs.map (fun kv => (kV kv.1, kv.2))) (h : H p = some (.dK [])) (hl : kvs.length ≤ 15) (k : ∀ H', But p H H' → H' p = some (.dK (mergeK [] kvs)) → Q (.ref p) H') : kDisp Q p ps H :=
  ⟨h, kvs, e, hl, k _ But.upd upd_same⟩
end
/-- a statement, then the rest, with a word between them (HandS.Codes) -/
def tCut (t u : TS) : TS := fun D σ H => ∃ Mid : L2.St → Hp → Prop, t { D with nx := Mid } σ H ∧ ∀ σ' H', Mid σ' H' → u D σ' H'
theorem pss_cut {X : Cx} {st : Stmt} {rest : List Stmt} {t u : TS} (h1 : PS X st t) (h2 : PSs X rest u) : PSs X (st :: rest) (tCut t u) := by
  refine ⟨fun pins s σ H D I h => ?_⟩
  obtain ⟨Mid, hm, hu⟩ := h
  refine wpAny_execs_cons (thn (h1.run pins s σ H { D with nx := Mid } I hm) fun f s1 q => ?_)
  cases f with
  | next =>
    obtain ⟨σ', H', I', q⟩ := q
    exact h2.run pins s1 σ' H' D I' (hu σ' H' q)
  | ret v => exact q
  | brk => exact q
  | cont => exact q
theorem z_cut {t u : TS} {D : Ends} {σ : L2.St} {H : Hp} (Mid : L2.St → Hp → Prop) (h1 : t { D with nx := Mid } σ H) (h2 : ∀ σ' H', Mid σ' H' → u D σ' H') : Nm.tCut t u D σ H := ⟨Mid, h1, h2⟩
theorem same_at {H H' : Hp} {a : Addr} {o : HO} (s : Same H H') (h : H a = some o) : H' a = some o := s a o h
theorem same_sq {K : PySem.W.Frag} {H H' : Hp} {a : Addr} {xs : List V} (s : Same H H') (h : SqL K H a xs) : SqL K H' a xs := s.seq h
theorem same_st {K : PySem.W.Frag} {H H' : Hp} {a : Addr} {xs : List V} (s : Same H H') (h : SqT K H a xs) : SqT K H' a xs := (same_keep s).t h
theorem But.same {p : Addr} {H H1 H2 : Hp} (s : Same H H1) (b : But p H1 H2) (hp : H p = none) : Same H H2 := fun a o e => b a o (ne_of_none e hp) (s a o e)
end Nm

/-! The own layer: comprehensions. -/
namespace Nm
open PySem PySem.Spec PyProof.Rows L2
def kLc (g : TG) (tt : TT) (te : TE) (vs : List Nat) (σ : L2.St) (Q : VK) : It → Hp → Prop := fun J H1 => ∀ D, H1 D = none → ∃ W : Nat → Nat → Hp → Prop, (∃ m, W 0 m (upd H1 D (.lst []))) ∧ ∀ i m H, W i m H →
  (J.stop i H ∧ Q (.ref D) H) ∨ (J.go i H ∧ ∃ Nx : Hp → Prop, (∀ H', Nx H' → ∃ m', m' < m ∧ W (i + 1) m' H') ∧ ∀ x H', J.yld i H x H' → g x (wipe σ vs) H' fun σ2 H2 => wipe σ2 vs = wipe σ vs ∧ tt σ2 H2 fun b H3 =>
    if b = true then te σ2 H3 fun y H4 => ∃ acc, H4 D = some (.lst acc) ∧ acc.length < sizeLine ∧ Nx (upd H4 D (.lst (acc ++ [y]))) else Nx H3)
section
variable {wi : TI} {g : TG} {tt : TT} {te : TE} {vs : List Nat} {σ : L2.St} {H : Hp} {Q : VK} {J : It} {K : PySem.W.Frag}
theorem z_lc (h : wi σ H (kLc g tt te vs σ Q)) : tLc wi g tt te vs σ H Q := h
theorem z_tYes {QT : Bool → Hp → Prop} (h : QT true H) : tYes σ H QT := h
def YEm {α : Type} (xs : List α) (e : α → V) : Nat → Hp → V → Hp → Prop := fun i H x H' => H' = H ∧ ∃ a, xs[i]? = some a ∧ x = e a
theorem filter_take {α : Type} (p : α → Bool) : ∀ (xs : List α) (i : Nat) (a : α), xs[i]? = some a → (xs.take (i + 1)).filter p = (xs.take i).filter p ++ (if p a = true then [a] else [])
  | [], i, a, h => by simp at h
  | x :: xs, 0, a, h => by
    have e : x = a := Option.some.inj h
    subst e
    cases q : p x <;> simp [q]
  | x :: xs, i + 1, a, h => by
    have ih := filter_take p xs i a h
    rw [List.take_succ_cons, List.take_succ_cons, List.filter_cons, List.filter_cons, ih]
    cases q : p x <;> simp
theorem set_none_twice {σ : L2.St} {i : Nat} {x : Option V} : ((σ.set i none).set i x).set i none = σ.set i none := by simp
/-- [f(x) for x in xs if p(x)], nothing of what stood changed -/
theorem l_pure {α : Type} {xs : List α} {e : α → V} {G : Hp → Prop} {i0 : Nat} (w : Walk J xs.length G (YEm xs e)) (p : α → Bool) (f : α → V) (hz : xs.length ≤ 1000000) (hG : ∀ H1, Same H H1 → G H1)
    (ht : ∀ (i : Nat) a H1, xs[i]? = some a → Same H H1 → ∀ QT : Bool → Hp → Prop, (∀ H2, Same H1 H2 → QT (p a) H2) → tt ((σ.set i0 none).set i0 (some (e a))) H1 QT)
    (he : ∀ (i : Nat) a H1, xs[i]? = some a → p a = true → Same H H1 → ∀ Q' : VK, (∀ H2, Same H1 H2 → Q' (f a) H2) → te ((σ.set i0 none).set i0 (some (e a))) H1 Q')
    (k : ∀ D H', H D = none → Same H H' → H' D = some (.lst ((xs.filter p).map f)) → Q (.ref D) H') : kLc (gName i0) tt te [i0] σ Q J H := fun D hD => by
  refine lc_it w (Pv := fun i H1 => Same H H1 ∧ H1 D = some (.lst (((xs.take i).filter p).map f))) ⟨Same.new hD, by rw [upd_same]; simp⟩ (fun i H1 _ ⟨s, _⟩ => hG H1 s) ?_ ?_
  · rintro i x H1 H1' hi ⟨s1, h1⟩ ⟨eH, a, ha, ex⟩
    subst eH ex
    refine ⟨set_none_twice, ?_⟩
    refine ht i a _ ha s1 _ fun H2 s2 => ?_
    have hf := filter_take p xs i a ha
    cases q : p a with
    | true =>
      refine iteT ?_
      refine he i a H2 ha q (s1.trans s2) _ fun H3 s3 => ?_
      refine ⟨_, s3 _ _ (s2 _ _ h1), ?_, Nm.Same.mut ((s1.trans s2).trans s3) hD, ?_⟩
      · have h2 : ((xs.take i).filter p).length ≤ i := Nat.le_trans (List.length_filter_le _ _) (by rw [List.length_take]; omega)
        rw [List.length_map, sizeLine_eq]
        omega
      · rw [upd_same, hf, q]
        simp
    | false =>
      refine iteF ?_
      refine ⟨s1.trans s2, ?_⟩
      rw [hf, q, s2 _ _ h1]
      simp
  · rintro H1 ⟨s1, h1⟩
    refine k D H1 hD s1 ?_
    rw [h1, List.take_length]
theorem walk_text {z : Str} : Walk (Its z) z.cps.toList.length (fun _ => True) (YEm z.cps.toList fun c => V.str ⟨#[c]⟩) where
  goes := fun i H hi _ => by
    have hi' : i < z.cps.size := by simpa using hi
    exact walk_str.goes i H hi' trivial
  stops := fun H _ => by
    have e : z.cps.toList.length = z.cps.size := by simp
    rw [e]
    exact walk_str.stops H trivial
  yields := fun i H x H' hi _ y => by
    have hi' : i < z.cps.size := by simpa using hi
    obtain ⟨e, c, hc, ev⟩ := walk_str.yields i H x H' hi' trivial y
    exact ⟨e, c, by simpa using hc, ev⟩
theorem walk_lst {a : Addr} {xs : List V} : Walk (Itl K a) xs.length (fun H => SqL K H a xs) (YEm xs id) where
  goes := walk_list.goes
  stops := walk_list.stops
  yields := fun i H x H' hi g y => by
    obtain ⟨e, h⟩ := walk_list.yields i H x H' hi g y
    exact ⟨e, x, h, rfl⟩
theorem walk_lstE {α : Type} {a : Addr} {xs : List α} {e : α → V} : Walk (Itl K a) xs.length (fun H => SqL K H a (xs.map e)) (YEm xs e) where
  goes := fun i H hi g => walk_list.goes i H (by rw [List.length_map]; exact hi) g
  stops := fun H g => by
    have q := walk_list.stops H g
    rw [List.length_map] at q
    exact q
  yields := fun i H x H' hi g y => by
    obtain ⟨e1, h⟩ := walk_list.yields i H x H' (by rw [List.length_map]; exact hi) g y
    rw [List.getElem?_map] at h
    cases q : xs[i]? with
    | none => rw [q] at h; cases h
    | some y => rw [q] at h; exact ⟨e1, y, q, (Option.some.inj h).symm⟩
theorem walk_tupE {α : Type} {a : Addr} {xs : List α} {e : α → V} : Walk (Itt K a) xs.length (fun H => SqT K H a (xs.map e)) (YEm xs e) where
  goes := fun i H hi g => walk_tup.goes i H (by rw [List.length_map]; exact hi) g
  stops := fun H g => by
    have q := walk_tup.stops H g
    rw [List.length_map] at q
    exact q
  yields := fun i H x H' hi g y => by
    obtain ⟨e1, h⟩ := walk_tup.yields i H x H' (by rw [List.length_map]; exact hi) g y
    rw [List.getElem?_map] at h
    cases q : xs[i]? with
    | none => rw [q] at h; cases h
    | some y => rw [q] at h; exact ⟨e1, y, q, (Option.some.inj h).symm⟩
theorem walk_rng {lo : Int} {n : Nat} : Walk (Itr lo n) (List.range n).length (fun _ => True) (YEm (List.range n) fun i => V.int (lo + (i : Nat))) where
  goes := fun i H hi g => by
    have hi' : i < n := by simpa using hi
    exact walk_range.goes i H hi' g
  stops := fun H g => by
    rw [List.length_range]
    exact walk_range.stops H g
  yields := fun i H x H' hi g y => by
    have hi' : i < n := by simpa using hi
    obtain ⟨e1, h⟩ := walk_range.yields i H x H' hi' g y
    exact ⟨e1, i, by rw [List.getElem?_range]; simpa using hi', h⟩
end
/-! texts by their signs -/
abbrev tl (z : Str) : List Nat := z.cps.toList
theorem str_ext {a b : Str} (h : tl a = tl b) : a = b := by
  obtain ⟨x⟩ := a
  obtain ⟨y⟩ := b
  congr 1
  exact Array.toList_inj.mp h
theorem str_eq {a b : Str} : (a = b) = (tl a = tl b) := propext ⟨fun h => by rw [h], str_ext⟩
theorem str_len (z : Str) : z.length = (tl z).length := by
  show z.cps.size = z.cps.toList.length
  simp
theorem tl_app (a b : Str) : tl (a ++ b) = tl a ++ tl b := by
  show (a.cps ++ b.cps).toList = _
  simp
theorem app_len (a b : Str) : (a ++ b).length = a.length + b.length := by
  rw [str_len, str_len, str_len, tl_app, List.length_append]
theorem tl_mk (l : List Nat) : tl ⟨l.toArray⟩ = l := by simp [tl]
theorem line_ge {n : Nat} (h : n ≤ 1000000) : n ≤ sizeLine := Nat.le_trans h (by decide)
theorem tl_cut (z : Str) (lo hi : Option Int) : tl (cutS z lo hi) = ((tl z).drop (HT.sIx z.length 0 lo)).take (HT.sIx z.length z.length hi - HT.sIx z.length 0 lo) := by
  unfold cutS
  exact tl_mk _
theorem cut_to (z : Str) (k : Nat) : tl (cutS z none (some (k : Int))) = (tl z).take k := by
  rw [tl_cut, HT.sIx_nat, HT.sIx_none, List.drop_zero, Nat.sub_zero, str_len, Nat.min_def]
  by_cases h : k ≤ (tl z).length
  · rw [if_pos h]
  · rw [if_neg h, List.take_length, List.take_of_length_le (by omega)]
theorem cut_from (z : Str) (k : Nat) : tl (cutS z (some (k : Int)) none) = (tl z).drop k := by
  rw [tl_cut, HT.sIx_nat, HT.sIx_none, str_len]
  by_cases h : k ≤ (tl z).length
  · rw [Nat.min_eq_left h, List.take_of_length_le (by rw [List.length_drop]; omega)]
  · rw [Nat.min_eq_right (by omega), List.drop_length, List.take_nil, List.drop_of_length_le (by omega)]
theorem cut_mid (z : Str) (a b : Nat) (h : b ≤ (tl z).length) : tl (cutS z (some (a : Int)) (some (b : Int))) = ((tl z).drop a).take (b - a) := by
  rw [tl_cut, HT.sIx_nat, HT.sIx_nat, str_len, Nat.min_eq_left h]
  by_cases q : a ≤ (tl z).length
  · rw [Nat.min_eq_left q]
  · have e : b - a = 0 := by omega
    have e2 : b - min a (tl z).length = 0 := by omega
    rw [e, e2, List.take_zero, List.take_zero]
/-- a text of one sign against a written one -/
theorem one_eq {c k : Nat} {x : Str} (e : tl x = [k]) : decide ((⟨#[c]⟩ : Str) = x) = decide (c = k) := by
  refine decide_eq_decide.mpr ?_
  rw [str_eq, e]
  refine ⟨fun h => ?_, fun h => ?_⟩
  · have h' : [c] = [k] := h
    exact (List.cons.inj h').1
  · show [c] = [k]
    rw [h]
theorem txt_eq {z x : Str} {k : List Nat} (e : tl x = k) : decide (z = x) = decide (tl z = k) := decide_eq_decide.mpr (by rw [str_eq, e])
theorem tl_mulS (z : Str) (n : Nat) : tl (mulS z n) = (List.replicate n (tl z)).flatten := by
  unfold mulS
  exact tl_mk _
end Nm

/-! The own layer: data without lists stands while a list changes; lists that grow. -/
namespace Nm
open PySem PySem.Spec PyProof.Rows L2
mutual
def noL : PyData → Bool
  | .list _ => false
  | .tuple ds => noLs ds
  | .dict _ => false
  | _ => true
def noLs : List PyData → Bool
  | [] => true
  | d :: ds => noL d && noLs ds
end
/-- tuples stand -/
def KT (K : PySem.W.Frag) (H H' : Hp) : Prop := ∀ a xs, SqT K H a xs → SqT K H' a xs
theorem KT.keep {K : PySem.W.Frag} {H H' : Hp} (k : Keep H H') : KT K H H' := fun _ _ h => k.t h
theorem KT.trans {K : PySem.W.Frag} {H H1 H2 : Hp} (a : KT K H H1) (b : KT K H1 H2) : KT K H H2 := fun x o h => b x o (a x o h)
theorem KT.upd {K : PySem.W.Frag} {H : Hp} {p : Addr} {xs : List V} {o : HO} (h : H p = some (.lst xs)) : KT K H (upd H p o) := fun a ys q => by
  rcases q with (q | ⟨u, q⟩) | q
  · exact .inl (.inl (by rw [upd_ne (ne_of q h (by intro z; cases z))]; exact q))
  · exact .inl (.inr ⟨u, by rw [upd_ne (ne_of q h (by intro z; cases z))]; exact q⟩)
  · exact .inr q
mutual
theorem dp_kt {K : PySem.W.Frag} {H H' : Hp} (k : KT K H H') : ∀ {v : V} {d : PyData}, noL d = true → Dp K H v d → Dp K H' v d
  | _, _, _, .non => .non
  | _, _, _, .bl b => .bl b
  | _, _, _, .int i => .int i
  | _, _, _, .str x => .str x
  | _, _, n, .lst h l => by simp [noL] at n
  | _, _, n, .tup h l => .tup (k _ _ h) (dps_kt k (by simpa [noL] using n) l)
theorem dps_kt {K : PySem.W.Frag} {H H' : Hp} (k : KT K H H') : ∀ {v : List V} {d : List PyData}, noLs d = true → DpAll K H v d → DpAll K H' v d
  | _, _, _, .nil => .nil
  | _, _, n, .cons h l => by
    simp only [noLs, Bool.and_eq_true] at n
    exact .cons (dp_kt k n.1 h) (dps_kt k n.2 l)
end
theorem dps_app {K : PySem.W.Frag} {H : Hp} : ∀ {vs ws : List V} {ds es : List PyData}, DpAll K H vs ds → DpAll K H ws es → DpAll K H (vs ++ ws) (ds ++ es)
  | _, _, _, _, .nil, h => h
  | _, _, _, _, .cons a l, h => .cons a (dps_app l h)
theorem dps_len {K : PySem.W.Frag} {H : Hp} : ∀ {vs : List V} {ds : List PyData}, DpAll K H vs ds → vs.length = ds.length
  | _, _, .nil => rfl
  | _, _, .cons _ l => by rw [List.length_cons, List.length_cons, dps_len l]
theorem noLs_app : ∀ (ds es : List PyData), noLs (ds ++ es) = (noLs ds && noLs es)
  | [], es => by simp [noLs]
  | d :: ds, es => by
    show (noL d && noLs (ds ++ es)) = _
    rw [noLs_app ds es]
    show _ = (noL d && noLs ds && noLs es)
    rw [Bool.and_assoc]
/-- a list at p that holds the data ds, none of them with a list in it -/
structure Grow (K : PySem.W.Frag) (H : Hp) (p : Addr) (ds : List PyData) : Prop where
  no : noLs ds = true
  ex : ∃ vs, H p = some (.lst vs) ∧ DpAll K H vs ds
theorem Grow.same {K : PySem.W.Frag} {H H' : Hp} {p : Addr} {ds : List PyData} (g : Grow K H p ds) (s : Same H H') : Grow K H' p ds := by
  obtain ⟨n, vs, h, l⟩ := g
  exact ⟨n, vs, s _ _ h, dps_keep (same_keep s) l⟩
theorem Grow.keep {K : PySem.W.Frag} {H H' : Hp} {p : Addr} {ds : List PyData} (g : Grow K H p ds) (s : Keep H H') : Grow K H' p ds := by
  obtain ⟨n, vs, h, l⟩ := g
  exact ⟨n, vs, s _ _ h rfl, dps_keep s l⟩
theorem grow_nil {K : PySem.W.Frag} {H : Hp} {p : Addr} (h : H p = some (.lst [])) : Grow K H p [] := ⟨rfl, [], h, .nil⟩
theorem Grow.sq {K : PySem.W.Frag} {H : Hp} {p : Addr} {ds : List PyData} (g : Grow K H p ds) : ∃ vs, SqL K H p vs ∧ DpAll K H vs ds ∧ vs.length = ds.length := by
  obtain ⟨n, vs, h, l⟩ := g
  exact ⟨vs, SqL.of h, l, dps_len l⟩
/-- xs.append(v) of a growing list -/
theorem z_append {K : PySem.W.Frag} {H : Hp} {p : Addr} {ds : List PyData} {v : V} {d : PyData} {Q : VK} (g : Grow K H p ds) (hv : Dp K H v d) (hn : noL d = true) (hl : ds.length ≤ 1000000) (k : ∀ H', Grow K H' p (ds ++ [d]) → (∀ H0, Same H0 H → H0 p = none → Same H0 H') → (∀ a, a ≠ p → H' a = H a) → Q .non H') :
    rAppend (.ref p) [v] H Q := by
  obtain ⟨n, vs, h, l⟩ := g
  have hlen := dps_len l
  refine ⟨p, vs, v, rfl, rfl, h, by rw [sizeLine_eq]; omega, k _ ⟨by rw [noLs_app, n]; simp [noLs, hn], _, upd_same, ?_⟩ (fun H0 s hp => Nm.Same.mut s hp) fun a ha => upd_ne ha⟩
  exact dps_app (dps_kt (KT.upd h) n l) (.cons (dp_kt (KT.upd h) hn hv) .nil)
theorem Grow.ty {K : PySem.W.Frag} {H : Hp} {p : Addr} {ds : List PyData} (g : Grow K H p ds) : tyV K "list" (.ref p) H := by
  obtain ⟨n, vs, h, l⟩ := g
  exact .inl ⟨rfl, _, SqL.of h⟩
end Nm

/-! The own layer: comprehensions over a text; == of data. -/
namespace Nm
open PySem PySem.Spec PyProof.Rows L2
section
variable {te : TE} {tt : TT} {σ : L2.St} {H : Hp} {Q : VK} {K : PySem.W.Frag}
/-- [g(c) for c in z], truth values -/
theorem l_textB {z : Str} {i0 : Nat} (g : Nat → Bool) (hz : z.length ≤ 1000000)
    (he : ∀ (c : Nat) H1, c ∈ tl z → Same H H1 → ∀ Q' : VK, Q' (.bl (g c)) H1 → te ((σ.set i0 none).set i0 (some (.str ⟨#[c]⟩))) H1 Q')
    (k : ∀ D H', H D = none → Same H H' → H' D = some (.lst (((tl z).map g).map V.bl)) → Q (.ref D) H') : kLc (gName i0) tYes te [i0] σ Q (Its z) H := by
  refine l_pure (p := fun _ => true) (f := fun c => V.bl (g c)) walk_text (by rw [← str_len]; exact hz) (fun _ _ => trivial) (fun i a H1 _ s QT q => q H1 (Same.refl _)) (fun i a H1 ha _ s Q' q => he a H1 (List.mem_of_getElem? ha) s Q' (q H1 (Same.refl _))) fun D H' hD s h => k D H' hD s ?_
  rw [h]
  have e : (z.cps.toList.filter fun _ => true) = z.cps.toList := List.filter_eq_self.mpr fun _ _ => rfl
  rw [e, List.map_map]
  rfl
/-- [1 for c in z if p(c)] -/
theorem l_textF {z : Str} {i0 : Nat} (p : Nat → Bool) (v : V) (hz : z.length ≤ 1000000)
    (ht : ∀ (c : Nat) H1, c ∈ tl z → Same H H1 → ∀ QT : Bool → Hp → Prop, QT (p c) H1 → tt ((σ.set i0 none).set i0 (some (.str ⟨#[c]⟩))) H1 QT)
    (he : ∀ (c : Nat) H1, Same H H1 → ∀ Q' : VK, Q' v H1 → te ((σ.set i0 none).set i0 (some (.str ⟨#[c]⟩))) H1 Q')
    (k : ∀ D H', H D = none → Same H H' → H' D = some (.lst (((tl z).filter p).map fun _ => v)) → Q (.ref D) H') : kLc (gName i0) tt te [i0] σ Q (Its z) H :=
  l_pure (p := p) (f := fun _ => v) walk_text (by rw [← str_len]; exact hz) (fun _ _ => trivial) (fun i a H1 ha s QT q => ht a H1 (List.mem_of_getElem? ha) s QT (q H1 (Same.refl _))) (fun i a H1 _ _ s Q' q => he a H1 s Q' (q H1 (Same.refl _))) k
end
theorem dps_ints {K : PySem.W.Frag} {H : Hp} {α : Type} (n : Int) : ∀ (l : List α), DpAll K H (l.map fun _ => V.int n) (l.map fun _ => PyData.int n)
  | [] => .nil
  | _ :: l => .cons (.int n) (dps_ints n l)
theorem dps_bls {K : PySem.W.Frag} {H : Hp} : ∀ (l : List Bool), DpAll K H (l.map V.bl) (l.map PyData.bool)
  | [] => .nil
  | b :: l => .cons (.bl b) (dps_bls l)
theorem eqvAll_nil {l : List PyData} : PyData.eqvAll l [] = decide (l = []) := by
  cases l with
  | nil => rfl
  | cons a l => rfl
theorem eqv_list_nil {l : List PyData} : PyData.eqv (.list l) (.list []) = decide (l = []) := eqvAll_nil
theorem canLayAll_iff : ∀ {l : List PyData}, PyData.canLayAll0 l = true ↔ ∀ d ∈ l, PyData.canLay0 d = true
  | [] => by simp [PyData.canLayAll0]
  | d :: l => by simp [PyData.canLayAll0, canLayAll_iff (l := l)]
theorem depthAll_le {n : Nat} : ∀ {l : List PyData}, (∀ d ∈ l, PyData.depth d ≤ n) → PyData.depthAll l ≤ n
  | [], _ => by simp [PyData.depthAll]
  | d :: l, h => by
    simp only [PyData.depthAll]
    exact Nat.max_le.mpr ⟨h d (by simp), depthAll_le fun e he => h e (by simp [he])⟩
/-- a list, a tuple, of things that are not deep -/
theorem shaped_list {n : Nat} {l : List PyData} (hn : n < 64) (h : ∀ d ∈ l, PyData.canLay0 d = true ∧ PyData.depth d ≤ n) : SeqAt.shaped (.list l) = true := by
  unfold SeqAt.shaped
  rw [Bool.and_eq_true]
  refine ⟨?_, decide_eq_true ?_⟩
  · simp only [PyData.canLay0]
    exact canLayAll_iff.mpr fun d hd => (h d hd).1
  · simp only [PyData.depth]
    have := depthAll_le (n := n) fun d hd => (h d hd).2
    omega
theorem shaped_tup {n : Nat} {l : List PyData} (hn : n < 64) (h : ∀ d ∈ l, PyData.canLay0 d = true ∧ PyData.depth d ≤ n) : SeqAt.shaped (.tuple l) = true := by
  unfold SeqAt.shaped
  rw [Bool.and_eq_true]
  refine ⟨?_, decide_eq_true ?_⟩
  · simp only [PyData.canLay0]
    exact canLayAll_iff.mpr fun d hd => (h d hd).1
  · simp only [PyData.depth]
    have := depthAll_le (n := n) fun d hd => (h d hd).2
    omega
theorem eqv_refl_shaped {d : PyData} (h : SeqAt.shaped d = true) : PyData.eqv d d = true := PySem.SeqAt.eqv_refl d (SeqAt.canLay_of_shaped h)
/-- [n for c in z if c not in x] == [] -/
theorem z_noneOf {tx ts : TE} {i : Nat} {n : Int} {z x : Str} {σ : L2.St} {H : Hp} {Q : VK} {K : PySem.W.Frag} (hz : z.length ≤ 100000) (h1 : ∀ R : VK, R (.str z) H → tx σ H R)
    (h2 : ∀ (c : Nat) H1, Same H H1 → ∀ R : VK, R (.str x) H1 → ts ((σ.set i none).set i (some (.str ⟨#[c]⟩))) H1 R) (hi : i < σ.length)
    (k : ∀ H', Same H H' → Q (.bl (decide ((tl z).filter (fun c => !decide (c ∈ tl x)) = []))) H') : tOp (rEqD K) (tLc (iStr tx) (gName i) (tTest (tOp nNotInC (tVar i) ts)) (tC (.int n)) [i]) (tLst tNil) σ H Q := by
  refine z_op (z_lc (z_iStr (h1 _ (z_kIS ?_))))
  refine l_textF (fun c => !decide (c ∈ tl x)) (.int n) (by omega) (fun c H1 _ s QT q => ?_) (fun c H1 s Q' q => q) fun D H' hD s hDl => ?_
  · refine z_test (z_op (z_var (v := .str ⟨#[c]⟩) (by simp [hi]) (h2 c H1 s _ (z_notInC (z_kT q)))))
  · refine z_lst (z_nil (z_kLst (Nat.zero_le _) fun p H2 hp s2 hp2 => ?_))
    refine z_eqD (d := .list (((tl z).filter (fun c => !decide (c ∈ tl x))).map fun _ => .int n)) (e := .list []) (.lst (SqL.of (s2 _ _ hDl)) (dps_ints n _)) (.lst (SqL.of hp2) .nil) (shaped_list (n := 0) (by decide) fun d hd => ?_) rfl ?_
    · obtain ⟨c, _, rfl⟩ := List.mem_map.mp hd
      exact ⟨rfl, Nat.le_refl _⟩
    · rw [eqv_list_nil]
      have e : decide ((((tl z).filter (fun c => !decide (c ∈ tl x))).map fun _ => PyData.int n) = []) = decide ((tl z).filter (fun c => !decide (c ∈ tl x)) = []) := decide_eq_decide.mpr List.map_eq_nil_iff
      rw [e]
      exact k H2 (s.trans s2)
/-- a text of at most n good signs -/
def okS (n : Nat) (x : Str) : Prop := x.length ≤ n ∧ PyData.strOk x = true
def okV (n : Nat) : V → Bool
  | .str x => decide (x.length ≤ n) && PyData.strOk x
  | _ => false
theorem okV_of {n : Nat} {ys : List V} {v : V} (h : ys.all (okV n) = true) (hv : v ∈ ys) : ∃ x, v = .str x ∧ okS n x := by
  have q := List.all_eq_true.mp h v hv
  cases v with
  | str x =>
    have q' : (decide (x.length ≤ n) && PyData.strOk x) = true := q
    rw [Bool.and_eq_true] at q'
    exact ⟨x, rfl, of_decide_eq_true q'.1, q'.2⟩
  | _ => cases q
theorem strOk_iff {x : Str} : PyData.strOk x = true ↔ ∀ c ∈ tl x, c < 0x110000 := by
  unfold PyData.strOk
  rw [← Array.all_toList, List.all_eq_true]
  simp
theorem okS_app {a b : Nat} {x y : Str} (hx : okS a x) (hy : okS b y) : okS (a + b) (x ++ y) := by
  refine ⟨by rw [app_len]; have := hx.1; have := hy.1; omega, ?_⟩
  rw [strOk_iff, tl_app]
  intro c hc
  rcases List.mem_append.mp hc with q | q
  · exact strOk_iff.mp hx.2 c q
  · exact strOk_iff.mp hy.2 c q
theorem okS.le {a b : Nat} {x : Str} (h : okS a x) (e : a ≤ b) : okS b x := ⟨Nat.le_trans h.1 e, h.2⟩
theorem signs_ok {z : Str} (h : PyData.strOk z = true) : (signsV z).all (okV 1) = true := by
  rw [List.all_eq_true]
  intro v hv
  obtain ⟨c, hc, rfl⟩ := List.mem_map.mp hv
  show (decide ((⟨#[c]⟩ : Str).length ≤ 1) && PyData.strOk ⟨#[c]⟩) = true
  rw [Bool.and_eq_true]
  refine ⟨rfl, strOk_iff.mpr fun c' hc' => ?_⟩
  have e : c' = c := by simpa [tl] using hc'
  rw [e]
  exact strOk_iff.mp h c hc
theorem signs_ne {z : Str} (h : 0 < z.length) : signsV z ≠ [] := by
  unfold signsV
  intro q
  have := List.map_eq_nil_iff.mp q
  rw [str_len] at h
  rw [show tl z = [] from this] at h
  exact absurd h (by decide)
theorem signs_len (z : Str) : (signsV z).length = z.length := by
  unfold signsV
  rw [List.length_map, str_len]
theorem same_but {d : Addr} {H H' : Hp} (s : Same H H') : But d H H' := fun a o _ h => s a o h
/-- a drawn text out of a list of texts -/
theorem use_pick {K : PySem.W.Frag} {H : Hp} {Q : VK} {E : XK} {d c p : Addr} {m : Nat} {ys : List V} (n : Nat) (hp : Pen K H d c (m + 1)) (h : H p = some (.lst ys)) (hok : ys.all (okV n) = true) (hne : ys ≠ []) (hl : ys.length ≤ 100000)
    (k : ∀ x H', okS n x → But d H H' → Pen K H' d c m → Q (.str x) H') : spPick K [.ref d, .ref p] H Q E :=
  ⟨d, c, p, m, ys, rfl, hp, SqL.of h, hne, hl, fun v H' hv b p' => by
    obtain ⟨x, rfl, ox⟩ := okV_of hok hv
    exact k x H' ox b p'⟩
theorem use_draw {K : PySem.W.Frag} {H : Hp} {Q : VK} {E : XK} {d c : Addr} {m : Nat} {many : Int} (hp : Pen K H d c (m + 1)) (h0 : 0 < many) (h1 : many ≤ 1000000000000000000) (k : ∀ (r : Int) H', 0 ≤ r → r < many → But d H H' → Pen K H' d c m → Q (.int r) H') : spDraw K [.ref d, .int many] H Q E :=
  ⟨d, c, m, many, rfl, hp, h0, log2_small h0 h1, k⟩
end Nm

/-! The own layer: the end. -/
namespace Nm
open PySem PySem.Spec PyProof.Rows L2
theorem walk_ofX {l : PySem.W.OpenLaw} {n k : Nat} {q : Program} {loose : List Str} {XP : (Str → Option Value) → Heap → Prop} {YP : World → Heap → Prop} {d : DefRec} {K : Params → PySem.W.Frag} {CX : CXT} {sp : PySem.W.Frag → Sp} {x : Str}
    (hn : l.most = some n) (hn2 : n ≤ sizeLine) (hdf : d.params.defaults = []) (hr : Room k callerA)
    (hY : ∀ (w : World) (h : Heap), YP w h → (K w.params).In h)
    (F : ∀ (w : World) (mg : Str → Option Value) (fa : Addr) (h : Heap), XP mg h → (K w.params).In h → h.Ns mainGlobals mg → mg d.name = some (.ref fa) →
      ∃ fd : FuncData, (∀ (s : Shared) (u : Value), BindsTo s fd ⟨[u], []⟩ [(x, u)]) ∧
        ∀ base : Heap, (K w.params).In base → base.Ns mainGlobals mg → FnOk l.prog w (K w.params) mg base CX k fa fd [x] (sp (K w.params)))
    (hsp : ∀ (K : PySem.W.Frag) (H : Hp) (a : Addr) (ns : List Int), ns.length ≤ n → SqL K H a (ns.map V.int) → sp K [.ref a] H (fun v _ => v = .bl true) fun _ _ _ => False)
    (hCX : ∀ (H : Hp) (s : Shared) (e : Value) (s' : Shared), CX [] H s (fun _ _ _ => False) e s' → False) :
    PySem.W.WalkO q loose XP YP l.row.toRowW d [] (fun f vs => PySem.call f vs) := by
  refine Att.attach_call hn hdf fun w s₀ s₁ mg mb fa o pm cd doc a vs ns G Y ho hd hcd hmg hobj hints hlen hg => ?_
  have KX := hY w _ Y
  obtain ⟨fd, hb, hF⟩ := F w mg fa _ G.X KX G.T.g hmg
  exact law_call KX G.T.g G.T.b G.T.builtins G.T.nolimit hg hobj hints (Nat.le_trans hlen hn2) hr hF hb (fun H hO hS => hsp (K w.params) H a ns hlen hS) fun H e s' => hCX H s₁ e s'
theorem df_mk {K : PySem.W.Frag} {mg : Str → Option Value} {h : Heap} {x : Str} {st : Stmt} {ps : List Str} {f : Addr} {oc : Value} {od an : Option Addr} {osl : Array (Option Value)} {kV doc pm cdv ct : Value} (X : K.In h) (G : h.Ns mainGlobals mg)
    (n : PySem.W.nsIn K mainGlobals x = some (some (.ref f)))
    (l : K.lookup f = some ⟨oc, od, .func (PySem.W.fnOf x x (defArgs st) (defBody st) (defScope st) .none kV doc pm an cdv ct), osl⟩) (c : PySem.W.codeIn K cdv x = true) (k : PySem.W.keepIn K (.ref f) = true)
    (hb : ∀ (kV doc pm : Value) (an : Option Addr) (cdv ct : Value) (us : List Value), us.length = ps.length → bindArgs (PySem.W.fnOf x x (defArgs st) (defBody st) (defScope st) .none kV doc pm an cdv ct) ⟨us, []⟩ = pure (ps.zip us)) :
    ∃ a fd, Df K mg x st ps a fd :=
  ⟨f, _, fun_mk (st := st) l c k, PySem.W.mg_of X G n, (fun_mk (st := st) l c k).binds hb⟩
theorem df_mkB {K : PySem.W.Frag} {mg : Str → Option Value} {h : Heap} {x : Str} {st : Stmt} {ps : List Str} {f : Addr} {oc : Value} {od an : Option Addr} {osl : Array (Option Value)} {kV doc pm cdv ct : Value} (X : K.In h) (G : h.Ns mainGlobals mg)
    (n : PySem.W.nsIn K mainGlobals x = some (some (.ref f)))
    (l : K.lookup f = some ⟨oc, od, .func (PySem.W.fnOf x x (defArgs st) (defBody st) (defScope st) .none kV doc pm an cdv ct), osl⟩) (c : PySem.W.codeIn K cdv x = true) (k : PySem.W.keepIn K (.ref f) = true)
    (hb : ∀ (kV doc pm : Value) (an : Option Addr) (cdv ct : Value) (us : List Value), us.length = ps.length → bindArgs (PySem.W.fnOf x x (defArgs st) (defBody st) (defScope st) .none kV doc pm an cdv ct) ⟨us, []⟩ = pure (ps.zip us)) :
    ∃ a fd, Df K mg x st ps a fd ∧ ∀ (s : Shared) (us : List Value), us.length = ps.length → BindsTo s fd ⟨us, []⟩ (ps.zip us) :=
  ⟨f, _, ⟨fun_mk (st := st) l c k, PySem.W.mg_of X G n, (fun_mk (st := st) l c k).binds hb⟩, fun s us hl => .of_eq (hb _ _ _ _ _ _ us hl)⟩
theorem str_mk {K : PySem.W.Frag} {mg : Str → Option Value} {h : Heap} {x z : Str} {t : Tok} (X : K.In h) (G : h.Ns mainGlobals mg) (n : PySem.W.nsIn K mainGlobals x = some (some (.str z t))) : ∃ t, mg x = some (.str z t) := ⟨t, PySem.W.mg_of X G n⟩
theorem loose_mk {q : Program} {lv : List (Str × PySem.W.WData)} {mg : Str → Option Value} {h : Heap} {x z : Str} (X : PySem.W.XL q lv mg h) (m : (x, PySem.W.WData.str z) ∈ lv) : ∃ t, mg x = some (.str z t) := by
  obtain ⟨v, e, r⟩ := X.2.val _ m
  obtain ⟨t, rfl, _⟩ := PySem.W.readsW_str_inv r
  exact ⟨t, e⟩
theorem tup_mk {K : PySem.W.Frag} {mg : Str → Option Value} {h : Heap} {x : Str} {a : Addr} {od : Option Addr} {its : Array Value} {n : Nat} {sl : Array (Option Value)} (xs : List V) (X : K.In h) (G : h.Ns mainGlobals mg) (e : PySem.W.nsIn K mainGlobals x = some (some (.ref a)))
    (l : K.lookup a = some ⟨.type "tuple", od, .seq its n, sl⟩) (hz : its.size ≤ sizeLine) (r : Vals xs its.toList) : ∃ a, mg x = some (.ref a) ∧ ∀ H, SqT K H a xs :=
  ⟨a, PySem.W.mg_of X G e, fun _ => .inr ⟨_, its, n, l, rfl, rfl, hz, r⟩⟩
end Nm

/-! The own layer: exception classes of the program over an own base over ValueError, whose __init__ says super().__init__(fields) and then stores each field. -/
namespace NmE
open PySem PySem.W PySem.Calls PyProof.Rows PySem.HandSPX
open L2 (defArgs defBody defScope)
/-- the stores of an __init__, field by field -/
inductive Sets : List Stmt → List Str → Prop
  | nil : Sets [] []
  | cons {f : Str} {q1 q2 q3 q4 : Pos} {r : List Stmt} {fs : List Str} (h : Sets r fs) : Sets (.Assign [.Attribute (.Name "self" q1) f q2] (.Name f q3) q4 :: r) (f :: fs)
/-- names as arguments -/
inductive Args1 : List Expr → List Str → Prop
  | nil : Args1 [] []
  | cons {f : Str} {q : Pos} {r : List Expr} {fs : List Str} (h : Args1 r fs) : Args1 (.Name f q :: r) (f :: fs)
/-- the text of such an __init__ -/
structure Ini (st : Stmt) (fs : List Str) : Prop where
  body : ∃ (p0 p1 p2 p3 p4 : Pos) (es : List Expr) (r : List Stmt), defBody st = .Expr (.Call (.Attribute (.Call (.Name "super" p0) [] [] p1) "__init__" p2) es [] p3) p4 :: r ∧ Args1 es fs ∧ Sets r fs ∧ (p2.endLine == p3.line) = true
  few : fs.length < 20
  head : ∃ ar : Arg, ((defArgs st).posonlyargs ++ (defArgs st).args).head? = some ar ∧ ar.arg = "self"
  locals : ∀ f ∈ ("self" : Str) :: fs, (defScope st).names.lookup f = some .local
  nodup : (("self" : Str) :: fs).Nodup
  nodbg : ∀ f ∈ fs, (f == ("__debug__" : Str)) = false
  sup : (defScope st).names.lookup ("super" : Str) = some .globalImplicit
  cls : (defScope st).names.lookup ("__class__" : Str) = some .free
  cells : ∀ x ∈ (defScope st).names, x.2 ≠ .cell
  co : (defScope st).isCoroutine = false
  gen : (defScope st).isGenerator = false
  kind : (defScope st).kind = .function
/-- what the written part says of the class at C -/
structure Err (P : Program) (K : Frag) (mg : Str → Option Value) (x : Str) (C : Addr) (fs : List Str) : Prop where
  gC : mg x = some (.ref C)
  cls : ∃ nm q N bs bm sn sub ab col dd k0 k1 k2 k3 k5, K.lookup C = some (excClassObj nm q C N bs bm true sn sub ab col dd k0 k1 k2 k3 k5 "ValueError.__new__") ∧ refsVE bm = true
  sa : findIn K (.ref C) "__setattr__" = some (some (.builtin "object.__setattr__"))
  ga : findIn K (.ref C) "__getattribute__" = some (some (.builtin "BaseException.__getattribute__"))
  gg : findIn K (.ref C) "__getattr__" = some none
  noN : ∀ f ∈ fs, findIn K (.ref C) f = some none
  kC : keepIn K (.ref C) = true
  exC : subIn K (.ref C) (.type "BaseException") = some true
  veC : subIn K (.ref C) (.type "ValueError") = some true
  tyC : typeIn K (.ref C) = some (.type "type")
  hdC : hasDictIn K C = true
  opq : nsIn K cStatics "thirdparty.any" = some none
  sup : ks_superIn K C C "__init__" = some (some (.builtin "ValueError.__init__"))
  own : mroIn K C (.ref C) = some true
  top : (P.main.scope.names.lookup ("super" : Str)).isSome = false
  nsp : mg "super" = none
  init : ∃ (fI cc cda : Addr) (st : Stmt) (qual : Str) (oc dV kV doc pm ct cl ccl : Value) (od an cld cdd : Option Addr) (osl csl ccs : Array (Option Value)) (vs : Array Value) (file : Str) (tf : Tok),
    findIn K (.ref C) "__init__" = some (some (.ref fI)) ∧ typeIn K (.ref fI) = some (.type "function") ∧
    K.lookup fI = some ⟨oc, od, .func (ksFn "__init__" qual (defArgs st) (defBody st) (defScope st) dV kV doc pm an (.ref cda) ct cc), osl⟩ ∧ codeIn K (.ref cda) qual = true ∧ Ini st fs ∧
    K.lookup cc = some ⟨cl, cld, .cell (some (.ref C)), csl⟩ ∧ K.lookup cda = some ⟨ccl, cdd, .fields vs, ccs⟩ ∧ vs[2]? = some (.str file tf) ∧ ((P.main.file : Str) == file) = true ∧
    ∀ us : List Value, us.length = (("self" : Str) :: fs).length → bindArgs (ksFn "__init__" qual (defArgs st) (defBody st) (defScope st) dV kV doc pm an (.ref cda) ct cc) ⟨us, []⟩ = pure ((("self" : Str) :: fs).zip us)
theorem zip_rev {v : Value} : ∀ {ns : List Str} {vs : List Value}, ns.Nodup → ∀ f : Str, (f, v) ∈ ns.zip vs → (ns.zip vs).reverse.lookup f = some v
  | [], vs, _, f, h => by simp at h
  | n :: ns, [], _, f, h => by simp at h
  | n :: ns, u :: vs, d, f, h => by
    rw [List.zip_cons_cons, List.reverse_cons, List.lookup_append]
    rw [List.zip_cons_cons] at h
    rcases List.mem_cons.mp h with q | q
    · obtain ⟨rfl, rfl⟩ := Prod.mk.inj q
      have hn : (ns.zip vs).reverse.lookup f = none := by
        cases e : (ns.zip vs).reverse.lookup f with
        | none => rfl
        | some z =>
          have m : (f, z) ∈ (ns.zip vs).reverse := by
            obtain ⟨l1, l2, e2, _⟩ := List.lookup_eq_some_iff.mp e
            rw [e2]
            simp
          exact absurd (List.of_mem_zip (List.mem_reverse.mp m)).1 (List.nodup_cons.mp d).1
      rw [hn]
      simp [List.lookup]
    · rw [zip_rev (List.nodup_cons.mp d).2 f q]
      rfl
/-- the fields as they were stored, the last one first -/
def puts {α : Type} : List Str → List α → List (Str × α) → List (Str × α)
  | f :: fs, x :: xs, acc => puts fs xs ((f, x) :: acc)
  | _, _, acc => acc
abbrev excD (C t : Addr) (d : Option Addr) : Obj := { cls := .ref C, dict := d, data := .fields #[.ref t, .none, .none, .none, .bool false, .none] }
section
variable {prog : Program} {w : World} {A : Around} {E : Value → Shared → Prop} {K : Frag} {mg : Str → Option Value} {xn : Str} {C : Addr} {gs : List Str} {h : Heap} {g : Array GenState} {d : Drawn} {t : Nat} {os : OsState} {env : Env}
theorem ldS {m : Str → Option Value} {x : Str} {pos : Pos} {v : Value} {Q : Value → Shared → Prop} {s : Shared} (hk : env.scope.kind = .function) (hl : env.scope.names.lookup x = some .local) (hn : s.heap.Ns env.locals m) (hv : m x = some v) (hd : (x == ("__debug__" : Str)) = false) (hq : Q v s) :
    wpAny (model prog w) A (eval (.Name x pos) env) Q E s := wpAny_Name (wpAny_loadName_local hk hl hn hv hq) hd
theorem ns_keep {h h' : Heap} {L : Addr} {m : Str → Option Value} (hn : h.Ns L m) (k : ∀ o, h.get? L = some o → h'.get? L = some o) : h'.Ns L m := by
  obtain ⟨o, es, ep, e, r⟩ := hn
  exact ⟨o, es, ep, k o e, r⟩
/-- the stores behind the first one -/
theorem sets_on (T : Err prog K mg xn C gs) {m : Str → Option Value} {x dx t1 : Addr} (hk : env.scope.kind = .function) (hself : m ("self" : Str) = some (.ref x)) (hsl : env.scope.names.lookup ("self" : Str) = some .local) (hdL : dx ≠ env.locals) (hdx : dx ≠ x) (hdK : K.lookup dx = none) :
    ∀ {r : List Stmt} {fs : List Str}, Sets r fs → ∀ {xs : List L2.V} {vs : List Value}, L2.Vals xs vs → xs.length = fs.length → (∀ f ∈ fs, findIn K (.ref C) f = some none ∧ env.scope.names.lookup f = some .local ∧ (f == ("__debug__" : Str)) = false) → (∀ f v, (f, v) ∈ fs.zip vs → m f = some v) →
    ∀ (acc : List (Str × L2.V)) (mA : Str → Option Value) (h : Heap) (t : Nat), acc.length + fs.length ≤ 900 → K.In h → h.Ns env.locals m → h.get? x = some (excD C t1 (some dx)) → h.Ns1 dx mA → (∀ f, L2.RelO (acc.lookup f) (mA f)) →
    ∀ (Q : Flow → Shared → Prop), (∀ h' t' mB, (∀ b o, b ≠ dx → h.get? b = some o → h'.get? b = some o) → h'.Ns1 dx mB → (∀ f, L2.RelO ((puts fs xs acc).lookup f) (mB f)) → Q .next ⟨h', g, d, t', os⟩) →
      wpAny (model prog w) A (execs r env) Q E ⟨h, g, d, t, os⟩ := by
  obtain ⟨nm, q, N, bs, bm, sn, sub, ab, col, dd, k0, k1, k2, k3, k5, hC, hbm⟩ := T.cls
  have hcl : clsIn K C = some { name := nm, bases := bs, mro := .ref C :: bm, ns := N, qualname := q, hasDict := true, slotNames := sn, subclasses := sub, abstract := ab, collection := col, hasDel := false } := by unfold clsIn; rw [hC] <;> rfl
  intro r fs S
  induction S with
  | nil =>
    intro xs vs rv hl hf hm acc mA h t hz X hn hx hns rel Q hq
    cases rv with
    | nil => exact wpAny_execs_nil (hq h t mA (fun _ _ _ z => z) hns rel)
    | cons _ _ => cases hl
  | @cons f q1 q2 q3 q4 r fs S ih =>
    intro xs vs rv hl hf hm acc mA h t hz X hn hx hns rel Q hq
    cases rv with
    | nil => cases hl
    | @cons y u ys us ry rv =>
      obtain ⟨hno, hfl, hfd⟩ := hf f (by simp)
      have hw := L2.within_of rel
      obtain ⟨oD, _, _, hoD, _, _⟩ := hns.count hw
      refine wpAny_execs_cons (plainObj_wpAny_Assign_Attribute ?_)
      refine ldS hk hfl hn (hm f u (by simp)) hfd (ldS hk hsl hn hself (by decide) ?_)
      refine set_plain X (ox := excD C t1 (some dx)) (od := some oD) ⟨hx, rfl, rfl, hoD⟩ T.sa ?_
      refine PySem.OEX.osa_old X hx hns hw (by rw [List.length_map]; have : (f :: fs).length = fs.length + 1 := rfl; omega) hcl (show refsVE (.ref C :: bm) = true from hbm) rfl hno (fun h2 t2 k2 hn2 => ?_)
      have X2 : K.In h2 := fun a o e => k2 a o (fun z => by
        rw [z, hdK] at e
        cases e) (X a o e)
      exact ih rv (by simpa using hl) (fun z hz => hf z (by simp [hz])) (fun z v hz => hm z v (by simp [hz])) ((f, y) :: acc) _ h2 t2 (by simp at hz ⊢; omega) X2 (ns_keep hn fun o e => k2 _ _ (Ne.symm hdL) e) (k2 _ _ (Ne.symm hdx) hx) hn2 (L2.relO_put ry rel) Q
        fun h3 t3 mB k3 hn3 rel3 => hq h3 t3 mB (fun b o hb e => k3 b o hb (k2 b o hb e)) hn3 rel3
theorem in_but {h h' : Heap} {x : Addr} (X : K.In h) (hx : K.lookup x = none) (k : ∀ b o, b ≠ x → h.get? b = some o → h'.get? b = some o) : K.In h' := fun a o e => k a o (fun z => by rw [z, hx] at e; cases e) (X a o e)
theorem not_in {h : Heap} {b : Addr} (X : K.In h) (hb : h.objs.size ≤ b) : K.lookup b = none := by
  cases e : K.lookup b with
  | none => rfl
  | some o => exact absurd (Heap.lt_size (X _ _ e)) (Nat.not_lt.mpr hb)
/-- what an __init__ leaves of a fresh exception at x; its fields stand in dx (if there are any) -/
structure Left (h h' : Heap) (x C : Addr) (fs : List Str) (xs : List L2.V) : Prop where
  keep : ∀ b o, b ≠ x → h.get? b = some o → h'.get? b = some o
  obj : (fs = [] ∧ ∃ t1, h'.get? x = some (excD C t1 none)) ∨ ∃ t1 dx mB, h'.get? x = some (excD C t1 (some dx)) ∧ h.objs.size ≤ dx ∧ dx ≠ x ∧ h'.Ns1 dx mB ∧ ∀ f, L2.RelO ((puts fs xs []).lookup f) (mB f)
/-- all the stores -/
theorem sets_all (T : Err prog K mg xn C gs) {m : Str → Option Value} {x t1 : Addr} (hk : env.scope.kind = .function) (hself : m ("self" : Str) = some (.ref x)) (hsl : env.scope.names.lookup ("self" : Str) = some .local) (hxL : x ≠ env.locals) (hxK : K.lookup x = none)
    {r : List Stmt} {fs : List Str} (S : Sets r fs) {xs : List L2.V} {vs : List Value} (rv : L2.Vals xs vs) (hl : xs.length = fs.length) (hf : ∀ f ∈ fs, findIn K (.ref C) f = some none ∧ env.scope.names.lookup f = some .local ∧ (f == ("__debug__" : Str)) = false) (hm : ∀ f v, (f, v) ∈ fs.zip vs → m f = some v)
    (hz : fs.length ≤ 900) (X : K.In h) (hn : h.Ns env.locals m) (hx : h.get? x = some (excD C t1 none)) {Q : Flow → Shared → Prop} (hq : ∀ h' t', Left h h' x C fs xs → Q .next ⟨h', g, d, t', os⟩) :
    wpAny (model prog w) A (execs r env) Q E ⟨h, g, d, t, os⟩ := by
  obtain ⟨nm, q, N, bs, bm, sn, sub, ab, col, dd, k0, k1, k2, k3, k5, hC, hbm⟩ := T.cls
  have hcl : clsIn K C = some { name := nm, bases := bs, mro := .ref C :: bm, ns := N, qualname := q, hasDict := true, slotNames := sn, subclasses := sub, abstract := ab, collection := col, hasDel := false } := by unfold clsIn; rw [hC] <;> rfl
  cases S with
  | nil => exact wpAny_execs_nil (hq h t ⟨fun _ _ _ z => z, .inl ⟨rfl, t1, hx⟩⟩)
  | @cons f q1 q2 q3 q4 r fs S =>
    cases rv with
    | nil => cases hl
    | @cons y u ys us ry rv =>
      obtain ⟨hno, hfl, hfd⟩ := hf f (by simp)
      refine wpAny_execs_cons (plainObj_wpAny_Assign_Attribute ?_)
      refine ldS hk hfl hn (hm f u (by simp)) hfd (ldS hk hsl hn hself (by decide) ?_)
      refine set_plain X (ox := excD C t1 none) (od := none) ⟨hx, rfl, rfl, trivial⟩ T.sa ?_
      refine exc_osa X hx hcl (show refsVE (.ref C :: bm) = true from hbm) rfl hno (fun h2 t2 dx k2 dn dne hx2 hn2 => ?_)
      have hLs := hn.lt
      refine sets_on T hk hself hsl (fun z => ?_) dne (not_in X dn) S rv (by simpa using hl) (fun z hz => hf z (by simp [hz])) (fun z v hz => hm z v (by simp [hz])) [(f, y)] _ h2 t2 (by simp at hz ⊢; omega) (in_but X hxK k2) (ns_keep hn fun o e => k2 _ _ (Ne.symm hxL) e) hx2 hn2 (L2.relO_put (fs := []) ry fun g => True.intro) Q
        fun h3 t3 mB k3 hn3 rel3 => hq h3 t3 ⟨fun b o hb e => k3 b o (fun z => ?_) (k2 b o hb e), .inr ⟨t1, dx, mB, k3 _ _ (Ne.symm dne) hx2, dn, dne, hn3, rel3⟩⟩
      · rw [z] at dn
        exact absurd hLs (Nat.not_lt.mpr dn)
      · rw [z] at e
        exact absurd (Heap.lt_size e) (Nat.not_lt.mpr dn)
theorem args_len : ∀ {es : List Expr} {fs : List Str}, Args1 es fs → es.length = fs.length
  | _, _, .nil => rfl
  | _, _, .cons h => congrArg (· + 1) (args_len h)
theorem args_names : ∀ {es : List Expr} {fs : List Str}, Args1 es fs → starEach es env = es.map fun e => (false, eval e env)
  | _, _, .nil => rfl
  | _, _, .cons h => by
    show (false, _) :: starEach _ env = _
    rw [args_names h]
    rfl
/-- the names read, one by one -/
theorem args_read {m : Str → Option Value} {pos : Pos} {s : Shared} (hk : env.scope.kind = .function) (hn : s.heap.Ns env.locals m) : ∀ {es : List Expr} {fs : List Str}, Args1 es fs → ∀ {vs : List Value}, vs.length = fs.length → (∀ f ∈ fs, env.scope.names.lookup f = some .local ∧ (f == ("__debug__" : Str)) = false) → (∀ f v, (f, v) ∈ fs.zip vs → m f = some v) →
    ∀ {Q : List Value → Shared → Prop}, Q vs s → wpAny (model prog w) A (spliced (backTo pos (starEach es env))) Q E s
  | _, _, .nil, vs, hl, hf, hm, Q, hq => by
    cases vs with
    | nil => exact Calls.spliced_nil hq
    | cons _ _ => cases hl
  | _, _, @Args1.cons f q r fs h, vs, hl, hf, hm, Q, hq => by
    cases vs with
    | nil => cases hl
    | cons u us =>
      obtain ⟨hfl, hfd⟩ := hf f (by simp)
      show wpAny _ _ (spliced ((false, eval (.Name f q) env) :: backTo pos (starEach r env))) _ _ _
      exact Calls.spliced_cons (ldS hk hfl hn (hm f u (by simp)) hfd (args_read hk hn h (by simpa using hl) (fun z hz => hf z (by simp [hz])) (fun z v hz => hm z v (by simp [hz])) hq))
/-- super().__init__ called: the arguments' tuple is laid anew -/
theorem mw_call (T : Err prog K mg xn C gs) {u x t0 : Addr} {vs : List Value} {Q : Value → Shared → Prop} (X : K.In h) (hx : h.get? x = some (excD C t0 none)) (hu : h.get? u = some (kxs_mw "ValueError.__init__" x)) (hz : vs.length ≤ sizeLine)
    (hq : ∀ h' t1, (∀ b o, b ≠ x → h.get? b = some o → h'.get? b = some o) → h'.get? x = some (excD C t1 none) → Q .none ⟨h', g, d, t, os⟩) : wpAny (model prog w) A (call (.ref u) vs) Q E ⟨h, g, d, t, os⟩ := by
  obtain ⟨nm, q, N, bs, bm, sn, sub, ab, col, dd, k0, k1, k2, k3, k5, hC, hbm⟩ := T.cls
  have FB := PySem.F.excBase_ValueError
  refine wpAny_call (codeAny_of_tree ?_)
  show wpAny _ A.in1 (callAny (.ref u) ⟨vs, []⟩) _ _ _
  simp only [callAny]
  refine wpAny_bind (wpAny_load hu ?_)
  simp only [kxs_mw, show (Value.type "method-wrapper" == Value.type "method" || Value.type "method-wrapper" == Value.type "builtin_function_or_method" || Value.type "method-wrapper" == Value.type "method-wrapper") = true by decide, if_true]
  refine KFB.if_so (by decide) (wpAny_bind (check_bound_init FB.toExcCallFacts (X _ _ hC) hx rfl (wpAny_bind (wpAny_pure (wpAny_pure ⟨plainId_quiet FB.init.plain _, codeAny_builtin FB.initEntry ?_⟩)))))
  exact exc_init_tree (cls := .ref C) (t0 := t0) (dv := none) (c2 := .none) (c3 := .none) (b4 := .bool false) hx hz fun h' k e _ => hq h' _ k e
theorem super_init (T : Err prog K mg xn C gs) {mb m : Str → Option Value} {x t0 L fI cc cda : Addr} {st : Stmt} {body : List Stmt} {fs : List Str} {es : List Expr} {p0 p1 p2 p3 p4 : Pos} {qual : Str} {oc dV kV doc pm ct cl ccl : Value} {od an cld cdd : Option Addr} {osl csl ccs : Array (Option Value)} {dat : Array Value} {file : Str} {tf : Tok} {vs : List Value} {Q : Flow → Shared → Prop}
    (hf : K.lookup fI = some ⟨oc, od, .func (ksFn "__init__" qual (defArgs st) (defBody st) (defScope st) dV kV doc pm an (.ref cda) ct cc), osl⟩) (I : Ini st fs) (hes : Args1 es fs) (hline : (p2.endLine == p3.line) = true)
    (hcc : K.lookup cc = some ⟨cl, cld, .cell (some (.ref C)), csl⟩) (hcd : K.lookup cda = some ⟨ccl, cdd, .fields dat, ccs⟩) (hvs : dat[2]? = some (.str file tf)) (hfile : ((prog.main.file : Str) == file) = true)
    (X : K.In h) (hg : h.Ns mainGlobals mg) (hb : h.Ns builtinsNs mb) (hbs : mb ("super" : Str) = some (.type "super")) (hn : h.Ns L m) (hself : m ("self" : Str) = some (.ref x)) (hm : ∀ f v, (f, v) ∈ fs.zip vs → m f = some v) (hl : vs.length = fs.length) (hz : vs.length ≤ sizeLine)
    (hx : h.get? x = some (excD C t0 none)) (hxK : K.lookup x = none) (hxL : x ≠ L)
    (hq : ∀ h' t' t1, (∀ b o, b ≠ x → h.get? b = some o → h'.get? b = some o) → h'.get? x = some (excD C t1 none) → Q .next ⟨h', g, d, t', os⟩) :
    _root_.PySem.wpAt (model prog w) A (.func body (ksEnv qual (defScope st) L fI (.ref cda) cc)) (exec (.Expr (.Call (.Attribute (.Call (.Name "super" p0) [] [] p1) "__init__" p2) es [] p3) p4) (ksEnv qual (defScope st) L fI (.ref cda) cc)) Q E ⟨h, g, d, t, os⟩ := by
  obtain ⟨nm, q, N, bs, bm, sn, sub, ab, col, dd, k0, k1, k2, k3, k5, hC, hbm⟩ := T.cls
  have hcl : clsIn K C = some { name := nm, bases := bs, mro := .ref C :: bm, ns := N, qualname := q, hasDict := true, slotNames := sn, subclasses := sub, abstract := ab, collection := col, hasDel := false } := by unfold clsIn; rw [hC] <;> rfl
  obtain ⟨ar, hhead, har⟩ := I.head
  have hxC : x ≠ C := fun z => by
    rw [z, hC] at hxK
    cases hxK
  have hsl : (defScope st).names.lookup ("self" : Str) = some .local := I.locals _ (by simp)
  have hel : es.length = fs.length := args_len hes
  have hall : ∀ l : List Expr, (l.map fun e => (false, eval e (ksEnv qual (defScope st) L fI (.ref cda) cc))).all (!·.1) = true := fun l => by
    rw [List.all_map, List.all_eq_true]
    intro _ _
    rfl
  have hform : methodCallForm (es.length + ([] : List (Option Str × Sem Value)).length) (backTo p3 (starEach es (ksEnv qual (defScope st) L fI (.ref cda) cc))) (backToKw p3 (keywordEach [] (ksEnv qual (defScope st) L fI (.ref cda) cc))) = true := by
    rw [args_names hes]
    unfold methodCallForm backTo
    rw [List.map_map, Bool.and_eq_true, Bool.and_eq_true]
    refine ⟨⟨?_, rfl⟩, decide_eq_true ?_⟩
    · rw [List.all_map, List.all_eq_true]
      intro _ _
      rfl
    · have := I.few
      show es.length + 0 + 0 < 30
      omega
  have he : eval (.Call (.Attribute (.Call (.Name "super" p0) [] [] p1) "__init__" p2) es [] p3) (ksEnv qual (defScope st) L fI (.ref cda) cc) = (do
      let ov ← attributeBase (.Call (.Name "super" p0) [] [] p1) "__init__" (ksEnv qual (defScope st) L fI (.ref cda) cc) (eval (.Call (.Name "super" p0) [] [] p1) (ksEnv qual (defScope st) L fI (.ref cda) cc))
      standAt p2.atName
      let (f, first) ← holding [ov] (getMethod ov "__init__" (do return (← importBound (.Call (.Name "super" p0) [] [] p1) (ksEnv qual (defScope st) L fI (.ref cda) cc)).getD true))
      callWith p3 f first (backTo p3 (starEach es (ksEnv qual (defScope st) L fI (.ref cda) cc))) []) := by
    show (do
      let ov ← attributeBase (.Call (.Name "super" p0) [] [] p1) "__init__" (ksEnv qual (defScope st) L fI (.ref cda) cc) (eval (.Call (.Name "super" p0) [] [] p1) (ksEnv qual (defScope st) L fI (.ref cda) cc))
      standAt p2.atName
      methodCall (.Call (.Name "super" p0) [] [] p1) "__init__" p2 p3 (ksEnv qual (defScope st) L fI (.ref cda) cc) ov (es.length + ([] : List (Option Str × Sem Value)).length) (backTo p3 (starEach es (ksEnv qual (defScope st) L fI (.ref cda) cc))) (backToKw p3 (keywordEach [] (ksEnv qual (defScope st) L fI (.ref cda) cc)))) = _
    unfold methodCall methodCallPos calleeOf
    rw [hform]
    simp only [hline, Bool.not_true, Bool.false_or, if_true, pure_bind]
    rfl
  refine ks_wpAt_Expr_any (ks_wpAt_MethodCall ?_ he) (by show ((defScope st).kind == .module && _) = false; rw [I.kind]; rfl) rfl
  refine ks_wpAt_super_base (env := ksEnv qual (defScope st) L fI (.ref cda) cc) I.sup I.cls (by decide) rfl (X _ _ hf) rfl hhead rfl (X _ _ hcd) rfl hvs hfile T.top ?_
  refine ks_loadName_global I.kind I.sup (loadGlobal_builtin (env := ksEnv qual (defScope st) L fI (.ref cda) cc) hg T.nsp hb hbs ⟨rfl, ?_⟩)
  refine wpAny_loadName_free I.kind I.cls rfl ⟨_, X _ _ hcc, rfl⟩ ?_
  rw [har]
  refine wpAny_loadName_local I.kind hsl hn hself ?_
  refine ks_wpAny_isType_cls (X _ _ hC) rfl ⟨rfl, ?_⟩
  refine ks_wpAny_call_super (X _ _ hC) rfl hx rfl (fun c e => by cases e) (looks_mroIn X T.own) (fun h1 e1 k1 => ?_)
  have X1 : K.In h1 := X.keeps k1
  have hx1 := k1 _ _ hx
  have IA : InstAt h1 x (excD C t0 none) C none := ⟨hx1, rfl, rfl, trivial⟩
  have hI : Looks (model prog w) h1 (isInstance (.ref x) (.type "ValueError")) true := IA.type.andThen (looks_subIn X1 T.veC)
  have hsup := T.sup
  unfold ks_superIn at hsup
  rw [hcl] at hsup
  refine kxs_getMethod kxs_ValueError e1 (looks_opaque X1 T.opq) (l₀ := .ref C :: bm) ((looks_clsIn X1 hcl).andThen .now) rfl X1 hsup hI hxC (by decide) ?_
  have k2 : ∀ b o, h1.get? b = some o → (h1.push (kxs_mw "ValueError.__init__" x)).get? b = some o := fun b o e => Heap.get?_push_of_some _ e
  have hu2 : (h1.push (kxs_mw "ValueError.__init__" x)).get? h1.objs.size = some (kxs_mw "ValueError.__init__" x) := Heap.get?_push_at rfl rfl
  have hn2 : (h1.push (kxs_mw "ValueError.__init__" x)).Ns L m := ns_keep hn fun o e => k2 _ _ (k1 _ _ e)
  have hpl : (backTo p3 (starEach es (ksEnv qual (defScope st) L fI (.ref cda) cc))).any (·.1) = false := by
    rw [args_names hes]
    unfold backTo
    rw [List.map_map, List.any_map, List.any_eq_false]
    intro _ _
    exact Bool.false_ne_true
  refine kxs_callWith (i := "ValueError.__init__") (x := x) hpl ?_
  have fin : KxsAt "ValueError.__init__" h1.objs.size x (h1.push (kxs_mw "ValueError.__init__" x)) ∧ wpAny (model prog w) A (call (.ref h1.objs.size) vs) (fun _ => Q .next) E ⟨h1.push (kxs_mw "ValueError.__init__" x), g, d, t + 1, os⟩ :=
    ⟨hu2, mw_call T (X1.keeps k2) (k2 _ _ hx1) hu2 hz fun h' t1 k e => hq h' _ t1 (fun b o hb z => k b o hb (k2 _ _ (k1 _ _ z))) e⟩
  have rd := args_read (prog := prog) (w := w) (A := A) (E := E) (pos := p3) (s := ⟨h1.push (kxs_mw "ValueError.__init__" x), g, d, t + 1, os⟩) (env := ksEnv qual (defScope st) L fI (.ref cda) cc) I.kind hn2 hes hl (fun f hf => ⟨I.locals f (by simp [hf]), I.nodbg f hf⟩) hm (Q := fun us s' => KxsAt "ValueError.__init__" h1.objs.size x s'.heap ∧ wpAny (model prog w) A (call (.ref h1.objs.size) us) (fun _ => Q .next) E s')
  cases hes with
  | nil =>
    cases vs with
    | nil => exact evalArgs_empty fin
    | cons _ _ => cases hl
  | cons hes' => exact Calls.evalArgs_plain (rd fin)
theorem zip_mem {ns : List Str} {vs : List Value} {n : Str} {u v : Value} {f : Str} (h : (f, v) ∈ ns.zip vs) : (f, v) ∈ (n :: ns).zip (u :: vs) := by
  rw [List.zip_cons_cons]
  exact List.mem_cons_of_mem _ h
/-- the whole __init__ -/
theorem err_init (T : Err prog K mg xn C gs) {R : Result → Shared → Prop} {s : Shared} {mb : Str → Option Value} {x t0 fI cc cda : Addr} {st : Stmt} {qual : Str} {oc dV kV doc pm ct cl ccl : Value} {od an cld cdd : Option Addr} {osl csl ccs : Array (Option Value)} {dat : Array Value} {file : Str} {tf : Tok} {xs : List L2.V} {vs : List Value}
    (hf : K.lookup fI = some ⟨oc, od, .func (ksFn "__init__" qual (defArgs st) (defBody st) (defScope st) dV kV doc pm an (.ref cda) ct cc), osl⟩) (hcr : codeIn K (.ref cda) qual = true) (I : Ini st gs)
    (hcc : K.lookup cc = some ⟨cl, cld, .cell (some (.ref C)), csl⟩) (hcd : K.lookup cda = some ⟨ccl, cdd, .fields dat, ccs⟩) (hvs : dat[2]? = some (.str file tf)) (hfile : ((prog.main.file : Str) == file) = true)
    (hbind : ∀ us : List Value, us.length = (("self" : Str) :: gs).length → bindArgs (ksFn "__init__" qual (defArgs st) (defBody st) (defScope st) dV kV doc pm an (.ref cda) ct cc) ⟨us, []⟩ = pure ((("self" : Str) :: gs).zip us))
    (X : K.In s.heap) (hlim : s.heap.NoLimit) (hg : s.heap.Ns mainGlobals mg) (hb : s.heap.Ns builtinsNs mb) (hbs : mb ("super" : Str) = some (.type "super")) (rv : L2.Vals xs vs) (hl : vs.length = gs.length)
    (hx : s.heap.get? x = some (excD C t0 none)) (hxK : K.lookup x = none) (hroom : A.depth < recursionLimit)
    (hq : ∀ h' tk, Left s.heap h' x C gs xs → R (.ok (.ret .none)) { s with heap := h', toks := tk }) : codeAny (model prog w) A (.call (.ref fI) ⟨.ref x :: vs, []⟩) R s := by
  obtain ⟨p0, p1, p2, p3, p4, es, r, hbody, hes, S, hline⟩ := I.body
  have hlen : (Value.ref x :: vs).length = (("self" : Str) :: gs).length := congrArg (· + 1) hl
  have hgs := T.noN
  have hzz : vs.length ≤ sizeLine := by
    have := I.few
    rw [sizeLine_eq]
    omega
  have hsl : (defScope st).names.lookup ("self" : Str) = some .local := I.locals _ (by simp)
  refine ks_codeAny_call_defAt (fd := ksFn "__init__" qual (defArgs st) (defBody st) (defScope st) dV kV doc pm an (.ref cda) ct cc) (body := defBody st) (binds := (("self" : Str) :: gs).zip (Value.ref x :: vs)) hroom (X _ _ hf) rfl hlim (codeRec_of X hcr) rfl (BindsTo.of_eq (hbind _ hlen)) I.cells (fun y hy => I.locals _ (List.of_mem_zip hy).1) (fun h1 hn1 k1 => ?_) I.co I.gen I.kind
  have hself : ((("self" : Str) :: gs).zip (Value.ref x :: vs)).reverse.lookup ("self" : Str) = some (.ref x) := zip_rev I.nodup _ (by simp)
  have hm : ∀ f v, (f, v) ∈ gs.zip vs → ((("self" : Str) :: gs).zip (Value.ref x :: vs)).reverse.lookup f = some v := fun f v h => zip_rev I.nodup _ (zip_mem h)
  have X1 : K.In h1 := X.keeps k1
  have hx1 := k1 _ _ hx
  have hxL : x ≠ s.heap.objs.size := Nat.ne_of_lt (Heap.lt_size hx)
  show _root_.PySem.wpAt (model prog w) (A.deeper (ksEnv qual (defScope st) s.heap.objs.size fI (.ref cda) cc)) (.func (defBody st) (ksEnv qual (defScope st) s.heap.objs.size fI (.ref cda) cc)) (execs (defBody st) (ksEnv qual (defScope st) s.heap.objs.size fI (.ref cda) cc)) _ _ _
  rw [hbody]
  refine ks_wpAt_execs_cons (super_init (d := s.drawn) (g := s.gens) (os := s.os) T hf I hes hline hcc hcd hvs hfile X1 (ns_keep hg fun o e => k1 _ _ e) (ns_keep hb fun o e => k1 _ _ e) hbs hn1 hself hm hl hzz hx1 hxK hxL fun h2 t2 t1 k2 hx2 => ?_)
  refine wpAt_of_wpAny ?_
  have hn2 : h2.Ns s.heap.objs.size _ := ns_keep hn1 fun o e => k2 _ _ (Ne.symm hxL) e
  have hLs := hn2.lt
  refine sets_all (h := h2) T I.kind hself hsl hxL hxK S rv (rv.length.trans hl) (fun f hf => ⟨hgs f hf, I.locals f (by simp [hf]), I.nodbg f hf⟩) hm (by have := I.few; omega) (in_but X1 hxK k2) hn2 hx2 fun h3 t3 D => hq h3 t3 ⟨fun b o hb e => D.keep b o hb (k2 b o hb (k1 _ _ e)), ?_⟩
  rcases D.obj with q | ⟨t4, dx, mB, q1, q2, q3⟩
  · exact .inl q
  · exact .inr ⟨t4, dx, mB, q1, Nat.le_of_lt (Nat.lt_of_lt_of_le hLs q2), q3⟩
end
end NmE
namespace L2
open PySem PySem.Spec PyProof.Rows
section
variable {X : Cx} {C : Addr} {xn : Str} {fs : List Str}
/-- the class called, made with a value for each field (there are some) -/
def tErr (C : Addr) (fs : List Str) (ta : TA) : L2.St → Hp → XK → Prop := fun σ H Q => ta σ H fun vs H1 => vs.length = fs.length ∧ ∀ d, H1 d = none → Q (.ref C) (some d) (upd H1 d (.xd (NmE.puts fs vs [])))
theorem pmk_err {e : Expr} {es : List Expr} {ta : TA} {p pos : Pos} {k : Nat} (T : NmE.Err X.prog X.K X.mg xn C fs) (hne : fs ≠ []) (hr : Room k X.A) (ha : PA X (e :: es) ta) (hg : Gl X xn := by rfl) (hdb : (xn == ("__debug__" : Str)) = false := by decide)
    (he : starEach (e :: es) X.env = (false, eval e X.env) :: starEach es X.env := by rfl) (hpl : (backTo pos (starEach es X.env)).any (·.1) = false := by rfl) :
    PMk X (.Call (.Name xn p) (e :: es) [] pos) (tErr C fs ta) := by
  intro pins s σ H Q I h
  obtain ⟨nm, q, N, bs, bm, sn, sub, ab, col, dd, k0, k1, k2, k3, k5, hC, hbm⟩ := T.cls
  obtain ⟨fI, cc, cda, st, qual, oc, dV, kV, doc, pm, ct, cl, ccl, od, an, cld, cdd, osl, csl, ccs, dat, file, tf, iC, tI, lI, hcr, ini, hcc, hcd, hvs, hfile, hbind⟩ := T.init
  refine wpAny_Call_Name_kw (ld_glob I hg T.gC ?_ hdb)
  refine PySem.W.callWith_K (h₀ := X.base) I.ok.mod.kin T.kC (thn (ha.run pos pins s σ H _ I h) fun us s1 ⟨vs, H1, I1, r1, hl, q1⟩ => ⟨I1.kIn, ?_⟩) he hpl
  show wpAny _ _ (call (.ref C) us) _ _ _
  obtain ⟨mb, hb, hbs⟩ := I1.ok.mod.blt
  have hlim := I1.nolimit
  have hgl := I1.ok.mod.glob
  have bk := I1.bk
  have KI := I1.kIn
  have hus : us.length = fs.length := r1.length.symm.trans hl
  have hzz : us.length ≤ sizeLine := by
    have := ini.few
    rw [sizeLine_eq]
    omega
  obtain ⟨hp, g, dr, tk, os⟩ := s1
  have kk : ∀ b o, hp.get? b = some o → ((hp.push (PySem.W.kdv_tup us)).push (PySem.HandSPX.excO C hp.objs.size)).get? b = some o := fun b o e => Heap.get?_push_of_some _ (Heap.get?_push_of_some _ e)
  have hget : ((hp.push (PySem.W.kdv_tup us)).push (PySem.HandSPX.excO C hp.objs.size)).get? (hp.objs.size + 1) = some (PySem.HandSPX.excO C hp.objs.size) := by heap_get
  refine wpAny_call (PySem.HandSPX.call_own PySem.F.excBase_ValueError (fun Y => PySem.HandSPX.refsVE_contains Y bm hbm) (KI _ _ hC) (PySem.W.looks_findIn KI iC) (fun self => PySem.W.bind_fn KI self tI) hzz ?_)
  refine NmE.err_init (s := ⟨(hp.push (PySem.W.kdv_tup us)).push (PySem.HandSPX.excO C hp.objs.size), g, dr, tk, os⟩) T lI hcr ini hcc hcd hvs hfile hbind (KI.keeps kk) (hlim.keeps kk) (NmE.ns_keep hgl fun o e => kk _ _ (bk _ _ e)) (NmE.ns_keep hb fun o e => kk _ _ (bk _ _ e)) ?_ r1 hus hget (NmE.not_in KI (Nat.le_succ _)) ?_ fun h' tk' D => ?_
  · exact (hbs _ (by decide)).trans (by first | rfl | kernel_rfl)
  · show X.A.depth + 1 < recursionLimit
    have := hr.dp
    omega
  · refine ⟨rfl, ?_⟩
    show MkP X pins σ Q (.ref (hp.objs.size + 1)) ⟨h', g, dr, tk', os⟩
    rcases D.obj with ⟨z, _⟩ | ⟨t1, d, mB, hx, hd, hde, hns, rel⟩
    · exact absurd z hne
    have hd' : hp.objs.size + 1 + 1 ≤ d := by
      first
        | (simpa only [Heap.size_push] using hd)
        | exact hd
    have old : ∀ b o, hp.get? b = some o → h'.get? b = some o := fun b o e => D.keep b o (Nat.ne_of_lt (Nat.lt_succ_of_lt (Heap.lt_size e))) (kk b o e)
    obtain ⟨G, g1, g2⟩ := restrict h' fun b => decide (b ≠ hp.objs.size + 1)
    have gk : ∀ b, b ≠ hp.objs.size + 1 → G.get? b = h'.get? b := fun b hb => g1 b (decide_eq_true hb)
    have ge : G.get? (hp.objs.size + 1) = none := g2 _ (by simp)
    have oldG : ∀ b o, hp.get? b = some o → G.get? b = some o := fun b o e => (gk b (Nat.ne_of_lt (Nat.lt_succ_of_lt (Heap.lt_size e)))).trans (old b o e)
    have ob : ObjOk X.prog X.w (upd H1 d (.xd (NmE.puts fs vs []))) G d (.xd (NmE.puts fs vs [])) := ⟨mB, hns.at (fun o e => (gk d hde).trans e), rel⟩
    have hds : hp.objs.size ≤ d := by omega
    have J : Inv X pins σ (upd H1 d (.xd (NmE.puts fs vs []))) ⟨G, g, dr, tk', os⟩ := I1.laid (t' := tk') oldG hds ob
    refine ⟨hp.objs.size + 1, _, _, ⟨G, g, dr, tk', os⟩, _, .ref C, some d, rfl, J, fun b o e => ?_, ge, hx, ⟨rfl, rfl⟩, rfl, rfl, ?_, rfl, I1.bare, raises_own T.exC T.tyC, q1 d (I1.hok.fresh hds)⟩
    · by_cases hb : b = hp.objs.size + 1
      · have e' : G.get? b = some o := e
        rw [hb, ge] at e'
        cases e'
      · exact (gk b hb).symm.trans e
    · rw [upd_ne (Ne.symm hde)]
      exact I1.hok.fresh (Nat.le_succ _)
/-- raise X(..) -/
def tRaiseE (C : Addr) (fs : List Str) (W : WX) (ta : TA) : TS := fun _ σ H => tErr C fs ta σ H fun cls d H' => W cls d σ H'
theorem ps_raiseE {e : Expr} {es : List Expr} {ta : TA} {W : WX} {p pos pos2 : Pos} {k : Nat} (hc : X.calm = true) (T : NmE.Err X.prog X.K X.mg xn C fs) (hne : fs ≠ []) (hr : Room k X.A) (tk : Takes X W) (ha : PA X (e :: es) ta) (hg : Gl X xn := by rfl) (hdb : (xn == ("__debug__" : Str)) = false := by decide)
    (he : starEach (e :: es) X.env = (false, eval e X.env) :: starEach es X.env := by rfl) (hpl : (backTo pos (starEach es X.env)).any (·.1) = false := by rfl) :
    PS X (.Raise (some (.Call (.Name xn p) (e :: es) [] pos)) none pos2) (tRaiseE C fs W ta) := ps_raise hc tk (pmk_err T hne hr ha hg hdb he hpl)
/-- e.f of the exception that an except suite holds -/
def tOfE (a : Addr) (C : Addr) (f : Str) (cls : Value) (d : Option Addr) (te : TE) : TE := fun σ H Q => te σ H fun x H1 => x = .ref a ∧ cls = .ref C ∧ ∃ (dd : Addr) (kvs : List (Str × V)) (v : V), d = some dd ∧ H1 dd = some (.xd kvs) ∧ kvs.lookup f = some v ∧ Q v H1
theorem pe_ofE {a : Addr} {oe : Obj} {cls : Value} {d : Option Addr} {pn : List (Addr × Obj)} {e : Expr} {te : TE} {pos : Pos} {f : Str} (T : NmE.Err X.prog X.K X.mg xn C fs) (hf : f ∈ fs) (hz : Zc cls d oe) (hfi : ∃ vs, oe.data = .fields vs) (he : PE (X.suite a ((a, oe) :: pn)) e te)
    (hb : attributeBase e f X.env (eval e X.env) = eval e X.env := by rfl) : PE (X.suite a ((a, oe) :: pn)) (.Attribute e f pos) (tOfE a C f cls d te) := by
  refine ⟨fun pins s σ H Q I h => ?_⟩
  refine attr_of hb (thn (he.run pins s σ H _ I h) fun u s1 ⟨x, H1, I1, rx, ex, ec, dd, kvs, v, ed, ea, lv, q⟩ => ?_)
  subst ex ec ed
  obtain rfl : u = Value.ref a := rx
  obtain ⟨ha, _⟩ := I1.pin (a, oe) (List.mem_append_left _ List.mem_cons_self)
  obtain ⟨vs, hd⟩ := hfi
  have hx : ObjOk X.prog X.w H1 s1.heap dd (.xd kvs) := I1.hok dd _ ea
  obtain ⟨mA, hns, hr⟩ := hx
  obtain ⟨od, ho, hl⟩ := lookIn_ns hns
  have rf := hr f
  rw [lv] at rf
  obtain ⟨u, hu, ru⟩ := RelO.some_of (v := v) (o := mA f) rf
  have J : PySem.W.InstAt s1.heap a oe C (some od) := ⟨ha, hz.1, by unfold PySem.W.notCls; rw [hd] <;> rfl, by rw [hz.2]; exact ho⟩
  exact HandSPX.exc_get I1.kIn J T.ga T.gg T.exC (PySem.W.findObj_own T.hdC (T.noN f hf) rfl (by rw [hl, hu])) (handed_of ru) ⟨v, H1, I1.tok _, ru, q⟩
end
end L2

/-! The own layer: try with several clauses, each with a name; a call of a parameter that holds a def, in a try. -/
namespace Nm
open PySem PySem.Spec PyProof.Rows L2
/-- a clause: the class, its name's slot, the reading of its suite -/
abbrev Cl3 := Value × Nat × (Addr → Value → Option Addr → TS)
/-- the ends of a suite whose name is in slot i: the name is taken away -/
def endsAt (i : Nat) (D : Ends) : Ends := { nx := fun σ H => D.nx (σ.set i none) H, rt := D.rt, bk := fun σ H => D.bk (σ.set i none) H, ct := fun σ H => D.ct (σ.set i none) H }
/-- what the clauses wish of an exception that leaves the body -/
def wClauses (K : PySem.W.Frag) (Wo : WX) (D : Ends) : List Cl3 → WX
  | [] => Wo
  | c :: l => fun cls d σ H => ∃ b, PySem.W.exmOne K cls c.1 = some b ∧ (b = true → ∀ a, H a = none → c.2.2 a cls d (endsAt c.2.1 D) (σ.set c.2.1 (some (.ref a))) H) ∧ (b = false → wClauses K Wo D l cls d σ H)
inductive Clauses (X : Cx) : List ExceptHandler → List Cl3 → Prop
  | nil : Clauses X [] []
  | cons {x n : Str} {c : Value} {i : Nat} {ts : Addr → Value → Option Addr → TS} {b₀ : Stmt} {suite : List Stmt} {np pos' : Pos} {hds : List ExceptHandler} {l : List Cl3} (hc : Names X x c) (hi : X.N[i]? = some n) (hln : X.env.kindOf n = some .local)
      (hsu : ∀ (a : Addr) (oe : Obj) (cls : Value) (d : Option Addr) (pn : List (Addr × Obj)), Zc cls d oe → (∃ vs, oe.data = .fields vs) → PSs (X.suite a ((a, oe) :: pn)) (b₀ :: suite) (ts a cls d)) (r : Clauses X hds l) :
      Clauses X (.ExceptHandler (some (.Name x np)) (some n) (b₀ :: suite) pos' :: hds) ((c, i, ts) :: l)
section
variable {X : Cx} {pins : List (Addr × Obj)} {σ : L2.St} {H : Hp} {D : Ends} {Wo : WX} {s' sI : Shared} {a : Addr} {B : Heap} {cls : Value} {d : Option Addr} {h3 : Heap}
theorem clauses_go (ok : X.Ok) (hs : X.stack = X.env :: X.outer) (hf : X.env.frame = some X.env.locals) (hN : X.N.Nodup) (tk : Takes X Wo) (J : Inv X pins σ H sI)
    (nb : ∀ b o, sI.heap.get? b = some o → b ∉ frs X.stack → B.get? b = some o) (up3 : sI.heap.UpToSlots h3) (na : H a = none) (os : s'.os = sI.os) (ag : AllBare s'.gens)
    (fl3 : HandSPX.FlyingZ B (X.env :: X.outer) a (Zc cls d) h3) (nL : a ≠ X.env.locals) (nF : a ∉ X.fs) :
    ∀ {hds : List ExceptHandler} {l : List Cl3}, Clauses X hds l → wClauses X.K Wo D l cls d σ H → wpAny (model X.prog X.w) X.A (handleBy (.ref a) X.env hds) (SP X pins D) X.xe { s' with heap := h3 } := by
  obtain ⟨o3, v3, e3, z3, d3⟩ := fl3.there
  have J3 : Inv X pins σ H { s' with heap := h3 } := J.landed nb fl3.1 up3 os ag
  have S3 := J3.suite e3 d3 na nL nF
  intro hds l hk
  induction hk with
  | nil =>
    intro w
    refine wpAny_handleBy_nil ?_
    obtain ⟨_, _, _, oe, vs, T, oT, ts', he, _, hd, h1, _⟩ := id fl3
    unfold PySem.passOn
    refine wpAny_bind (wpAny_field he hd h1 ?_)
    rw [if_neg (show ¬ ((Value.ref T == Value.none) = true) from by simp)]
    have on : wpAny (model X.prog X.w) X.A (setFlight (.ref a) X.env.frame) (fun _ s4 => wpAny (model X.prog X.w) X.A (throw (.ref a) : Sem Flow) (SP X pins D) X.xe s4) X.xe { s' with heap := h3 } := by
      rw [hf]
      exact HandSPX.setFlight_upZ fl3 fun h4 held up4 => wpAny_throw (tk _ _ ⟨a, B, sI, pins, σ, H, cls, d, rfl, J, nb, up3.trans up4, .inr (.inr (by rw [hs]; exact held)), na, os, ag, w⟩)
    first
      | exact wpAny_bind (wpAny_pure (wpAny_bind on))
      | exact wpAny_bind on
  | @cons x n c i ts b₀ suite np pos' hds2 l2 hc hi hln hsu r ih =>
    rintro ⟨b, hb, yes, no⟩
    refine wpAny_handleBy_cons (codeAny_handlers_test ?_) (by intro q; cases q)
    have its : PySem.W.Looks (model X.prog X.w) h3 (typeOf (.ref a)) cls := fun A Q E s k q => wpAny_typeOf_ref (k _ _ e3) (by rw [z3.1]; exact q)
    have LM := PySem.W.exm_one (M := model X.prog X.w) J3.kIn its hb
    have asked : ∀ {Q : Value → Shared → Prop} {E : Value → Shared → Prop}, Q c { s' with heap := h3 } → wpAny (model X.prog X.w) (X.A.mark (some (.ref a))) (eval (.Name x np) X.env) Q E { s' with heap := h3 } := fun {Q E} q => by
      obtain ⟨hg, dbg, hm | ⟨hm, hv, nn⟩⟩ := hc
      · exact ld_glob (X := X.suite a ((a, o3) :: (X.pn ++ pins))) S3 hg hm q dbg
      · exact ld_blt (X := X.suite a ((a, o3) :: (X.pn ++ pins))) S3 hg hm hv q nn dbg
    refine asked (LM.here ?_)
    cases b with
    | false => exact ih (no rfl)
    | true =>
      refine codeAny_handlers_suite_as (HandSPX.lands_againZ fl3 fun h4 fl4 up4 => ?_)
      obtain ⟨o4, v4, e4, z4, d4⟩ := fl4.there
      have S4 := (J.landed (s' := { s' with heap := h4 }) nb fl4.1 (up3.trans up4) os ag).suite e4 d4 na nL nF
      refine store_ok (X := X.suite a ((a, o4) :: (X.pn ++ pins))) (v := .ref a) S4 hN hi (.inl hln) rfl (fun s5 S5 => ?_) (.inr hln)
      refine wpAny_mono ((hsu a o4 cls d (X.pn ++ pins) z4 ⟨_, d4⟩).run [] s5 _ H _ S5 (yes rfl a na)) (fun f s6 hsp => ?_) (fun _ _ z => False.elim z)
      have gone : ∀ {σ6 : L2.St} {H6 : Hp} {Q : Shared → Prop}, Inv (X.suite a ((a, o4) :: (X.pn ++ pins))) [] σ6 H6 s6 → (∀ s7, Inv X pins (σ6.set i none) H6 s7 → Q s7) →
          wpAny (model X.prog X.w) X.A (do bindName X.env n .none; unbindBehindTheSuite X.env n pos') (fun _ s7 => Q s7) X.xe s6 := fun S6 hq => gone_ok (S6.unsuite ok) hN hi hln hq
      cases f with
      | ret u =>
        obtain ⟨v6, _, _, S6, r6, q6⟩ := hsp
        exact gone S6 fun s7 J7 => ⟨_, _, _, J7, r6, q6⟩
      | next =>
        obtain ⟨_, _, S6, q6⟩ := hsp
        exact gone S6 fun s7 J7 => ⟨_, _, J7, q6⟩
      | brk =>
        obtain ⟨_, _, S6, q6⟩ := hsp
        exact gone S6 fun s7 J7 => ⟨_, _, J7, q6⟩
      | cont =>
        obtain ⟨_, _, S6, q6⟩ := hsp
        exact gone S6 fun s7 J7 => ⟨_, _, J7, q6⟩
theorem ps_clauses {body : List Stmt} {h₀ : ExceptHandler} {hds : List ExceptHandler} {l : List Cl3} {pos : Pos} {tb : WX → TS} (hs : X.stack = X.env :: X.outer) (hf : X.env.frame = some X.env.locals) (hN : X.N.Nodup) (tk : Takes X Wo)
    (hb : ∀ (W : WX) (pn : List (Addr × Obj)) (xe : Value → Shared → Prop), Takes (X.tr pn xe) W → PassesOwn (model X.prog X.w) X.A X.env xe → PSs (X.tr pn xe) body (tb W)) (hh : Clauses X (h₀ :: hds) l) :
    PS X (.Try body (h₀ :: hds) [] [] pos) (fun D σ H => tb (wClauses X.K Wo D l) D σ H) := by
  refine ⟨fun pins s σ H D I h => wpAny_Try_except ?_⟩
  have ok := I.ok
  have hfr : X.A.frames = some (X.env :: X.outer) := by rw [ok.frames, hs]
  refine wpAny_mono ((hb (wClauses X.K Wo D l) (X.pn ++ pins) (fun e s₁ => wpAny (model X.prog X.w) X.A (noteFrame e X.env) (fun _ s₂ => wpAny (model X.prog X.w) X.A (setFlight e none) (fun _ s₃ =>
    wpAny (model X.prog X.w) X.A (handleBy e X.env (h₀ :: hds)) (SP X pins D) X.xe s₃) X.xe s₂) X.xe s₁) (fun u s' caught => ?_) PassesOwn.looking).run [] s σ H D (I.toTry _) h) (fun f s1 ran => ?_) (fun _ _ z => z)
  · obtain ⟨a, B, sI, _, σ', H', cls, d, rfl, JT, nb, up, sky, na, os, ag, w⟩ := caught
    have J : Inv X pins σ' H' sI := JT.ofTry ok
    rw [show (X.tr (X.pn ++ pins) _).stack = X.env :: X.outer from hs] at sky
    show wpAny (model X.prog X.w) X.A (noteFrame (.ref a) X.env) _ _ _
    refine Sky.land Zc.steady hfr hf sky fun h3 fl3 up3 => ?_
    obtain ⟨o3, v3, e3, _, d3⟩ := fl3.there
    have apart : a ∉ frs (X.env :: X.outer) := fun hm => by
      obtain ⟨_, o', e', hnf⟩ := fl3.2.2.1.mem hm
      rw [e3] at e'
      cases e'
      exact hnf _ d3
    have nL : a ≠ X.env.locals := fun z => apart (List.mem_filterMap.mpr ⟨X.env, List.mem_cons_self, by rw [hf, z]⟩)
    have nF : a ∉ X.fs := fun hm => by
      obtain ⟨e, he, q⟩ := List.mem_filterMap.mp hm
      exact apart (List.mem_filterMap.mpr ⟨e, List.mem_cons_of_mem _ he, q⟩)
    exact clauses_go ok hs hf hN tk J nb (up.trans up3) na os ag fl3 nL nF hh w
  · cases f with
    | ret u =>
      obtain ⟨v, _, _, J, r, q⟩ := ran
      exact ⟨v, _, _, J.ofTry ok, r, q⟩
    | next =>
      obtain ⟨_, _, J, q⟩ := ran
      exact wpAny_execs_nil ⟨_, _, J.ofTry ok, q⟩
    | brk =>
      obtain ⟨_, _, J, q⟩ := ran
      exact ⟨_, _, J.ofTry ok, q⟩
    | cont =>
      obtain ⟨_, _, J, q⟩ := ran
      exact ⟨_, _, J.ofTry ok, q⟩
end
/-- a parameter called that holds a def; what it raises is wished for at the slots -/
def tCallP (i : Nat) (f : Addr) (sp : Sp) (E : L2.St → XK) (t : TA) : TE := fun σ H Q => σ[i]? = some (some (.ref f)) ∧ t σ H fun vs H1 => sp vs H1 Q (E σ)
theorem pe_callP {X : Cx} {CX : CXT} {k i : Nat} {f : Addr} {fd : FuncData} {ps : List Str} {sp : Sp} {E : L2.St → XK} {x : Str} {p pos : Pos} {e : Expr} {es : List Expr} {t : TA}
    (F : FnOk X.prog X.w X.K X.mg X.base CX k f fd ps sp) (hr : Room k X.A) (hN : X.N[i]? = some x) (hv : Vis X.env.scope x) (hk : PySem.W.keepIn X.K (.ref f) = true) (hb : Binds X.K fd ps []) (hx : ∀ σ, PassesAt CX X σ (E σ)) (ha : PA X (e :: es) t)
    (hdb : (x == ("__debug__" : Str)) = false := by decide) (hcd : (x == ("__classdict__" : Str)) = false := by decide)
    (he : starEach (e :: es) X.env = (false, eval e X.env) :: starEach es X.env := by rfl) (hpl : (backTo pos (starEach es X.env)).any (·.1) = false := by rfl) : PE X (.Call (.Name x p) (e :: es) [] pos) (tCallP i f sp E t) := by
  refine ⟨fun pins s σ H Q I ⟨hs, ht⟩ => ?_⟩
  refine wpAny_Call_Name_kw (thn ((pe_var (pos := p) hN hv hdb hcd).run pins s σ H (fun v H1 => v = .ref f ∧ H1 = H) I ⟨.ref f, hs, rfl, rfl⟩) fun u s1 ⟨v, H1, I1, r1, ev, eH⟩ => ?_)
  subst ev eH
  obtain rfl : u = Value.ref f := r1
  exact PySem.W.callWith_K (h₀ := X.base) I.ok.mod.kin hk (thn (ha.run pos pins s1 σ _ _ I1 ht) fun us s2 ⟨vs, H2, I2, r, q⟩ => ⟨I2.kIn, run_fnS F hr hb (hx σ) I2 r q⟩) he hpl
end Nm

/-! The own layer: tuple(d), split, join, str(n), lists added, three targets, raise, comprehensions that draw. -/
namespace Nm
open PySem PySem.Spec PyProof.Rows L2
section
open PySem.W
variable {prog : Program} {w : World} {A : Around} {E : Value → Shared → Prop} {s : Shared} {T : String} {r d : Addr} {n : Nat} {P : Nat → Value → Prop} {OK : Heap → Prop}
theorem new_tuple_src {Q₁ : Value → Shared → Prop} (KS : KdlSrc prog w "dict" r d n P OK) (hh : A.handled = none) (hok : OK s.heap) (hn : n ≤ sizeLine)
    (h : ∀ (h' : Heap) (tk : Nat) (acc : Array Value), (∀ b o, s.heap.get? b = some o → h'.get? b = some o) → ItemsOf P acc n → Q₁ (.ref h'.objs.size) { s with heap := h'.push { cls := .type "tuple", data := .seq acc }, toks := tk }) :
    codeAny (model prog w) A (.call (.builtin "tuple.__new__") ⟨[.type "tuple", .ref r], []⟩) (wants Q₁ E) s := by
  refine codeAny_of_tree ?_
  show wpAny _ A.in1 (do checkBuiltinCall "tuple.__new__" ⟨[.type "tuple", .ref r], []⟩; again (.builtin "tuple.__new__" ⟨[.type "tuple", .ref r], []⟩)) _ _ s
  refine wpAny_bind (wpAny_of_eq (F.newCall_tuple_1 _) (wpAny_pure ⟨plainId_quiet F.plain_tuple_new _, codeAny_builtin F.entry_tuple_new ?_⟩))
  rw [Around.under_plainId F.plain_tuple_new _]
  have f1 := sub_tuple_self
  have f2 := init_tuple_lookup
  have f3 := madeHere_tuple
  have ty : s.TypeIs (.ref r) "dict" := KS.type s hok
  have hh1 : A.in1.handled = none := hh
  wp_walk using wpAny_typeOf ty, kdu_collect (A := A.in1) KS hh1 hok hn
  intro h' tk acc hk hacc
  show wpAny _ _ (Builtin.Tuple.tupleExact acc.toList.toArray >>= fun v => ret v) _ _ _
  unfold Builtin.Tuple.tupleExact
  rw [Array.toArray_toList]
  exact wpAny_bind (wpAny_newObj_type (wpAny_pure (h h' tk acc hk hacc)) (by show acc.size ≤ sizeLine; rw [hacc.1]; exact hn))
theorem call_tuple_src {Q : Value → Shared → Prop} (KS : KdlSrc prog w "dict" r d n P OK) (hh : A.handled = none) (hok : OK s.heap) (hn : n ≤ sizeLine)
    (hQ : ∀ (h' : Heap) (tk : Nat) (acc : Array Value), (∀ b o, s.heap.get? b = some o → h'.get? b = some o) → ItemsOf P acc n → Q (.ref h'.objs.size) { s with heap := h'.push { cls := .type "tuple", data := .seq acc }, toks := tk }) :
    wpAny (model prog w) A (call (.type "tuple") [.ref r]) Q E s := by
  refine callType_codes (Q₁ := fun obj s₁ => s₁.TypeIs obj "tuple" ∧ Q obj s₁) F.called_tuple (F.typeCall_tuple_1 _) F.entry_object_init
    (new_tuple_src (A := A.in1) KS hh hok hn fun h' tk acc hk hacc => ⟨⟨_, Heap.get?_push_size _ rfl, rfl⟩, hQ h' tk acc hk hacc⟩) fun obj s₁ h₁ => ?_
  exact ⟨h₁.1, F.args_object_init_2 obj _, object_init_meets F.called_tuple.init.lookup F.called_tuple.made (by decide) prog w A.in1 _ s₁ ⟨h₁.1, rfl, h₁.2⟩⟩
end
/-- tuple(d): the keys in their order -/
def rTupD : List V → Hp → VK → Prop := fun xs H Q => ∃ p kvs, xs = [.ref p] ∧ H p = some (.dK kvs) ∧ ∀ q, H q = none → Q (.ref q) (upd H q (.tup (kvs.map fun kv => kV kv.1)))
theorem call_tupleD {X : Cx} (hc : X.calm = true) : CallR X (.type "tuple") rTupD := by
  intro pins s σ H xs us Q I r ⟨p, kvs, e, hk, q⟩
  subst e
  obtain ⟨u, rfl, rx⟩ := vals1 r
  obtain rfl : u = Value.ref p := rx
  obtain ⟨z, lo, vs, rk, hd⟩ := (show ObjOk X.prog X.w H s.heap p (.dK kvs) from I.hok p _ hk)
  obtain ⟨ep, hat⟩ := hd.dictAt
  have hl : kvs.length = vs.length := Paired.length rk
  refine call_tuple_src (PySem.W.kdl_dict (knd := mixKind X.prog X.w) (kvs := vs) (ep := ep) lo) (I.ok.hd hc) hat (by rw [← hl]; exact z) fun h' tk acc kp items => ?_
  have keys : (kvs.map fun kv => kV kv.1) = (kvs.map (·.1)).map kV := by rw [List.map_map]; rfl
  have hz : acc.size ≤ sizeLine := by rw [items.1, ← hl]; exact z
  have rv : Vals (kvs.map fun kv => kV kv.1) acc.toList := by
    refine vals_of_at (by rw [List.length_map, Array.length_toList]; exact hl.trans items.1.symm) fun j x w h1 h2 => ?_
    obtain ⟨k, y, hky, hi⟩ := items.2 j w (by rw [← Array.getElem?_toList]; exact h2)
    rw [keys, List.getElem?_map, KV.keys rk, List.getElem?_map, hky] at h1
    cases h1
    exact keyIs_rel hi
  have I1 : Inv X pins σ H { s with heap := h', toks := tk } := I.kept (t' := tk) kp
  refine ⟨.ref h'.objs.size, upd H h'.objs.size (.tup (kvs.map fun kv => kV kv.1)), I1.laid (t' := tk) (fun b o e => Heap.get?_push_of_some _ e) (Nat.le_refl _) (show ObjOk X.prog X.w _ _ _ (.tup (kvs.map fun kv => kV kv.1)) from ⟨?_, acc.toList, rv, ?_⟩), rfl, q _ (I1.hok.fresh (Nat.le_refl _))⟩
  · rw [List.length_map]; exact z
  · rw [Array.toArray_toList]; exact IsTup.new _ _
/-! ### readings by names -/
def nStr : List V → Hp → VK → Prop := fun xs H Q => ∃ i, xs = [.int i] ∧ i.natAbs.log2 < 1920 ∧ Q (.str (toString i)) H
def nSplit : V → List V → Hp → VK → Prop := fun x xs H Q => ∃ a b, x = .str a ∧ xs = [.str b] ∧ (b.length == 0) = false ∧ a.length + 2 ≤ sizeLine ∧ rNewStrs (Txt.split a b) H Q
def nJoin (K : PySem.W.Frag) : V → List V → Hp → VK → Prop := fun x xs H Q => ∃ a p, ∃ ys : List Str, x = .str a ∧ xs = [.ref p] ∧ (SqL K H p (ys.map V.str) ∨ SqT K H p (ys.map V.str)) ∧ (ys.map (·.length)).sum + ys.length * a.length ≤ 16777216 ∧ Q (.str (Txt.join a ys)) H
section
variable {X : Cx} {o e : Expr} {to te : TE}
theorem call_strI : CallR X (.type "str") nStr := call_str_int
theorem op_catL : OpR X (binaryOp .Add) rCat := op_cat
theorem pe_splitN {apos pos : Pos} (ho : PE X o to) (he : PE X e te) (hs : starEach [e] X.env = [(false, eval e X.env)] := by rfl) (hbase : attributeBase o "split" X.env (eval o X.env) = eval o X.env := by rfl) (hline : (apos.endLine == pos.line) = true := by rfl) :
    PE X (.Call (.Attribute o "split" apos) [e] [] pos) (tM1 nSplit to te) := pe_split ho he hs hbase hline
theorem pe_joinN {apos pos : Pos} (ho : PE X o to) (he : PE X e te) (hs : starEach [e] X.env = [(false, eval e X.env)] := by rfl) (hbase : attributeBase o "join" X.env (eval o X.env) = eval o X.env := by rfl) (hline : (apos.endLine == pos.line) = true := by rfl) :
    PE X (.Call (.Attribute o "join" apos) [e] [] pos) (tM1 (nJoin X.K) to te) := pe_join ho he hs hbase hline
/-- what a called def raises goes on out -/
theorem passX {E : XK} (tk : Takes X (fun cls d _ H => E cls d H)) : Passes (L2.CX X.prog X.w) X E := fun _ _ _ _ e s' I c => tk e s' (XE.of_call I (fun _ _ _ h => h) c)
/-- a def that may raise and here does not -/
theorem passF : Passes (L2.CX X.prog X.w) X (fun _ _ _ => False) := fun _ _ _ _ _ _ _ ⟨_, _, _, _, _, _, _, _, _, _, _, _, z⟩ => z.elim
end
section
variable {σ : L2.St} {H : Hp} {Q : VK} {ta te to : TE} {t : TA} {D : Ends} {K : PySem.W.Frag} {x y : V}
def kM1 (r : V → List V → Hp → VK → Prop) (te : TE) (σ : L2.St) (Q : VK) : VK := fun x H1 => (∃ a, x = .str a) ∧ te σ H1 fun y H2 => r x [y] H2 Q
theorem z_m1 {r : V → List V → Hp → VK → Prop} (h : to σ H (kM1 r te σ Q)) : tM1 r to te σ H Q := h
theorem z_kM1 {r : V → List V → Hp → VK → Prop} {a : Str} (h : te σ H fun y H2 => r (.str a) [y] H2 Q) : kM1 r te σ Q (.str a) H := ⟨⟨a, rfl⟩, h⟩
theorem z_split {a b : Str} (hb : (b.length == 0) = false) (hz : a.length + 2 ≤ sizeLine) (k : ∀ p H', H p = none → Same H H' → H' p = some (.lst ((Txt.split a b).map V.str)) → Q (.ref p) H') : nSplit (.str a) [.str b] H Q :=
  ⟨a, b, rfl, rfl, hb, hz, new_by (R := fun p H' => Q (.ref p) H') fun p H' a b c _ => k p H' a b c⟩
theorem z_join {a : Str} {p : Addr} {ys : List Str} (h : SqL K H p (ys.map V.str)) (hz : (ys.map (·.length)).sum + ys.length * a.length ≤ 16777216) (q : Q (.str (Txt.join a ys)) H) : nJoin K (.str a) [.ref p] H Q := ⟨a, p, ys, rfl, rfl, .inl h, hz, q⟩
theorem z_strI {i : Int} (hz : i.natAbs.log2 < 1920) (q : Q (.str (toString i)) H) : nStr [.int i] H Q := ⟨i, rfl, hz, q⟩
theorem z_catL {p q : Addr} {xs ys : List V} (h1 : H p = some (.lst xs)) (h2 : H q = some (.lst ys)) (hl : xs.length + ys.length ≤ sizeLine) (k : ∀ p H', H p = none → Same H H' → H' p = some (.lst (xs ++ ys)) → Q (.ref p) H') : rCat (.ref p) (.ref q) H Q :=
  ⟨p, q, xs, ys, rfl, rfl, h1, h2, hl, new_by (R := fun p H' => Q (.ref p) H') fun p H' a b c _ => k p H' a b c⟩
def kPar3 (i j l : Nat) (D : Ends) (σ : L2.St) : List V → Hp → Prop := fun vs H1 => ∃ u v w, vs = [u, v, w] ∧ D.nx (((σ.set i (some u)).set j (some v)).set l (some w)) H1
theorem z_par3 {i j l : Nat} (h : t σ H (kPar3 i j l D σ)) : tPar3 i j l t D σ H := h
theorem z_kPar3 {i j l : Nat} {u v w : V} (h : D.nx (((σ.set i (some u)).set j (some v)).set l (some w)) H) : kPar3 i j l D σ [u, v, w] H := ⟨u, v, w, rfl, h⟩
theorem z_isB {a b : Bool} (q : Q (.bl (decide (a = b))) H) : rIsB (.bl a) (.bl b) H Q := ⟨a, b, rfl, rfl, q⟩
theorem z_notB {a b : Bool} (q : Q (.bl (!decide (a = b))) H) : rNotB (.bl a) (.bl b) H Q := ⟨a, b, rfl, rfl, q⟩
theorem z_dnewK (k : ∀ p H', H p = none → Same H H' → H' p = some (.dK []) → Q (.ref p) H') : tDNewK σ H Q := new_by (R := fun p H' => Q (.ref p) H') fun p H' a b c _ => k p H' a b c
theorem z_tupD {p : Addr} {kvs : List (Key × V)} (h : H p = some (.dK kvs)) (k : ∀ q H', H q = none → Same H H' → H' q = some (.tup (kvs.map fun kv => kV kv.1)) → Q (.ref q) H') : rTupD [.ref p] H Q := ⟨p, kvs, rfl, h, new_by (R := fun p H' => Q (.ref p) H') fun p H' a b c _ => k p H' a b c⟩
def kErr (C : Addr) (fs : List Str) (W : WX) (σ : L2.St) : List V → Hp → Prop := fun vs H1 => vs.length = fs.length ∧ ∀ d, H1 d = none → W (.ref C) (some d) σ (upd H1 d (.xd (NmE.puts fs vs [])))
theorem z_raiseE {C : Addr} {fs : List Str} {W : WX} (h : t σ H (kErr C fs W σ)) : tRaiseE C fs W t D σ H := h
theorem z_kErr {C : Addr} {fs : List Str} {W : WX} {vs : List V} (hl : vs.length = fs.length) (k : ∀ d H', H d = none → Same H H' → H' d = some (.xd (NmE.puts fs vs [])) → W (.ref C) (some d) σ H') : kErr C fs W σ vs H := ⟨hl, fun d hd => k d _ hd (Same.new hd) upd_same⟩
theorem z_kIE' {R : It → Hp → Prop} {a : Addr} {xs : List V} (h : SqL K H a xs) (q : R (Ite K a) H) : (fun (vs : List V) (H1 : Hp) => ∃ a xs, vs = [.ref a] ∧ SqL K H1 a xs ∧ R (Ite K a) H1) [.ref a] H := ⟨a, xs, rfl, h, q⟩
end
end Nm

/-! The own layer: comprehensions over enumerate(list), comprehensions that draw; parts of texts. -/
namespace Nm
open PySem PySem.Spec PyProof.Rows L2
section
variable {te : TE} {tt : TT} {σ : L2.St} {H : Hp} {Q : VK} {K : PySem.W.Frag}
theorem walk_enumL {a : Addr} {xs : List V} : Walk (Ite K a) xs.length (fun H => SqL K H a xs) (fun i H v H' => ∃ T x, v = .ref T ∧ H T = none ∧ xs[i]? = some x ∧ H' = upd H T (.tup [.int (i : Nat), x])) where
  goes := fun i H hi g => ⟨xs, xs[i], g, List.getElem?_eq_getElem hi⟩
  stops := fun H g => ⟨xs, g, Nat.le_refl _⟩
  yields := fun i H v H' hi g y => by
    obtain ⟨T, x, ev, hT, eH, q⟩ := y
    exact ⟨T, x, ev, hT, q xs g, eH⟩
theorem wipe_two {σ : L2.St} {i j : Nat} {x y : Option V} (h : i ≠ j) : wipe (((wipe σ [i, j]).set i x).set j y) [i, j] = wipe σ [i, j] := by
  show (((((σ.set j none).set i none).set i x).set j y).set j none).set i none = (σ.set j none).set i none
  apply List.ext_getElem?
  intro n
  simp only [List.getElem?_set, List.length_set]
  by_cases h1 : i = n <;> by_cases h2 : j = n <;> simp [h1, h2]
/-- [f(i, p) for i, p in enumerate(ps)], truth values -/
theorem l_enumB {ps : List Str} {a : Addr} {i0 j0 : Nat} (f : Nat → Str → Bool) (hz : ps.length ≤ 1000000) (hs : SqL K H a (ps.map V.str)) (hij : i0 ≠ j0)
    (he : ∀ (i : Nat) (p : Str) H1, ps[i]? = some p → Same H H1 → ∀ Q' : VK, (∀ H2, Same H1 H2 → Q' (.bl (f i p)) H2) → te (((wipe σ [i0, j0]).set i0 (some (.int (i : Nat)))).set j0 (some (.str p))) H1 Q')
    (k : ∀ D H', H D = none → Same H H' → H' D = some (.lst ((ps.zipIdx.map fun q => f q.2 q.1).map V.bl)) → Q (.ref D) H') : kLc (gTup K 2 (gCons (gName i0) (gCons (gName j0) gNil))) tYes te [i0, j0] σ Q (Ite K a) H := fun D hD => by
  have hl : (ps.map V.str).length = ps.length := List.length_map ..
  have hw := walk_enumL (K := K) (a := a) (xs := ps.map V.str)
  refine lc_it hw (Pv := fun i H1 => Same H H1 ∧ H1 D = some (.lst (((ps.zipIdx.take i).map fun q => f q.2 q.1).map V.bl))) ⟨Same.new hD, by rw [upd_same]; simp⟩ (fun i H1 _ ⟨s, _⟩ => s.seq hs) ?_ ?_
  · rintro i x H1 H1' hi ⟨s1, h1⟩ ⟨T, v, ex, hT, hv, eH⟩
    subst ex eH
    rw [hl] at hi
    have hp : ps[i]? = some ps[i] := List.getElem?_eq_getElem hi
    rw [List.getElem?_map, hp] at hv
    cases hv
    refine ⟨T, _, rfl, SqT.of upd_same, rfl, _, _, rfl, _, _, rfl, rfl, wipe_two hij, ?_⟩
    refine z_tYes (iteT ?_)
    refine he i ps[i] _ hp (s1.trans (Same.new hT)) _ fun H2 s2 => ?_
    refine ⟨_, s2 _ _ (Same.new hT _ _ h1), ?_, Nm.Same.mut ((s1.trans (Same.new hT)).trans s2) hD, ?_⟩
    · rw [List.length_map, List.length_map, List.length_take, List.length_zipIdx, sizeLine_eq]
      omega
    · rw [upd_same, List.take_add_one]
      have e : ps.zipIdx[i]? = some (ps[i], i) := by
        rw [List.getElem?_zipIdx, hp]
        simp
      rw [e]
      simp
  · rintro H1 ⟨s1, h1⟩
    refine k D H1 hD s1 ?_
    rw [h1, hl]
    rw [List.take_of_length_le (by rw [List.length_zipIdx]; exact Nat.le_refl _)]
/-- [.. for k in range(n)] whose items are drawn: each of them costs at most c draws -/
theorem l_draw {n : Nat} {i0 : Nat} {d c : Addr} {m : Nat} (cost : Nat) (Pr : V → Prop) (hn : n ≤ 1000) (hp : Pen K H d c (m + cost * n))
    (he : ∀ (i : Nat) H1 j, i < n → But d H H1 → Pen K H1 d c (j + cost) → ∀ Q' : VK, (∀ v H2, Pr v → But d H1 H2 → Pen K H2 d c j → Q' v H2) → te ((σ.set i0 none).set i0 (some (.int (0 + (i : Nat))))) H1 Q')
    (k : ∀ D H' ys, H D = none → But d H H' → Pen K H' d c m → ys.length = n → (∀ y ∈ ys, Pr y) → H' D = some (.lst ys) → Q (.ref D) H') : kLc (gName i0) tYes te [i0] σ Q (Itr 0 n) H := fun D hD => by
  have nd : D ≠ d := hp.ne hD
  refine lc_it walk_range (Pv := fun i H1 => But d H H1 ∧ i ≤ n ∧ Pen K H1 d c (m + cost * (n - i)) ∧ ∃ ys : List V, H1 D = some (.lst ys) ∧ ys.length = i ∧ ∀ y ∈ ys, Pr y) ⟨same_but (Same.new hD), Nat.zero_le _, ?_, [], upd_same, rfl, fun _ h => by cases h⟩ (fun _ _ _ _ => trivial) ?_ ?_
  · exact hp.mut hD hp
  · rintro i x H1 H1' hi ⟨b1, _, p1, ys, h1, hl, hpr⟩ ⟨eH, ex⟩
    subst eH ex
    refine ⟨set_none_twice, ?_⟩
    refine z_tYes (iteT ?_)
    have e1 : m + cost * (n - i) = m + cost * (n - (i + 1)) + cost := by
      have e2 : n - i = (n - (i + 1)) + 1 := by omega
      rw [e2, Nat.mul_add, Nat.mul_one, Nat.add_assoc]
    rw [e1] at p1
    refine he i _ _ hi b1 p1 _ fun v H2 hv b2 p2 => ?_
    refine ⟨ys, b2 _ _ nd h1, ?_, fun a o hne e => ?_, hi, ?_, ys ++ [v], upd_same, by simp [hl], ?_⟩
    · rw [sizeLine_eq]
      omega
    · rw [upd_ne (ne_of_none e hD)]
      exact b2 _ _ hne (b1 _ _ hne e)
    · exact hp.mut hD p2
    · intro y hy
      rcases List.mem_append.mp hy with q | q
      · exact hpr y q
      · rw [List.mem_singleton.mp q]
        exact hv
  · rintro H1 ⟨b1, _, p1, ys, h1, hl, hpr⟩
    rw [Nat.sub_self, Nat.mul_zero, Nat.add_zero] at p1
    exact k D H1 ys hD b1 p1 hl hpr h1
end
/-! lists of texts, cut -/
def cutL (ys : List Str) (lo hi : Option Int) : List Str := (ys.drop (HT.sIx ys.length 0 lo)).take (HT.sIx ys.length ys.length hi - HT.sIx ys.length 0 lo)
theorem cutV_strs (ys : List Str) (lo hi : Option Int) : cutV (ys.map V.str) lo hi = (cutL ys lo hi).map V.str := by
  unfold cutV cutL
  rw [List.length_map, List.map_take, List.map_drop]
theorem cutL_to (ys : List Str) (k : Nat) : cutL ys none (some (k : Int)) = ys.take k := by
  unfold cutL
  rw [HT.sIx_nat, HT.sIx_none, List.drop_zero, Nat.sub_zero, Nat.min_def]
  split
  · rfl
  · rw [List.take_length, List.take_of_length_le (by omega)]
theorem cutL_neg (ys : List Str) (k : Nat) (h : 0 < k) : cutL ys none (some (-(k : Int))) = ys.take (ys.length - k) := by
  unfold cutL
  have e : HT.sIx ys.length ys.length (some (-(k : Int))) = ys.length - k := by
    show (if (-(k : Int)) < 0 then ((-(k : Int)) + (ys.length : Int)).toNat else min (-(k : Int)).toNat ys.length) = _
    rw [if_pos (by omega)]
    omega
  rw [e, HT.sIx_none, List.drop_zero, Nat.sub_zero]
theorem cut_neg (z : Str) (k : Nat) (h : 0 < k) : tl (cutS z none (some (-(k : Int)))) = (tl z).take ((tl z).length - k) := by
  have e : HT.sIx z.length z.length (some (-(k : Int))) = z.length - k := by
    show (if (-(k : Int)) < 0 then ((-(k : Int)) + (z.length : Int)).toNat else min (-(k : Int)).toNat z.length) = _
    rw [if_pos (by omega)]
    omega
  rw [tl_cut, e, HT.sIx_none, List.drop_zero, Nat.sub_zero, str_len]
theorem cut_le (z : Str) (lo hi : Option Int) : (cutS z lo hi).length ≤ z.length := by
  rw [str_len, tl_cut, List.length_take, List.length_drop, str_len]
  omega
theorem cut_sub (z : Str) (lo hi : Option Int) : ∀ c ∈ tl (cutS z lo hi), c ∈ tl z := fun c hc => by
  rw [tl_cut] at hc
  exact List.mem_of_mem_drop (List.mem_of_mem_take hc)
theorem join_len (b : Str) : ∀ ys : List Str, ys ≠ [] → (Str.join b ys).length + b.length = (ys.map (·.length)).sum + ys.length * b.length
  | [], h => absurd rfl h
  | [x], _ => by
    show x.length + b.length = _
    simp
  | x :: y :: r, _ => by
    have ih := join_len b (y :: r) (by simp)
    show (x ++ b ++ Str.join b (y :: r)).length + b.length = _
    rw [app_len, app_len]
    simp only [List.map_cons, List.sum_cons, List.length_cons] at ih ⊢
    rw [Nat.succ_mul]
    omega
/-- the parts of a text together are no longer than the text -/
theorem split_sum (z b : Str) : ((Txt.split z b).map (·.length)).sum + ((Txt.split z b).length - 1) * b.length = z.length := by
  have hp := PyProof.Rows.split_pos z b
  have hne : Txt.split z b ≠ [] := fun e => by rw [e] at hp; exact absurd hp (by decide)
  have h := join_len b _ hne
  rw [StrLaws.join_split] at h
  have e : (Txt.split z b).length * b.length = ((Txt.split z b).length - 1) * b.length + b.length := by
    rw [← Nat.succ_mul]
    congr 1
    omega
  omega
theorem mem_le_sum : ∀ {l : List Nat} {n : Nat}, n ∈ l → n ≤ l.sum
  | a :: l, n, h => by
    rw [List.sum_cons]
    rcases List.mem_cons.mp h with q | q
    · omega
    · have := mem_le_sum q
      omega
theorem split_part {z b p : Str} (h : p ∈ Txt.split z b) : p.length ≤ z.length := by
  have := split_sum z b
  have := mem_le_sum (List.mem_map_of_mem (f := (·.length)) h)
  omega
theorem sum_take (l : List Nat) (n : Nat) : (l.take n).sum ≤ l.sum := by
  have h := congrArg List.sum (List.take_append_drop n l)
  rw [List.sum_append] at h
  omega
section
variable {σ : L2.St} {H : Hp} {K : PySem.W.Frag} {ta : TA} {R : It → Hp → Prop}
def kIEn (K : PySem.W.Frag) (R : It → Hp → Prop) : List V → Hp → Prop := fun vs H1 => ∃ a xs, vs = [.ref a] ∧ SqL K H1 a xs ∧ R (Ite K a) H1
theorem z_iEnum (h : ta σ H (kIEn K R)) : iEnum K ta σ H R := h
theorem z_kIEn {a : Addr} {xs : List V} (h : SqL K H a xs) (q : R (Ite K a) H) : kIEn K R [.ref a] H := ⟨a, xs, rfl, h, q⟩
end
theorem same_none {H H1 : Hp} {d : Addr} (s : Same H H1) (h : H1 d = none) : H d = none := by
  cases e : H d with
  | none => rfl
  | some o =>
    rw [s _ _ e] at h
    cases h
theorem but_none {H H1 : Hp} {d p : Addr} (b : But d H H1) (hne : p ≠ d) (h : H1 p = none) : H p = none := by
  cases e : H p with
  | none => rfl
  | some o =>
    rw [b _ _ hne e] at h
    cases h
/-- a if c else b, as a test -/
def tIfT (tc ta tb : TT) : TT := fun σ H QT => tc σ H fun c H1 => if c = true then ta σ H1 QT else tb σ H1 QT
theorem pt_ifExp {X : Cx} {c a b : Expr} {pos : Pos} {tc ta tb : TT} (hc : PT X c tc) (ha : PT X a ta) (hb : PT X b tb) : PT X (.IfExp c a b pos) (tIfT tc ta tb) := by
  refine ⟨fun pins s σ H Q I h => ?_⟩
  show wpAny _ _ (do if ← isTrue c X.env (eval c X.env) then isTrue a X.env (eval a X.env) else isTrue b X.env (eval b X.env)) _ _ _
  refine wpAny_bind (thn (hc.run pins s σ H _ I h) fun d s1 ⟨H1, I1, q1⟩ => ?_)
  cases d with
  | true => exact ha.run pins s1 σ H1 Q I1 q1
  | false => exact hb.run pins s1 σ H1 Q I1 q1
theorem z_ifT {tc ta tb : TT} {σ : L2.St} {H : Hp} {QT : Bool → Hp → Prop} (h : tc σ H fun c H1 => if c = true then ta σ H1 QT else tb σ H1 QT) : tIfT tc ta tb σ H QT := h
section
variable {σ : L2.St} {H : Hp} {Q : VK} {t : TA} {te : TE} {D : Ends} {v : V}
theorem z_callP {i : Nat} {f : Addr} {sp : Sp} {E : L2.St → XK} (h : σ[i]? = some (some (.ref f))) (q : t σ H fun vs H1 => sp vs H1 Q (E σ)) : tCallP i f sp E t σ H Q := ⟨h, q⟩
def kOfE (a C : Addr) (f : Str) (cls : Value) (d : Option Addr) (Q : VK) : VK := fun x H1 => x = .ref a ∧ cls = .ref C ∧ ∃ (dd : Addr) (kvs : List (Str × V)) (v : V), d = some dd ∧ H1 dd = some (.xd kvs) ∧ kvs.lookup f = some v ∧ Q v H1
theorem z_ofE {a C : Addr} {f : Str} {cls : Value} {d : Option Addr} (h : te σ H (kOfE a C f cls d Q)) : tOfE a C f cls d te σ H Q := h
theorem z_kOfE {a C dd : Addr} {f : Str} {kvs : List (Str × V)} (h : H dd = some (.xd kvs)) (l : kvs.lookup f = some v) (q : Q v H) : kOfE a C f (.ref C) (some dd) Q (.ref a) H := ⟨rfl, rfl, dd, kvs, v, rfl, h, l, q⟩
theorem z_rtE {i : Nat} (h : D.rt v H) : (endsAt i D).rt v H := h
/-- a clause that takes -/
theorem z_takes {K : PySem.W.Frag} {Wo : WX} {c : Cl3} {l : List Cl3} {cls : Value} {d : Option Addr} (e : PySem.W.exmOne K cls c.1 = some true) (h : ∀ a, H a = none → c.2.2 a cls d (endsAt c.2.1 D) (σ.set c.2.1 (some (.ref a))) H) : wClauses K Wo D (c :: l) cls d σ H := ⟨true, e, fun _ => h, (fun q => by cases q)⟩
theorem z_passes {K : PySem.W.Frag} {Wo : WX} {c : Cl3} {l : List Cl3} {cls : Value} {d : Option Addr} (e : PySem.W.exmOne K cls c.1 = some false) (h : wClauses K Wo D l cls d σ H) : wClauses K Wo D (c :: l) cls d σ H := ⟨false, e, (fun q => by cases q), fun _ => h⟩
end
end Nm

/-! The own layer: what the written part says of an exception class, put together. -/
namespace NmE
open PySem PySem.W PySem.Calls PyProof.Rows PySem.HandSPX
open L2 (defArgs defBody defScope)
theorem fn_split {K : Frag} {f : Addr} {oc : Value} {od : Option Addr} {osl : Array (Option Value)} {n qual : Str} {p p' : Arguments} {b b' : List Stmt} {s s' : Scope} {cl : List (Str × Addr)} {dV kV doc pm : Value} {an : Option Addr} {cdv ct : Value} {cda cc : Addr}
    (h : K.lookup f = some ⟨oc, od, .func (fnX n qual p b s cl dV kV doc pm an cdv ct), osl⟩) (e1 : n = "__init__") (e2 : p = p') (e3 : b = b') (e4 : s = s') (e5 : cl = [(("__class__" : Str), cc)]) (e6 : dV = .none) (e7 : cdv = .ref cda) :
    K.lookup f = some ⟨oc, od, .func (ksFn "__init__" qual p' b' s' .none kV doc pm an (.ref cda) ct cc), osl⟩ := by
  subst e1 e2 e3 e4 e5 e6 e7
  exact h
theorem err_mk {P : Program} {K : Frag} {mg : Str → Option Value} {h : Heap} {x : Str} {C : Addr} {fs : List Str} {st : Stmt}
    {nm q : Str} {N : Addr} {bs bm : List Value} {sn : List Str} {sub : List Value} {ab : Bool} {col : Option Bool} {dd : Option Addr} {k0 k1 k2 k3 k5 : Option Value}
    {fI cc cda : Addr} {qual : Str} {oc kV doc pm ct cl ccl : Value} {od an cld cdd : Option Addr} {osl csl ccs : Array (Option Value)} {vs : Array Value} {file : Str} {tf : Tok}
    (X : K.In h) (G : h.Ns mainGlobals mg) (n : nsIn K mainGlobals x = some (some (.ref C)))
    (c : K.lookup C = some (excClassObj nm q C N bs bm true sn sub ab col dd k0 k1 k2 k3 k5 "ValueError.__new__")) (hbm : refsVE bm = true)
    (sa : findIn K (.ref C) "__setattr__" = some (some (.builtin "object.__setattr__"))) (ga : findIn K (.ref C) "__getattribute__" = some (some (.builtin "BaseException.__getattribute__"))) (gg : findIn K (.ref C) "__getattr__" = some none)
    (noN : ∀ f ∈ fs, findIn K (.ref C) f = some none) (kC : keepIn K (.ref C) = true) (exC : subIn K (.ref C) (.type "BaseException") = some true) (veC : subIn K (.ref C) (.type "ValueError") = some true)
    (tyC : typeIn K (.ref C) = some (.type "type")) (hdC : hasDictIn K C = true) (opq : nsIn K cStatics "thirdparty.any" = some none) (own : mroIn K C (.ref C) = some true)
    (nsp : nsIn K mainGlobals "super" = some none) (iC : findIn K (.ref C) "__init__" = some (some (.ref fI))) (tI : typeIn K (.ref fI) = some (.type "function"))
    (lI : K.lookup fI = some ⟨oc, od, .func (ksFn "__init__" qual (defArgs st) (defBody st) (defScope st) .none kV doc pm an (.ref cda) ct cc), osl⟩) (hcr : codeIn K (.ref cda) qual = true)
    (hcc : K.lookup cc = some ⟨cl, cld, .cell (some (.ref C)), csl⟩) (hcd : K.lookup cda = some ⟨ccl, cdd, .fields vs, ccs⟩) (hvs : vs[2]? = some (.str file tf)) (hfile : ((P.main.file : Str) == file) = true)
    (sup : ks_superIn K C C "__init__" = some (some (.builtin "ValueError.__init__"))) (top : (P.main.scope.names.lookup ("super" : Str)).isSome = false) (ini : Ini st fs)
    (hbind : ∀ (cc : Addr) (kV doc pm : Value) (an : Option Addr) (cda : Addr) (ct : Value) (us : List Value), us.length = (("self" : Str) :: fs).length → bindArgs (ksFn "__init__" qual (defArgs st) (defBody st) (defScope st) .none kV doc pm an (.ref cda) ct cc) ⟨us, []⟩ = pure ((("self" : Str) :: fs).zip us)) :
    Err P K mg x C fs :=
  ⟨mg_of X G n, ⟨nm, q, N, bs, bm, sn, sub, ab, col, dd, k0, k1, k2, k3, k5, c, hbm⟩, sa, ga, gg, noN, kC, exC, veC, tyC, hdC, opq, sup, own, top, mg_none_of X G nsp,
    ⟨fI, cc, cda, st, qual, oc, .none, kV, doc, pm, ct, cl, ccl, od, an, cld, cdd, osl, csl, ccs, vs, file, tf, iC, tI, lI, hcr, ini, hcc, hcd, hvs, hfile, hbind cc kV doc pm an cda ct⟩⟩
/-- two classes, none of which is the other's -/
structure Two (P : Program) (K : Frag) (mg : Str → Option Value) (x1 : Str) (C1 : Addr) (fs1 : List Str) (x2 : Str) (C2 : Addr) (fs2 : List Str) : Prop where
  e1 : Err P K mg x1 C1 fs1
  e2 : Err P K mg x2 C2 fs2
  s11 : subIn K (.ref C1) (.ref C1) = some true
  s12 : subIn K (.ref C1) (.ref C2) = some false
  s21 : subIn K (.ref C2) (.ref C1) = some false
  s22 : subIn K (.ref C2) (.ref C2) = some true
end NmE
namespace Nm
open PySem L2
def inClass (s : Stmt) (j : Nat) : Stmt := match s with
  | .ClassDef _ _ _ b _ _ _ _ _ _ _ => b.getD j (.Pass ⟨0, 0, 0, 0⟩)
  | _ => .Pass ⟨0, 0, 0, 0⟩
end Nm

/-! The own layer: a def's promise at the law's own caller alone (its guards are known there): for repr. -/
namespace Nm
open PySem PySem.Spec PyProof.Rows L2
/-- as FnOk, but at callers whose guards are none -/
structure FnG (P : Program) (w : World) (K : PySem.W.Frag) (mg : Str → Option Value) (base : Heap) (CX : CXT) (k : Nat) (f : Addr) (fd : FuncData) (ps : List Str) (sp : Sp) : Prop where
  len : ∀ vs H Q E, sp vs H Q E → vs.length = ps.length
  run : ∀ (A : Around) (outer : List Env) (s : Shared) (H : Hp) (args : Args) (us : List Value) (vs : List V) (Q : VK) (E : XK), Room k A → A.guards = some [] → Env0 P w K mg base A outer s H → BindsTo s fd args (ps.zip us) → Vals vs us → sp vs H Q E →
    codeAny (model P w) A (.call (.ref f) args) (CR CX outer P w H s Q E) s
theorem fnG_of {x qual : Str} {st : Stmt} {f : Addr} {fd : FuncData} {N ps : List Str} {k : Nat} {sp : Sp} {P : Program} {w : World} {K : PySem.W.Frag} {mg : Str → Option Value} {base : Heap} (F : Fun K x qual st f fd) (S : FnScope N ps (defScope st)) (len : ∀ vs H Q E, sp vs H Q E → vs.length = ps.length)
    (hbody : ∀ (cdv : Value) (A : Around) (outer : List Env) (s : Shared) (H : Hp) (vs : List V) (Q : VK) (E : XK), Room k (A.deeper (envOfC qual (defScope st) s.heap.objs.size f cdv)) → (A.deeper (envOfC qual (defScope st) s.heap.objs.size f cdv)).guards = some [] → sp vs H Q E →
      ∃ t, PSs (cxOf CX0 P w K mg base N qual (defScope st) f cdv A outer s H E).nox (defBody st) t ∧ t { nx := fun _ H' => Q .non H', rt := Q } (start N vs) H) : FnG P w K mg base CX0 (k + 1) f fd ps sp := by
  obtain ⟨oc, od, kV, doc, pm, an, cdv, ct, osl, rfl, lk, hcd⟩ := F.ex
  refine ⟨len, fun A outer s H args us vs Q E hr hgd e0 hb rv hsp => ?_⟩
  have hl := len _ _ _ _ hsp
  have KX : K.In s.heap := e0.mod.kin.keeps fun b o e => (e0.bs b o e).1
  have lim : s.heap.NoLimit := e0.mod.nolimit.keeps fun b o e => (e0.bs b o e).1
  have kinds : ∀ y ∈ ps.zip us, (defScope st).names.lookup y.1 = some .local ∨ ((defScope st).names.lookup y.1 = some .cell ∧ ((cellsFrom (s.heap.objs.size + 1) (defScope st).names []).lookup y.1).isSome = true) := fun ⟨n, v⟩ hy =>
    (S.par n (List.of_mem_zip hy).1).imp id fun q => ⟨q, PySem.W.cellsFrom_some _ _ _ (.inl q)⟩
  refine codeAny_call_function hr.depth (KX _ _ lk) rfl S.co S.gen rfl (PySem.W.codeRec_of KX hcd) (hb _ _ _ _ (wpAny_newFunctionEnv_cells S.kind kinds fun env he s1 x => ?_))
  subst he
  refine ⟨lim.keeps x.toInCall.keep, codeAny_func ?_⟩
  obtain ⟨t, ht0, hq⟩ := hbody cdv A outer s H vs Q E (hr.deeper _) hgd hsp
  have ht := ht0.nox
  have I : Inv (cxOf CX0 P w K mg base N qual (defScope st) f cdv A outer s H E) [] (start N vs) H s1 := inv_start S hr.hd e0 hl rv x
  refine wpAny_mono (ht.run [] s1 (start N vs) H _ I hq) (fun fl s' hs => ?_) fun e s' hs => hs
  have fin : ∀ {σ' : L2.St} {H' : Hp} {v : V} {u : Value}, Inv (cxOf CX0 P w K mg base N qual (defScope st) f cdv A outer s H E) [] σ' H' s' → RelV v u → Q v H' → CE outer P w H s Q u s' :=
    fun {σ' H' v u} J r q => ⟨v, H', J.os, J.bare, J.base, J.hok, r, q⟩
  cases fl with
  | brk => exact hs.elim fun _ h => h.elim fun _ h => False.elim h.2
  | cont => exact hs.elim fun _ h => h.elim fun _ h => False.elim h.2
  | next =>
    obtain ⟨σ', H', J, q⟩ := hs
    exact fin (v := V.non) (u := Value.none) J rfl q
  | ret u =>
    obtain ⟨v, σ', H', J, r, q⟩ := hs
    exact fin J r q
/-- the law called by its caller: the script alone may be tracked -/
theorem law_callG {P : Program} {w : World} {K : PySem.W.Frag} {mg mb : Str → Option Value} {k : Nat} {fa a : Addr} {fd : FuncData} {x : Str} {sp : Sp} {s₁ : Shared} {vs : List Value} {ns : List Int}
    (KX : K.In s₁.heap) (hns : s₁.heap.Ns mainGlobals mg) (hb : s₁.heap.Ns builtinsNs mb) (hbb : ∀ x : Str, x ≠ "__name__" → mb x = bootBuiltins x) (hlim : s₁.heap.NoLimit) (hg : s₁.gens = #[])
    (ha : s₁.heap.get? a = some { cls := .type "list", data := .seq vs.toArray }) (hi : IntsAre vs ns) (hl : ns.length ≤ sizeLine) (hr : Room k callerA)
    (F : ∀ base : Heap, K.In base → base.Ns mainGlobals mg → FnG P w K mg base CX0 k fa fd [x] sp) (hbind : ∀ (s : Shared) (u : Value), BindsTo s fd ⟨[u], []⟩ [(x, u)])
    (hsp : ∀ H : Hp, Only H → SqL K H a (ns.map V.int) → sp [.ref a] H (fun v _ => v = .bl true) fun _ _ _ => False) :
    codeAny (model P w) callerA (.call (.ref fa) ⟨[.ref a], []⟩) (fun r s' => r = .ok (.ret (.bool true)) ∧ OldK s₁.heap s'.heap ∧ s'.os = s₁.os ∧ AllBare s'.gens) s₁ := by
  have lenV := hi.length
  have main : ∀ H : Hp, Only H → SqL K H a (ns.map V.int) → HOk P w H s₁.heap → (∀ b, H b ≠ none → b = a) → (H a ≠ none → K.lookup a = none) →
      codeAny (model P w) callerA (.call (.ref fa) ⟨[.ref a], []⟩) (fun r s' => r = .ok (.ret (.bool true)) ∧ OldK s₁.heap s'.heap ∧ s'.os = s₁.os ∧ AllBare s'.gens) s₁ := by
    intro H only hS hok alone notK
    have free : ∀ {b : Addr}, b ≠ a → H b = none := fun {b} ne => by
      cases q : H b with
      | none => rfl
      | some u => exact absurd (alone b (by rw [q]; simp)) ne
    have seen : ∀ {b : Addr} {o : Obj}, s₁.heap.get? b = some o → H b = none → (hidT s₁.heap H).get? b = some o := fun e n => hidT_get e n
    have notDict : ∀ {b : Addr} {o : Obj} {es : Array DictEntry} {ep : Nat}, s₁.heap.get? b = some o → o.data = .dict es ep → b ≠ a := fun {b o es ep} e d z => by
      rw [z, ha] at e
      cases e
      have d' : Data.seq vs.toArray _ = Data.dict es ep := d
      cases d'
    have keepNs : ∀ {b : Addr} {m : Str → Option Value}, s₁.heap.Ns b m → (hidT s₁.heap H).Ns b m := fun ⟨o, es, ep, e, d, r⟩ => ⟨o, es, ep, seen e (free (notDict e d)), d, r⟩
    have inB : K.In (hidT s₁.heap H) := fun b o e => seen (KX b o e) (by
      cases q : H b with
      | none => rfl
      | some u =>
        have z := alone b (by rw [q]; simp)
        subst z
        rw [notK (by rw [q]; simp)] at e
        cases e)
    have hM : Mod K mg (hidT s₁.heap H) := ⟨inB, keepNs hns, ⟨mb, keepNs hb, hbb⟩, let ⟨mc, h1, h2⟩ := hlim; ⟨mc, keepNs h1, h2⟩⟩
    have e0 : Env0 P w K mg (hidT s₁.heap H) callerA [] s₁ H := ⟨rfl, hM, fun b o e => of_hidT e, Nat.le_of_eq (hidT_size _ _), trivial, fun b hb => absurd (show b ∈ ([] : List Addr) from hb) (by simp), hok, .of_eq hg⟩
    refine codeAny_mono ((F _ inB (keepNs hns)).run callerA [] s₁ H ⟨[.ref a], []⟩ [.ref a] [.ref a] _ _ hr rfl e0 (hbind s₁ (.ref a)) (.cons rfl .nil) (hsp H only hS)) fun r s' h => ?_
    cases r with
    | error e => exact h.elim
    | ok fl =>
      cases fl with
      | ret u =>
        obtain ⟨v, H', os, bare, un, hok', r', q⟩ := h
        obtain rfl : v = .bl true := q
        obtain rfl : u = Value.bool true := r'
        refine ⟨rfl, OldK.of_keep fun b o e => ?_, os, bare⟩
        rcases only b with n | ⟨ob, xs, z⟩
        · exact un.keep b o e n (by intro z; exact absurd (show b ∈ ([] : List Addr) from z) (by simp)) (by simp)
        · obtain ⟨e1, _⟩ := hok b _ z
          obtain ⟨e2, _⟩ := hok' b _ (un.frzs b ob _ z)
          rw [e] at e1
          cases e1
          exact e2
      | _ => exact False.elim h
  cases hk : K.lookup a with
  | some o =>
    have e := KX a o hk
    rw [ha] at e
    cases e
    exact main (fun _ => none) (fun _ => .inl rfl) (.inr ⟨_, vs.toArray, _, hk, rfl, rfl, rfl, by rw [List.size_toArray, lenV]; exact hl, by simpa using vals_ints hi⟩) (fun b u z => by cases (show (none : Option HO) = some u from z)) (fun b z => absurd rfl z) fun z => absurd rfl z
  | none =>
    refine main (fun b => if b = a then some (.frz { cls := .type "list", data := .seq vs.toArray } (.lst (ns.map V.int))) else none) (fun b => ?_) (.inl (.inr ⟨{ cls := .type "list", data := .seq vs.toArray }, if_pos rfl⟩)) (fun b u z => ?_) (fun b z => Classical.byContradiction fun q => z (if_neg q)) fun _ => hk
    · by_cases q : b = a
      · exact .inr ⟨_, _, if_pos q⟩
      · exact .inl (if_neg q)
    · by_cases q : b = a
      · have z' := (if_pos q).symm.trans z
        cases z'
        subst q
        exact ⟨ha, by rw [List.length_map]; exact hl, vs, _, vals_ints hi, ha⟩
      · cases (if_neg q).symm.trans z
theorem walk_ofG {l : PySem.W.OpenLaw} {n k : Nat} {q : Program} {loose : List Str} {XP : (Str → Option Value) → Heap → Prop} {YP : World → Heap → Prop} {d : DefRec} {K : Params → PySem.W.Frag} {sp : PySem.W.Frag → Sp} {x : Str}
    (hn : l.most = some n) (hn2 : n ≤ sizeLine) (hdf : d.params.defaults = []) (hr : Room k callerA)
    (hY : ∀ (w : World) (h : Heap), YP w h → (K w.params).In h)
    (F : ∀ (w : World) (mg : Str → Option Value) (fa : Addr) (h : Heap), XP mg h → (K w.params).In h → h.Ns mainGlobals mg → mg d.name = some (.ref fa) →
      ∃ fd : FuncData, (∀ (s : Shared) (u : Value), BindsTo s fd ⟨[u], []⟩ [(x, u)]) ∧
        ∀ base : Heap, (K w.params).In base → base.Ns mainGlobals mg → FnG l.prog w (K w.params) mg base CX0 k fa fd [x] (sp (K w.params)))
    (hsp : ∀ (K : PySem.W.Frag) (H : Hp) (a : Addr) (ns : List Int), ns.length ≤ n → SqL K H a (ns.map V.int) → sp K [.ref a] H (fun v _ => v = .bl true) fun _ _ _ => False) :
    PySem.W.WalkO q loose XP YP l.row.toRowW d [] (fun f vs => PySem.call f vs) := by
  refine Att.attach_call hn hdf fun w s₀ s₁ mg mb fa o pm cd doc a vs ns G Y ho hd hcd hmg hobj hints hlen hg => ?_
  have KX := hY w _ Y
  obtain ⟨fd, hb, hF⟩ := F w mg fa _ G.X KX G.T.g hmg
  exact law_callG KX G.T.g G.T.b G.T.builtins G.T.nolimit hg hobj hints (Nat.le_trans hlen hn2) hr hF hb (fun H hO hS => hsp (K w.params) H a ns hlen hS)
end Nm

/-! The own layer: exceptions as values (their fields read, isinstance), repr of data. -/
namespace L2
open PySem PySem.Spec PyProof.Rows
/-- an exception of the class at C stands at a, its fields -/
def ExAt (H : Hp) (a C : Addr) (kvs : List (Str × V)) : Prop := (kvs = [] ∧ H a = some (exo a C none)) ∨ ∃ d, H a = some (exo a C (some d)) ∧ H d = some (exd d kvs)
theorem ExAt.same {H H' : Hp} {a C : Addr} {kvs : List (Str × V)} (s : Same H H') (h : ExAt H a C kvs) : ExAt H' a C kvs := by
  rcases h with ⟨e, h⟩ | ⟨d, h1, h2⟩
  · exact .inl ⟨e, s _ _ h⟩
  · exact .inr ⟨d, s _ _ h1, s _ _ h2⟩
/-- the first n objects of a heap -/
def cutH (h : Heap) (n : Nat) : Heap := ⟨h.objs.extract 0 n, h.life⟩
theorem cutH_get {h : Heap} {n b : Nat} (hb : b < n) : (cutH h n).get? b = h.get? b := by
  have e : (h.objs.extract 0 n)[b]? = h.objs[b]? := by
    rw [Array.getElem?_extract]
    by_cases q : b < h.objs.size
    · rw [if_pos (by omega), Nat.zero_add]
    · rw [if_neg (by omega), Array.getElem?_eq_none (by omega)]
  unfold cutH Heap.get?
  rw [e]
theorem cutH_size {h : Heap} {n : Nat} : (cutH h n).objs.size ≤ n := by
  show (h.objs.extract 0 n).size ≤ n
  rw [Array.size_extract]
  omega
theorem cutH_of {h : Heap} {n b : Nat} {o : Obj} (e : (cutH h n).get? b = some o) : h.get? b = some o := by
  have l := Heap.lt_size e
  rw [← cutH_get (Nat.lt_of_lt_of_le l cutH_size)]
  exact e
section
variable {X : Cx} {pins : List (Addr × Obj)} {σ : St} {H : Hp} {s : Shared} {a C dx t1 : Addr} {fs : List (Str × V)} {h' : Heap} {mA : Str → Option Value} {tk' : Nat}
/-- the fields were stored: the exception has its dict now -/
theorem ex_fill (I : Inv X pins σ H s) (e : H a = some (exo a C none)) (k : ∀ b o, b ≠ a → s.heap.get? b = some o → h'.get? b = some o) (dn : s.heap.objs.size ≤ dx)
    (hx : h'.get? a = some (NmE.excD C t1 (some dx))) (hn : h'.Ns1 dx mA) (rel : ∀ f, RelO (fs.lookup f) (mA f)) :
    Inv X pins σ (upd (upd H a (exo a C (some dx))) dx (exd dx fs)) { s with heap := h', toks := tk' } := by
  have al : a < s.heap.objs.size := by
    obtain ⟨t, ho⟩ := exo_at I.hok e
    exact Heap.lt_size ho
  have hx' : (cutH h' s.heap.objs.size).get? a = some (NmE.excD C t1 (some dx)) := (cutH_get al).trans hx
  have I1 := I.write (t' := tk') (h' := cutH h' s.heap.objs.size) (x := a) (e := a) (o := exo a C (some dx)) (by rw [e]; exact True.intro) (.inl rfl) (fun b u nb hb => (cutH_get (Heap.lt_size hb)).trans (k b u nb hb)) ⟨_, hx'⟩ (exo_ok hx')
  exact I1.laid (t' := tk') (h' := h') (a := dx) (o := exd dx fs) (fun b u hb => cutH_of hb) (Nat.le_trans cutH_size dn) (exd_ok hn rel)
end
section
variable {X : Cx} {C : Addr} {xn : Str} {fs : List Str}
/-- what a made exception leaves -/
def kMkErr (C : Addr) (fs : List Str) (Q : VK) : List V → Hp → Prop := fun vs H1 => vs.length = fs.length ∧ ∀ a H2, H1 a = none → Same H1 H2 → ExAt H2 a C (NmE.puts fs vs []) → Q (.ref a) H2
/-- the class called, made with a value for each field; the exception is a value -/
def tMkErr (C : Addr) (fs : List Str) (ta : TA) : TE := fun σ H Q => ta σ H (kMkErr C fs Q)
theorem err_made {pins : List (Addr × Obj)} {σ : St} {H1 : Hp} {s1 : Shared} {vs : List V} {us : List Value} {Q : VK} {k : Nat} (T : NmE.Err X.prog X.K X.mg xn C fs) (hr : Room k X.A) (I1 : Inv X pins σ H1 s1) (r1 : Vals vs us) (hq : kMkErr C fs Q vs H1) :
    wpAny (model X.prog X.w) X.A (call (.ref C) us) (EP X pins σ Q) X.xe s1 := by
  obtain ⟨hl, q1⟩ := hq
  obtain ⟨nm, q, N, bs, bm, sn, sub, ab, col, dd, k0, k1, k2, k3, k5, hC, hbm⟩ := T.cls
  obtain ⟨fI, cc, cda, st, qual, oc, dV, kV, doc, pm, ct, cl, ccl, od, an, cld, cdd, osl, csl, ccs, dat, file, tf, iC, tI, lI, hcr, ini, hcc, hcd, hvs, hfile, hbind⟩ := T.init
  obtain ⟨mb, hb, hbs⟩ := I1.ok.mod.blt
  have hlim := I1.nolimit
  have hgl := I1.ok.mod.glob
  have bk := I1.bk
  have KI := I1.kIn
  have hus : us.length = fs.length := r1.length.symm.trans hl
  have hzz : us.length ≤ sizeLine := by
    have := ini.few
    rw [sizeLine_eq]
    omega
  obtain ⟨hp, g, dr, tk, os⟩ := s1
  have hsz : hp.objs.size ≤ hp.objs.size + 1 := Nat.le_succ _
  have hn : H1 (hp.objs.size + 1) = none := I1.hok.fresh hsz
  have kk : ∀ b o, hp.get? b = some o → ((hp.push (PySem.W.kdv_tup us)).push (PySem.HandSPX.excO C hp.objs.size)).get? b = some o := fun b o e => Heap.get?_push_of_some _ (Heap.get?_push_of_some _ e)
  have hget : ((hp.push (PySem.W.kdv_tup us)).push (PySem.HandSPX.excO C hp.objs.size)).get? (hp.objs.size + 1) = some (PySem.HandSPX.excO C hp.objs.size) := by heap_get
  have I2 : Inv X pins σ (upd H1 (hp.objs.size + 1) (exo (hp.objs.size + 1) C none)) ⟨(hp.push (PySem.W.kdv_tup us)).push (PySem.HandSPX.excO C hp.objs.size), g, dr, tk, os⟩ :=
    I1.laid (t' := tk) (a := hp.objs.size + 1) (o := exo (hp.objs.size + 1) C none) (h' := (hp.push (PySem.W.kdv_tup us)).push (PySem.HandSPX.excO C hp.objs.size)) kk hsz (exo_ok hget)
  refine wpAny_call (PySem.HandSPX.call_own PySem.F.excBase_ValueError (fun Y => PySem.HandSPX.refsVE_contains Y bm hbm) (KI _ _ hC) (PySem.W.looks_findIn KI iC) (fun self => PySem.W.bind_fn KI self tI) hzz ?_)
  refine NmE.err_init (s := ⟨(hp.push (PySem.W.kdv_tup us)).push (PySem.HandSPX.excO C hp.objs.size), g, dr, tk, os⟩) T lI hcr ini hcc hcd hvs hfile hbind (KI.keeps kk) (hlim.keeps kk) (NmE.ns_keep hgl fun o e => kk _ _ (bk _ _ e)) (NmE.ns_keep hb fun o e => kk _ _ (bk _ _ e)) ?_ r1 hus hget (NmE.not_in KI (Nat.le_succ _)) ?_ fun h' tk' D => ?_
  · exact (hbs _ (by decide)).trans (by first | rfl | kernel_rfl)
  · show X.A.depth + 1 < recursionLimit
    have := hr.dp
    omega
  · refine ⟨rfl, ?_⟩
    show EP X pins σ Q (.ref (hp.objs.size + 1)) ⟨h', g, dr, tk', os⟩
    rcases D.obj with ⟨z, t1, hx⟩ | ⟨t1, d, mB, hx, hd, hde, hns, rel⟩
    · subst z
      have ev : vs = [] := List.eq_nil_of_length_eq_zero hl
      subst ev
      have J := I2.write (t' := tk') (h' := h') (x := hp.objs.size + 1) (e := hp.objs.size + 1) (o := exo (hp.objs.size + 1) C none) (by rw [upd_same]; exact True.intro) (.inl rfl) D.keep ⟨_, hx⟩ (exo_ok hx)
      refine ⟨.ref (hp.objs.size + 1), _, J, rfl, q1 _ _ hn (fun b u e => ?_) (.inl ⟨rfl, upd_same⟩)⟩
      have ne := ne_of_none e hn
      rw [upd_ne ne, upd_ne ne]
      exact e
    · have J := ex_fill (tk' := tk') (fs := NmE.puts fs vs []) I2 upd_same D.keep hd hx hns rel
      have hd' : hp.objs.size ≤ d := by
        have e : ((hp.push (PySem.W.kdv_tup us)).push (PySem.HandSPX.excO C hp.objs.size)).objs.size = hp.objs.size + 1 + 1 := by simp only [Heap.size_push]
        have hd2 : ((hp.push (PySem.W.kdv_tup us)).push (PySem.HandSPX.excO C hp.objs.size)).objs.size ≤ d := hd
        omega
      have hdn : H1 d = none := I1.hok.fresh hd'
      refine ⟨.ref (hp.objs.size + 1), _, J, rfl, q1 _ _ hn (fun b u e => ?_) (.inr ⟨d, ?_, upd_same⟩)⟩
      · have ne := ne_of_none e hn
        rw [upd_ne (ne_of_none e hdn), upd_ne ne, upd_ne ne]
        exact e
      · rw [upd_ne (Ne.symm hde), upd_same]
theorem pe_mkErr {e : Expr} {es : List Expr} {ta : TA} {p pos : Pos} {k : Nat} (T : NmE.Err X.prog X.K X.mg xn C fs) (hr : Room k X.A) (ha : PA X (e :: es) ta) (hg : Gl X xn := by rfl) (hdb : (xn == ("__debug__" : Str)) = false := by decide)
    (he : starEach (e :: es) X.env = (false, eval e X.env) :: starEach es X.env := by rfl) (hpl : (backTo pos (starEach es X.env)).any (·.1) = false := by rfl) :
    PE X (.Call (.Name xn p) (e :: es) [] pos) (tMkErr C fs ta) := by
  refine ⟨fun pins s σ H Q I h => ?_⟩
  refine wpAny_Call_Name_kw (ld_glob I hg T.gC ?_ hdb)
  exact PySem.W.callWith_K (h₀ := X.base) I.ok.mod.kin T.kC (thn (ha.run pos pins s σ H _ I h) fun us s1 ⟨vs, H1, I1, r1, hq⟩ => ⟨I1.kIn, err_made T hr I1 r1 hq⟩) he hpl
theorem pe_mkErr0 {p pos : Pos} {k : Nat} (T : NmE.Err X.prog X.K X.mg xn C fs) (hr : Room k X.A) (hg : Gl X xn := by rfl) (hdb : (xn == ("__debug__" : Str)) = false := by decide) :
    PE X (.Call (.Name xn p) [] [] pos) (tMkErr C fs tNil) := by
  refine ⟨fun pins s σ H Q I h => ?_⟩
  refine wpAny_Call_Name_kw (ld_glob I hg T.gC ?_ hdb)
  exact PySem.W.callWith_K0 I.kIn T.kC (err_made T hr I .nil h)
/-- e.f, e an exception -/
def kExF (C : Addr) (f : Str) (Q : VK) : VK := fun x H1 => ∃ a kvs v, x = .ref a ∧ ExAt H1 a C kvs ∧ kvs.lookup f = some v ∧ Q v H1
def tExF (C : Addr) (f : Str) (te : TE) : TE := fun σ H Q => te σ H (kExF C f Q)
theorem pe_exF {e : Expr} {te : TE} {pos : Pos} {f : Str} (T : NmE.Err X.prog X.K X.mg xn C fs) (hf : f ∈ fs) (he : PE X e te) (hb : attributeBase e f X.env (eval e X.env) = eval e X.env := by rfl) : PE X (.Attribute e f pos) (tExF C f te) := by
  refine ⟨fun pins s σ H Q I h => ?_⟩
  refine attr_of hb (thn (he.run pins s σ H _ I h) fun u s1 ⟨x, H1, I1, rx, a, kvs, v, ex, ea, lv, q⟩ => ?_)
  subst ex
  obtain rfl : u = Value.ref a := rx
  rcases ea with ⟨e0, _⟩ | ⟨d, e1, e2⟩
  · subst e0
    cases lv
  obtain ⟨t1, ho⟩ := exo_at I1.hok e1
  obtain ⟨mA, hns, hr⟩ := exd_at I1.hok e2
  obtain ⟨od, hod, hl⟩ := lookIn_ns hns
  have rf := hr f
  rw [lv] at rf
  obtain ⟨u, hu, ru⟩ := RelO.some_of (v := v) (o := mA f) rf
  have J : PySem.W.InstAt s1.heap a _ C (some od) := ⟨ho, rfl, rfl, hod⟩
  exact HandSPX.exc_get I1.kIn J T.ga T.gg T.exC (PySem.W.findObj_own T.hdC (T.noN f hf) rfl (by rw [hl, hu])) (handed_of ru) ⟨v, H1, I1.tok _, ru, q⟩
/-- what a class must say, so that isinstance asks its instances rightly -/
structure ExI (K : PySem.W.Frag) (C : Addr) : Prop where
  cl : (PySem.W.clsIn K C).isSome = true
  ga : PySem.W.findIn K (.ref C) "__getattribute__" = some (some (.builtin "BaseException.__getattribute__"))
  gg : PySem.W.findIn K (.ref C) "__getattr__" = some none
  sub : PySem.W.subIn K (.ref C) (.type "BaseException") = some true
  ha : PySem.W.findIn K (.ref C) "__class__" = some (some (.builtin "object.__class__"))
  hn : PySem.W.specialIn K (.builtin "object.__class__") "__get__" = some (some (.builtin "getset_descriptor.__get__"))
  ht : PySem.W.takesIn K (.builtin "object.__class__") = some true
  hm : PySem.W.mroIn K C (.type "object") = some true
/-- isinstance(e, c), e an exception -/
def rIsX (K : PySem.W.Frag) : List V → Hp → VK → Prop := fun xs H Q => ∃ (a C : Addr) (kvs : List (Str × V)) (c : V) (u : Value) (b : Bool), xs = [.ref a, c] ∧ ClsV c u ∧ ExI K C ∧ ExAt H a C kvs ∧ PySem.W.kitOne K (.ref C) u = some b ∧ Q (.bl b) H
theorem call_isX : CallR X (.builtin "isinstance") (rIsX X.K) := by
  intro pins s σ H xs us Q I r h
  obtain ⟨a, C, kvs, c, u, b, rfl, k, T, ea, e, q⟩ := h
  obtain ⟨u1, u2, rfl, r1, r2⟩ := vals2 r
  have e2 := k.eq r2
  subst e2
  obtain rfl : u1 = Value.ref a := r1
  have J : ∃ ox od, PySem.W.InstAt s.heap a ox C od := by
    rcases ea with ⟨_, e1⟩ | ⟨d, e1, e2⟩
    · obtain ⟨t1, ho⟩ := exo_at I.hok e1
      exact ⟨_, none, ho, rfl, rfl, trivial⟩
    · obtain ⟨t1, ho⟩ := exo_at I.hok e1
      obtain ⟨mA, hns, hr⟩ := exd_at I.hok e2
      obtain ⟨od, hod, hl⟩ := lookIn_ns hns
      exact ⟨_, some od, ho, rfl, rfl, hod⟩
  obtain ⟨ox, od, J⟩ := J
  exact PySem.W.kia_one (PySem.W.kitx_exc T.cl T.ga T.gg T.sub T.ha T.hn T.ht T.hm) I.kIn J e (fun z => nomatch z) fun tk => ⟨.bl b, H, I.tok tk, rfl, q⟩
/-- repr of data -/
def nRepr (K : PySem.W.Frag) : List V → Hp → VK → Prop := fun xs H Q => ∃ (x : V) (d : PyData), xs = [x] ∧ Dp K H x d ∧ d.showable = true ∧ d.hasDict = false ∧ d.shown.length ≤ sizeLine ∧ d.depth ≤ 60 ∧ Q (.str d.shown) H
theorem call_reprD (hg : X.A.guards = some []) (hu : X.A.units + 61 < cLine) : CallR X (.builtin "repr") (nRepr X.K) := by
  intro pins s σ H xs us Q I r h
  obtain ⟨x, d, rfl, hd, hs, hn, hz, hdp, q⟩ := h
  obtain ⟨u, rfl, ru⟩ := vals1 r
  obtain ⟨as, rd⟩ := Dp.reads I d x u hd ru
  cases u with
  | ref a => exact repr_of_reads' rd hs (fun e => by rw [hn] at e; cases e) hg (by omega) (fun _ _ e => e) (fun h' u tk hk => ⟨.str d.shown, H, I.kept (t' := tk) hk, ⟨_, rfl⟩, q⟩) hz
  | none =>
    cases rd
    exact PySem.P.repr_of_none ⟨.str _, H, I.tok _, ⟨_, rfl⟩, q⟩
  | bool b =>
    cases rd
    exact PySem.P.repr_of_bool ⟨.str _, H, I.tok _, ⟨_, rfl⟩, q⟩
  | int i t =>
    cases rd
    exact PySem.P.repr_of_int (by simpa [PyData.showable] using hs) ⟨.str _, H, I.tok _, ⟨_, rfl⟩, q⟩
  | str z t =>
    cases rd
    exact PySem.P.repr_of_str ⟨.str _, H, I.tok _, ⟨_, rfl⟩, q⟩ (by simpa only [PyData.shown] using hz)
  | _ => cases rd
end
section
variable {K : PySem.W.Frag} {σ : L2.St} {H : Hp} {Q : VK} {te : TE} {ta : TA} {C : Addr} {fs : List Str} {f : Str}
theorem at_s {H0 H : Hp} {p : Addr} {o : HO} (h : H0 p = some o) (s : Same H0 H) : H p = some o := s _ _ h
theorem ex_s {H0 H : Hp} {a C : Addr} {kvs : List (Str × V)} (h : ExAt H0 a C kvs) (s : Same H0 H) : ExAt H a C kvs := h.same s
theorem z_mkErr (h : ta σ H (kMkErr C fs Q)) : tMkErr C fs ta σ H Q := h
theorem z_kMkErr {vs : List V} (hl : vs.length = fs.length) (k : ∀ a H2, H a = none → Same H H2 → ExAt H2 a C (NmE.puts fs vs []) → Q (.ref a) H2) : kMkErr C fs Q vs H := ⟨hl, k⟩
theorem z_exF (h : te σ H (kExF C f Q)) : tExF C f te σ H Q := h
theorem z_kExF {a : Addr} {kvs : List (Str × V)} {v : V} (h : ExAt H a C kvs) (hv : kvs.lookup f = some v) (q : Q v H) : kExF C f Q (.ref a) H := ⟨a, kvs, v, rfl, h, hv, q⟩
theorem z_isX {a C : Addr} {kvs : List (Str × V)} {c : V} {u : Value} {b : Bool} (hc : ClsV c u) (T : ExI K C) (h : ExAt H a C kvs) (e : PySem.W.kitOne K (.ref C) u = some b) (q : Q (.bl b) H) : rIsX K [.ref a, c] H Q := ⟨a, C, kvs, c, u, b, rfl, hc, T, h, e, q⟩
theorem z_repr {x : V} {d : PyData} (hd : Dp K H x d) (hs : d.showable = true) (hn : d.hasDict = false) (hz : d.shown.length ≤ sizeLine) (hp : d.depth ≤ 60) (q : Q (.str d.shown) H) : nRepr K [x] H Q := ⟨x, d, rfl, hd, hs, hn, hz, hp, q⟩
end
end L2

/-! The own layer: == and != of instances of an own class with __eq__, also against whole numbers. -/
namespace NmM
open PySem PySem.W PySem.SeqAt PyProof.Rows
open AutoSeq1 (wpAny_loadPart')
section
variable {prog : Program} {w : World} {A : Around} {E : Value → Shared → Prop} {s : Shared} {K : Frag} {x y C f : Addr} {ox : Obj} {od : Option Obj}
/-- a special name that stands as a wrapper of the base -/
theorem special_wrap {M : Model} {id T : String} {name : Str} {args : List Value} {Q : Option Value → Shared → Prop} (X : K.In s.heap) (I : InstAt s.heap x ox C od) (S : Slot T name id) (hs : findIn K (.ref C) name = some (some (.builtin id)))
    (h : wpAny M A (call (.builtin id) (.ref x :: args)) (fun v => Q (some v)) E s) : wpAny M A (callSpecialIfBound? (.ref x) name args) Q E s := by
  simp only [callSpecialIfBound?, bindSpecialIfBound?]
  refine wpAny_holding (wpAny_bind (wpAny_bind (wpAny_bind (I.type.here ((looks_findIn X hs).here ?_)))))
  simp only [S.bind]
  have go : wpAny M A (call (.builtin id) ([.ref x] ++ args) >>= fun v => pure (some v)) Q E s := wpAny_bind (wpAny_mono h (fun _ _ z => wpAny_pure z) fun _ _ z => z)
  refine wpAny_bind (wpAny_askSetting (wpAny_ite ?_))
  split
  · exact wpAny_bind (wpAny_pure (wpAny_pure go))
  · exact wpAny_tryCatch (wpAny_bind (wpAny_pure (wpAny_pure go)))
/-- x != y, x and y of one class, by its __eq__ -/
theorem ne_own {Q : Value → Shared → Prop} (hu : A.units + 1 < cLine) (X : K.In s.heap) (I : InstAt s.heap x ox C od) (hb : Looks (model prog w) s.heap (typeOf (.ref y)) (.ref C)) (hne : findIn K (.ref C) "__ne__" = some (some (.builtin "object.__ne__")))
    (hob : subIn K (.ref C) (.type "object") = some true) (hs : findIn K (.ref C) "__eq__" = some (some (.ref f))) (hf : isFn K (.ref f) = true)
    (h : wpAny (model prog w) A.in1 (call (.ref f) [.ref x, .ref y]) (fun v s' => ∃ b, v = .bool b ∧ Q (.bool (!b)) s') E s) : wpAny (model prog w) A (richCompare .NotEq (.ref x) (.ref y)) Q E s := by
  have one : wpAny (model prog w) A (tryCompare (.ref x) "__ne__" (.ref y)) (fun r s' => ∃ b, r = some (.bool b) ∧ Q (.bool b) s') E s := by
    have sub : Looks (model prog w) s.heap (isInstance (.ref x) (.type "object")) true := I.type.andThen (looks_subIn X hob)
    unfold tryCompare
    refine wpAny_bind (special_wrap X I PySem.F.cmp_object.ne hne (wpAny_call (codeAny_call_builtin PySem.F.cmp_object.ne.plain PySem.F.cmpEntry_ne (@check_slot (model prog w) _ _ s "object.__ne__" "object" "__ne__" (.ref x) [.ref y] [] _ PySem.F.cmpKind_ne PySem.F.cmpSplit_ne sub (PySem.F.cmpArgs_ne _ _) ?_))))
    show wpAny _ _ (Builtin.«object.__ne__» ⟨[.ref x, .ref y], []⟩) _ _ _
    unfold Builtin.«object.__ne__»
    refine wpAny_bind (wpAny_of_eq (a := ((Value.ref x : Value), [Value.ref y])) (by first | rfl | (simp only [slotArgs]; rfl)) ?_)
    refine wpAny_bind (wpAny_cRoomFor (A := A.in1) hu (wpAny_bind (ifBound_K X I hs hf (wpAny_mono h (fun v s' z => ?_) fun _ _ z => z))))
    obtain ⟨b, rfl, q⟩ := z
    refine wpAny_bind (wpAny_truthy_bool ?_)
    first
      | exact wpAny_pure (wpAny_pure ⟨_, rfl, q⟩)
      | exact wpAny_pure ⟨_, rfl, q⟩
      | exact wpAny_pure ⟨rfl, wpAny_pure ⟨_, rfl, q⟩⟩
  unfold richCompare
  simp only [oneThing_ref]
  refine wpAny_holding (wpAny_bind (wpAny_cRoomFor (Nat.lt_of_succ_lt hu) ?_))
  refine wpAny_bind (I.type.here (wpAny_bind (hb.here ?_)))
  rw [if_neg (by simp)]
  refine wpAny_bind (wpAny_pure ?_)
  simp only [Bool.false_eq_true, if_false]
  refine wpAny_bind (wpAny_mono one (fun r s' z => ?_) fun _ _ z => z)
  obtain ⟨b, rfl, q⟩ := z
  exact wpAny_pure q
theorem int_declines (b : Int) (u : Tok) (l C dx : Addr) : Meets (Builtin.«int.__eq__» ⟨[.int b u, .ref l], []⟩) (fun _ R s => s.heap.get? l = some (instObj C dx) ∧ R (.ok (.ret .notImplemented)) s) :=
  .of_wp fun prog w A R s h => by
    obtain ⟨hp, g, d, tk, os⟩ := s
    obtain ⟨hl, h⟩ := h
    unfold instObj at hl
    wp_walk using wpAny_loadPart' hl, wpAny_load hl
    exact ⟨_, rfl, h⟩
/-- n == y, y an instance, by its own __eq__ -/
theorem eq_int_own {Q : Value → Shared → Prop} {b : Int} {u : Tok} {dx : Addr} (hu : A.units < cLine) (X : K.In s.heap) (I : InstAt s.heap y (instObj C dx) C od) (hsub : subIn K (.ref C) (.type "int") = some false)
    (hs : findIn K (.ref C) "__eq__" = some (some (.ref f))) (hf : isFn K (.ref f) = true) (h : wpAny (model prog w) A (call (.ref f) [.ref y, .int b u]) (W.CmpBack Q) E s) : wpAny (model prog w) A (richCompare .Eq (.int b u) (.ref y)) Q E s := by
  have ha : s.TypeIs (.int b u) "int" := rfl
  have back : wpAny (model prog w) A (tryCompare (.ref y) "__eq__" (.int b u)) (fun r s' => ∃ v, r = some v ∧ Q v s') E s := by
    unfold tryCompare
    refine wpAny_bind (ifBound_K X I hs hf (wpAny_mono h (fun v s' z => ?_) fun _ _ z => z))
    cases v <;> first | exact z.elim | exact wpAny_pure ⟨_, rfl, z⟩
  have front : wpAny (model prog w) A (tryCompare (.int b u) "__eq__" (.ref y)) (fun r s' => r = none ∧ s' = s) E s :=
    wpAny_tryCompare_declines ha F.slot_int_eq (call_meets F.slot_int_eq ha F.entry_int_eq (F.args_int_eq_2 _ _) (int_declines b u y C dx) ⟨I.at_, rfl, rfl, rfl⟩)
  simp only [richCompare, cmpInfo_Eq, ha.oneThing_none]
  refine wpAny_holding (wpAny_bind (wpAny_cRoomFor hu ?_))
  refine wpAny_bind (wpAny_typeOf ha (wpAny_bind (I.type.here ?_)))
  have hne : (Value.type "int" != Value.ref C) = true := rfl
  rw [hne, if_pos rfl]
  refine wpAny_bind ((looks_subIn X hsub).here ?_)
  simp only [Bool.false_eq_true, if_false, Bool.not_false, if_true]
  refine wpAny_bind (wpAny_mono front (fun r s' z => ?_) fun _ _ z => z)
  obtain ⟨rfl, rfl⟩ := z
  refine wpAny_bind (wpAny_mono back (fun r s' z => ?_) fun _ _ z => z)
  obtain ⟨v, rfl, q⟩ := z
  exact wpAny_pure q
end
end NmM

/-! The own layer: values (numbers and what makers make), as data and as instances. -/
namespace Nm
open PySem PySem.Spec PyProof.Rows L2
inductive T where
  | num (n : Int)
  | node (m : Str) (ps : List T)
noncomputable instance : DecidableEq T := fun _ _ => Classical.propDecidable _
def T.isNode : T → Bool
  | .num _ => false
  | .node _ _ => true
mutual
def T.own : T → PyData
  | .num n => .int n
  | .node m ps => .tuple [.str m, .list (ownAll ps)]
def ownAll : List T → List PyData
  | [] => []
  | t :: ts => T.own t :: ownAll ts
end
mutual
def T.size : T → Nat
  | .num _ => 1
  | .node _ ps => 1 + sizeAll ps
def sizeAll : List T → Nat
  | [] => 0
  | t :: ts => T.size t + sizeAll ts
end
mutual
def T.depth : T → Nat
  | .num _ => 0
  | .node _ ps => 1 + depthAll ps
def depthAll : List T → Nat
  | [] => 0
  | t :: ts => max (T.depth t) (depthAll ts)
end
mutual
/-- the names are good texts of at most 24 signs -/
def T.good : T → Bool
  | .num _ => true
  | .node m ps => okV 24 (.str m) && goodAll ps
def goodAll : List T → Bool
  | [] => true
  | t :: ts => T.good t && goodAll ts
end
mutual
theorem own_eqv : ∀ a b : T, PyData.eqv a.own b.own = decide (a = b)
  | .num n, .num k => by
    simp only [T.own, PyData.eqv, T.num.injEq]
    by_cases h : n = k <;> simp [h]
  | .num n, .node m ps => by simp [T.own, PyData.eqv]
  | .node m ps, .num n => by simp [T.own, PyData.eqv]
  | .node m ps, .node l qs => by
    have ih := ownAll_eqv ps qs
    simp only [T.own, PyData.eqv, PyData.eqvAll, T.node.injEq, Bool.and_true, ih]
    by_cases h : m = l <;> by_cases h2 : ps = qs <;> simp [h, h2]
theorem ownAll_eqv : ∀ as bs : List T, PyData.eqvAll (ownAll as) (ownAll bs) = decide (as = bs)
  | [], [] => by simp [ownAll, PyData.eqvAll]
  | [], b :: bs => by simp [ownAll, PyData.eqvAll]
  | a :: as, [] => by simp [ownAll, PyData.eqvAll]
  | a :: as, b :: bs => by
    have h1 := own_eqv a b
    have h2 := ownAll_eqv as bs
    simp only [ownAll, PyData.eqvAll, h1, h2, List.cons.injEq]
    by_cases e : a = b <;> by_cases e2 : as = bs <;> simp [e, e2]
end
theorem ownAll_map : ∀ ts : List T, ownAll ts = ts.map T.own
  | [] => rfl
  | t :: ts => by rw [ownAll, ownAll_map ts]; rfl
theorem goodAll_iff {ts : List T} : goodAll ts = true ↔ ∀ t ∈ ts, t.good = true := by
  induction ts with
  | nil => simp [goodAll]
  | cons t ts ih => simp [goodAll, ih]
theorem depthAll_iff {ts : List T} {n : Nat} : depthAll ts ≤ n ↔ ∀ t ∈ ts, t.depth ≤ n := by
  induction ts with
  | nil => simp [depthAll]
  | cons t ts ih => simp [depthAll, ih, Nat.max_le]
theorem size_pos (t : T) : 1 ≤ t.size := by
  cases t with
  | num n => simp [T.size]
  | node m ps => simp [T.size]
theorem size_mem {t : T} : ∀ {ts : List T}, t ∈ ts → t.size ≤ sizeAll ts
  | a :: as, h => by
    rcases List.mem_cons.mp h with q | q
    · rw [q, sizeAll]; omega
    · have := size_mem q
      rw [sizeAll]; omega
theorem sizeAll_len : ∀ ts : List T, ts.length ≤ sizeAll ts
  | [] => Nat.le_refl _
  | t :: ts => by
    have := sizeAll_len ts
    have := size_pos t
    rw [List.length_cons, sizeAll]
    omega
mutual
theorem own_lay : ∀ t : T, t.good = true → t.own.canLay0 = true ∧ t.own.depth ≤ 2 * t.depth + 0
  | .num n, _ => ⟨rfl, by simp [T.own, PyData.depth]⟩
  | .node m ps, h => by
    simp only [T.good, Bool.and_eq_true] at h
    obtain ⟨h1, h2⟩ := ownAll_lay ps h.2
    have hm : PyData.strOk m = true := by
      have q : (decide (m.length ≤ 24) && PyData.strOk m) = true := h.1
      rw [Bool.and_eq_true] at q
      exact q.2
    refine ⟨by simp only [T.own, PyData.canLay0, PyData.canLayAll0, hm, h1]; rfl, ?_⟩
    simp only [T.own, PyData.depth, PyData.depthAll, T.depth]
    omega
theorem ownAll_lay : ∀ ts : List T, goodAll ts = true → PyData.canLayAll0 (ownAll ts) = true ∧ PyData.depthAll (ownAll ts) ≤ 2 * depthAll ts
  | [], _ => ⟨rfl, Nat.le_refl _⟩
  | t :: ts, h => by
    simp only [goodAll, Bool.and_eq_true] at h
    obtain ⟨h1, h2⟩ := own_lay t h.1
    obtain ⟨h3, h4⟩ := ownAll_lay ts h.2
    refine ⟨by simp only [ownAll, PyData.canLayAll0, h1, h3]; rfl, ?_⟩
    simp only [ownAll, PyData.depthAll, depthAll]
    omega
end
theorem own_shaped {t : T} (h : t.good = true) (hd : t.depth ≤ 30) : SeqAt.shaped t.own = true := by
  obtain ⟨h1, h2⟩ := own_lay t h
  unfold SeqAt.shaped
  rw [h1, Bool.true_and]
  exact decide_eq_true (by omega)
mutual
/-- v is an instance (of the class at C) of the value t -/
def MadeAt (K : PySem.W.Frag) (C : Addr) (H : Hp) : T → V → Prop
  | .num n, v => v = .int n
  | .node m ps, v => ∃ (a dx p : Addr) (vs : List V) (fs : List (Str × V)), v = .ref a ∧ H a = some (.ins C dx fs) ∧ fs.lookup ("maker" : Str) = some (V.str m) ∧ fs.lookup ("parts" : Str) = some (V.ref p) ∧ SqT K H p vs ∧ MadeAll K C H ps vs
def MadeAll (K : PySem.W.Frag) (C : Addr) (H : Hp) : List T → List V → Prop
  | [], vs => vs = []
  | t :: ts, vs => ∃ (v : V) (ws : List V), vs = v :: ws ∧ MadeAt K C H t v ∧ MadeAll K C H ts ws
end
section
variable {K : PySem.W.Frag} {C : Addr} {H H' : Hp}
/-- tuples and instances stand -/
structure KI (K : PySem.W.Frag) (H H' : Hp) : Prop where
  tup : ∀ a xs, SqT K H a xs → SqT K H' a xs
  ins : ∀ a C dx fs, H a = some (.ins C dx fs) → H' a = some (.ins C dx fs)
theorem KI.keep (k : Keep H H') : KI K H H' := ⟨fun _ _ h => k.t h, fun _ _ _ _ h => k _ _ h rfl⟩
theorem KI.lst {p : Addr} {xs : List V} {o : HO} (h : H p = some (.lst xs)) : KI K H (upd H p o) := ⟨KT.upd h, fun a C dx fs q => by
  rw [upd_ne (ne_of q h (by intro z; cases z))]
  exact q⟩
mutual
theorem made_ki (k : KI K H H') : ∀ {t : T} {v : V}, MadeAt K C H t v → MadeAt K C H' t v
  | .num n, v, h => by
    rw [MadeAt] at h ⊢
    exact h
  | .node m ps, v, h => by
    rw [MadeAt] at h ⊢
    obtain ⟨a, dx, p, vs, fs, h1, h2, h3, h4, h5, h6⟩ := h
    exact ⟨a, dx, p, vs, fs, h1, k.ins _ _ _ _ h2, h3, h4, k.tup _ _ h5, mades_ki k h6⟩
theorem mades_ki (k : KI K H H') : ∀ {ts : List T} {vs : List V}, MadeAll K C H ts vs → MadeAll K C H' ts vs
  | [], vs, h => by
    rw [MadeAll] at h ⊢
    exact h
  | t :: ts, vs, h => by
    rw [MadeAll] at h ⊢
    obtain ⟨v, ws, h1, h2, h3⟩ := h
    exact ⟨v, ws, h1, made_ki k h2, mades_ki k h3⟩
end
theorem made_same (s : Same H H') {t : T} {v : V} (h : MadeAt K C H t v) : MadeAt K C H' t v := made_ki (KI.keep (same_keep s)) h
theorem mades_same (s : Same H H') {t : List T} {v : List V} (h : MadeAll K C H t v) : MadeAll K C H' t v := mades_ki (KI.keep (same_keep s)) h
theorem mades_len : ∀ {ts : List T} {vs : List V}, MadeAll K C H ts vs → vs.length = ts.length
  | [], vs, h => by
    rw [MadeAll] at h
    rw [h]
    rfl
  | t :: ts, vs, h => by
    rw [MadeAll] at h
    obtain ⟨v, ws, h1, h2, h3⟩ := h
    rw [h1, List.length_cons, List.length_cons, mades_len h3]
theorem mades_at : ∀ {ts : List T} {vs : List V}, MadeAll K C H ts vs → ∀ {i : Nat} {t : T}, ts[i]? = some t → ∃ v, vs[i]? = some v ∧ MadeAt K C H t v
  | [], vs, h, i, t, e => by simp at e
  | t :: ts, vs, h, i, t', e => by
    rw [MadeAll] at h
    obtain ⟨v, ws, h1, h2, h3⟩ := h
    subst h1
    cases i with
    | zero =>
      have e' := Option.some.inj e
      subst e'
      exact ⟨v, rfl, h2⟩
    | succ i => exact mades_at h3 e
theorem mades_of : ∀ {ts : List T} {vs : List V}, vs.length = ts.length → (∀ (i : Nat) (t : T) (v : V), ts[i]? = some t → vs[i]? = some v → MadeAt K C H t v) → MadeAll K C H ts vs
  | [], vs, hl, h => by
    rw [MadeAll]
    exact List.eq_nil_of_length_eq_zero hl
  | t :: ts, [], hl, h => by cases hl
  | t :: ts, v :: vs, hl, h => by
    rw [MadeAll]
    exact ⟨v, vs, rfl, h 0 t v rfl rfl, mades_of (by simpa using hl) fun i t' v' e1 e2 => h (i + 1) t' v' e1 e2⟩
theorem mades_app : ∀ {ts us : List T} {vs ws : List V}, MadeAll K C H ts vs → MadeAll K C H us ws → MadeAll K C H (ts ++ us) (vs ++ ws)
  | [], us, vs, ws, h1, h2 => by
    rw [MadeAll] at h1
    rw [h1]
    exact h2
  | t :: ts, us, vs, ws, h1, h2 => by
    rw [MadeAll] at h1
    obtain ⟨v, w', e, h3, h4⟩ := h1
    subst e
    show MadeAll K C H (t :: (ts ++ us)) (v :: (w' ++ ws))
    rw [MadeAll]
    exact ⟨v, w' ++ ws, rfl, h3, mades_app h4 h2⟩
end
end Nm

/-! The own layer: rules for values: == and != of them, isinstance, enumerate(tuple), zip of tuples, extend by a tuple, great powers. -/
namespace Nm
open PySem PySem.Spec PyProof.Rows L2
/-- what the text says of the class Made -/
structure MadeC (K : PySem.W.Frag) (C f : Addr) : Prop where
  cl : L2.Cls K C
  nM : L2.NoAttr K C "maker"
  nP : L2.NoAttr K C "parts"
  eq : PySem.W.findIn K (.ref C) "__eq__" = some (some (.ref f))
  fn : PySem.W.isFn K (.ref f) = true
  ne : PySem.W.findIn K (.ref C) "__ne__" = some (some (.builtin "object.__ne__"))
  ob : PySem.W.subIn K (.ref C) (.type "object") = some true
  int : PySem.W.subIn K (.ref C) (.type "int") = some false
  nf : PySem.W.notFirst K C (.type "int") = true
  ha : PySem.W.findIn K (.ref C) "__class__" = some (some (.builtin "object.__class__"))
  hn : PySem.W.specialIn K (.builtin "object.__class__") "__get__" = some (some (.builtin "getset_descriptor.__get__"))
  ht : PySem.W.takesIn K (.builtin "object.__class__") = some true
  hm : PySem.W.mroIn K C (.type "object") = some true
  kI : PySem.W.kitOne K (.ref C) (.type "int") = some false
  kM : PySem.W.kitOne K (.ref C) (.ref C) = some true
  iM : PySem.W.kitOne K (.type "int") (.ref C) = some false
/-- what __eq__ promises: both are values -/
def spEqT (K : PySem.W.Frag) (C : Addr) : Sp := fun vs H Q _ => ∃ (x y : V) (t u : T), vs = [x, y] ∧ MadeAt K C H t x ∧ MadeAt K C H u y ∧ t.size ≤ 1000000 ∧ u.size ≤ 1000000 ∧ ∀ H', Same H H' → Q (.bl (decide (t = u))) H'
def rEqT (K : PySem.W.Frag) (C : Addr) : R2 := fun x y H Q => ∃ t u, MadeAt K C H t x ∧ MadeAt K C H u y ∧ t.size ≤ 1000000 ∧ u.size ≤ 1000000 ∧ ∀ H', Same H H' → Q (.bl (decide (t = u))) H'
def rNeT (K : PySem.W.Frag) (C : Addr) : R2 := fun x y H Q => ∃ t u, MadeAt K C H t x ∧ MadeAt K C H u y ∧ t.isNode = u.isNode ∧ t.size ≤ 1000000 ∧ u.size ≤ 1000000 ∧ ∀ H', Same H H' → Q (.bl (!decide (t = u))) H'
section
variable {X : Cx} {C f : Addr} {fd : FuncData} {ps : List Str} {k : Nat} {CX : CXT} {E : XK}
theorem eqT_call {A : Around} {pins : List (Addr × Obj)} {σ : L2.St} {H : Hp} {s : Shared} {x y : V} {u v : Value} {t1 t2 : T} {Q : Value → Shared → Prop} (F : FnOk X.prog X.w X.K X.mg X.base CX k f fd ps (spEqT X.K C)) (hb : Binds X.K fd ps []) (hx : Passes CX X E)
    (hA : A.frames = X.A.frames) (hr : Room k A) (I : Inv X pins σ H s) (rx : RelV x u) (ry : RelV y v) (h1 : MadeAt X.K C H t1 x) (h2 : MadeAt X.K C H t2 y) (z1 : t1.size ≤ 1000000) (z2 : t2.size ≤ 1000000)
    (q : ∀ s' H', Inv X pins σ H' s' → Same H H' → Q (.bool (decide (t1 = t2))) s') : wpAny (model X.prog X.w) A (call (.ref f) [u, v]) Q X.xe s := by
  have hsp : spEqT X.K C [x, y] H (fun v H' => v = .bl (decide (t1 = t2)) ∧ Same H H') E := ⟨x, y, t1, t2, rfl, h1, h2, z1, z2, fun H' e => ⟨rfl, e⟩⟩
  have e := I.env0
  have e0 : Env0 X.prog X.w X.K X.mg X.base A X.stack s H := ⟨by rw [hA]; exact e.frames, e.mod, e.bs, e.bsz, e.funs, e.frf, e.hok, e.bare⟩
  have hl := F.len _ _ _ _ hsp
  have bd : BindsTo s fd ⟨[u, v], []⟩ (ps.zip [u, v]) := by
    have z := hb s [u, v] I.kIn (by simpa using hl)
    simpa using z
  refine wpAny_call (codeAny_mono (F.run A X.stack s H ⟨[u, v], []⟩ [u, v] [x, y] _ E hr e0 bd (.cons rx (.cons ry .nil)) hsp) fun r s' hq => ?_)
  cases r with
  | error er => exact hx pins σ H s er s' I hq
  | ok fl =>
    cases fl with
    | ret w =>
      obtain ⟨z, H', I', rz, ez, sm⟩ := I.after hq
      subst ez
      obtain rfl : w = Value.bool (decide (t1 = t2)) := rz
      exact q s' H' I' sm
    | next => exact False.elim hq
    | brk => exact False.elim hq
    | cont => exact False.elim hq
theorem op_eqT (M : MadeC X.K C f) (F : FnOk X.prog X.w X.K X.mg X.base CX k f fd ps (spEqT X.K C)) (hr : Room k X.A) (hb : Binds X.K fd ps []) (hx : Passes CX X E) : OpR X (compareOp .Eq) (rEqT X.K C) := by
  intro pins s σ H x y v u Q I rx ry ⟨t1, t2, h1, h2, z1, z2, q⟩
  show wpAny _ _ (richCompare .Eq v u) _ _ _
  cases t1 with
  | num n =>
    rw [MadeAt] at h1
    subst h1
    cases t2 with
    | num l =>
      rw [MadeAt] at h2
      subst h2
      have e : decide (T.num n = T.num l) = decide (V.int n = V.int l) := decide_eq_decide.mpr (by simp)
      have q' := q H (Same.refl _)
      rw [e] at q'
      exact op_eq pins s σ H _ _ v u Q I rx ry ⟨rfl, q'⟩
    | node m qs =>
      have h2' := h2
      rw [MadeAt] at h2
      obtain ⟨a, dx, p, vs, fs, rfl, ha, _⟩ := h2
      obtain ⟨t, rfl⟩ := rx
      obtain rfl : u = Value.ref a := ry
      obtain ⟨mA, J, _⟩ := ins_get I.hok ha
      obtain ⟨od, J, _⟩ := J.look
      have h1' : MadeAt X.K C H (.num n) (.int n) := by rw [MadeAt]
      refine NmM.eq_int_own hr.units0 I.kIn J M.int M.eq M.fn (eqT_call F hb hx rfl hr I (x := .ref a) (y := .int n) rfl ⟨t, rfl⟩ h2' h1' z2 z1 fun s' H' I' sm => ?_)
      have e : decide (T.node m qs = T.num n) = decide (T.num n = T.node m qs) := decide_eq_decide.mpr ⟨fun z => z.symm, fun z => z.symm⟩
      rw [e]
      exact ⟨.bl (decide (T.num n = T.node m qs)), H', I', rfl, q H' sm⟩
  | node m qs =>
    have h1' := h1
    rw [MadeAt] at h1
    obtain ⟨a, dx, p, vs, fs, rfl, ha, _⟩ := h1
    obtain rfl : v = Value.ref a := rx
    obtain ⟨mA, J, _⟩ := ins_get I.hok ha
    obtain ⟨od, J, _⟩ := J.look
    obtain ⟨m0, hF⟩ := I.fr
    have go : ∀ tb, PySem.W.Looks (model X.prog X.w) s.heap (typeOf u) tb → PySem.W.notFirst X.K C tb = true → wpAny (model X.prog X.w) X.A (richCompare .Eq (.ref a) u) (EP X pins σ Q) X.xe s := fun tb ht hn =>
      PySem.W.cmp_K (op := .Eq) (tb := tb) hr.units0 hF I.ok.mod.kin J ht hn M.eq M.fn (eqT_call F hb hx rfl hr I (x := .ref a) rfl ry h1' h2 z1 z2 fun s' H' I' sm => ⟨.bl (decide (T.node m qs = t2)), H', I', rfl, q H' sm⟩)
    cases t2 with
    | num l =>
      rw [MadeAt] at h2
      subst h2
      obtain ⟨t, rfl⟩ := ry
      exact go (.type "int") (PySem.W.Looks.of_pure rfl) M.nf
    | node l rs =>
      rw [MadeAt] at h2
      obtain ⟨a', dx', p', vs', fs', rfl, ha', _⟩ := h2
      obtain rfl : u = Value.ref a' := ry
      obtain ⟨mA', J', _⟩ := ins_get I.hok ha'
      obtain ⟨od', J', _⟩ := J'.look
      exact go (.ref C) J'.type (by simp [PySem.W.notFirst])
theorem op_neT (M : MadeC X.K C f) (F : FnOk X.prog X.w X.K X.mg X.base CX k f fd ps (spEqT X.K C)) (hr : Room (k + 1) X.A) (hb : Binds X.K fd ps []) (hx : Passes CX X E) : OpR X (compareOp .NotEq) (rNeT X.K C) := by
  intro pins s σ H x y v u Q I rx ry ⟨t1, t2, h1, h2, hk, z1, z2, q⟩
  cases t1 with
  | num n =>
    cases t2 with
    | node m qs => cases hk
    | num l =>
      rw [MadeAt] at h1 h2
      subst h1 h2
      have e : decide (T.num n = T.num l) = decide (V.int n = V.int l) := decide_eq_decide.mpr (by simp)
      have q' := q H (Same.refl _)
      rw [e] at q'
      exact op_ne pins s σ H _ _ v u Q I rx ry ⟨rfl, q'⟩
  | node m qs =>
    cases t2 with
    | num l => cases hk
    | node l rs =>
      have h1' := h1
      have h2' := h2
      rw [MadeAt] at h1 h2
      obtain ⟨a, dx, p, vs, fs, rfl, ha, _⟩ := h1
      obtain ⟨a', dx', p', vs', fs', rfl, ha', _⟩ := h2
      obtain rfl : v = Value.ref a := rx
      obtain rfl : u = Value.ref a' := ry
      obtain ⟨mA, J, _⟩ := ins_get I.hok ha
      obtain ⟨od, J, _⟩ := J.look
      obtain ⟨mA', J', _⟩ := ins_get I.hok ha'
      obtain ⟨od', J', _⟩ := J'.look
      show wpAny _ _ (richCompare .NotEq (.ref a) (.ref a')) _ _ _
      refine NmM.ne_own (by have := hr.un; omega) I.kIn J J'.type M.ne M.ob M.eq M.fn (eqT_call F hb hx rfl hr.in1 I (x := .ref a) (y := .ref a') rfl rfl h1' h2' z1 z2 fun s' H' I' sm => ⟨_, rfl, ?_⟩)
      exact ⟨.bl (!decide (T.node m qs = T.node l rs)), H', I', rfl, q H' sm⟩
end
/-! isinstance -/
section
variable {K : PySem.W.Frag} {C f : Addr} {H : Hp} {Q : VK} {t : T} {x : V}
theorem made_ty (M : MadeC K C f) (h : MadeAt K C H t x) : TyX K H x (if t.isNode then .ref C else .type "int") := by
  cases t with
  | num n =>
    rw [MadeAt] at h
    subst h
    exact .base (.int n)
  | node m ps =>
    rw [MadeAt] at h
    obtain ⟨a, dx, p, vs, fs, rfl, ha, _⟩ := h
    exact .base (.ins ha M.cl M.ha M.hn M.ht M.hm)
theorem z_isMade (M : MadeC K C f) (h : MadeAt K C H t x) (q : Q (.bl t.isNode) H) : rIsi K [x, .ref C] H Q := by
  refine z_isi (ClsV.own C) (made_ty M h) (b := t.isNode) ?_ q
  cases t with
  | num n => exact M.iM
  | node m ps => exact M.kM
theorem z_isInt (M : MadeC K C f) (h : MadeAt K C H t x) (q : Q (.bl (!t.isNode)) H) : rIsi K [x, .ty "int"] H Q := by
  refine z_isi (ClsV.ty "int") (made_ty M h) (b := !t.isNode) ?_ q
  cases t with
  | num n => exact kit_ty (r := true) (by decide +kernel)
  | node m ps => exact M.kI
theorem tup_ty {a : Addr} {xs : List V} (h : SqT K H a xs) : TyX K H (.ref a) (.type "tuple") := by
  rcases h with (h | ⟨o, h⟩) | ⟨o, its, n, hk, hc, _⟩
  · exact .base (.tup h)
  · exact .fTuple h
  · exact .kTuple hk hc
/-- isinstance(v, int), v an own value -/
theorem z_ownInt (h : Dp K H x t.own) (q : Q (.bl (!t.isNode)) H) : rIsi K [x, .ty "int"] H Q := by
  cases t with
  | num n =>
    have h' : Dp K H x (.int n) := h
    cases h'
    exact z_isi (ClsV.ty "int") (.base (.int n)) (b := true) (kit_ty (r := true) (by decide +kernel)) q
  | node m ps =>
    have h' : Dp K H x (.tuple [.str m, .list (ownAll ps)]) := by rw [T.own] at h; exact h
    cases h' with
    | tup ht _ => exact z_isi (ClsV.ty "int") (tup_ty ht) (b := false) (kit_ty (r := false) (by decide +kernel)) q
/-- the parts of an own value -/
theorem own_node {m : Str} {ps : List T} (h : Dp K H x (T.node m ps).own) : ∃ (a l : Addr) (vs : List V), x = .ref a ∧ SqT K H a [.str m, .ref l] ∧ SqL K H l vs ∧ DpAll K H vs (ownAll ps) := by
  have h' : Dp K H x (.tuple [.str m, .list (ownAll ps)]) := by rw [T.own] at h; exact h
  cases h' with
  | tup ht hs =>
    cases hs with
    | cons h1 hs =>
      cases h1
      cases hs with
      | cons h2 hs =>
        cases hs
        cases h2 with
        | lst hl hv => exact ⟨_, _, _, rfl, ht, hl, hv⟩
theorem own_num {n : Int} (h : Dp K H x (T.num n).own) : x = .int n := by
  have h' : Dp K H x (.int n) := by rw [T.own] at h; exact h
  cases h'
  rfl
theorem own_mk {m : Str} {ps : List T} {a l : Addr} {vs : List V} (ht : SqT K H a [.str m, .ref l]) (hl : SqL K H l vs) (hv : DpAll K H vs (ownAll ps)) : Dp K H (.ref a) (T.node m ps).own := by
  rw [T.own]
  exact .tup ht (.cons (.str m) (.cons (.lst hl hv) .nil))
end
/-! great powers -/
theorem op_powW {X : Cx} : OpR X (binaryOp .Pow) (rI (fun i j => 0 < j ∧ (i == 0 || i == 1) = false ∧ (i == -1) = false ∧ Builtin.Int.intTooBig (((Builtin.Int.intBits i : Nat) : Int) * j) = false) fun i j => .int (i ^ j.toNat)) :=
  opI fun i j t u _ _ _ hc q => by
    obtain ⟨h1, h2, h3, h4⟩ := hc
    exact AutoIntOps.pow_4 (by omega) (by simp; omega) (by rw [h2]; exact Bool.false_ne_true) (by rw [h3]; exact Bool.false_ne_true) (by rw [h4]; exact Bool.false_ne_true) q
end Nm

/-! The own layer: heaps of what is new, comprehensions whose items are made, enumerate(tuple), zip of tuples, extend by a tuple; an instance made. -/
namespace Nm
open PySem PySem.Spec PyProof.Rows L2
/-- what stands in H1 and did not in H0 -/
def Nw (H0 H1 : Hp) : Hp := fun a => match H0 a with
  | none => H1 a
  | some _ => none
section
variable {H0 H1 H2 H : Hp} {a D : Addr} {o : HO}
theorem nw_at (h0 : H0 a = none) (h1 : H1 a = some o) : Nw H0 H1 a = some o := by
  unfold Nw
  rw [h0]
  exact h1
theorem nw_of (h : Nw H0 H1 a = some o) : H0 a = none ∧ H1 a = some o := by
  unfold Nw at h
  cases e : H0 a with
  | none => rw [e] at h; exact ⟨rfl, h⟩
  | some u => rw [e] at h; cases h
theorem nw_sub : Same (Nw H0 H1) H1 := fun _ _ h => (nw_of h).2
theorem nw_mono (s : Same H1 H2) : Same (Nw H0 H1) (Nw H0 H2) := fun _ _ h => nw_at (nw_of h).1 (s _ _ (nw_of h).2)
theorem nw_but {d : Addr} (b : But d H1 H2) (hd : H0 d ≠ none) : Same (Nw H0 H1) (Nw H0 H2) := fun x _ h => nw_at (nw_of h).1 (b _ _ (fun e => hd (by rw [← e]; exact (nw_of h).1)) (nw_of h).2)
/-- no address goes -/
def Dom (H0 H1 : Hp) : Prop := ∀ a, H1 a = none → H0 a = none
theorem dom_same (s : Same H0 H1) : Dom H0 H1 := fun a h => by
  cases e : H0 a with
  | none => rfl
  | some u => rw [s _ _ e] at h; cases h
theorem dom_but {d : Addr} (b : But d H0 H1) (h1 : H1 d ≠ none) : Dom H0 H1 := fun a h => by
  cases e : H0 a with
  | none => rfl
  | some u =>
    by_cases q : a = d
    · rw [q] at h; exact absurd h h1
    · rw [b _ _ q e] at h; cases h
theorem Dom.trans (a : Dom H0 H1) (b : Dom H1 H2) : Dom H0 H2 := fun x h => a x (b x h)
theorem nw_shift (s : Dom H0 H1) : Same (Nw H1 H2) (Nw H0 H2) := fun _ _ h => nw_at (s _ (nw_of h).1) (nw_of h).2
theorem nw_del (s : Dom H0 H1) (hD : H1 D ≠ none) : Same (Nw H1 H2) (del (Nw H0 H2) D) := fun x _ h => by
  have n : x ≠ D := fun e => hD (by rw [← e]; exact (nw_of h).1)
  rw [del_ne n]
  exact nw_shift s _ _ h
theorem del_sub : Same (del H D) H := fun x _ h => by
  by_cases e : x = D
  · rw [e, del_same] at h; cases h
  · rw [del_ne e] at h; exact h
theorem del_mono (s : Same H1 H2) : Same (del H1 D) (del H2 D) := fun x _ h => by
  by_cases e : x = D
  · rw [e, del_same] at h; cases h
  · rw [del_ne e] at h ⊢; exact s _ _ h
theorem del_upd : Same (del (Nw H0 H1) D) (del (Nw H0 (upd H1 D o)) D) := fun x _ h => by
  by_cases e : x = D
  · rw [e, del_same] at h; cases h
  · rw [del_ne e] at h ⊢
    exact nw_at (nw_of h).1 (by rw [upd_ne e]; exact (nw_of h).2)
end
section
variable {J : It} {te : TE} {g : TG} {σ : L2.St} {vs : List Nat} {H : Hp} {Q : VK} {K : PySem.W.Frag} {n : Nat} {G : Hp → Prop} {Y : Nat → Hp → V → Hp → Prop}
/-- [e for .. in ..]: each item made, what stood stands -/
theorem l_gen (w : Walk J n G Y) (P : Addr → Nat → V → Hp → Prop) (hS : ∀ D i v H1 H2, Same H1 H2 → P D i v H1 → P D i v H2) (hL : ∀ D i v H1 (xs : List V) (o : HO), H D = none → H1 D = some (.lst xs) → P D i v H1 → P D i v (upd H1 D o)) (hn : n ≤ 1000000) (hG : ∀ H1, Same H H1 → G H1)
    (ht : ∀ D i x H1 H1', H D = none → H1 D ≠ none → i < n → Same H H1 → Y i H1 x H1' → ∀ Q' : VK, (∀ v H3, Same H1 H3 → P D i v H3 → Q' v H3) → g x (wipe σ vs) H1' fun σ2 H2 => wipe σ2 vs = wipe σ vs ∧ te σ2 H2 Q')
    (k : ∀ D H' ys, H D = none → Same H H' → H' D = some (.lst ys) → ys.length = n → (∀ i y, ys[i]? = some y → P D i y H') → Q (.ref D) H')
    (mono : ∀ x σ1 H1 (A B : L2.St → Hp → Prop), (∀ σ2 H2, A σ2 H2 → B σ2 H2) → g x σ1 H1 A → g x σ1 H1 B) : kLc g tYes te vs σ Q J H := fun D hD => by
  refine lc_it w (Pv := fun i H1 => Same H H1 ∧ ∃ ys, H1 D = some (.lst ys) ∧ ys.length = i ∧ ∀ j y, ys[j]? = some y → P D j y H1) ⟨Same.new hD, [], upd_same, rfl, fun j y h => by simp at h⟩ (fun i H1 _ ⟨s, _⟩ => hG H1 s) ?_ ?_
  · rintro i x H1 H1' hi ⟨s1, ys, h1, hl, hp⟩ y
    refine mono _ _ _ _ _ (fun σ2 H2 ⟨hw, q⟩ => ⟨hw, z_tYes (iteT q)⟩) (ht D i x H1 H1' hD (by rw [h1]; simp) hi s1 y _ fun v H3 s3 pv => ?_)
    refine ⟨ys, s3 _ _ h1, by rw [sizeLine_eq]; omega, Nm.Same.mut (s1.trans s3) hD, ys ++ [v], upd_same, by simp [hl], fun j z hz => ?_⟩
    by_cases q : j < ys.length
    · rw [List.getElem?_append_left q] at hz
      exact hL D j z H3 _ _ hD (s3 _ _ h1) (hS D j z H1 H3 s3 (hp j z hz))
    · rw [List.getElem?_append_right (by omega)] at hz
      have e : j - ys.length = 0 := by
        cases e : j - ys.length with
        | zero => rfl
        | succ m => rw [e] at hz; simp at hz
      rw [e] at hz
      have ev : v = z := Option.some.inj hz
      have ej : j = i := by omega
      rw [← ev, ej]
      exact hL D i v H3 _ _ hD (s3 _ _ h1) pv
  · rintro H1 ⟨s1, ys, h1, hl, hp⟩
    exact k D H1 ys hD s1 h1 hl hp
theorem mono_name {i : Nat} : ∀ (x : V) (σ1 : L2.St) (H1 : Hp) (A B : L2.St → Hp → Prop), (∀ σ2 H2, A σ2 H2 → B σ2 H2) → gName i x σ1 H1 A → gName i x σ1 H1 B := fun _ _ _ _ _ h q => h _ _ q
theorem mono_two {i j : Nat} : ∀ (x : V) (σ1 : L2.St) (H1 : Hp) (A B : L2.St → Hp → Prop), (∀ σ2 H2, A σ2 H2 → B σ2 H2) → gTup K 2 (gCons (gName i) (gCons (gName j) gNil)) x σ1 H1 A → gTup K 2 (gCons (gName i) (gCons (gName j) gNil)) x σ1 H1 B := by
  rintro x σ1 H1 A B h ⟨a, xs, e1, e2, e3, v, vs, e4, v2, vs2, e5, e6, q⟩
  exact ⟨a, xs, e1, e2, e3, v, vs, e4, v2, vs2, e5, e6, h _ _ q⟩
/-- [.. for k in range(n)] whose items are drawn; each costs at most `cost` draws -/
theorem l_genD {i0 : Nat} {d c : Addr} {m : Nat} (cost : Nat) (P : Addr → V → Hp → Prop) (hS : ∀ D v H1 H2, But d H1 H2 → P D v H1 → P D v H2) (hL : ∀ D v H1 (xs : List V) (o : HO), H D = none → H1 D = some (.lst xs) → P D v H1 → P D v (upd H1 D o)) (hn : n ≤ 1000) (hp : Pen K H d c (m + cost * n))
    (he : ∀ D (i : Nat) H1 j, H D = none → H1 D ≠ none → i < n → But d H H1 → Dom H H1 → Pen K H1 d c (j + cost) → ∀ Q' : VK, (∀ v H2, But d H1 H2 → P D v H2 → Pen K H2 d c j → Q' v H2) → te ((σ.set i0 none).set i0 (some (.int (0 + (i : Nat))))) H1 Q')
    (k : ∀ D H' ys, H D = none → But d H H' → Pen K H' d c m → ys.length = n → (∀ y ∈ ys, P D y H') → H' D = some (.lst ys) → Q (.ref D) H') : kLc (gName i0) tYes te [i0] σ Q (Itr 0 n) H := fun D hD => by
  have nd : D ≠ d := hp.ne hD
  refine lc_it walk_range (Pv := fun i H1 => But d H H1 ∧ i ≤ n ∧ Pen K H1 d c (m + cost * (n - i)) ∧ ∃ ys : List V, H1 D = some (.lst ys) ∧ ys.length = i ∧ ∀ y ∈ ys, P D y H1) ⟨same_but (Same.new hD), Nat.zero_le _, ?_, [], upd_same, rfl, fun _ h => by cases h⟩ (fun _ _ _ _ => trivial) ?_ ?_
  · exact hp.mut hD hp
  · rintro i x H1 H1' hi ⟨b1, _, p1, ys, h1, hl, hpr⟩ ⟨eH, ex⟩
    subst ex
    subst eH
    refine ⟨set_none_twice, ?_⟩
    refine z_tYes (iteT ?_)
    have e1 : m + cost * (n - i) = m + cost * (n - (i + 1)) + cost := by
      have e2 : n - i = (n - (i + 1)) + 1 := by omega
      rw [e2, Nat.mul_add, Nat.mul_one, Nat.add_assoc]
    rw [e1] at p1
    have hd1 : H1' d ≠ none := by
      obtain ⟨_, _, _, _, _, q, _⟩ := p1
      rw [q]
      simp
    refine he D i _ _ hD (by rw [h1]; simp) hi b1 (dom_but b1 hd1) p1 _ fun v H2 b2 hv p2 => ?_
    have h2 := b2 _ _ nd h1
    refine ⟨ys, h2, ?_, fun a o hne e => ?_, hi, ?_, ys ++ [v], upd_same, by simp [hl], ?_⟩
    · rw [sizeLine_eq]
      omega
    · rw [upd_ne (ne_of_none e hD)]
      exact b2 _ _ hne (b1 _ _ hne e)
    · exact hp.mut hD p2
    · intro y hy
      rcases List.mem_append.mp hy with q | q
      · exact hL D y H2 _ _ hD h2 (hS D y _ H2 b2 (hpr y q))
      · rw [List.mem_singleton.mp q]
        exact hL D v H2 _ _ hD h2 hv
  · rintro H1 ⟨b1, _, p1, ys, h1, hl, hpr⟩
    rw [Nat.sub_self, Nat.mul_zero, Nat.add_zero] at p1
    exact k D H1 ys hD b1 p1 hl hpr h1
end
/-! ### enumerate(tuple) -/
def ItEt (K : PySem.W.Frag) (a : Addr) (xs : List V) : It :=
  ⟨fun i H => i < xs.length ∧ SqT K H a xs, fun i H v H' => ∃ U x, v = .ref U ∧ H U = none ∧ xs[i]? = some x ∧ H' = upd H U (.tup [.int (i : Nat), x]), fun i H => i = xs.length ∧ SqT K H a xs⟩
theorem enum_newT (l : Addr) (items : Array Value) (n : Nat) (dct : Option Addr) (sl : Array (Option Value)) :
    Meets (Builtin.«enumerate.__new__» ⟨[.type "enumerate", .ref l], []⟩) (fun _ R s => s.heap.get? l = some { cls := .type "tuple", dict := dct, data := .seq items n, slots := sl } ∧
      R (.ok (.ret (.ref (s.heap.push { cls := .type "tuple_iterator", data := .fields #[.ref l, .int 0 0] }).objs.size)))
        { s with heap := (s.heap.push { cls := .type "tuple_iterator", data := .fields #[.ref l, .int 0 0] }).push { cls := .type "enumerate", data := .fields #[.none, .bool false, .ref s.heap.objs.size, rawInt 0, .none, .none] } }) :=
  .of_wp fun prog w A R s h => by
    obtain ⟨hp, g, d, tk, os⟩ := s
    obtain ⟨hl, h⟩ := h
    have f1 := sub_enumerate
    have hT : Heap.IsTuple (Shared.heap ⟨hp, g, d, tk, os⟩) l items := ⟨_, hl, rfl, n, rfl⟩
    wp_walk using wpAny_loadPart' hl
    refine wpAny_stack_any fun st => wpAny_pure ?_
    split
    · rename_i c _ _ _ _ _
      cases (c == Value.type "enumerate") <;>
        (wp_walk using wpAny_loadPart' hl, wpAny_pyIter_tuple hT
         exact ⟨_, rfl, h⟩)
    · wp_walk using wpAny_loadPart' hl, wpAny_pyIter_tuple hT
      exact ⟨_, rfl, h⟩
end Nm

/-! The own layer: enumerate(tuple), zip of tuples walked, extend by a tuple, an instance of Made made, its fields. -/
namespace Nm
open PySem PySem.Spec PyProof.Rows L2
section
variable {prog : Program} {w : World} {A : Around} {E : Value → Shared → Prop} {s : Shared}
theorem call_enumT {l : Addr} {items : Array Value} {Q : Value → Shared → Prop} (hL : s.heap.IsTuple l items)
    (h : ∀ h', IsEnum h' (s.heap.objs.size + 1) s.heap.objs.size 0 .none → h'.IsTupleIter s.heap.objs.size l 0 → (∀ b o, s.heap.get? b = some o → h'.get? b = some o) → Q (.ref (s.heap.objs.size + 1)) { s with heap := h' }) :
    wpAny (model prog w) A (call (.type "enumerate") [.ref l]) Q E s := by
  obtain ⟨⟨c, dct, dt, sl⟩, hl, hc, n, hd⟩ := hL
  replace hc : c = .type "tuple" := hc
  replace hd : dt = .seq items n := hd
  subst hc hd
  refine callType_new F.called_enumerate (by decide) (F.typeCall_enumerate_1 _) (F.newCall_enumerate_1 _) (fun obj => F.args_object_init_2 obj _) F.entry_enumerate_new (enum_newT l items n dct sl) ⟨hl, ?_⟩
  have ez : ∀ o : Obj, (s.heap.push o).objs.size = s.heap.objs.size + 1 := fun o => Heap.size_push ..
  show _ ∧ _
  rw [ez]
  have e1 : IsEnum ((s.heap.push { cls := .type "tuple_iterator", data := .fields #[.ref l, .int 0 0] }).push { cls := .type "enumerate", data := .fields #[.none, .bool false, .ref s.heap.objs.size, rawInt 0, .none, .none] }) (s.heap.objs.size + 1) s.heap.objs.size 0 .none := by
    have z := Heap.get?_push_size (s.heap.push { cls := .type "tuple_iterator", data := .fields #[.ref l, .int 0 0] }) (o := { cls := .type "enumerate", data := .fields #[.none, .bool false, .ref s.heap.objs.size, rawInt 0, .none, .none] }) rfl
    rw [ez] at z
    exact z
  exact ⟨⟨_, e1, rfl⟩, h _ e1 ⟨_, Heap.get?_push_of_some _ (Heap.get?_push_size _ rfl), rfl, rfl⟩ fun b o x => Heap.get?_push_of_some _ (Heap.get?_push_of_some _ x)⟩
end
theorem turn_enumT {P : Program} {w : World} {K : PySem.W.Frag} {elts : List Expr} {kk : Nat} {tpos : Pos} {a : Addr} {xs : List V} (e it : Addr) :
    Turn P w K (.Tuple elts kk tpos) (ItEt K a xs) [e, it] e (fun i h => (∃ old, IsEnum h e it ((i : Nat) : Int) old) ∧ h.IsTupleIter it a i ∧ e ≠ it ∧ a ≠ it ∧ a ≠ e) where
  mem := by simp
  obj := fun i h st b hb => by
    obtain ⟨⟨old, he⟩, ⟨o, ho, hc, hd⟩, _⟩ := st
    have e' : b = e ∨ b = it := by simpa using hb
    rcases e' with z | z
    · rw [z]; exact ⟨_, he, fun v q => nomatch q⟩
    · rw [z]; exact ⟨o, ho, fun v q => by rw [hd] at q; cases q⟩
  keep := fun i h h' st k => let ⟨⟨old, he⟩, ⟨o, ho, r⟩, hne⟩ := st; ⟨⟨old, k e (by simp) _ he⟩, ⟨o, k it (by simp) o ho, r⟩, hne⟩
  item := by
    intro X hP hw hK hc i pins s σ H E I hf st hg
    subst hP hw hK
    obtain ⟨⟨old, he⟩, hit, hne, hai, hae⟩ := st
    obtain ⟨hi, hq⟩ := hg
    have hx : xs[i]? = some xs[i] := List.getElem?_eq_getElem hi
    obtain ⟨its, rv, p, hz⟩ := I.tuple hq
    have hel : e < s.heap.objs.size := Heap.lt_size he
    have hil : it < s.heap.objs.size := by obtain ⟨_, q, _⟩ := hit; exact Heap.lt_size q
    have D := Draws.tuple (prog := X.prog) (w := X.w) (A := X.A.in1) (by show X.A.handled = none; exact I.ok.hd hc) it a hai its.toArray
    have hef : e ∉ [it, a] := by simp [hne, Ne.symm hae]
    have hn : i < its.toArray.size := by simp [← rv.length]; exact hi
    refine wpAny_pyNext_enum_itemC D he ⟨hit, p⟩ hn hne hef fun v h' tk hP ho hit' hT hsz hk => ?_
    obtain ⟨u, hu, ru⟩ := rv.get hx
    have ev : v = u := by
      have z : its.toArray[i]? = some u := by simpa using hu
      have hP' : its.toArray[i]? = some v := hP
      rw [z] at hP'
      exact (Option.some.inj hP').symm
    subst ev
    refine ⟨_, rfl, wpAny_letOwnedTupleGo_enum (s := { s with heap := h', toks := tk + 1 }) ho fun h'' he' sb => ?_⟩
    have hT2 : h''.get? s.heap.objs.size = some { cls := .type "tuple", data := .seq #[.int i tk, v] } := (sb.2 _ (Nat.ne_of_gt hel)).trans hT
    have new : ObjOk X.prog X.w (upd H s.heap.objs.size (.tup [.int (i : Nat), xs[i]])) h'' s.heap.objs.size (.tup [.int (i : Nat), xs[i]]) := ⟨by show 2 ≤ sizeLine; decide, [.int i tk, v], .cons ⟨_, rfl⟩ (.cons ru .nil), ⟨_, hT2, rfl, _, rfl⟩⟩
    have I1 : Inv X pins σ (upd H s.heap.objs.size (.tup [.int (i : Nat), xs[i]])) { s with heap := h'', toks := tk + 1 } :=
      I.turnedNew (ch := [e, it]) (fun b ob hb q => (sb.2 b (fun z => hb (by simp [z]))).trans (hk b ob (fun z => hb (by simp [z])) (fun z => hb (by simp [z])) q)) hf (Nat.le_refl _) new
    refine ⟨.ref s.heap.objs.size, _, I1, rfl, ⟨_, xs[i], rfl, I.hok.fresh (Nat.le_refl _), hx, rfl⟩, ⟨⟨v, ?_⟩, ?_, hne, hai, hae⟩, fun b hb => ?_⟩
    · have e1 : ((i + 1 : Nat) : Int) = (i : Int) + 1 := by omega
      rw [e1]
      exact he'
    · obtain ⟨⟨o, ho', r⟩, _⟩ := hit'
      exact ⟨o, (sb.2 it (Ne.symm hne)).trans ho', r⟩
    · have hb' : b < s.heap.objs.size := by
        have e' : b = e ∨ b = it := by simpa using hb
        rcases e' with z | z
        · rw [z]; exact hel
        · rw [z]; exact hil
      rw [upd_ne (Nat.ne_of_lt hb')]
      exact (hf b hb).1
  done := by
    intro X hP hw hK hc i pins s σ H E I hf st hg
    subst hP hw hK
    obtain ⟨⟨old, he⟩, hit, hne, hai, hae⟩ := st
    obtain ⟨hi, hq⟩ := hg
    obtain ⟨its, rv, p, hz⟩ := I.tuple hq
    have D := Draws.tuple (prog := X.prog) (w := X.w) (A := X.A.in1) (by show X.A.handled = none; exact I.ok.hd hc) it a hai its.toArray
    have hn : i = its.toArray.size := by rw [hi, List.size_toArray, rv.length]
    subst hn
    obtain ⟨f0, f1, f2, f3, f4, f5⟩ := hf it (by simp)
    exact wpAny_pyNext_enum_endD D he ⟨hit, p⟩ fun h' eb => ⟨rfl, I.turned (t' := s.toks) (fun b o hb q => eb b o hb q) f0 f1 f3 f4 f5⟩
  self := fun A i s Q E st h => let ⟨⟨_, he⟩, _⟩ := st; wpAny_pyIter_enum he h
def kIEt (K : PySem.W.Frag) (R : It → Hp → Prop) : List V → Hp → Prop := fun vs H1 => ∃ a xs, vs = [.ref a] ∧ SqT K H1 a xs ∧ R (ItEt K a xs) H1
def iEnumT (K : PySem.W.Frag) (ta : TA) : TI := fun σ H R => ta σ H (kIEt K R)
theorem pi_enumT {X : Cx} {e : Expr} {ta : TA} {p pos tpos : Pos} {elts : List Expr} {kk : Nat} (hg : Gl X "enumerate") (hm : X.mg "enumerate" = none) (ha : PA X [e] ta) (hs : starEach [e] X.env = [(false, eval e X.env)] := by rfl) :
    PI X (.Tuple elts kk tpos) (.Call (.Name "enumerate" p) [e] [] pos) (iEnumT X.K ta) := by
  refine ⟨fun pins s σ H R I h => ?_⟩
  refine Call_ (ld_blt I hg hm boot_enumerate (PyProof.Rows.callWith_type1 (thn (ha.run pos pins s σ H _ I h) fun us s1 ⟨vs, H1, I1, r1, q1⟩ => ?_) hs rfl))
  obtain ⟨a, xs, ex, hq, q⟩ := q1
  subst ex
  obtain ⟨u, rfl, ru⟩ := vals1 r1
  obtain rfl : u = Value.ref a := ru
  obtain ⟨its, rv, p', hz⟩ := I1.tuple hq
  have hal : a < s1.heap.objs.size := by obtain ⟨o, ho, _⟩ := p'; exact Heap.lt_size ho
  refine call_enumT p' fun h' he hit hk => wpAny_pyIter_enum he ?_
  have I2 : Inv X pins σ H1 { s1 with heap := h' } := I1.kept (t' := s1.toks) hk
  refine ⟨s1.heap.objs.size + 1, [s1.heap.objs.size + 1, s1.heap.objs.size], _, _, H1, rfl, I2, turn_enumT (s1.heap.objs.size + 1) s1.heap.objs.size, ⟨⟨.none, he⟩, hit, Nat.succ_ne_self _, Nat.ne_of_lt hal, Nat.ne_of_lt (Nat.lt_succ_of_lt hal)⟩, fun b hb => ?_, q⟩
  have hle : s1.heap.objs.size ≤ b := by
    have e' : b = s1.heap.objs.size + 1 ∨ b = s1.heap.objs.size := by simpa using hb
    rcases e' with z | z
    · rw [z]; exact Nat.le_succ _
    · rw [z]; exact Nat.le_refl _
  exact I1.fpOk hle (I1.hok.fresh hle)
section
variable {K : PySem.W.Frag} {a b : Addr} {xs ys : List V}
theorem walk_enumT : Walk (ItEt K a xs) xs.length (fun H => SqT K H a xs) (YPair (fun i => some (.int (i : Nat))) (fun i => xs[i]?)) where
  goes := fun i H hi g => ⟨hi, g⟩
  stops := fun H g => ⟨rfl, g⟩
  yields := fun i H v H' hi g y => by
    obtain ⟨U, x, ev, hU, hx, eH⟩ := y
    exact ⟨U, _, x, ev, hU, eH, rfl, hx⟩
theorem walk_zipT (hl : xs.length = ys.length) : Walk (RZ.ItzT K a b) xs.length (fun H => SqT K H a xs ∧ SqT K H b ys) (YPair (fun i => xs[i]?) (fun i => ys[i]?)) where
  goes := fun i H hi g => ⟨xs, ys, xs[i], ys[i]'(by omega), g.1, g.2, List.getElem?_eq_getElem hi, List.getElem?_eq_getElem (by omega)⟩
  stops := fun H g => ⟨xs, ys, g.1, g.2, .inl (Nat.le_refl _)⟩
  yields := fun i H v H' hi g y => by
    obtain ⟨U, x, z, ev, hU, eH, h4, h5⟩ := y
    exact ⟨U, x, z, ev, hU, eH, h4 xs g.1, h5 ys g.2⟩
end
/-! ### xs.extend(t), t a tuple -/
theorem ext_tup (l : Addr) (items : Array Value) (n : Nat) (b : Addr) (items2 : Array Value) (n2 : Nat) (dd : Option Addr) (sl : Array (Option Value)) (hs0 : ¬(!items.isEmpty && Builtin.List.listTooLong (items.size + items2.size)) = true) (hs1 : items.size ≤ sizeLine) (hs2 : items.size + items2.size ≤ sizeLine + 1) :
    Meets (Builtin.«list.extend» ⟨[.ref l, .ref b], []⟩) (fun _ R s => s.heap.get? l = some { cls := .type "list", data := .seq items n } ∧ s.heap.get? b = some { cls := .type "tuple", dict := dd, data := .seq items2 n2, slots := sl } ∧ R (.ok (.ret Value.none)) { s with heap := s.heap.update l (Obj.mapSeq fun x => x ++ items2), toks := s.toks }) :=
  .of_wp fun prog w A R s h => by
    obtain ⟨hp, g, d, tk, os⟩ := s
    obtain ⟨hl, hb, h⟩ := h
    have f2 := AutoSeq1.sub_tuple_tuple
    have f4 := AutoSeq1.sub_tuple_list
    have hz : (items ++ items2).size ≤ sizeLine + 1 := by rw [Array.size_append]; exact hs2
    wp_walk using (wpAny_updateSeq hl rfl (hz := hs1) (_hz' := hz)), AutoSeq1.wpAny_loadPart' hl, AutoSeq1.wpAny_loadPart' hb
    exact ⟨_, rfl, h⟩
def rExtT (K : PySem.W.Frag) : V → List V → Hp → VK → Prop := fun x vs H Q => ∃ l b xs zs, x = .ref l ∧ vs = [.ref b] ∧ H l = some (.lst xs) ∧ SqT K H b zs ∧ xs.length + zs.length ≤ sizeLine ∧ Q .non (upd H l (.lst (xs ++ zs)))
theorem mt_extendT {X : Cx} : MtM X "list.extend" (rExtT X.K) := by
  intro pins s σ H x vs v us Q I rx rv h
  obtain ⟨l, b, xs, zs, rfl, rfl, hH, hB, hz, q⟩ := h
  cases rx
  obtain ⟨u, rfl, ru⟩ := rv.one
  cases ru
  obtain ⟨z, its, n, r, hl, e⟩ := I.lstM hH
  obtain ⟨its2, r2, ⟨⟨c, dd, dt, sl⟩, e2, hc, n2, hd⟩, z2⟩ := I.tuple hB
  replace hc : c = .type "tuple" := hc
  replace hd : dt = .seq its2.toArray n2 := hd
  subst hc hd
  have l2 := r2.length
  have hsz : its.toArray.size + its2.toArray.size ≤ sizeLine := by rw [List.size_toArray, List.size_toArray]; omega
  have hlong : ¬ (!its.toArray.isEmpty && Builtin.List.listTooLong (its.toArray.size + its2.toArray.size)) = true := by
    rw [notLongL hsz, Bool.and_false]
    exact Bool.false_ne_true
  refine call_meets F.slot_list_extend ⟨_, e, rfl⟩ F.entry_list_extend (F.args_list_extend_2 _ _) (ext_tup l its.toArray n b its2.toArray n2 dd sl hlong (by rw [List.size_toArray]; omega) (by omega)) ⟨e, e2, ?_⟩
  refine ⟨.non, _, I.lset (its' := its ++ its2) hH e (by simp) (r.append r2) ?_, rfl, q⟩
  rw [List.length_append]
  omega
/-- where a method stands -/
structure Dm (K : PySem.W.Frag) (x qual : Str) (st : Stmt) (ps : List Str) (f : Addr) (fd : FuncData) : Prop where
  F : Fun K x qual st f fd
  b : Binds K fd ps []
/-! ### steps -/
section
variable {K : PySem.W.Frag} {σ : L2.St} {H : Hp} {Q : VK} {ta te : TE} {t : TA} {C f : Addr} {E : XK} {R : It → Hp → Prop}
def kFld (K : PySem.W.Frag) (fl : Str) (Q : VK) : VK := fun x H1 => ∃ a C dx fs v, x = .ref a ∧ H1 a = some (.ins C dx fs) ∧ L2.Cls K C ∧ L2.NoAttr K C fl ∧ fs.lookup fl = some v ∧ Q v H1
theorem z_fld {fl : Str} (h : ta σ H (kFld K fl Q)) : tFld K ta fl σ H Q := h
theorem z_maker {m : Str} {ps : List T} {x : V} (M : MadeC K C f) (h : MadeAt K C H (.node m ps) x) (q : Q (.str m) H) : kFld K "maker" Q x H := by
  rw [MadeAt] at h
  obtain ⟨a, dx, p, vs, fs, rfl, h2, h3, h4, h5, h6⟩ := h
  exact ⟨a, C, dx, fs, _, rfl, h2, M.cl, M.nM, h3, q⟩
theorem z_parts {m : Str} {ps : List T} {x : V} (M : MadeC K C f) (h : MadeAt K C H (.node m ps) x) (q : ∀ p vs, SqT K H p vs → MadeAll K C H ps vs → vs.length = ps.length → Q (.ref p) H) : kFld K "parts" Q x H := by
  rw [MadeAt] at h
  obtain ⟨a, dx, p, vs, fs, rfl, h2, h3, h4, h5, h6⟩ := h
  exact ⟨a, C, dx, fs, _, rfl, h2, M.cl, M.nP, h4, q p vs h5 h6 (mades_len h6)⟩
/-- what Made.__init__ promises -/
def spMadeI (K : PySem.W.Frag) (C : Addr) : Sp := fun vs H Q _ => ∃ (x dx p : Addr) (m : V) (ws : List V), vs = [.ref x, m, .ref p] ∧ H x = some (.ins C dx []) ∧ SqT K H p ws ∧
  ∀ H' fs, But x H H' → H' x = some (.ins C dx fs) → fs.lookup ("maker" : Str) = some m → fs.lookup ("parts" : Str) = some (V.ref p) → Q .non H'
def kMade (C : Addr) (sp : Sp) (E : XK) (Q : VK) : List V → Hp → Prop := fun vs H1 => ∀ x dx, H1 x = none → H1 dx = none → dx ≠ x → sp (.ref x :: (vs ++ [])) (upd (upd H1 dx (.own x)) x (.ins C dx [])) (fun v H2 => v = .non ∧ Q (.ref x) H2) E
theorem z_make {sp : Sp} (h : t σ H (kMade C sp E Q)) : tMake C sp [] E t σ H Q := h
theorem z_made {p : Addr} {m : V} {ws : List V} (h : SqT K H p ws) (k : ∀ x dx fs H', H x = none → Same H H' → H' x = some (.ins C dx fs) → fs.lookup ("maker" : Str) = some m → fs.lookup ("parts" : Str) = some (V.ref p) → Q (.ref x) H') : kMade C (spMadeI K C) E Q [m, .ref p] H := by
  intro x dx hx hdx hne
  have s1 : Same H (upd (upd H dx (.own x)) x (.ins C dx [])) := fun a o e => by
    rw [upd_ne (ne_of_none e hx), upd_ne (ne_of_none e hdx)]
    exact e
  refine ⟨x, dx, p, m, ws, rfl, upd_same, same_st s1 h, fun H' fs b h1 h2 h3 => ⟨rfl, k x dx fs H' hx (fun a o e => ?_) h1 h2 h3⟩⟩
  exact b a o (ne_of_none e hx) (s1 a o e)
theorem made_mk {m : Str} {ps : List T} {ws : List V} {p x dx : Addr} {fs : List (Str × V)} {H' : Hp} (h0 : H' x = some (.ins C dx fs)) (h1 : fs.lookup ("maker" : Str) = some (V.str m)) (h2 : fs.lookup ("parts" : Str) = some (V.ref p)) (h3 : SqT K H' p ws) (h4 : MadeAll K C H' ps ws) : MadeAt K C H' (.node m ps) (.ref x) := by
  rw [MadeAt]
  exact ⟨x, dx, p, ws, fs, rfl, h0, h1, h2, h3, h4⟩
theorem z_iEnumT (h : t σ H (kIEt K R)) : iEnumT K t σ H R := h
theorem z_kIEt {a : Addr} {xs : List V} (h : SqT K H a xs) (q : R (ItEt K a xs) H) : kIEt K R [.ref a] H := ⟨a, xs, rfl, h, q⟩
end
end Nm

/-! The own layer: plain functions over values: places, parts, cells. -/
namespace Nm
open PySem
def partAt : T → List Nat → Option T
  | t, [] => some t
  | .node _ ps, k :: r => match ps[k]? with
    | some p => partAt p r
    | none => none
  | .num _, _ :: _ => none
def withAt : T → List Nat → T → Option T
  | _, [], q => some q
  | .node m ps, k :: r, q => match ps[k]? with
    | some p => (withAt p r q).map fun p' => .node m (ps.set k p')
    | none => none
  | .num _, _ :: _, _ => none
mutual
def cellsT : T → List (List Nat × T)
  | .num n => [([], .num n)]
  | .node m ps => ([], .node m ps) :: cellsAll 0 ps
def cellsAll : Nat → List T → List (List Nat × T)
  | _, [] => []
  | k, t :: ts => (cellsT t).map (fun c => (k :: c.1, c.2)) ++ cellsAll (k + 1) ts
end
mutual
theorem cells_len : ∀ t : T, (cellsT t).length = t.size
  | .num n => rfl
  | .node m ps => by
    have := cellsAll_len 0 ps
    rw [cellsT, T.size, List.length_cons, this]
    omega
theorem cellsAll_len : ∀ (k : Nat) (ts : List T), (cellsAll k ts).length = sizeAll ts
  | k, [] => rfl
  | k, t :: ts => by
    rw [cellsAll, sizeAll, List.length_append, List.length_map, cells_len t, cellsAll_len (k + 1) ts]
end
theorem partAt_app : ∀ (p : List Nat) (t : T) (r : List Nat), partAt t (p ++ r) = (partAt t p).bind fun s => partAt s r
  | [], t, r => by simp [partAt]
  | k :: p, .num n, r => by simp [partAt]
  | k :: p, .node m ps, r => by
    rw [List.cons_append, partAt, partAt]
    cases ps[k]? with
    | none => rfl
    | some s => exact partAt_app p s r
mutual
theorem cells_part : ∀ (t : T) {c : List Nat × T}, c ∈ cellsT t → partAt t c.1 = some c.2
  | .num n, c, h => by
    rw [cellsT, List.mem_singleton] at h
    rw [h]
    rfl
  | .node m ps, c, h => by
    rw [cellsT] at h
    rcases List.mem_cons.mp h with q | q
    · rw [q]; simp [partAt]
    · obtain ⟨k, p, s, e1, e2, e3⟩ := cellsAll_part 0 ps q
      rw [e1, Nat.zero_add, partAt, e2]
      exact e3
theorem cellsAll_part : ∀ (j : Nat) (ts : List T) {c : List Nat × T}, c ∈ cellsAll j ts → ∃ (k : Nat) (p : List Nat) (s : T), c.1 = (j + k) :: p ∧ ts[k]? = some s ∧ partAt s p = some c.2
  | j, [], c, h => by rw [cellsAll] at h; cases h
  | j, t :: ts, c, h => by
    rw [cellsAll] at h
    rcases List.mem_append.mp h with q | q
    · obtain ⟨c', hc, rfl⟩ := List.mem_map.mp q
      exact ⟨0, c'.1, t, rfl, rfl, cells_part t hc⟩
    · obtain ⟨k, p, s, e1, e2, e3⟩ := cellsAll_part (j + 1) ts q
      exact ⟨k + 1, p, s, by rw [e1]; congr 1; omega, e2, e3⟩
end
mutual
theorem cells_short : ∀ (t : T) {c : List Nat × T}, c ∈ cellsT t → c.1.length < t.size
  | .num n, c, h => by
    rw [cellsT, List.mem_singleton] at h
    rw [h, T.size]
    exact Nat.zero_lt_one
  | .node m ps, c, h => by
    rw [cellsT] at h
    rw [T.size]
    rcases List.mem_cons.mp h with q | q
    · rw [q]; show 0 < _; omega
    · have := cellsAll_short 0 ps q
      omega
theorem cellsAll_short : ∀ (j : Nat) (ts : List T) {c : List Nat × T}, c ∈ cellsAll j ts → c.1.length ≤ sizeAll ts
  | j, [], c, h => by rw [cellsAll] at h; cases h
  | j, t :: ts, c, h => by
    rw [cellsAll] at h
    rw [sizeAll]
    rcases List.mem_append.mp h with q | q
    · obtain ⟨c', hc, rfl⟩ := List.mem_map.mp q
      have := cells_short t hc
      show c'.1.length + 1 ≤ _
      omega
    · have := cellsAll_short (j + 1) ts q
      omega
end
theorem part_num {n : Int} {k : Nat} {r : List Nat} : partAt (.num n) (k :: r) = none := by simp [partAt]
theorem part_out {m : Str} {ps : List T} {k : Nat} {r : List Nat} (h : ps.length ≤ k) : partAt (.node m ps) (k :: r) = none := by
  rw [partAt, List.getElem?_eq_none h]
theorem with_none : ∀ (p : List Nat) (t q : T), partAt t p = none → withAt t p q = none
  | [], t, q, h => by simp [partAt] at h
  | k :: p, .num n, q, h => by simp [withAt]
  | k :: p, .node m ps, q, h => by
    rw [partAt] at h
    rw [withAt]
    cases e : ps[k]? with
    | none => rfl
    | some s =>
      rw [e] at h
      show (withAt s p q).map _ = none
      rw [with_none p s q h]
      rfl
theorem with_some : ∀ (p : List Nat) (t q : T) {s : T}, partAt t p = some s → ∃ r, withAt t p q = some r
  | [], t, q, s, h => ⟨q, by simp [withAt]⟩
  | k :: p, .num n, q, s, h => by simp [partAt] at h
  | k :: p, .node m ps, q, s, h => by
    rw [partAt] at h
    rw [withAt]
    cases e : ps[k]? with
    | none => rw [e] at h; cases h
    | some u =>
      rw [e] at h
      obtain ⟨r, hr⟩ := with_some p u q h
      exact ⟨_, by show (withAt u p q).map _ = _; rw [hr]; rfl⟩
/-! the stack of places_of -/
def stackP (st : List (List Nat × T)) : List (List Nat) := (st.reverse.map fun x => (cellsT x.2).map fun c => x.1 ++ c.1).flatten
theorem stackP_nil : stackP [] = [] := rfl
theorem stackP_app (a b : List (List Nat × T)) : stackP (a ++ b) = stackP b ++ stackP a := by
  unfold stackP
  rw [List.reverse_append, List.map_append, List.flatten_append]
theorem stackP_one (p : List Nat) (t : T) : stackP [(p, t)] = (cellsT t).map fun c => p ++ c.1 := by simp [stackP]
theorem inner_cells (p : List Nat) : ∀ (ts : List T) (k : Nat), ((ts.zipIdx k).map fun x => (cellsT x.1).map fun c => (p ++ [x.2]) ++ c.1).flatten = (cellsAll k ts).map fun c => p ++ c.1
  | [], k => rfl
  | t :: ts, k => by
    rw [List.zipIdx_cons, List.map_cons, List.flatten_cons, inner_cells p ts (k + 1), cellsAll, List.map_append, List.map_map]
    congr 1
    refine List.map_congr_left fun c _ => ?_
    simp
theorem stackP_inner (p : List Nat) (ts : List T) : stackP ((ts.zipIdx.map fun x => (p ++ [x.2], x.1)).reverse) = (cellsAll 0 ts).map fun c => p ++ c.1 := by
  unfold stackP
  rw [List.reverse_reverse, List.map_map, ← inner_cells p ts 0]
  rfl
/-! the frames of value_with -/
abbrev Fr3 := Str × List T × Nat
def putFr (q : T) (f : Fr3) : T := .node f.1 (f.2.1.set f.2.2 q)
def rebuild (fr : List Fr3) (q : T) : T := fr.foldr (fun f q => putFr q f) q
theorem rebuild_app (fr : List Fr3) (f : Fr3) (q : T) : rebuild (fr ++ [f]) q = rebuild fr (putFr q f) := by
  unfold rebuild
  rw [List.foldr_append]
  rfl
theorem set_parts {α : Type} (ps : List α) (k : Nat) (q : α) (h : k < ps.length) : ps.take k ++ [q] ++ ps.drop (k + 1) = ps.set k q := by
  rw [List.set_eq_take_append_cons_drop, if_pos h, List.append_assoc]
  rfl
/-! chains -/
def chainB (b : T) : Nat → T
  | 0 => b
  | k + 1 => .node "Cons" [.num k, chainB b k]
theorem chain_size (b : T) (hb : b.size = 1) : ∀ n, (chainB b n).size = 2 * n + 1
  | 0 => by rw [chainB, hb]
  | n + 1 => by
    rw [chainB, T.size, sizeAll, sizeAll, sizeAll, chain_size b hb n, T.size]
    omega
theorem chain_part (b : T) : ∀ (k n : Nat), partAt (chainB b (n + k)) (List.replicate k 1) = some (chainB b n)
  | 0, n => by simp [partAt]
  | k + 1, n => by
    rw [← Nat.add_assoc, chainB, List.replicate_succ, partAt]
    exact chain_part b k n
theorem chain_with (b c : T) : ∀ n, withAt (chainB b n) (List.replicate n 1) c = some (chainB c n)
  | 0 => by simp [withAt, chainB]
  | n + 1 => by
    rw [chainB, List.replicate_succ, withAt]
    have e : ([T.num (n : Nat), chainB b n])[1]? = some (chainB b n) := rfl
    rw [e]
    show (withAt (chainB b n) (List.replicate n 1) c).map _ = _
    rw [chain_with b c n]
    rfl
theorem chain_inj {b c : T} : ∀ {n : Nat}, chainB b n = chainB c n → b = c
  | 0, h => h
  | n + 1, h => by
    rw [chainB, chainB] at h
    injection h with _ h
    injection h with _ h
    injection h with h _
    exact chain_inj h
theorem chain_cells (b : T) (n : Nat) : (cellsT (chainB b (n + 1))).map Prod.fst = [] :: [0] :: ((cellsT (chainB b n)).map Prod.fst).map (1 :: ·) := by
  rw [chainB, cellsT, cellsAll, cellsAll, cellsAll, cellsT]
  simp [List.map_map, Function.comp_def]
theorem chain_last (b : T) (hb : (cellsT b).map Prod.fst = [[]]) : ∀ n, ((cellsT (chainB b n)).map Prod.fst).getLast? = some (List.replicate n 1)
  | 0 => by rw [chainB, hb]; rfl
  | n + 1 => by
    rw [chain_cells]
    have ih := chain_last b hb n
    cases e : (cellsT (chainB b n)).map Prod.fst with
    | nil => rw [e] at ih; cases ih
    | cons x l =>
      rw [e] at ih
      have e2 : ((x :: l).map (1 :: ·)).getLast? = (some (List.replicate n 1)).map (1 :: ·) := by rw [List.getLast?_map, ih]
      rw [List.map_cons] at e2
      rw [List.getLast?_cons_cons, List.map_cons, List.getLast?_cons_cons, e2]
      rfl
end Nm

/-! The own layer: steps: x += e, while len(xs) > 0, pop, extend, append of a new list, slices of tuples, tuples added. -/
namespace Nm
open PySem PySem.Spec PyProof.Rows L2
section
variable {K : PySem.W.Frag} {σ : L2.St} {H : Hp} {Q : VK} {D : Ends} {te ta : TE} {tb : TS} {x v : V}
theorem z_aug {i : Nat} {ti : TIp} (h : σ[i]? = some (some x)) (q : te σ H fun y H1 => ti x y H1 fun z H2 => D.nx (σ.set i (some z)) H2) : tAug i te ti D σ H := ⟨x, h, q⟩
theorem z_ipI {f : Int → Int → Int} {i j : Int} (q : Q (.int (f i j)) H) : ipI f (.int i) (.int j) H Q := ⟨i, j, rfl, rfl, q⟩
/-- while len(xs) > 0, xs the list in slot i -/
theorem f_whileL {i : Nat} (W : Nat → L2.St → Hp → Prop) {m0 : Nat} (h0 : W m0 σ H)
    (hs : ∀ m σ H, W m σ H → ∃ p ys, σ[i]? = some (some (.ref p)) ∧ H p = some (.lst ys) ∧ (ys ≠ [] → tb { D with nx := fun σ' H' => ∃ m', m' < m ∧ W m' σ' H', ct := fun σ' H' => ∃ m', m' < m ∧ W m' σ' H', bk := D.nx } σ H) ∧ (ys = [] → D.nx σ H)) :
    tWhile (tTest (tOp (rI0 fun i j => .bl (decide (j < i))) (tCB (nLenL K) (tCons (tVar i) tNil)) (tC (.int 0)))) tb D σ H := by
  refine ⟨W, ⟨m0, h0⟩, fun m σ H w => ?_⟩
  obtain ⟨a, ys, e1, e2, h1, h2⟩ := hs m σ H w
  refine ⟨.ref a, e1, a, ys, rfl, .inl (SqL.of e2), (ys.length : Int), 0, rfl, rfl, _, rfl, ?_⟩
  cases ys with
  | nil => exact iteF' (by simp) (h2 rfl)
  | cons y ys => exact iteT' (by simp) ⟨_, fun _ _ z => z, h1 (by simp)⟩
where
  iteF' {b : Bool} {A B : Prop} (h : b = false) (q : B) : if b = true then A else B := by rw [h]; simpa using q
  iteT' {b : Bool} {A B : Prop} (h : b = true) (q : A) : if b = true then A else B := by rw [h]; simpa using q
def kSt (K : PySem.W.Frag) (f : Str) (D : Ends) (σ : L2.St) (y : V) : VK := fun x H2 => ∃ a C dx fs, x = .ref a ∧ H2 a = some (.ins C dx fs) ∧ L2.Cls K C ∧ L2.NoAttr K C f ∧ fs.length < 1000 ∧ D.nx σ (upd H2 a (.ins C dx (putF f y fs)))
theorem z_sfld {f : Str} {tv : TE} (h : tv σ H fun y H1 => ta σ H1 (kSt K f D σ y)) : sFld K ta tv f D σ H := h
theorem z_kSt {f : Str} {y : V} {a C dx : Addr} {fs : List (Str × V)} (h : H a = some (.ins C dx fs)) (c : L2.Cls K C) (n : L2.NoAttr K C f) (hl : fs.length < 1000) (q : D.nx σ (upd H a (.ins C dx (putF f y fs)))) : kSt K f D σ y (.ref a) H := ⟨a, C, dx, fs, rfl, h, c, n, hl, q⟩
theorem z_callS {sp : Sp} {E : L2.St → XK} {t : TA} (h : t σ H fun vs H1 => sp vs H1 Q (E σ)) : tCallS sp E t σ H Q := h
theorem z_bm0 {T : String} {r : V → List V → Hp → VK → Prop} (h : ta σ H fun x H1 => tyV K T x H1 ∧ r x [] H1 Q) : tBM0 K T r ta σ H Q := h
/-- xs.pop() -/
theorem z_pop {l : Addr} {xs : List V} {y : V} (h : H l = some (.lst (xs ++ [y]))) (q : Q y (upd H l (.lst xs))) : rPop (.ref l) [] H Q :=
  ⟨l, xs ++ [y], y, rfl, rfl, h, by simp, by rw [List.dropLast_concat]; exact q⟩
theorem z_extT {l b : Addr} {xs zs : List V} (h : H l = some (.lst xs)) (hb : SqT K H b zs) (hz : xs.length + zs.length ≤ sizeLine) (q : Q .non (upd H l (.lst (xs ++ zs)))) : rExtT K (.ref l) [.ref b] H Q := ⟨l, b, xs, zs, rfl, rfl, h, hb, hz, q⟩
theorem z_ext {l b : Addr} {xs zs : List V} (h : H l = some (.lst xs)) (hb : H b = some (.lst zs)) (hz : xs.length + zs.length ≤ sizeLine) (q : Q .non (upd H l (.lst (xs ++ zs)))) : rExtend (.ref l) [.ref b] H Q := ⟨l, b, xs, zs, rfl, rfl, h, hb, hz, q⟩
theorem z_app {l : Addr} {xs : List V} (h : H l = some (.lst xs)) (hz : xs.length < sizeLine) (q : Q .non (upd H l (.lst (xs ++ [v])))) : rAppend (.ref l) [v] H Q := ⟨l, xs, v, rfl, rfl, h, hz, q⟩
theorem z_iadd {l b : Addr} {xs zs : List V} (h : H l = some (.lst xs)) (hb : H b = some (.lst zs)) (hz : xs.length + zs.length ≤ sizeLine) (q : Q (.ref l) (upd H l (.lst (xs ++ zs)))) : rExt2 (.ref l) (.ref b) H Q := ⟨l, b, xs, zs, rfl, rfl, h, hb, hz, q⟩
theorem ty_lst {l : Addr} {xs : List V} (h : H l = some (.lst xs)) : tyV K "list" (.ref l) H := .inl ⟨rfl, _, SqL.of h⟩
def kRevL (K : PySem.W.Frag) (Q : VK) : VK := fun x H1 => ∃ a xs, x = .ref a ∧ SqL K H1 a xs ∧ ∀ p, H1 p = none → Q (.ref p) (upd H1 p (.lst xs.reverse))
theorem z_revL (h : te σ H (kRevL K Q)) : tRevL K te σ H Q := h
theorem z_kRevL {a : Addr} {xs : List V} (h : SqL K H a xs) (k : ∀ p H', H p = none → Same H H' → H' p = some (.lst xs.reverse) → Q (.ref p) H') : kRevL K Q (.ref a) H := ⟨a, xs, rfl, h, new_by (R := fun p H' => Q (.ref p) H') fun p H' a b c _ => k p H' a b c⟩
def kZip (K : PySem.W.Frag) (R : It → Hp → Prop) : List V → Hp → Prop := fun vs H1 => ∃ a b xs ys, vs = [.ref a, .ref b] ∧ ((SqL K H1 a xs ∧ SqL K H1 b ys ∧ R (Itz K a b) H1) ∨ (SqT K H1 a xs ∧ SqT K H1 b ys ∧ R (RZ.ItzT K a b) H1))
theorem z_iZip {t : TA} {R : It → Hp → Prop} (h : t σ H (kZip K R)) : RZ.iZipA K t σ H R := h
theorem z_kZipT {R : It → Hp → Prop} {a b : Addr} {xs ys : List V} (h1 : SqT K H a xs) (h2 : SqT K H b ys) (q : R (RZ.ItzT K a b) H) : kZip K R [.ref a, .ref b] H := ⟨a, b, xs, ys, rfl, .inr ⟨h1, h2, q⟩⟩
/-- tuples added -/
theorem z_catA {a b : Addr} {xs ys : List V} (h1 : SqT K H a xs) (h2 : SqT K H b ys) (hl : xs.length + ys.length ≤ sizeLine) (k : ∀ p H', Same H H' → SqT K H' p (xs ++ ys) → (H p = none ∨ xs = [] ∨ ys = []) → Q (.ref p) H') : rCatA K (.ref a) (.ref b) H Q := by
  refine ⟨a, b, xs, ys, rfl, rfl, h1, h2, hl, fun e => ?_, fun _ e => ?_, fun _ _ p hp => ?_⟩
  · subst e
    exact k b H (Same.refl _) h2 (.inr (.inl rfl))
  · subst e
    exact k a H (Same.refl _) (by rw [List.append_nil]; exact h1) (.inr (.inr rfl))
  · exact k p _ (Same.new hp) (SqT.of upd_same) (.inl hp)
/-- t[lo:hi] -/
theorem z_slA {a : Addr} {xs : List V} {lo hi : Option Int} (h : SqT K H a xs) (k : ∀ p H', Same H H' → SqT K H' p (cutV xs lo hi) → Q (.ref p) H') : rSlA K (.ref a) lo hi H Q := by
  refine ⟨a, xs, rfl, h, fun e => ?_, fun _ p hp => k p _ (Same.new hp) (SqT.of upd_same)⟩
  refine k a H (Same.refl _) ?_
  have e2 : cutV xs lo hi = xs := by
    unfold cutV
    rw [e.1, e.2]
    simp
  rw [e2]
  exact h
end
section
variable {K : PySem.W.Frag} {σ : L2.St} {H : Hp} {D : Ends} {g : TG} {tb : TS}
theorem f_enumL {a : Addr} {xs : List V} (Pv : Nat → L2.St → Hp → Prop) (h0 : Pv 0 σ H) (hl : ∀ i σ H, Pv i σ H → SqL K H a xs)
    (hs : ∀ (i : Nat) x U σ H H', xs[i]? = some x → Pv i σ H → Same H H' → H' U = some (.tup [.int (i : Nat), x]) → g (.ref U) σ H' fun σ2 H2 => tb { D with nx := Pv (i + 1), ct := Pv (i + 1), bk := D.nx } σ2 H2) (hd : ∀ σ H, Pv xs.length σ H → D.nx σ H) : kFor g tb D σ (Ite K a) H :=
  for_it walk_enumL Pv h0 (fun i σ H _ p => hl i σ H p) (fun i x σ H H' hi p ⟨U, v, ex, hT, hv, eH⟩ => by subst ex eH; exact hs i v U σ H _ hv p (Same.new hT) upd_same) hd
/-- the promise for one less deep; none at the bottom -/
def spRec (sp : Nat → Sp) : Nat → Sp
  | 0 => fun _ _ _ _ => False
  | n + 1 => sp n
theorem rec_ok {P : Program} {w : World} {mg : Str → Option Value} {base : Heap} {CX : CXT} {f : Addr} {fd : FuncData} {ps : List Str} (k : Nat) (sp : Nat → Sp) (h : ∀ n, FnOk P w K mg base CX (k + n) f fd ps (spRec sp n) → FnOk P w K mg base CX (k + n + 1) f fd ps (sp n)) : ∀ n, FnOk P w K mg base CX (k + n + 1) f fd ps (sp n)
  | 0 => h 0 ⟨fun _ _ _ _ z => z.elim, fun _ _ _ _ _ _ _ _ _ _ _ _ _ z => z.elim⟩
  | n + 1 => h (n + 1) (rec_ok k sp h n)
theorem dps_own {H : Hp} : ∀ {ys : List V} {ts : List T}, ys.length = ts.length → (∀ (i : Nat) (v : V) (t : T), ys[i]? = some v → ts[i]? = some t → Dp K H v t.own) → DpAll K H ys (ownAll ts)
  | [], [], _, _ => by rw [ownAll]; exact .nil
  | [], t :: ts, h, _ => by cases h
  | y :: ys, [], h, _ => by cases h
  | y :: ys, t :: ts, hl, h => by
    rw [ownAll]
    exact .cons (h 0 y t rfl rfl) (dps_own (by simpa using hl) fun i v t' e1 e2 => h (i + 1) v t' e1 e2)
theorem dps_own_at {H : Hp} : ∀ {ys : List V} {ts : List T}, DpAll K H ys (ownAll ts) → ys.length = ts.length ∧ ∀ (i : Nat) (v : V) (t : T), ys[i]? = some v → ts[i]? = some t → Dp K H v t.own
  | [], [], _ => ⟨rfl, fun i v t e _ => by simp at e⟩
  | [], t :: ts, h => by rw [ownAll] at h; cases h
  | y :: ys, [], h => by rw [ownAll] at h; cases h
  | y :: ys, t :: ts, h => by
    rw [ownAll] at h
    cases h with
    | cons h1 h2 =>
      obtain ⟨l, q⟩ := dps_own_at h2
      refine ⟨by rw [List.length_cons, List.length_cons, l], fun i v t' e1 e2 => ?_⟩
      cases i with
      | zero => cases e1; cases e2; exact h1
      | succ i => exact q i v t' e1 e2
end
theorem cutV_to (xs : List V) (k : Nat) : cutV xs none (some (k : Int)) = xs.take k := by
  unfold cutV
  rw [HT.sIx_nat, HT.sIx_none, List.drop_zero, Nat.sub_zero, Nat.min_def]
  by_cases h : k ≤ xs.length
  · rw [if_pos h]
  · rw [if_neg h, List.take_length, List.take_of_length_le (by omega)]
theorem cutV_from (xs : List V) (k : Nat) : cutV xs (some (k : Int)) none = xs.drop k := by
  unfold cutV
  rw [HT.sIx_nat, HT.sIx_none]
  by_cases h : k ≤ xs.length
  · rw [Nat.min_eq_left h, List.take_of_length_le (by rw [List.length_drop]; omega)]
  · rw [Nat.min_eq_right (by omega), List.drop_length, List.take_nil, List.drop_of_length_le (by omega)]
end Nm

namespace K01
open PySem PySem.Spec PyProof.Rows L2 Nm
def top (i : Nat) : Stmt := PySem.Challenge.pw_namedmeets_k01_values_and_places.main.body.getD i (.Pass ⟨0, 0, 0, 0⟩)
abbrev sinit : Stmt := Nm.inClass (top 4) 0
theorem scinit : FnScope ["self", "maker", "parts"] ["self", "maker", "parts"] (defScope sinit) := ⟨rfl, rfl, rfl, by decide +kernel, rfl, by decide +kernel, by decide +kernel⟩
abbrev seq : Stmt := Nm.inClass (top 4) 1
theorem sceq : FnScope ["self", "other", "pairs", "one", "two", "a", "b"] ["self", "other"] (defScope seq) := ⟨rfl, rfl, rfl, by decide +kernel, rfl, by decide +kernel, by decide +kernel⟩
abbrev ssize : Stmt := top 5
theorem scsize : FnScope ["value", "many", "rest", "one"] ["value"] (defScope ssize) := ⟨rfl, rfl, rfl, by decide +kernel, rfl, by decide +kernel, by decide +kernel⟩
abbrev splaces : Stmt := top 6
theorem scplaces : FnScope ["value", "found", "rest", "place", "one", "inner", "at", "part"] ["value"] (defScope splaces) := ⟨rfl, rfl, rfl, by decide +kernel, rfl, by decide +kernel, by decide +kernel⟩
abbrev spartat : Stmt := top 7
theorem scpartat : FnScope ["value", "place", "at"] ["value", "place"] (defScope spartat) := ⟨rfl, rfl, rfl, by decide +kernel, rfl, by decide +kernel, by decide +kernel⟩
abbrev swith : Stmt := top 8
theorem scwith : FnScope ["value", "place", "part", "above", "at", "outer"] ["value", "place", "part"] (defScope swith) := ⟨rfl, rfl, rfl, by decide +kernel, rfl, by decide +kernel, by decide +kernel⟩
abbrev spen : Stmt := top 10
theorem scpen : FnScope ["_law_script", "_law_fold", "_law_cell"] ["_law_script"] (defScope spen) := ⟨rfl, rfl, rfl, by decide +kernel, rfl, by decide +kernel, by decide +kernel⟩
abbrev sdraw : Stmt := top 11
theorem scdraw : FnScope ["_law_pen_here", "_law_many", "_law_cell", "_law_digit", "_law_mixed"] ["_law_pen_here", "_law_many"] (defScope sdraw) := ⟨rfl, rfl, rfl, by decide +kernel, rfl, by decide +kernel, by decide +kernel⟩
abbrev spick : Stmt := top 12
theorem scpick : FnScope ["_law_pen_here", "_law_some"] ["_law_pen_here", "_law_some"] (defScope spick) := ⟨rfl, rfl, rfl, by decide +kernel, rfl, by decide +kernel, by decide +kernel⟩
abbrev sown : Stmt := top 13
theorem scown : FnScope ["_law_value", "_law_part"] ["_law_value"] (defScope sown) := ⟨rfl, rfl, rfl, by decide +kernel, rfl, by decide +kernel, by decide +kernel⟩
abbrev smade : Stmt := top 14
theorem scmade : FnScope ["_law_value", "_law_part"] ["_law_value"] (defScope smade) := ⟨rfl, rfl, rfl, by decide +kernel, rfl, by decide +kernel, by decide +kernel⟩
abbrev sany : Stmt := top 15
theorem scany : FnScope ["_law_pen_here", "_law_depth", "_law_way", "_law_parts", "_law_k"] ["_law_pen_here", "_law_depth"] (defScope sany) := ⟨rfl, rfl, rfl, by decide +kernel, rfl, by decide +kernel, by decide +kernel⟩
abbrev scells : Stmt := top 16
theorem sccells : FnScope ["_law_value", "_law_found", "_law_k", "_law_part", "_law_place", "_law_one"] ["_law_value"] (defScope scells) := ⟨rfl, rfl, rfl, by decide +kernel, rfl, by decide +kernel, by decide +kernel⟩
abbrev sput : Stmt := top 17
theorem scput : FnScope ["_law_value", "_law_place", "_law_part", "_law_parts"] ["_law_value", "_law_place", "_law_part"] (defScope sput) := ⟨rfl, rfl, rfl, by decide +kernel, rfl, by decide +kernel, by decide +kernel⟩
abbrev snoplace : Stmt := top 18
theorem scnoplace : FnScope ["_law_value", "_law_place", "e"] ["_law_value", "_law_place"] (defScope snoplace) := ⟨rfl, rfl, rfl, by decide +kernel, rfl, by decide +kernel, by decide +kernel⟩
abbrev schain : Stmt := top 19
theorem scchain : FnScope ["_law_pen_here", "_law_many", "_law_value", "_law_place", "_law_last", "_law_k", "_law_other", "_law_told"] ["_law_pen_here"] (defScope schain) := ⟨rfl, rfl, rfl, by decide +kernel, rfl, by decide +kernel, by decide +kernel⟩
abbrev slaw : Stmt := top 20
theorem sclaw : FnScope ["_law_script", "_law_pen_here", "_law_own_here", "_law_value", "_law_cells_here", "_law_place", "_law_one", "_law_wrong", "_law_part", "_law_other", "_law_due"] ["_law_script"] (defScope slaw) := ⟨rfl, rfl, rfl, by decide +kernel, rfl, by decide +kernel, by decide +kernel⟩
/-- what the top has written -/
structure Tx (P : Program) (K : PySem.W.Frag) (mg : Str → Option Value) where
  ainit : Addr
  fdinit : FuncData
  Dinit : Nm.Dm K "__init__" "Made.__init__" sinit ["self", "maker", "parts"] ainit fdinit
  aeq : Addr
  fdeq : FuncData
  Deq : Nm.Dm K "__eq__" "Made.__eq__" seq ["self", "other"] aeq fdeq
  asize : Addr
  fdsize : FuncData
  Dsize : Nm.Df K mg "size_of" ssize ["value"] asize fdsize
  aplaces : Addr
  fdplaces : FuncData
  Dplaces : Nm.Df K mg "places_of" splaces ["value"] aplaces fdplaces
  apartat : Addr
  fdpartat : FuncData
  Dpartat : Nm.Df K mg "part_at" spartat ["value", "place"] apartat fdpartat
  awith : Addr
  fdwith : FuncData
  Dwith : Nm.Df K mg "value_with" swith ["value", "place", "part"] awith fdwith
  apen : Addr
  fdpen : FuncData
  Dpen : Nm.Df K mg "_law_pen" spen ["_law_script"] apen fdpen
  adraw : Addr
  fddraw : FuncData
  Ddraw : Nm.Df K mg "_law_draw" sdraw ["_law_pen_here", "_law_many"] adraw fddraw
  apick : Addr
  fdpick : FuncData
  Dpick : Nm.Df K mg "_law_pick" spick ["_law_pen_here", "_law_some"] apick fdpick
  aown : Addr
  fdown : FuncData
  Down : Nm.Df K mg "_law_own" sown ["_law_value"] aown fdown
  amade : Addr
  fdmade : FuncData
  Dmade : Nm.Df K mg "_law_made" smade ["_law_value"] amade fdmade
  aany : Addr
  fdany : FuncData
  Dany : Nm.Df K mg "_law_any_value" sany ["_law_pen_here", "_law_depth"] aany fdany
  acells : Addr
  fdcells : FuncData
  Dcells : Nm.Df K mg "_law_cells" scells ["_law_value"] acells fdcells
  aput : Addr
  fdput : FuncData
  Dput : Nm.Df K mg "_law_put" sput ["_law_value", "_law_place", "_law_part"] aput fdput
  anoplace : Addr
  fdnoplace : FuncData
  Dnoplace : Nm.Df K mg "_law_no_place" snoplace ["_law_value", "_law_place"] anoplace fdnoplace
  achain : Addr
  fdchain : FuncData
  Dchain : Nm.Df K mg "_law_chain_right" schain ["_law_pen_here"] achain fdchain
  alaw : Addr
  fdlaw : FuncData
  Dlaw : Nm.Df K mg "law" slaw ["_law_script"] alaw fdlaw
  n_len : mg "len" = none
  n_enumerate : mg "enumerate" = none
  n_list : mg "list" = none
  n_int : mg "int" = none
  n_range : mg "range" = none
  n_isinstance : mg "isinstance" = none
  n_tuple : mg "tuple" = none
  n_bool : mg "bool" = none
  n_zip : mg "zip" = none
  n_super : mg "super" = none
  CNoName : Addr
  ENoName : NmE.Err P K mg "NoName" CNoName ["name"]
  x_NoName_NoName : PySem.W.exmOne K (.ref CNoName) (.ref CNoName) = some true
  CM : Addr
  g_Made : mg "Made" = some (.ref CM)
  M_Made : L2.Mk K CM ainit
  MM : Nm.MadeC K CM aeq
end K01

open PySem PySem.Spec PyProof.Rows L2 Nm
local macro_rules | `(tactic| walk_at "z0") => `(tactic| (simp only [L2.start, cxOf, Cx.nox, Cx.wish, List.map_cons, List.map_nil, List.length_cons, List.length_nil, List.replicate_succ, List.replicate_zero, List.cons_append, List.nil_append, Nat.reduceAdd, Nat.reduceSub]))
local macro_rules | `(tactic| walk_at "zc") => `(tactic| first | assumption | omega | decide | (refine line_ge ?_; omega) | (unfold CMul; omega) | (unfold CDivW; refine ⟨?_, ?_⟩ <;> first | omega | assumption | decide))
local macro_rules | `(tactic| walk_at "hp") => `(tactic| first | assumption | (refine same_at (by assumption) ?_; walk_at "hp"))
local macro_rules | `(tactic| walk_at "hl") => `(tactic| first | assumption | (refine SqL.of ?_; walk_at "hp") | (refine same_sq (by assumption) ?_; walk_at "hl"))
local macro_rules | `(tactic| walk_at "ht") => `(tactic| first | assumption | (refine SqT.of ?_; walk_at "hp") | (refine same_st (by assumption) ?_; walk_at "ht"))
local macro_rules | `(tactic| walk_at "z1") => `(tactic| first
  | ((with_reducible refine' z_var ?zk ?_); (case zk => exact rfl))
  | with_reducible refine z_c ?_
  | with_reducible refine z_op ?_
  | with_reducible refine z_cons ?_
  | with_reducible refine z_nil ?_
  | with_reducible refine z_rI0 ?_
  | ((with_reducible refine z_rI ?zk ?_); (case zk => walk_at "zc"))
  | with_reducible refine z_rU ?_
  | with_reducible refine z_un ?_
  | with_reducible refine z_cb ?_
  | with_reducible refine z_call ?_
  | with_reducible refine z_dget ?_
  | ((with_reducible refine' z_get_cells ?zk ?_); (case zk => assumption))
  | ((with_reducible refine' z_get_at ?zk ?_); (case zk => assumption))
  | ((with_reducible refine' z_get_digits ?zk ?_); (case zk => assumption))
  | ((with_reducible refine' z_get_count ?zk ?_); (case zk => assumption))
  | ((with_reducible refine' z_get_fold ?zk ?_); (case zk => assumption))
  | with_reducible refine z_dput ?_
  | with_reducible refine z_test ?_
  | with_reducible refine z_tB ?_
  | with_reducible refine z_kT ?_
  | with_reducible refine z_eqI ?_
  | with_reducible refine z_neI ?_
  | with_reducible refine z_eqS ?_
  | with_reducible refine z_neS ?_
  | with_reducible refine z_inC ?_
  | with_reducible refine z_notInC ?_
  | with_reducible refine z_isN ?_
  | ((with_reducible refine z_lenS ?zk ?_); (case zk => walk_at "zc"))
  | ((with_reducible refine z_slS ?zk ?_); (case zk => walk_at "zc"))
  | ((with_reducible refine z_addS ?zk ?_); (case zk => walk_at "zc"))
  | ((with_reducible refine z_mulS ?za ?zb ?zc ?_); (case za => decide); (case zb => decide); (case zc => decide))
  | with_reducible refine z_bm ?_
  | with_reducible refine z_lc ?_
  | with_reducible refine z_tYes ?_
  | with_reducible refine z_notN ?_
  | with_reducible refine z_intI ?_
  | with_reducible refine z_intB ?_
  | with_reducible refine z_sl ?_
  | with_reducible refine z_noPart ?_
  | with_reducible refine z_part ?_
  | with_reducible refine z_kPart ?_
  | with_reducible refine z_tup ?_
  | with_reducible refine z_lst ?_
  | with_reducible refine z_chain ?_
  | with_reducible refine z_kCh ?_
  | with_reducible refine z_andT ?_
  | with_reducible refine z_orT ?_
  | with_reducible refine z_notT ?_
  | with_reducible refine z_andV ?_
  | with_reducible refine z_orV ?_
  | with_reducible refine z_notV ?_
  | with_reducible refine z_kAndV ?_
  | with_reducible refine z_kOrV ?_
  | with_reducible refine z_kNotV ?_
  | with_reducible refine z_ifE ?_
  | with_reducible refine z_seq ?_
  | with_reducible refine z_next ?_
  | with_reducible refine z_brk ?_
  | with_reducible refine z_cnt ?_
  | with_reducible refine z_ret ?_
  | with_reducible refine z_retN ?_
  | with_reducible refine z_ifS ?_
  | with_reducible refine z_drop ?_
  | with_reducible refine z_asg ?_
  | with_reducible refine z_gName ?_
  | with_reducible refine z_gCons ?_
  | with_reducible refine z_gNil ?_
  | with_reducible refine z_par ?_
  | with_reducible refine z_m1 ?_
  | with_reducible refine z_kM1 ?_
  | with_reducible refine z_par3 ?_
  | with_reducible refine z_kPar3 ?_
  | with_reducible refine z_isB ?_
  | with_reducible refine z_notB ?_
  | with_reducible refine z_raiseE ?_
  | with_reducible refine z_kPar ?_
  | with_reducible refine z_nx ?_
  | with_reducible refine z_rt ?_
  | with_reducible refine z_bk ?_
  | with_reducible refine z_ct ?_
  | with_reducible refine z_for ?_
  | with_reducible refine z_iList ?_
  | with_reducible refine z_iTup ?_
  | with_reducible refine z_iStr ?_
  | with_reducible refine z_kIS ?_
  | with_reducible refine z_iRng1 ?_
  | with_reducible refine z_iEnumS ?_
  | with_reducible refine z_iEnum ?_
  | with_reducible refine z_fld ?_
  | with_reducible refine z_callS ?_
  | with_reducible refine z_iZip ?_
  | with_reducible refine z_sfld ?_
  | with_reducible refine z_make ?_
  | with_reducible refine z_iEnumT ?_
  | with_reducible refine z_bm0 ?_
  | ((with_reducible refine' z_aug ?zk ?_); (case zk => exact rfl))
  | with_reducible refine z_ipI ?_
  | with_reducible refine z_revL ?_
  | with_reducible refine z_mkErr ?_
  | with_reducible refine z_exF ?_
  | with_reducible refine z_ifT ?_
  | ((with_reducible refine' z_callP ?zk ?_); (case zk => exact rfl))
  | with_reducible refine z_ofE ?_
  | with_reducible refine z_rtE ?_
  | with_reducible refine z_kIE ?_
  | with_reducible refine z_pcons ?_
  | with_reducible refine z_pnil ?_
  | with_reducible refine iteT ?_
  | with_reducible refine iteF ?_
  | with_reducible refine z_iteNT ?_
  | with_reducible refine z_iteNF ?_)
local macro_rules | `(tactic| walk_at "zz") => `(tactic| repeat walk_at "z1")
namespace K01
open PySem PySem.Spec PyProof.Rows L2 Nm
section
variable {P : Program} {w : World} {K : PySem.W.Frag} {mg : Str → Option Value} {base : Heap}
theorem ok_pen (T : Tx P K mg) : FnOk P w K mg base CX0 1 T.apen T.fdpen ["_law_script"] (spPen K) := by
  refine T.Dpen.F.ok scpen (fun vs H Q E h => ?_) (fun cdv A outer s H vs Q E hr h => ?_)
  · obtain ⟨a, ns, rfl, _⟩ := h
    rfl
  · obtain ⟨a, ns, rfl, hS, k⟩ := h
    have hu := hu_of hr
    refine ⟨_, pss_cons (ps_set (i := 1) scpen.nd rfl (Or.inl rfl) (pe_int))
(pss_cons (ps_for PassesOwn.never rfl (pi_list (pv 0)) (pg_name (i := 2) scpen.nd rfl (Or.inl rfl))
(pss_one (ps_set (i := 1) scpen.nd rfl (Or.inl rfl) (pe_op op_mod (pe_callTy call_int1n (by rfl) T.n_int (by decide +kernel) (pa_cons (pe_op op_add (pe_op op_mul (pv 1) (pe_int)) (pv 2)) pa_nil)) (pe_int)))))
(pss_one (ps_ret (pe_disp (pps_cons (pe_str) (pe_callTy call_listOf (by rfl) T.n_list (by decide +kernel) (pa_cons (pv 0) pa_nil)) (pps_cons (pe_str) (pe_int) (pps_cons (pe_str) (pe_int) (pps_cons (pe_str) (pe_int) (pps_cons (pe_str) (pv 1) (pps_nil)))))) (by rfl) (by rfl) (fun z => by cases z) (by decide))))), ?_⟩
    walk_at "z0"
    walk_at "zz"
    refine z_kIL hS (f_list (K := K) (a := a) (xs := ns.map V.int) (fun i σ' H' => ∃ (f : Int) (v : Option V), σ' = [some (.ref a), some (.int f), v] ∧ 0 ≤ f ∧ f < 1000000007 ∧ H' = H) ⟨0, none, rfl, by decide, by decide, rfl⟩ (fun i σ' H' ⟨_, _, _, _, _, e⟩ => e ▸ hS) ?_ ?_)
    · rintro i x σ' H' hx ⟨f, v, rfl, h0, h1, rfl⟩
      obtain ⟨z, rfl⟩ : ∃ z, x = V.int z := by
        rw [List.getElem?_map] at hx
        cases e : ns[i]? with
        | none => rw [e] at hx; cases hx
        | some z => rw [e] at hx; exact ⟨z, (Option.some.inj hx).symm⟩
      walk_at "zz"
      exact ⟨_, _, rfl, Int.emod_nonneg _ (by decide), Int.emod_lt_of_pos _ (by decide), rfl⟩
    · rintro σ' H' ⟨f, v, rfl, h0, h1, rfl⟩
      walk_at "zz"
      refine z_disp fun p H1 hp s1 h1 => ?_
      walk_at "zz"
      refine z_listOfL (s1.seq hS) fun l H2 hl s2 h2 => ?_
      walk_at "zz"
      refine z_kDisp (penKv l 0 0 0 f) rfl (s2 _ _ h1) (by show 5 ≤ 15; decide) fun H3 b3 h3 => ?_
      walk_at "zz"
      refine k p l H3 hp (b3.same (s1.trans s2) hp) ⟨0, 0, 0, f, ns, h3, ?_, by decide, by decide, by decide, by decide, h0, by omega⟩
      refine b3 _ _ ?_ h2
      exact fun e => by rw [e] at h2; rw [s2 _ _ h1] at h2; cases h2
theorem ok_draw (T : Tx P K mg) : FnOk P w K mg base CX0 1 T.adraw T.fddraw ["_law_pen_here", "_law_many"] (spDraw K) := by
  refine T.Ddraw.F.ok scdraw (fun vs H Q E h => ?_) (fun cdv A outer s H vs Q E hr h => ?_)
  · obtain ⟨d, c, m, many, rfl, _⟩ := h
    rfl
  · obtain ⟨d, c, m, many, rfl, ⟨a, g, n, f, ns, hd, hc, h0, h1, h2, h3, h4, h5⟩, hm, hl, k⟩ := h
    have hu := hu_of hr
    refine ⟨_, pss_cons (ps_dput hu (pv 0) (pe_str) (pe_op op_add (pe_dget hu (pv 0) (pe_str) (fun _ _ => rfl)) (pe_int)) rfl)
(pss_cut (ps_if (pt_cut (PW.pt (pw_and (pt_cmpR op_eq (pe_dget hu (pv 0) (pe_str) (fun _ _ => rfl)) (pe_int) (nomark _)) (pw_and1 (pt_cmpR op_lt (pe_dget hu (pv 0) (pe_str) (fun _ _ => rfl)) (pe_callB call_lenL (by rfl) T.n_len (by decide +kernel) (pa_cons (pe_dget hu (pv 0) (pe_str) (fun _ _ => rfl)) pa_nil)) (nomark _))))))
(pss_cons (ps_set (i := 2) scdraw.nd rfl (Or.inl rfl) (pe_ix ix_list (pe_dget hu (pv 0) (pe_str) (fun _ _ => rfl)) (pe_dget hu (pv 0) (pe_str) (fun _ _ => rfl)) (fun _ _ => rfl)))
(pss_cons (ps_dput hu (pv 0) (pe_str) (pe_op op_add (pe_dget hu (pv 0) (pe_str) (fun _ _ => rfl)) (pe_int)) rfl)
(pss_one (ps_if (pt_cmpR op_ge (pv 2) (pe_op op_pow (pe_int) (pe_int)) (nomark _))
(pss_one (ps_dput hu (pv 0) (pe_str) (pe_op op_sub (pv 2) (pe_op op_pow (pe_int) (pe_int))) rfl))
(pss_one (ps_dput hu (pv 0) (pe_str) (pe_op op_mod (pe_callTy call_int1n (by rfl) T.n_int (by decide +kernel) (pa_cons (pe_op op_add (pe_op op_mul (pe_dget hu (pv 0) (pe_str) (fun _ _ => rfl)) (pe_int)) (pv 2)) pa_nil)) (pe_int)) rfl))))))
(pss_nil))
(pss_cons (ps_if (pt_cmpR op_gt (pe_dget hu (pv 0) (pe_str) (fun _ _ => rfl)) (pe_int) (nomark _))
(pss_cons (ps_set (i := 3) scdraw.nd rfl (Or.inl rfl) (pe_op op_mod (pe_callTy call_int1n (by rfl) T.n_int (by decide +kernel) (pa_cons (pe_dget hu (pv 0) (pe_str) (fun _ _ => rfl)) pa_nil)) (pv 1)))
(pss_cons (ps_dput hu (pv 0) (pe_str) (pe_op op_fdivW (pe_dget hu (pv 0) (pe_str) (fun _ _ => rfl)) (pv 1)) rfl)
(pss_one (ps_ret (pv 3)))))
(pss_nil))
(pss_cons (ps_set (i := 4) scdraw.nd rfl (Or.inl rfl) (pe_op op_add (pe_op op_add (pe_dget hu (pv 0) (pe_str) (fun _ _ => rfl)) (pe_op op_mul (pe_dget hu (pv 0) (pe_str) (fun _ _ => rfl)) (pe_int))) (pe_int)))
(pss_one (ps_ret (pe_op op_mod (pe_op op_fdivW (pe_callTy call_int1n (by rfl) T.n_int (by decide +kernel) (pa_cons (pe_op op_mod (pe_op op_pow (pv 4) (pe_int)) (pe_int)) pa_nil)) (pe_int)) (pv 1))))))), ?_⟩
    walk_at "z0"
    walk_at "zz"
    refine z_put_count hd fun H1 b1 d1 => ?_
    have c1 : H1 c = some (.lst (ns.map V.int)) := (b1.keep hd) _ _ hc rfl
    refine z_cut (fun σ' H' => ∃ (v : Option V) (a g f : Int), σ' = [some (V.ref d), some (V.int many), v, none, none] ∧ But d H H' ∧ H' d = some (.dK (penKv c a g (n + 1) f)) ∧ H' c = some (.lst (ns.map V.int)) ∧ 0 ≤ a ∧ 0 ≤ g ∧ 0 ≤ f ∧ f < 2147483587) ?_ ?_
    · walk_at "zz"
      refine z_cutT (fun b H' => H' = H1 ∧ (b = true → g = 0 ∧ a < ns.length)) ?_ ?_
      · walk_at "zz"
        refine z_ite (fun eg => ?_) (fun _ => ?_)
        · walk_at "zz"
          refine z_lenL (SqL.of c1) ?_
          walk_at "zz"
          refine ⟨rfl, fun q => ⟨of_decide_eq_true eg, ?_⟩⟩
          have := of_decide_eq_true q
          rw [List.length_map] at this
          omega
        · walk_at "zz"
          exact ⟨rfl, fun q => by cases q⟩
      rintro b H' ⟨rfl, hb⟩
      refine z_ite (fun eg => ?_) (fun _ => ?_)
      · obtain ⟨eg, ea'⟩ := hb eg
        refine z_seq ?_
        · walk_at "zz"
          have hx : (ns.map V.int)[a.toNat]? = some (.int (ns.getD a.toNat 0)) := by
            rw [List.getElem?_map, List.getD_eq_getElem?_getD, List.getElem?_eq_getElem (by omega)]
            rfl
          refine z_ixL (SqL.of c1) (at_of (by omega) hx) ?_
          walk_at "zz"
          refine z_put_at d1 fun H2 b2 d2 => ?_
          have c2 : H2 c = some (.lst (ns.map V.int)) := (b2.keep d1) _ _ c1 rfl
          walk_at "zz"
          refine z_rI ⟨by decide, by decide, by decide⟩ ?_
          walk_at "zz"
          refine z_ite (fun ez => ?_) (fun _ => ?_)
          · walk_at "zz"
            refine z_rI ⟨by decide, by decide, by decide⟩ ?_
            walk_at "zz"
            refine z_put_digits d2 fun H3 b3 d3 => ?_
            walk_at "zz"
            exact ⟨_, _, _, _, rfl, (b1.trans b2).trans b3, d3, (b3.keep d2) _ _ c2 rfl, by omega, Int.sub_nonneg_of_le (of_decide_eq_true ez), h4, h5⟩
          · walk_at "zz"
            refine z_put_fold d2 fun H3 b3 d3 => ?_
            walk_at "zz"
            exact ⟨_, _, _, _, rfl, (b1.trans b2).trans b3, d3, (b3.keep d2) _ _ c2 rfl, by omega, h1, Int.emod_nonneg _ (by decide), Int.emod_lt_of_pos _ (by decide)⟩
      · walk_at "zz"
        exact ⟨_, _, _, _, rfl, b1, d1, c1, h0, h1, h4, h5⟩
    · rintro σ' H2 ⟨v, a, g, f, rfl, b2, d2, c2, h0, h1, h4, h5⟩
      walk_at "zz"
      refine z_ite (fun eg => ?_) (fun _ => ?_)
      · walk_at "zz"
        refine z_put_digits d2 fun H3 b3 d3 => ?_
        walk_at "zz"
        exact k _ H3 (Int.emod_nonneg _ (by omega)) (Int.emod_lt_of_pos _ hm) (b2.trans b3) (pen_new d3 ((b3.keep d2) _ _ c2 rfl) rfl ⟨h0, Int.ediv_nonneg h1 (by omega), by omega, by omega, h4, h5⟩)
      · walk_at "zz"
        refine z_rI ?_ ?_
        · exact ⟨by decide, by decide, by omega⟩
        walk_at "zz"
        exact k _ H2 (Int.emod_nonneg _ (by omega)) (Int.emod_lt_of_pos _ hm) b2 (pen_new d2 c2 rfl ⟨h0, h1, by omega, by omega, h4, h5⟩)
theorem ok_pick (T : Tx P K mg) : FnOk P w K mg base CX0 2 T.apick T.fdpick ["_law_pen_here", "_law_some"] (spPick K) := by
  have Gdraw : FnOk P w K mg base CX0 1 T.adraw T.fddraw ["_law_pen_here", "_law_many"] (spDraw K) := ok_draw T
  refine T.Dpick.F.ok scpick (fun vs H Q E h => ?_) (fun cdv A outer s H vs Q E hr h => ?_)
  · obtain ⟨d, c, p, m, ys, rfl, _⟩ := h
    rfl
  · obtain ⟨d, c, p, m, ys, rfl, hp, hs, hne, hlen, k⟩ := h
    have hrdraw := hr
    refine ⟨_, pss_one (ps_ret (pe_ix ix_list (pv 1) (pe_callN T.Ddraw Gdraw hrdraw pass0 (pa_cons (pv 0) (pa_cons (pe_callB call_lenL (by rfl) T.n_len (by decide +kernel) (pa_cons (pv 1) pa_nil)) pa_nil))) (fun _ _ => rfl))), ?_⟩
    walk_at "z0"
    walk_at "zz"
    refine z_lenL hs ?_
    walk_at "zz"
    have hpos : 0 < ys.length := List.length_pos_iff.mpr hne
    refine ⟨d, c, m, _, rfl, hp, by omega, ?_, fun r H' h0 h1 b hp' => ?_⟩
    · exact log2_small (by omega) (by omega)
    have hx : ys[r.toNat]? = some (ys[r.toNat]'(by omega)) := List.getElem?_eq_getElem (by omega)
    refine z_ixL ((hp.keep b).l hs) (at_of (by omega) hx) ?_
    walk_at "zz"
    exact k _ H' (List.getElem_mem _) b hp'
end
end K01

namespace K01
open PySem PySem.Spec PyProof.Rows L2 Nm
section
variable {P : Program} {w : World} {K : PySem.W.Frag} {mg : Str → Option Value} {base : Heap}
theorem ok_init (T : Tx P K mg) : FnOk P w K mg base CX0 1 T.ainit T.fdinit ["self", "maker", "parts"] (spMadeI K T.CM) := by
  refine T.Dinit.F.ok scinit (fun vs H Q E h => ?_) (fun cdv A outer s H vs Q E hr h => ?_)
  · obtain ⟨x, dx, p, m, ws, rfl, _⟩ := h
    rfl
  · obtain ⟨x, dx, p, m, ws, rfl, hx, hp, k⟩ := h
    have hu := hu_of hr
    refine ⟨_, pss_cons (ps_fld (pv 0) (pv 1) rfl)
(pss_one (ps_fld (pv 0) (pe_callTy call_tupleOf (by rfl) T.n_tuple (by decide +kernel) (pa_cons (pv 2) pa_nil)) rfl)), ?_⟩
    walk_at "z0"
    walk_at "zz"
    refine z_kSt hx T.MM.cl T.MM.nM (by decide) ?_
    walk_at "zz"
    have ne : ∀ {a : Addr}, H a = some (.tup ws) → a ≠ x := fun h e => by rw [e, hx] at h; cases h
    have hp1 : SqT K (upd H x (.ins T.CM dx (putF "maker" m []))) p ws := by
      rcases hp with (h | ⟨o, h⟩) | h
      · exact .inl (.inl (by rw [upd_ne (ne h)]; exact h))
      · exact .inl (.inr ⟨o, by rw [upd_ne (fun e => by rw [e, hx] at h; cases h)]; exact h⟩)
      · exact .inr h
    refine z_tupleOfT hp1 ?_
    walk_at "zz"
    refine z_kSt upd_same T.MM.cl T.MM.nP (by show 1 < 1000; decide) ?_
    walk_at "zz"
    refine k _ (putF "parts" (.ref p) (putF "maker" m [])) ?_ upd_same rfl rfl
    intro a o n e
    rw [upd_ne n, upd_ne n]
    exact e
/-- a pair of values that are asked whether they are equal -/
def PairAt (K : PySem.W.Frag) (C : Addr) (H : Hp) (y : V) (q : Nm.T × Nm.T) : Prop := ∃ r a b, y = .ref r ∧ SqT K H r [a, b] ∧ MadeAt K C H q.1 a ∧ MadeAt K C H q.2 b
def PairsAt (K : PySem.W.Frag) (C : Addr) (H : Hp) (ys : List V) (ps : List (Nm.T × Nm.T)) : Prop := ys.length = ps.length ∧ ∀ (i : Nat) (y : V) (q : Nm.T × Nm.T), ys[i]? = some y → ps[i]? = some q → PairAt K C H y q
theorem PairsAt.ki {C : Addr} {H H' : Hp} {ys : List V} {ps : List (Nm.T × Nm.T)} (k : KI K H H') (h : PairsAt K C H ys ps) : PairsAt K C H' ys ps := ⟨h.1, fun i y q e1 e2 => by
  obtain ⟨r, a, b, e, h1, h2, h3⟩ := h.2 i y q e1 e2
  exact ⟨r, a, b, e, k.tup _ _ h1, made_ki k h2, made_ki k h3⟩⟩
theorem PairsAt.app {C : Addr} {H : Hp} {ys zs : List V} {ps qs : List (Nm.T × Nm.T)} (h1 : PairsAt K C H ys ps) (h2 : PairsAt K C H zs qs) : PairsAt K C H (ys ++ zs) (ps ++ qs) := ⟨by rw [List.length_append, List.length_append, h1.1, h2.1], fun i y q e1 e2 => by
  by_cases c : i < ys.length
  · rw [List.getElem?_append_left c] at e1
    rw [List.getElem?_append_left (by rw [← h1.1]; exact c)] at e2
    exact h1.2 i y q e1 e2
  · rw [List.getElem?_append_right (by omega)] at e1
    rw [List.getElem?_append_right (by rw [← h1.1]; omega), ← h1.1] at e2
    exact h2.2 _ y q e1 e2⟩
theorem PairsAt.left {C : Addr} {H : Hp} {ys zs : List V} {ps qs : List (Nm.T × Nm.T)} (h : PairsAt K C H (ys ++ zs) (ps ++ qs)) (hl : ys.length = ps.length) : PairsAt K C H ys ps := ⟨hl, fun i y q e1 e2 => h.2 i y q (by rw [List.getElem?_append_left (List.getElem?_eq_some_iff.mp e1).1]; exact e1) (by rw [List.getElem?_append_left (List.getElem?_eq_some_iff.mp e2).1]; exact e2)⟩
def pairsSize (ps : List (Nm.T × Nm.T)) : Nat := (ps.map fun q => q.1.size).sum
theorem pairsSize_app (ps qs : List (Nm.T × Nm.T)) : pairsSize (ps ++ qs) = pairsSize ps + pairsSize qs := by unfold pairsSize; rw [List.map_append, List.sum_append]
theorem pairsSize_zip : ∀ (as bs : List Nm.T), pairsSize (as.zip bs) ≤ sizeAll as
  | [], _ => by simp [pairsSize]
  | a :: as, [] => by simp [pairsSize]
  | a :: as, b :: bs => by
    have := pairsSize_zip as bs
    unfold pairsSize at this ⊢
    rw [List.zip_cons_cons, List.map_cons, List.sum_cons, sizeAll]
    show a.size + _ ≤ _
    omega
theorem pairs_len (ps : List (Nm.T × Nm.T)) : ps.length ≤ pairsSize ps := by
  induction ps with
  | nil => exact Nat.le_refl _
  | cons q ps ih =>
    have := size_pos q.1
    unfold pairsSize at ih ⊢
    rw [List.map_cons, List.sum_cons, List.length_cons]
    omega
theorem all_zip : ∀ {as bs : List Nm.T}, as.length = bs.length → ((∀ q ∈ as.zip bs, q.1 = q.2) ↔ as = bs)
  | [], [], _ => by simp
  | [], b :: bs, h => by cases h
  | a :: as, [], h => by cases h
  | a :: as, b :: bs, h => by
    have ih := all_zip (as := as) (bs := bs) (by simpa using h)
    rw [List.zip_cons_cons, List.forall_mem_cons, ih, List.cons.injEq]
theorem zip_pairs {C : Addr} {H : Hp} {ps qs : List Nm.T} {xs ys zs : List V} (h1 : MadeAll K C H ps xs) (h2 : MadeAll K C H qs ys) (hl : ps.length = qs.length) (hz : zs.length = xs.length)
    (h : ∀ (i : Nat) (z : V), zs[i]? = some z → ∃ r a b, z = .ref r ∧ SqT K H r [a, b] ∧ xs[i]? = some a ∧ ys[i]? = some b) : PairsAt K C H zs (ps.zip qs) := ⟨by rw [hz, mades_len h1, List.length_zip, hl, Nat.min_self], fun i z q e1 e2 => by
  obtain ⟨r, a, b, e, ht, ea, eb⟩ := h i z e1
  obtain ⟨e3, e4⟩ := List.getElem?_zip_eq_some.mp e2
  obtain ⟨v, ev, hv⟩ := mades_at h1 e3
  obtain ⟨w, ew, hw⟩ := mades_at h2 e4
  rw [ea] at ev
  rw [eb] at ew
  cases ev
  cases ew
  exact ⟨r, a, b, e, ht, hv, hw⟩⟩
theorem ok_eq (T : Tx P K mg) : FnOk P w K mg base CX0 1 T.aeq T.fdeq ["self", "other"] (spEqT K T.CM) := by
  refine T.Deq.F.ok sceq (fun vs H Q E h => ?_) (fun cdv A outer s H vs Q E hr h => ?_)
  · obtain ⟨x, y, t, u, rfl, _⟩ := h
    rfl
  · obtain ⟨x, y, t, u, rfl, hx, hy, zt, zu, k⟩ := h
    have hu := hu_of hr
    refine ⟨_, pss_cons (ps_set (i := 2) sceq.nd rfl (Or.inl rfl) (pe_lst (pa_cons (pe_tup (pa_cons (pv 0) (pa_cons (pv 1) pa_nil))) pa_nil)))
(pss_cons (ps_while PassesOwn.never (pt_cmpR op_gt (pe_callB call_lenL (by rfl) T.n_len (by decide +kernel) (pa_cons (pv 2) pa_nil)) (pe_int) (nomark _))
(pss_cons (ps_asg (pe_bm0 PySem.F.plainAttrs_list PySem.F.slot_list_pop PySem.F.type_list_pop mt_pop (pv 2)) (pg_tup rfl (pgs_cons (pg_name (i := 3) sceq.nd rfl (Or.inl rfl)) (pgs_cons (pg_name (i := 4) sceq.nd rfl (Or.inl rfl)) pgs_nil))))
(pss_one (ps_if (pt_cut (PW.pt (pw_and (pt_val (pe_callB call_isi (by rfl) T.n_isinstance (by decide +kernel) (pa_cons (pv 3) (pa_cons (pe_glob rfl T.g_Made rel_ref) pa_nil)))) (pw_and1 (pt_val (pe_callB call_isi (by rfl) T.n_isinstance (by decide +kernel) (pa_cons (pv 4) (pa_cons (pe_glob rfl T.g_Made rel_ref) pa_nil))))))))
(pss_cons (ps_if (pt_cut (PW.pt (pw_or (pt_cmpR op_ne (pe_fld (pv 3) rfl) (pe_fld (pv 4) rfl) (nomark _)) (pw_or1 (pt_cmpR op_ne (pe_callB call_lenL (by rfl) T.n_len (by decide +kernel) (pa_cons (pe_fld (pv 3) rfl) pa_nil)) (pe_callB call_lenL (by rfl) T.n_len (by decide +kernel) (pa_cons (pe_fld (pv 4) rfl) pa_nil)) (nomark _))))))
(pss_one (ps_ret (pe_bl)))
(pss_nil))
(pss_one (ps_aug (i := 2) sceq.nd rfl (Or.inl rfl) (pe_lc (g := gTup K 2 (gCons (gName 5) (gCons (gName 6) gNil))) (own := [("a", 5), ("b", 6)]) rfl sceq.nd (RZ.pi_zipA rfl T.n_zip (pa_cons (pe_fld (pv 3) rfl) (pa_cons (pe_fld (pv 4) rfl) pa_nil))) (blkOk_by (own := [("a", 5), ("b", 6)]) (N := ["self", "other", "pairs", "one", "two", "a", "b"]) (sc := defScope seq) (by decide +kernel)) (fun _ _ _ _ _ => pg_tup rfl (pgs_cons (pg_name (i := 5) sceq.nd rfl (Or.inl rfl) (Or.inr rfl)) (pgs_cons (pg_name (i := 6) sceq.nd rfl (Or.inl rfl) (Or.inr rfl)) pgs_nil))) (fun _ _ _ _ _ => pts_nil) (fun _ _ _ _ _ => pe_tup (pa_cons (pv 5) (pa_cons (pv 6) pa_nil)))) iop_ext)))
(pss_one (ps_if (pt_cut (PW.pt (pw_or (pt_val (pe_callB call_isi (by rfl) T.n_isinstance (by decide +kernel) (pa_cons (pv 3) (pa_cons (pe_glob rfl T.g_Made rel_ref) pa_nil)))) (pw_or (pt_val (pe_callB call_isi (by rfl) T.n_isinstance (by decide +kernel) (pa_cons (pv 4) (pa_cons (pe_glob rfl T.g_Made rel_ref) pa_nil)))) (pw_or1 (pt_cmpR op_ne (pv 3) (pv 4) (nomark _)))))))
(pss_one (ps_ret (pe_bl)))
(pss_nil)))))))
(pss_one (ps_ret (pe_bl)))), ?_⟩
    walk_at "z0"
    walk_at "zz"
    refine z_kTup (line_ge (by simp)) fun q0 H0 n0 s0 h0 => ?_
    walk_at "zz"
    refine z_kLst (line_ge (by simp)) fun p H1 n1 s1 h1 => ?_
    walk_at "zz"
    have sH1 := s0.trans s1
    have pn : H p = none := by
      cases e : H p with
      | none => rfl
      | some o => rw [s0 _ _ e] at n1; cases n1
    refine f_whileL (fun m σ' H' => ∃ (v3 v4 : Option V) (ys : List V) (ps : List (Nm.T × Nm.T)), σ' = [some x, some y, some (.ref p), v3, v4, none, none] ∧ Same H H' ∧ H' p = some (.lst ys) ∧ PairsAt K T.CM H' ys ps ∧ m = pairsSize ps ∧ pairsSize ps ≤ 1000000 ∧ (t = u ↔ ∀ q ∈ ps, q.1 = q.2))
      (m0 := pairsSize [(t, u)]) ⟨_, _, _, [(t, u)], rfl, sH1, h1, ⟨rfl, fun i z q e1 e2 => ?_⟩, rfl, by simpa [pairsSize] using zt, by simp⟩ ?_
    · cases i with
      | zero =>
        cases e1
        cases e2
        exact ⟨_, _, _, rfl, SqT.of (s1 _ _ h0), made_same sH1 hx, made_same sH1 hy⟩
      | succ i => simp at e1
    · rintro m σ' H' ⟨v3, v4, ys, ps, rfl, sH, hp, hps, rfl, zps, heq⟩
      refine ⟨p, ys, rfl, hp, fun hne => ?_, fun he => ?_⟩
      · obtain ⟨ys', yl, rfl⟩ : ∃ ys' yl, ys = ys' ++ [yl] := ⟨_, _, (List.dropLast_concat_getLast hne).symm⟩
        have hpne : ps ≠ [] := by
          intro e
          rw [e] at hps
          have := hps.1
          simp at this
        obtain ⟨ps', ⟨a, b⟩, rfl⟩ : ∃ ps' pl, ps = ps' ++ [pl] := ⟨_, _, (List.dropLast_concat_getLast hpne).symm⟩
        have hl' : ys'.length = ps'.length := by
          have := hps.1
          simpa using this
        obtain ⟨r, va, vb, rfl, hr1, ha, hb⟩ := hps.2 ys'.length yl (a, b) (by simp) (by rw [hl']; simp)
        walk_at "zz"
        refine ⟨ty_lst hp, z_pop hp ?_⟩
        walk_at "zz"
        have kI : KI K H' (upd H' p (.lst ys')) := KI.lst hp
        have sH2 : Same H (upd H' p (.lst ys')) := Nm.Same.mut sH pn
        have hp2 : upd H' p (.lst ys') p = some (.lst ys') := upd_same
        have hps2 : PairsAt K T.CM (upd H' p (.lst ys')) ys' ps' := (hps.left hl').ki kI
        have hr2 := kI.tup _ _ hr1
        have ha2 : MadeAt K T.CM _ a va := made_ki kI ha
        have hb2 : MadeAt K T.CM _ b vb := made_ki kI hb
        generalize upd H' p (.lst ys') = H2 at sH2 hp2 hps2 hr2 ha2 hb2
        have zab : pairsSize (ps' ++ [(a, b)]) = pairsSize ps' + a.size := by rw [pairsSize_app]; simp [pairsSize]
        rw [zab] at zps
        have heq' : t = u ↔ (∀ q ∈ ps', q.1 = q.2) ∧ a = b := by
          rw [heq]
          refine ⟨fun h => ⟨fun q hq => h q (by simp [hq]), h (a, b) (by simp)⟩, fun ⟨h1, h2⟩ q hq => ?_⟩
          rcases List.mem_append.mp hq with h | h
          · exact h1 q h
          · rw [List.mem_singleton.mp h]
            exact h2
        have no : ∀ H3, Same H2 H3 → a ≠ b → Q (.bl false) H3 := fun H3 s3 ne => by
          have q := k H3 (sH2.trans s3)
          rw [show decide (t = u) = false from decide_eq_false fun e => ne (heq'.mp e).2] at q
          exact q
        have on : ∀ H3 v3 v4, Same H2 H3 → a = b → ∃ m', m' < pairsSize (ps' ++ [(a, b)]) ∧ ∃ (v5 v6 : Option V) (ys : List V) (ps : List (Nm.T × Nm.T)), ([some x, some y, some (V.ref p), v3, v4, none, none] : List (Option V)) = [some x, some y, some (V.ref p), v5, v6, none, none] ∧ Same H H3 ∧ H3 p = some (.lst ys) ∧ PairsAt K T.CM H3 ys ps ∧ m' = pairsSize ps ∧ pairsSize ps ≤ 1000000 ∧ (t = u ↔ ∀ q ∈ ps, q.1 = q.2) := fun H3 v3 v4 s3 e => by
          refine ⟨pairsSize ps', by rw [zab]; have := size_pos a; omega, v3, v4, ys', ps', rfl, sH2.trans s3, s3 _ _ hp2, hps2.ki (KI.keep (same_keep s3)), rfl, by omega, ?_⟩
          rw [heq']
          simp [e]
        refine z_gTup hr2 (by rfl) ?_
        walk_at "zz"
        refine z_cutB (a.isNode && b.isNode) ?_ fun H3 s3 => ?_
        · walk_at "zz"
          refine z_isMade T.MM ha2 ?_
          walk_at "zz"
          refine z_ite (fun e => ?_) (fun e => ?_)
          · walk_at "zz"
            refine z_isMade T.MM hb2 ?_
            walk_at "zz"
            exact ⟨by rw [e]; rfl, Same.refl _⟩
          · exact ⟨by rw [e]; rfl, Same.refl _⟩
        have ha3 := made_same s3 ha2
        have hb3 := made_same s3 hb2
        refine z_ite (fun ec => ?_) (fun ec => ?_)
        · cases a with
          | num n => simp [Nm.T.isNode] at ec
          | node m1 qs1 =>
            cases b with
            | num n => simp [Nm.T.isNode] at ec
            | node m2 qs2 =>
              refine z_seq ?_
              walk_at "zz"
              refine z_cutB (!decide (m1 = m2) || !decide (qs1.length = qs2.length)) ?_ fun H4 s4 => ?_
              · walk_at "zz"
                refine z_maker T.MM ha3 ?_
                walk_at "zz"
                refine z_maker T.MM hb3 ?_
                walk_at "zz"
                refine z_ite (fun e => ?_) (fun e => ?_)
                · exact ⟨by rw [e]; rfl, Same.refl _⟩
                · walk_at "zz"
                  refine z_parts T.MM ha3 fun p1 xs h1 h2 hl => ?_
                  walk_at "zz"
                  refine z_lenT h1 ?_
                  walk_at "zz"
                  refine z_parts T.MM hb3 fun p2 zs h3 h4 hl2 => ?_
                  walk_at "zz"
                  refine z_lenT h3 ?_
                  walk_at "zz"
                  refine ⟨?_, Same.refl _⟩
                  rw [e, hl, hl2, Bool.false_or]
                  congr 1
                  exact decide_eq_decide.mpr (by omega)
              have ha4 := made_same s4 ha3
              have hb4 := made_same s4 hb3
              refine z_ite (fun e => ?_) (fun e => ?_)
              · walk_at "zz"
                refine no H4 (s3.trans s4) fun q => ?_
                injection q with q1 q2
                subst q1 q2
                simp at e
              · walk_at "zz"
                rw [Bool.or_eq_false_iff] at e
                have em : m1 = m2 := of_decide_eq_true (not_f e.1)
                have el : qs1.length = qs2.length := of_decide_eq_true (not_f e.2)
                refine z_parts T.MM ha4 fun p1 xs h1 h2 hl => ?_
                walk_at "zz"
                refine z_parts T.MM hb4 fun p2 zs h3 h4 hl2 => ?_
                walk_at "zz"
                refine z_kZipT h1 h3 ?_
                have exz : xs.length = zs.length := by omega
                have qz := sizeAll_len qs1
                simp only [Nm.T.size] at zps
                refine l_gen (walk_zipT exz) (fun D i v H => ∃ r a b, v = .ref r ∧ SqT K H r [a, b] ∧ xs[i]? = some a ∧ zs[i]? = some b) (fun D i v H1 H2 s ⟨r, a, b, e, h, q⟩ => ⟨r, a, b, e, same_st s h, q⟩) (fun D i v H1 xs o hD hx ⟨r, a, b, e, h, q⟩ => ⟨r, a, b, e, (KI.lst hx).tup _ _ h, q⟩) (by omega) (fun H5 s5 => ⟨same_st s5 h1, same_st s5 h3⟩) ?_ ?_ mono_two
                · rintro D i z H5 H5' hD hD5 hi s5 ⟨r, a, b, rfl, hr, rfl, ea, eb⟩ Q' k'
                  refine z_gTup (SqT.of upd_same) rfl ?_
                  walk_at "zz"
                  refine ⟨rfl, ?_⟩
                  walk_at "zz"
                  refine z_kTup (line_ge (by simp)) fun r2 H6 nr s6 h6 => ?_
                  exact k' _ H6 ((Same.new hr).trans s6) ⟨r2, a, b, rfl, SqT.of h6, ea, eb⟩
                · intro D H5 ws hD s5 hD5 hlw hws
                  have s25 := (s3.trans s4).trans s5
                  have pw : PairsAt K T.CM H5 ws (qs1.zip qs2) := zip_pairs (mades_same s5 h2) (mades_same s5 h4) el hlw hws
                  have zl := pairs_len ps'
                  have zz1 := pairsSize_zip qs1 qs2
                  have hp5 := s25 _ _ hp2
                  refine z_iadd hp5 hD5 (by rw [sizeLine_eq]; have := hps2.1; omega) ?_
                  walk_at "zz"
                  have kI5 : KI K H5 (upd H5 p (.lst (ys' ++ ws))) := KI.lst hp5
                  refine ⟨pairsSize (ps' ++ qs1.zip qs2), ?_, _, _, ys' ++ ws, ps' ++ qs1.zip qs2, rfl, Nm.Same.mut (sH2.trans s25) pn, upd_same, ((hps2.ki (KI.keep (same_keep s25))).app pw).ki kI5, rfl, ?_, ?_⟩
                  · rw [pairsSize_app, zab, Nm.T.size]
                    omega
                  · rw [pairsSize_app]
                    omega
                  · rw [heq', Nm.T.node.injEq]
                    subst em
                    have az := all_zip el
                    constructor
                    · rintro ⟨h5, _, h6⟩ q hq
                      rcases List.mem_append.mp hq with h | h
                      · exact h5 q h
                      · exact az.mpr h6 q h
                    · intro h
                      exact ⟨fun q hq => h q (by simp [hq]), rfl, az.mp fun q hq => h q (by simp [hq])⟩
        · walk_at "zz"
          refine z_cutB (!decide (a = b)) ?_ fun H4 s4 => ?_
          · walk_at "zz"
            refine z_isMade T.MM ha3 ?_
            walk_at "zz"
            refine z_ite (fun ea => ?_) (fun ea => ?_)
            · refine ⟨?_, Same.refl _⟩
              rw [ea, Bool.true_and] at ec
              rw [decide_eq_false fun q => by rw [q, ec] at ea; cases ea]
              rfl
            · walk_at "zz"
              refine z_isMade T.MM hb3 ?_
              walk_at "zz"
              refine z_ite (fun eb => ?_) (fun eb => ?_)
              · refine ⟨?_, Same.refl _⟩
                rw [decide_eq_false fun q => by rw [q, eb] at ea; cases ea]
                rfl
              · cases a with
                | node m qs => cases ea
                | num n =>
                  cases b with
                  | node m qs => cases eb
                  | num l =>
                    rw [MadeAt] at ha3 hb3
                    subst ha3 hb3
                    walk_at "zz"
                    refine ⟨?_, Same.refl _⟩
                    congr 1
                    exact decide_eq_decide.mpr (by simp)
          refine z_ite (fun e => ?_) (fun e => ?_)
          · walk_at "zz"
            exact no H4 (s3.trans s4) (of_decide_eq_false (not_t e))
          · walk_at "zz"
            exact on H4 _ _ (s3.trans s4) (of_decide_eq_true (not_f e))
      · subst he
        have e0 : ps = [] := List.eq_nil_of_length_eq_zero hps.1.symm
        subst e0
        walk_at "zz"
        have q := k H' sH
        rw [show decide (t = u) = true from decide_eq_true (heq.mpr (by simp))] at q
        exact q
end
end K01

namespace K01
open PySem PySem.Spec PyProof.Rows L2 Nm
theorem sizeAll_app : ∀ (ts us : List Nm.T), sizeAll (ts ++ us) = sizeAll ts + sizeAll us
  | [], us => by simp [sizeAll]
  | t :: ts, us => by
    rw [List.cons_append, sizeAll, sizeAll, sizeAll_app ts us]
    omega
theorem sizeAll_one (t : Nm.T) : sizeAll [t] = t.size := by simp [sizeAll]
theorem sizeAll_rev (ts : List Nm.T) : sizeAll ts.reverse = sizeAll ts := by
  induction ts with
  | nil => rfl
  | cons t ts ih =>
    rw [List.reverse_cons, sizeAll_app, ih, sizeAll_one, sizeAll]
    omega
/-- a place as data -/
def plV (p : List Nat) : List V := p.map fun k => V.int (k : Nat)
def plD (p : List Nat) : PyData := .tuple (p.map fun k => PyData.int (k : Nat))
section
variable {P : Program} {w : World} {K : PySem.W.Frag} {mg : Str → Option Value} {base : Heap}
theorem mades_snoc {C : Addr} {H : Hp} {ys : List V} {y : V} {ts : List Nm.T} (h : MadeAll K C H ts (ys ++ [y])) : ∃ ts' a, ts = ts' ++ [a] ∧ MadeAll K C H ts' ys ∧ MadeAt K C H a y := by
  have hl := mades_len h
  have ne : ts ≠ [] := by
    intro e
    rw [e] at hl
    simp at hl
  obtain ⟨ts', a, rfl⟩ : ∃ ts' a, ts = ts' ++ [a] := ⟨_, _, (List.dropLast_concat_getLast ne).symm⟩
  have hl' : ys.length = ts'.length := by simpa using hl
  refine ⟨ts', a, rfl, mades_of hl' fun i t v e1 e2 => ?_, ?_⟩
  · have l1 := (List.getElem?_eq_some_iff.mp e1).1
    have l2 := (List.getElem?_eq_some_iff.mp e2).1
    obtain ⟨v', e3, h3⟩ := mades_at h (i := i) (t := t) (by rw [List.getElem?_append_left l1]; exact e1)
    rw [List.getElem?_append_left l2, e2] at e3
    cases e3
    exact h3
  · obtain ⟨v', e3, h3⟩ := mades_at h (i := ts'.length) (t := a) (by simp)
    rw [← hl'] at e3
    simp at e3
    rw [e3]
    exact h3
def spSize (K : PySem.W.Frag) (C : Addr) : Sp := fun vs H Q _ => ∃ (x : V) (t : Nm.T), vs = [x] ∧ MadeAt K C H t x ∧ t.size ≤ 1000000 ∧ ∀ H', Same H H' → Q (.int (t.size : Nat)) H'
theorem ok_size (T : Tx P K mg) : FnOk P w K mg base CX0 1 T.asize T.fdsize ["value"] (spSize K T.CM) := by
  refine T.Dsize.F.ok scsize (fun vs H Q E h => ?_) (fun cdv A outer s H vs Q E hr h => ?_)
  · obtain ⟨x, t, rfl, _⟩ := h
    rfl
  · obtain ⟨x, t, rfl, hx, zt, k⟩ := h
    refine ⟨_, pss_cons (ps_par rfl scsize.nd (i := 1) (j := 2) rfl rfl (by decide) rfl rfl (pa_cons (pe_int) (pa_cons (pe_lst (pa_cons (pv 0) pa_nil)) pa_nil)) (by rfl))
(pss_cons (ps_while PassesOwn.never (pt_cmpR op_gt (pe_callB call_lenL (by rfl) T.n_len (by decide +kernel) (pa_cons (pv 2) pa_nil)) (pe_int) (nomark _))
(pss_cons (ps_set (i := 3) scsize.nd rfl (Or.inl rfl) (pe_bm0 PySem.F.plainAttrs_list PySem.F.slot_list_pop PySem.F.type_list_pop mt_pop (pv 2)))
(pss_cons (ps_aug (i := 1) scsize.nd rfl (Or.inl rfl) (pe_int) ip_add)
(pss_one (ps_if (pt_val (pe_callB call_isi (by rfl) T.n_isinstance (by decide +kernel) (pa_cons (pv 3) (pa_cons (pe_glob rfl T.g_Made rel_ref) pa_nil))))
(pss_one (ps_expr (pe_bm PySem.F.plainAttrs_list PySem.F.slot_list_extend PySem.F.type_list_extend mt_extendT (pv 2) (pa_cons (pe_fld (pv 3) rfl) pa_nil))))
(pss_nil))))))
(pss_one (ps_ret (pv 1)))), ?_⟩
    walk_at "z0"
    walk_at "zz"
    refine z_kLst (line_ge (by simp)) fun p H1 pn s1 h1 => ?_
    walk_at "zz"
    refine f_whileL (fun m σ' H' => ∃ (v3 : Option V) (n : Nat) (ys : List V) (ts : List Nm.T), σ' = [some x, some (.int (n : Nat)), some (.ref p), v3] ∧ Same H H' ∧ H' p = some (.lst ys) ∧ MadeAll K T.CM H' ts ys ∧ n + sizeAll ts = t.size ∧ m = sizeAll ts)
      (m0 := sizeAll [t]) ⟨none, 0, _, [t], rfl, s1, h1, mades_of rfl fun i t' v e1 e2 => ?_, by rw [sizeAll_one, Nat.zero_add], rfl⟩ ?_
    · cases i with
      | zero =>
        cases e1
        cases e2
        exact made_same s1 hx
      | succ i => simp at e1
    · rintro m σ' H' ⟨v3, n, ys, ts, rfl, sH, hp, hm, hn, rfl⟩
      refine ⟨p, ys, rfl, hp, fun hne => ?_, fun he => ?_⟩
      · obtain ⟨ys', yl, rfl⟩ : ∃ ys' yl, ys = ys' ++ [yl] := ⟨_, _, (List.dropLast_concat_getLast hne).symm⟩
        obtain ⟨ts', a, rfl, hm', ha⟩ := mades_snoc hm
        walk_at "zz"
        refine ⟨ty_lst hp, z_pop hp ?_⟩
        walk_at "zz"
        have kI : KI K H' (upd H' p (.lst ys')) := KI.lst hp
        have sH2 : Same H (upd H' p (.lst ys')) := Nm.Same.mut sH pn
        have hp2 : upd H' p (.lst ys') p = some (.lst ys') := upd_same
        have ha2 : MadeAt K T.CM _ a yl := made_ki kI ha
        have hm2 := mades_ki kI hm'
        generalize upd H' p (.lst ys') = H2 at sH2 hp2 ha2 hm2
        rw [sizeAll_app, sizeAll_one] at hn ⊢
        refine z_isMade T.MM ha2 ?_
        walk_at "zz"
        cases a with
        | num l =>
          refine iteF ?_
          walk_at "zz"
          exact ⟨sizeAll ts', by rw [Nm.T.size]; omega, some yl, n + 1, ys', ts', by simp, sH2, hp2, hm2, by rw [Nm.T.size] at hn; omega, rfl⟩
        | node m' qs =>
          refine iteT ?_
          walk_at "zz"
          refine ⟨ty_lst hp2, ?_⟩
          walk_at "zz"
          refine z_parts T.MM ha2 fun pp ws h2 h3 hl => ?_
          walk_at "zz"
          rw [Nm.T.size] at hn ⊢
          have lz := sizeAll_len qs
          have ly := sizeAll_len ts'
          have ll := mades_len hm2
          refine z_extT hp2 h2 (by rw [sizeLine_eq]; omega) ?_
          walk_at "zz"
          have kI2 : KI K H2 (upd H2 p (.lst (ys' ++ ws))) := KI.lst hp2
          exact ⟨sizeAll (ts' ++ qs), by rw [sizeAll_app]; omega, some yl, n + 1, ys' ++ ws, ts' ++ qs, by simp, Nm.Same.mut sH2 pn, upd_same, mades_ki kI2 (mades_app hm2 h3), by rw [sizeAll_app]; omega, rfl⟩
      · subst he
        have e0 : ts = [] := List.eq_nil_of_length_eq_zero (mades_len hm).symm
        subst e0
        walk_at "zz"
        have e1 : n = t.size := by rw [sizeAll] at hn; omega
        rw [e1]
        exact k H' sH
/-- an entry of the stack: a place, a value -/
def StkAt (K : PySem.W.Frag) (C : Addr) (H : Hp) (y : V) (q : List Nat × Nm.T) : Prop := ∃ r l a, y = .ref r ∧ SqT K H r [.ref l, a] ∧ SqT K H l (plV q.1) ∧ MadeAt K C H q.2 a
def StksAt (K : PySem.W.Frag) (C : Addr) (H : Hp) (ys : List V) (st : List (List Nat × Nm.T)) : Prop := ys.length = st.length ∧ ∀ (i : Nat) (y : V) (q : List Nat × Nm.T), ys[i]? = some y → st[i]? = some q → StkAt K C H y q
theorem StksAt.ki {C : Addr} {H H' : Hp} {ys : List V} {ps : List (List Nat × Nm.T)} (k : KI K H H') (h : StksAt K C H ys ps) : StksAt K C H' ys ps := ⟨h.1, fun i y q e1 e2 => by
  obtain ⟨r, a, b, e, h1, h2, h3⟩ := h.2 i y q e1 e2
  exact ⟨r, a, b, e, k.tup _ _ h1, k.tup _ _ h2, made_ki k h3⟩⟩
theorem StksAt.app {C : Addr} {H : Hp} {ys zs : List V} {ps qs : List (List Nat × Nm.T)} (h1 : StksAt K C H ys ps) (h2 : StksAt K C H zs qs) : StksAt K C H (ys ++ zs) (ps ++ qs) := ⟨by rw [List.length_append, List.length_append, h1.1, h2.1], fun i y q e1 e2 => by
  by_cases c : i < ys.length
  · rw [List.getElem?_append_left c] at e1
    rw [List.getElem?_append_left (by rw [← h1.1]; exact c)] at e2
    exact h1.2 i y q e1 e2
  · rw [List.getElem?_append_right (by omega)] at e1
    rw [List.getElem?_append_right (by rw [← h1.1]; omega), ← h1.1] at e2
    exact h2.2 _ y q e1 e2⟩
theorem StksAt.rev {C : Addr} {H : Hp} {ys : List V} {ps : List (List Nat × Nm.T)} (h : StksAt K C H ys ps) : StksAt K C H ys.reverse ps.reverse := ⟨by rw [List.length_reverse, List.length_reverse, h.1], fun i y q e1 e2 => by
  have l1 : i < ys.length := by
    have := (List.getElem?_eq_some_iff.mp e1).1
    simpa using this
  rw [List.getElem?_reverse l1] at e1
  rw [List.getElem?_reverse (by rw [← h.1]; exact l1), ← h.1] at e2
  exact h.2 _ y q e1 e2⟩
theorem StksAt.left {C : Addr} {H : Hp} {ys zs : List V} {ps qs : List (List Nat × Nm.T)} (h : StksAt K C H (ys ++ zs) (ps ++ qs)) (hl : ys.length = ps.length) : StksAt K C H ys ps := ⟨hl, fun i y q e1 e2 => h.2 i y q (by rw [List.getElem?_append_left (List.getElem?_eq_some_iff.mp e1).1]; exact e1) (by rw [List.getElem?_append_left (List.getElem?_eq_some_iff.mp e2).1]; exact e2)⟩
def stkSize (st : List (List Nat × Nm.T)) : Nat := sizeAll (st.map Prod.snd)
theorem stkSize_app (a b : List (List Nat × Nm.T)) : stkSize (a ++ b) = stkSize a + stkSize b := by unfold stkSize; rw [List.map_append, sizeAll_app]
theorem dps_pl {H : Hp} : ∀ (p : List Nat), DpAll K H (plV p) (p.map fun k => PyData.int (k : Nat))
  | [] => .nil
  | k :: p => .cons (.int _) (dps_pl p)
theorem noL_pl (p : List Nat) : noL (plD p) = true := by
  unfold plD
  rw [noL]
  induction p with
  | nil => rfl
  | cons k p ih => rw [List.map_cons, noLs, ih]; rfl
theorem grow_other {H : Hp} {f p : Addr} {ds : List PyData} {xs : List V} {o : HO} (g : Grow K H f ds) (hp : H p = some (.lst xs)) (ne : f ≠ p) : Grow K (upd H p o) f ds := by
  obtain ⟨n, vs, h, l⟩ := g
  exact ⟨n, vs, by rw [upd_ne ne]; exact h, dps_kt (KT.upd hp) n l⟩
def spPlaces (K : PySem.W.Frag) (C : Addr) : Sp := fun vs H Q _ => ∃ (x : V) (t : Nm.T), vs = [x] ∧ MadeAt K C H t x ∧ t.size ≤ 100000 ∧ ∀ p H', Same H H' → Dp K H' (.ref p) (.tuple ((cellsT t).map fun c => plD c.1)) → Q (.ref p) H'
theorem ok_places (T : Tx P K mg) : FnOk P w K mg base CX0 1 T.aplaces T.fdplaces ["value"] (spPlaces K T.CM) := by
  refine T.Dplaces.F.ok scplaces (fun vs H Q E h => ?_) (fun cdv A outer s H vs Q E hr h => ?_)
  · obtain ⟨x, t, rfl, _⟩ := h
    rfl
  · obtain ⟨x, t, rfl, hx, zt, k⟩ := h
    refine ⟨_, pss_cons (ps_par rfl scplaces.nd (i := 1) (j := 2) rfl rfl (by decide) rfl rfl (pa_cons (pe_lst pa_nil) (pa_cons (pe_lst (pa_cons (pe_tup (pa_cons (pe_tup pa_nil) (pa_cons (pv 0) pa_nil))) pa_nil)) pa_nil)) (by rfl))
(pss_cons (ps_while PassesOwn.never (pt_cmpR op_gt (pe_callB call_lenL (by rfl) T.n_len (by decide +kernel) (pa_cons (pv 2) pa_nil)) (pe_int) (nomark _))
(pss_cons (ps_asg (pe_bm0 PySem.F.plainAttrs_list PySem.F.slot_list_pop PySem.F.type_list_pop mt_pop (pv 2)) (pg_tup rfl (pgs_cons (pg_name (i := 3) scplaces.nd rfl (Or.inr rfl)) (pgs_cons (pg_name (i := 4) scplaces.nd rfl (Or.inl rfl)) pgs_nil))))
(pss_cons (ps_expr (pe_bm PySem.F.plainAttrs_list PySem.F.slot_list_append PySem.F.type_list_append mt_append (pv 1) (pa_cons (pv 3) pa_nil)))
(pss_one (ps_if (pt_val (pe_callB call_isi (by rfl) T.n_isinstance (by decide +kernel) (pa_cons (pv 4) (pa_cons (pe_glob rfl T.g_Made rel_ref) pa_nil))))
(pss_cons (ps_setLc (i := 5) (g := gTup K 2 (gCons (gName 6) (gCons (gName 7) gNil))) (own := [("at", 6), ("part", 7)]) rfl scplaces.nd rfl rfl (sw_true rfl rfl rfl (by decide +kernel)) (pi_enumT rfl T.n_enumerate (pa_cons (pe_fld (pv 4) rfl) pa_nil)) (blkOk_by (own := [("at", 6), ("part", 7)]) (N := ["value", "found", "rest", "place", "one", "inner", "at", "part"]) (sc := defScope splaces) (by decide +kernel)) (fun _ _ _ _ _ => pg_tup rfl (pgs_cons (pg_name (i := 6) scplaces.nd rfl (Or.inl rfl) (Or.inr rfl)) (pgs_cons (pg_name (i := 7) scplaces.nd rfl (Or.inl rfl) (Or.inr rfl)) pgs_nil))) (fun _ _ _ _ _ => pts_nil) (fun _ _ _ _ _ => pe_tup (pa_cons (pe_op (by exact op_catA : OpR _ (binaryOp .Add) (rCatA K)) (pv 3) (pe_tup (pa_cons (pv 6) pa_nil))) (pa_cons (pv 7) pa_nil))))
(pss_one (ps_expr (pe_bm PySem.F.plainAttrs_list PySem.F.slot_list_extend PySem.F.type_list_extend mt_extend (pv 2) (pa_cons (pe_revL (pv 5)) pa_nil)))))
(pss_nil))))))
(pss_one (ps_ret (pe_callTy call_tupleOf (by rfl) T.n_tuple (by decide +kernel) (pa_cons (pv 1) pa_nil))))), ?_⟩
    walk_at "z0"
    walk_at "zz"
    refine z_kLst (line_ge (by simp)) fun f H1 fn s1 h1 => ?_
    walk_at "zz"
    refine z_kTup (line_ge (by simp)) fun l0 H2 n2 s2 h2 => ?_
    walk_at "zz"
    refine z_kTup (line_ge (by simp)) fun r0 H3 n3 s3 h3 => ?_
    walk_at "zz"
    refine z_kLst (line_ge (by simp)) fun p H4 n4 s4 h4 => ?_
    walk_at "zz"
    have s13 := s2.trans s3
    have s14 := s13.trans s4
    have sH4 := s1.trans s14
    have nop : ∀ {a : Addr} {H0 : Hp}, Same H H0 → H0 a = none → H a = none := fun {a H0} s n => by
      cases e : H a with
      | none => rfl
      | some o => rw [s _ _ e] at n; cases n
    have pn : H p = none := nop (s1.trans s13) n4
    have fp : f ≠ p := fun e => by rw [← e, s13 _ _ h1] at n4; cases n4
    refine f_whileL (fun m σ' H' => ∃ (v3 v4 v5 : Option V) (ys : List V) (st : List (List Nat × Nm.T)) (fl : List (List Nat)), σ' = [some x, some (.ref f), some (.ref p), v3, v4, v5, none, none] ∧ Same H H' ∧ Grow K H' f (fl.map plD) ∧ H' p = some (.lst ys) ∧ StksAt K T.CM H' ys st ∧
        fl ++ stackP st = (cellsT t).map Prod.fst ∧ fl.length + stkSize st = t.size ∧ m = stkSize st)
      (m0 := stkSize [([], t)]) ⟨_, _, _, _, [([], t)], [], rfl, sH4, (grow_nil (K := K) (s14 _ _ h1)), h4, ⟨rfl, fun i y q e1 e2 => ?_⟩, by rw [stackP_one]; simp, by simp [stkSize, sizeAll], rfl⟩ ?_
    · cases i with
      | zero =>
        cases e1
        cases e2
        exact ⟨_, _, _, rfl, SqT.of (s4 _ _ h3), SqT.of (s4 _ _ (s3 _ _ h2)), made_same sH4 hx⟩
      | succ i => simp at e1
    · rintro m σ' H' ⟨v3, v4, v5, ys, st, fl, rfl, sH, hf, hp, hst, hfl, hn, rfl⟩
      refine ⟨p, ys, rfl, hp, fun hne => ?_, fun he => ?_⟩
      · obtain ⟨ys', yl, rfl⟩ : ∃ ys' yl, ys = ys' ++ [yl] := ⟨_, _, (List.dropLast_concat_getLast hne).symm⟩
        have hsne : st ≠ [] := by
          intro e
          rw [e] at hst
          have := hst.1
          simp at this
        obtain ⟨st', ⟨pl, a⟩, rfl⟩ : ∃ st' q, st = st' ++ [q] := ⟨_, _, (List.dropLast_concat_getLast hsne).symm⟩
        have hl' : ys'.length = st'.length := by
          have := hst.1
          simpa using this
        obtain ⟨r, l, va, rfl, hr1, hl1, ha⟩ := hst.2 ys'.length yl (pl, a) (by simp) (by rw [hl']; simp)
        walk_at "zz"
        refine ⟨ty_lst hp, z_pop hp ?_⟩
        walk_at "zz"
        have kI : KI K H' (upd H' p (.lst ys')) := KI.lst hp
        have sH2 : Same H (upd H' p (.lst ys')) := Nm.Same.mut sH pn
        have hp2 : upd H' p (.lst ys') p = some (.lst ys') := upd_same
        have hst2 : StksAt K T.CM (upd H' p (.lst ys')) ys' st' := (hst.left hl').ki kI
        have hr2 := kI.tup _ _ hr1
        have hl2 := kI.tup _ _ hl1
        have ha2 : MadeAt K T.CM _ a va := made_ki kI ha
        have hf2 : Grow K (upd H' p (.lst ys')) f (fl.map plD) := grow_other hf hp fp
        generalize upd H' p (.lst ys') = H2 at sH2 hp2 hst2 hr2 hl2 ha2 hf2
        rw [stkSize_app] at hn ⊢
        rw [stackP_app, stackP_one] at hfl
        have z1 : stkSize [(pl, a)] = a.size := sizeAll_one a
        rw [z1] at hn ⊢
        have lst : st'.length ≤ stkSize st' := by
          have := sizeAll_len (st'.map Prod.snd)
          simpa [stkSize] using this
        refine z_gTup hr2 (by rfl) ?_
        walk_at "zz"
        refine ⟨hf2.ty, ?_⟩
        walk_at "zz"
        refine z_append hf2 (.tup hl2 (dps_pl pl)) (noL_pl pl) (by rw [List.length_map]; omega) fun H3 hf3 k3 e3 => ?_
        have kI3 : KI K H2 H3 := by
          obtain ⟨vs, hv, _⟩ := hf2.ex
          have e : H3 = upd H2 f (H3 f |>.getD (.lst [])) := by
            funext b
            by_cases q : b = f
            · rw [q, upd_same]
              obtain ⟨vs3, hv3, _⟩ := hf3.ex
              rw [hv3]
              rfl
            · rw [upd_ne q, e3 b q]
          rw [e]
          exact KI.lst hv
        have sH3 : Same H H3 := k3 H sH2 fn
        have hp3 : H3 p = some (.lst ys') := by rw [e3 p (Ne.symm fp)]; exact hp2
        have hst3 := hst2.ki kI3
        have ha3 := made_ki kI3 ha2
        have hl3 : SqT K H3 l (plV pl) := kI3.tup _ _ hl2
        have lpl : pl.length ≤ 200000 := by
          have hm : pl ∈ (cellsT t).map Prod.fst := by
            rw [← hfl]
            refine List.mem_append_right _ (List.mem_append_left _ ?_)
            cases a with
            | num n => simp [cellsT]
            | node m' qs => simp [cellsT]
          obtain ⟨c, hc, e⟩ := List.mem_map.mp hm
          have := cells_short t hc
          rw [e] at this
          omega
        have efl : (fl ++ [pl]).map plD = fl.map plD ++ [.tuple (pl.map fun k => PyData.int (k : Nat))] := by simp [plD]
        rw [← efl] at hf3
        walk_at "zz"
        refine z_isMade T.MM ha3 ?_
        walk_at "zz"
        cases a with
        | num n =>
          refine iteF ?_
          walk_at "zz"
          refine ⟨stkSize st', by rw [Nm.T.size]; omega, _, _, _, ys', st', fl ++ [pl], rfl, sH3, hf3, hp3, hst3, ?_, by rw [List.length_append, List.length_singleton]; rw [Nm.T.size] at hn; omega, rfl⟩
          rw [← hfl, cellsT]
          simp
        | node m' qs =>
          refine iteT ?_
          rw [Nm.T.size] at hn ⊢
          walk_at "zz"
          refine z_parts T.MM ha3 fun pp ws h2 h3 hlw => ?_
          walk_at "zz"
          refine z_kIEt h2 ?_
          have qz := sizeAll_len qs
          refine l_gen walk_enumT (fun D i v H => ∃ r q a, v = .ref r ∧ SqT K H r [.ref q, a] ∧ SqT K H q (plV (pl ++ [i])) ∧ ws[i]? = some a) (fun D i v H1 H2 s ⟨r, q, a, e, h, h', e'⟩ => ⟨r, q, a, e, same_st s h, same_st s h', e'⟩) (fun D i v H1 xs o hD hx ⟨r, q, a, e, h, h', e'⟩ => ⟨r, q, a, e, (KI.lst hx).tup _ _ h, (KI.lst hx).tup _ _ h', e'⟩) (by omega) (fun H5 s5 => same_st s5 h2) ?_ ?_ mono_two
          · rintro D i z H5 H5' hD hD5 hi s5 ⟨r, a, b, rfl, hr, rfl, ea, eb⟩ Q' k'
            cases ea
            refine z_gTup (SqT.of upd_same) rfl ?_
            walk_at "zz"
            refine ⟨rfl, ?_⟩
            walk_at "zz"
            refine z_kTup (line_ge (by simp)) fun r2 H6 nr s6 h6 => ?_
            walk_at "zz"
            have s56 := (Same.new (o := .tup [.int (i : Nat), b]) hr).trans s6
            refine z_catA (same_st (s5.trans s56) hl3) (SqT.of h6) (by rw [sizeLine_eq, plV, List.length_map, List.length_singleton]; omega) fun q H7 s7 h7 _ => ?_
            walk_at "zz"
            refine z_kTup (line_ge (by simp)) fun r3 H8 nr8 s8 h8 => ?_
            refine k' _ H8 (s56.trans (s7.trans s8)) ⟨r3, q, b, rfl, SqT.of h8, ?_, eb⟩
            have e9 : plV (pl ++ [i]) = plV pl ++ [.int (i : Nat)] := by simp [plV]
            rw [e9]
            exact same_st s8 h7
          · intro D H5 zs hD s5 hD5 hlz hzs
            walk_at "zz"
            have hp5 := s5 _ _ hp3
            refine ⟨ty_lst hp5, ?_⟩
            walk_at "zz"
            refine z_kRevL (SqL.of hD5) fun R H6 nR s6 h6 => ?_
            walk_at "zz"
            have hp6 := s6 _ _ hp5
            refine z_ext hp6 h6 (by rw [sizeLine_eq, List.length_reverse]; have := hst3.1; omega) ?_
            walk_at "zz"
            have s36 := s5.trans s6
            have kI7 : KI K H6 (upd H6 p (.lst (ys' ++ zs.reverse))) := KI.lst hp6
            have inn : StksAt K T.CM H6 zs (qs.zipIdx.map fun x => (pl ++ [x.2], x.1)) := by
              refine ⟨by rw [hlz, List.length_map, List.length_zipIdx, hlw], fun i y q e1 e2 => ?_⟩
              obtain ⟨r, q', a, rfl, h7, h8, h9⟩ := hzs i y e1
              rw [List.getElem?_map, List.getElem?_zipIdx] at e2
              cases e4 : qs[i]? with
              | none => rw [e4] at e2; cases e2
              | some c =>
                rw [e4] at e2
                have e5 : (pl ++ [i], c) = q := by simpa using e2
                obtain ⟨v, ev, hv⟩ := mades_at h3 e4
                rw [ev] at h9
                cases h9
                rw [← e5]
                exact ⟨r, q', _, rfl, same_st s6 h7, same_st s6 h8, made_same s36 hv⟩
            have zin : stkSize (qs.zipIdx.map fun x => (pl ++ [x.2], x.1)).reverse = sizeAll qs := by
              unfold stkSize
              rw [List.map_reverse, sizeAll_rev, List.map_map]
              congr 1
              have : (Prod.snd ∘ fun x : Nm.T × Nat => (pl ++ [x.2], x.1)) = Prod.fst := rfl
              rw [this, List.zipIdx_map_fst]
            refine ⟨stkSize (st' ++ (qs.zipIdx.map fun x => (pl ++ [x.2], x.1)).reverse), by rw [stkSize_app, zin]; omega, _, _, _, ys' ++ zs.reverse, st' ++ (qs.zipIdx.map fun x => (pl ++ [x.2], x.1)).reverse, fl ++ [pl], rfl, Nm.Same.mut (sH3.trans s36) pn, grow_other (hf3.same s36) hp6 fp, upd_same, (((hst3.ki (KI.keep (same_keep s36))).app inn.rev).ki kI7), ?_, by rw [stkSize_app, zin, List.length_append, List.length_singleton]; omega, rfl⟩
            rw [← hfl, stackP_app, stackP_inner, cellsT]
            simp
      · subst he
        have e0 : st = [] := List.eq_nil_of_length_eq_zero hst.1.symm
        subst e0
        rw [stackP_nil, List.append_nil] at hfl
        obtain ⟨vs, hs, hd, hl⟩ := hf.sq
        walk_at "zz"
        refine z_tupleOfL hs fun q H5 nq s5 h5 => ?_
        refine k q H5 (sH.trans s5) ?_
        have e1 : (cellsT t).map (fun c => plD c.1) = fl.map plD := by rw [hfl, List.map_map]; rfl
        rw [e1]
        exact .tup (SqT.of h5) (dps_keep (same_keep s5) hd)
end
end K01

namespace K01
open PySem PySem.Spec PyProof.Rows L2 Nm
theorem pl_at {pl : List Nat} {i : Nat} {x : V} (h : (plV pl)[i]? = some x) : ∃ k, pl[i]? = some k ∧ x = .int (k : Nat) := by
  unfold plV at h
  rw [List.getElem?_map] at h
  cases e : pl[i]? with
  | none => rw [e] at h; cases h
  | some k => rw [e] at h; exact ⟨k, rfl, (Option.some.inj h).symm⟩
theorem tk_at {α : Type} {l : List α} {n j : Nat} {b : α} (h : (l.take n)[j]? = some b) : l[j]? = some b := by
  rw [List.getElem?_take] at h
  split at h
  · exact h
  · cases h
theorem drop_at {α : Type} {l : List α} {i : Nat} {a : α} (h : l[i]? = some a) : l.drop i = a :: l.drop (i + 1) := by
  obtain ⟨hi, e⟩ := List.getElem?_eq_some_iff.mp h
  rw [List.drop_eq_getElem_cons hi, e]
section
variable {P : Program} {w : World} {K : PySem.W.Frag} {mg : Str → Option Value} {base : Heap}
def spPart (K : PySem.W.Frag) (C : Addr) : Sp := fun vs H Q _ => ∃ (x : V) (p : Addr) (t : Nm.T) (pl : List Nat), vs = [x, .ref p] ∧ MadeAt K C H t x ∧ SqT K H p (plV pl) ∧ (∀ v s H', partAt t pl = some s → Same H H' → MadeAt K C H' s v → Q v H') ∧ (∀ H', partAt t pl = none → Same H H' → Q .non H')
theorem ok_partat (T : Tx P K mg) : FnOk P w K mg base CX0 1 T.apartat T.fdpartat ["value", "place"] (spPart K T.CM) := by
  refine T.Dpartat.F.ok scpartat (fun vs H Q E h => ?_) (fun cdv A outer s H vs Q E hr h => ?_)
  · obtain ⟨x, p, t, pl, rfl, _⟩ := h
    rfl
  · obtain ⟨x, p, t, pl, rfl, hx, hp, k1, k2⟩ := h
    refine ⟨_, pss_cons (ps_for PassesOwn.never rfl (pi_tup (pv 1)) (pg_name (i := 2) scpartat.nd rfl (Or.inl rfl))
(pss_cons (ps_if (pt_cut (PW.pt (pw_or (pt_not (pt_val (pe_callB call_isi (by rfl) T.n_isinstance (by decide +kernel) (pa_cons (pv 0) (pa_cons (pe_glob rfl T.g_Made rel_ref) pa_nil))))) (pw_or1 (pt_not (pt_chain op_le op_lt (pe_int) (pv 2) (pe_callB call_lenL (by rfl) T.n_len (by decide +kernel) (pa_cons (pe_fld (pv 0) rfl) pa_nil))))))))
(pss_one (ps_ret (pe_non)))
(pss_nil))
(pss_one (ps_set (i := 0) scpartat.nd rfl (Or.inl rfl) (pe_ix ix_tup (pe_fld (pv 0) rfl) (pv 2) (fun _ _ => rfl))))))
(pss_one (ps_ret (pv 0))), ?_⟩
    walk_at "z0"
    walk_at "zz"
    refine z_kIT hp (f_tup (K := K) (a := p) (xs := plV pl) (fun i σ' H' => ∃ (v : V) (s : Nm.T) (v2 : Option V), σ' = [some v, some (.ref p), v2] ∧ Same H H' ∧ MadeAt K T.CM H' s v ∧ partAt t pl = partAt s (pl.drop i)) ⟨x, t, _, rfl, Same.refl _, hx, by rw [List.drop_zero]⟩ (fun i σ' H' ⟨_, _, _, _, sH, _⟩ => same_st sH hp) ?_ ?_)
    · rintro i z σ' H' hz ⟨v, s, v2, rfl, sH, hv, hpt⟩
      obtain ⟨n, hn, rfl⟩ := pl_at hz
      rw [drop_at hn] at hpt
      walk_at "zz"
      cases s with
      | num l =>
        refine z_cutB true ?_ fun H2 s2 => ?_
        · walk_at "zz"
          refine z_isMade T.MM hv ?_
          walk_at "zz"
          exact ⟨rfl, Same.refl _⟩
        refine iteT ?_
        walk_at "zz"
        exact k2 H2 (by rw [hpt, part_num]) (sH.trans s2)
      | node m qs =>
        refine z_cutB (!decide (n < qs.length)) ?_ fun H2 s2 => ?_
        · walk_at "zz"
          refine z_isMade T.MM hv ?_
          walk_at "zz"
          refine z_iteNT ?_
          walk_at "zz"
          rw [show decide ((0 : Int) ≤ (n : Nat)) = true from decide_eq_true (by omega)]
          refine iteT ?_
          walk_at "zz"
          refine z_parts T.MM hv fun pp ws h2 h3 hl => ?_
          walk_at "zz"
          refine z_lenT h2 ?_
          walk_at "zz"
          refine ⟨?_, Same.refl _⟩
          congr 1
          exact decide_eq_decide.mpr (by omega)
        have hv2 := made_same s2 hv
        refine z_ite (fun e => ?_) (fun e => ?_)
        · have e' : ¬ n < qs.length := of_decide_eq_false (not_t e)
          walk_at "zz"
          exact k2 H2 (by rw [hpt, part_out (by omega)]) (sH.trans s2)
        · have e' : n < qs.length := of_decide_eq_true (not_f e)
          walk_at "zz"
          refine z_parts T.MM hv2 fun pp ws h2 h3 hl => ?_
          have hq : qs[n]? = some qs[n] := List.getElem?_eq_getElem e'
          obtain ⟨u, eu, hu⟩ := mades_at h3 hq
          walk_at "zz"
          refine z_ixT h2 (at_of rfl eu) ?_
          walk_at "zz"
          refine ⟨u, qs[n], _, rfl, sH.trans s2, hu, ?_⟩
          rw [hpt, partAt, hq]
    · rintro σ' H' ⟨v, s, v2, rfl, sH, hv, hpt⟩
      walk_at "zz"
      have e : pl.drop (plV pl).length = [] := by
        unfold plV
        rw [List.length_map, List.drop_length]
      rw [e, partAt] at hpt
      exact k1 v s H' hpt sH hv
/-- a frame of value_with: the node, and at which part -/
def FrAt (K : PySem.W.Frag) (C : Addr) (H : Hp) (y : V) (f : Fr3) : Prop := ∃ r a, y = .ref r ∧ SqT K H r [a, .int (f.2.2 : Nat)] ∧ MadeAt K C H (.node f.1 f.2.1) a ∧ f.2.2 < f.2.1.length ∧ f.2.1.length ≤ 1000000
def FrsAt (K : PySem.W.Frag) (C : Addr) (H : Hp) (ys : List V) (fr : List Fr3) : Prop := ys.length = fr.length ∧ ∀ (i : Nat) (y : V) (f : Fr3), ys[i]? = some y → fr[i]? = some f → FrAt K C H y f
theorem FrAt.ki {C : Addr} {H H' : Hp} {y : V} {f : Fr3} (k : KI K H H') (h : FrAt K C H y f) : FrAt K C H' y f := by
  obtain ⟨r, a, e, h1, h2, h3, h4⟩ := h
  exact ⟨r, a, e, k.tup _ _ h1, made_ki k h2, h3, h4⟩
theorem FrsAt.ki {C : Addr} {H H' : Hp} {ys : List V} {fr : List Fr3} (k : KI K H H') (h : FrsAt K C H ys fr) : FrsAt K C H' ys fr := ⟨h.1, fun i y f e1 e2 => (h.2 i y f e1 e2).ki k⟩
theorem FrsAt.snoc {C : Addr} {H : Hp} {ys : List V} {fr : List Fr3} {y : V} {f : Fr3} (h : FrsAt K C H ys fr) (h2 : FrAt K C H y f) : FrsAt K C H (ys ++ [y]) (fr ++ [f]) := ⟨by simp [h.1], fun i z g e1 e2 => by
  by_cases c : i < ys.length
  · rw [List.getElem?_append_left c] at e1
    rw [List.getElem?_append_left (by rw [← h.1]; exact c)] at e2
    exact h.2 i z g e1 e2
  · rw [List.getElem?_append_right (by omega)] at e1
    rw [List.getElem?_append_right (by rw [← h.1]; omega), ← h.1] at e2
    cases q : i - ys.length with
    | zero =>
      rw [q] at e1 e2
      cases e1
      cases e2
      exact h2
    | succ n => rw [q] at e1; simp at e1⟩
def spWith (K : PySem.W.Frag) (C CN : Addr) : Sp := fun vs H Q E => ∃ (x : V) (p : Addr) (q : V) (t : Nm.T) (pl : List Nat) (u : Nm.T), vs = [x, .ref p, q] ∧ MadeAt K C H t x ∧ SqT K H p (plV pl) ∧ MadeAt K C H u q ∧ t.size ≤ 1000000 ∧ pl.length ≤ 1000000 ∧
  (∀ r v H', withAt t pl u = some r → Same H H' → MadeAt K C H' r v → Q v H') ∧ (withAt t pl u = none → ∀ d H', H d = none → Same H H' → H' d = some (.xd [("name", .ref p)]) → E (.ref CN) (some d) H')
theorem ok_with (T : Tx P K mg) : FnOk P w K mg base (L2.CX P w) 3 T.awith T.fdwith ["value", "place", "part"] (spWith K T.CM T.CNoName) := by
  have Ginit : FnOk P w K mg base CX0 1 T.ainit T.fdinit ["self", "maker", "parts"] (spMadeI K T.CM) := ok_init T
  refine T.Dwith.F.okX scwith (fun vs H Q E h => ?_) (fun cdv A outer s H vs Q E hr h => ?_)
  · obtain ⟨x, p, q, t, pl, u, rfl, _⟩ := h
    rfl
  · obtain ⟨x, p, q, t, pl, u, rfl, hx, hp, hq, zt, zp, k1, k2⟩ := h
    have hrinit := hr
    have hu := hu_of hr
    refine ⟨_, pss_cons (ps_set (i := 3) scwith.nd rfl (Or.inl rfl) (pe_lst pa_nil))
(pss_cons (ps_for (passes_of rfl) rfl (pi_tup (pv 1)) (pg_name (i := 4) scwith.nd rfl (Or.inl rfl))
(pss_cons (ps_if (pt_cut (PW.pt (pw_or (pt_not (pt_val (pe_callB call_isi (by rfl) T.n_isinstance (by decide +kernel) (pa_cons (pv 0) (pa_cons (pe_glob rfl T.g_Made rel_ref) pa_nil))))) (pw_or1 (pt_not (pt_chain op_le op_lt (pe_int) (pv 4) (pe_callB call_lenL (by rfl) T.n_len (by decide +kernel) (pa_cons (pe_fld (pv 0) rfl) pa_nil))))))))
(pss_one (ps_raiseE rfl T.ENoName (by decide) hr (takes_of rfl rfl rfl rfl) (pa_cons (pv 1) pa_nil)))
(pss_nil))
(pss_cons (ps_expr (pe_bm PySem.F.plainAttrs_list PySem.F.slot_list_append PySem.F.type_list_append mt_append (pv 3) (pa_cons (pe_tup (pa_cons (pv 0) (pa_cons (pv 4) pa_nil))) pa_nil)))
(pss_one (ps_set (i := 0) scwith.nd rfl (Or.inl rfl) (pe_ix ix_tup (pe_fld (pv 0) rfl) (pv 4) (fun _ _ => rfl)))))))
(pss_cons (ps_for (passes_of rfl) rfl (pi_list (pe_revL (pv 3))) (pg_tup rfl (pgs_cons (pg_name (i := 5) scwith.nd rfl (Or.inl rfl)) (pgs_cons (pg_name (i := 4) scwith.nd rfl (Or.inl rfl)) pgs_nil)))
(pss_one (ps_set (i := 2) scwith.nd rfl (Or.inl rfl) (pe_make T.M_Made Ginit hrinit rfl T.g_Made T.Dinit.b .nil pass0 (pa_cons (pe_fld (pv 5) rfl) (pa_cons (pe_op op_catA (pe_op op_catA (pe_slice sl_tupA (pe_fld (pv 5) rfl) po_none (po_some (pv 4))) (pe_tup (pa_cons (pv 2) pa_nil))) (pe_slice sl_tupA (pe_fld (pv 5) rfl) (po_some (pe_op op_add (pv 4) (pe_int))) po_none)) pa_nil))))))
(pss_one (ps_ret (pv 2))))), ?_⟩
    walk_at "z0"
    walk_at "zz"
    refine z_kLst (line_ge (by simp)) fun f H1 fn s1 h1 => ?_
    walk_at "zz"
    refine z_kIT (same_st s1 hp) (f_tup (K := K) (a := p) (xs := plV pl) (fun i σ' H' => ∃ (v : V) (s : Nm.T) (v4 v5 : Option V) (ys : List V) (fr : List Fr3), σ' = [some v, some (.ref p), some q, some (.ref f), v4, none] ∧ i ≤ pl.length ∧ Same H H' ∧ MadeAt K T.CM H' s v ∧ s.size ≤ t.size ∧ H' f = some (.lst ys) ∧ ys.length = i ∧ FrsAt K T.CM H' ys fr ∧ withAt t pl u = (withAt s (pl.drop i) u).map (rebuild fr))
      ⟨x, t, _, none, [], [], rfl, Nat.zero_le _, s1, made_same s1 hx, Nat.le_refl _, h1, rfl, ⟨rfl, fun i y g e _ => by simp at e⟩, by rw [List.drop_zero]; cases withAt t pl u <;> rfl⟩ (fun i σ' H' ⟨_, _, _, _, _, _, _, _, sH, _⟩ => same_st sH hp) ?_ ?_)
    · rintro i z σ' H' hz ⟨v, s, v4, v5, ys, fr, rfl, hi, sH, hv, zs, hf, hly, hfr, hw⟩
      obtain ⟨n, hn, rfl⟩ := pl_at hz
      have hil := (List.getElem?_eq_some_iff.mp hn).1
      rw [drop_at hn] at hw
      walk_at "zz"
      cases s with
      | num l =>
        refine z_cutB true ?_ fun H2 s2 => ?_
        · walk_at "zz"
          refine z_isMade T.MM hv ?_
          walk_at "zz"
          exact ⟨rfl, Same.refl _⟩
        refine iteT ?_
        walk_at "zz"
        refine z_kErr rfl fun d H3 nd s3 h3 => ?_
        have nd' : H d = none := by
          cases e : H d with
          | none => rfl
          | some o => rw [(sH.trans s2) _ _ e] at nd; cases nd
        exact k2 (by rw [hw, withAt]; rfl) d H3 nd' ((sH.trans s2).trans s3) h3
      | node m qs =>
        have lq := sizeAll_len qs
        rw [Nm.T.size] at zs
        refine z_cutB (!decide (n < qs.length)) ?_ fun H2 s2 => ?_
        · walk_at "zz"
          refine z_isMade T.MM hv ?_
          walk_at "zz"
          refine z_iteNT ?_
          walk_at "zz"
          rw [show decide ((0 : Int) ≤ (n : Nat)) = true from decide_eq_true (by omega)]
          refine iteT ?_
          walk_at "zz"
          refine z_parts T.MM hv fun pp ws h2 h3 hl => ?_
          walk_at "zz"
          refine z_lenT h2 ?_
          walk_at "zz"
          refine ⟨?_, Same.refl _⟩
          congr 1
          exact decide_eq_decide.mpr (by omega)
        have hv2 := made_same s2 hv
        refine z_ite (fun e => ?_) (fun e => ?_)
        · have e' : ¬ n < qs.length := of_decide_eq_false (not_t e)
          walk_at "zz"
          refine z_kErr rfl fun d H3 nd s3 h3 => ?_
          have nd' : H d = none := by
            cases e : H d with
            | none => rfl
            | some o => rw [(sH.trans s2) _ _ e] at nd; cases nd
          exact k2 (by rw [hw, withAt, List.getElem?_eq_none (by omega)]; rfl) d H3 nd' ((sH.trans s2).trans s3) h3
        · have e' : n < qs.length := of_decide_eq_true (not_f e)
          have hq' : qs[n]? = some qs[n] := List.getElem?_eq_getElem e'
          have sn := size_mem (List.getElem_mem e')
          walk_at "zz"
          have hf2 := s2 _ _ hf
          refine ⟨ty_lst hf2, ?_⟩
          walk_at "zz"
          refine z_kTup (line_ge (by simp)) fun r H3 nr s3 h3 => ?_
          walk_at "zz"
          have hf3 := s3 _ _ hf2
          have s23 := s2.trans s3
          refine z_app hf3 (by rw [sizeLine_eq]; omega) ?_
          walk_at "zz"
          have kI : KI K H3 (upd H3 f (.lst (ys ++ [.ref r]))) := KI.lst hf3
          have sH4 : Same H (upd H3 f (.lst (ys ++ [.ref r]))) := Nm.Same.mut (sH.trans s23) fn
          have hf4 : upd H3 f (.lst (ys ++ [.ref r])) f = some (.lst (ys ++ [.ref r])) := upd_same
          have hv4 : MadeAt K T.CM _ (.node m qs) v := made_ki kI (made_same s23 hv)
          have hfr4 : FrsAt K T.CM (upd H3 f (.lst (ys ++ [.ref r]))) (ys ++ [.ref r]) (fr ++ [(m, qs, n)]) := ((hfr.ki (KI.keep (same_keep s23))).snoc ⟨r, v, rfl, SqT.of h3, made_same s23 hv, e', by show qs.length ≤ 1000000; omega⟩).ki kI
          generalize upd H3 f (.lst (ys ++ [.ref r])) = H4 at sH4 hf4 hv4 hfr4
          refine z_parts T.MM hv4 fun pp ws h5 h6 hl => ?_
          obtain ⟨va, ea, ha⟩ := mades_at h6 hq'
          walk_at "zz"
          refine z_ixT h5 (at_of rfl ea) ?_
          walk_at "zz"
          refine ⟨va, qs[n], _, none, _, fr ++ [(m, qs, n)], rfl, hil, sH4, ha, by omega, hf4, by simp [hly], hfr4, ?_⟩
          rw [hw, withAt, hq']
          show ((withAt qs[n] (pl.drop (i + 1)) u).map _).map _ = _
          rw [Option.map_map]
          congr 1
          funext b
          exact (rebuild_app fr (m, qs, n) b).symm
    · rintro σ' H' ⟨v, s, v4, v5, ys, fr, rfl, hi, sH, hv, zs, hf, hly, hfr, hw⟩
      have e : pl.drop (plV pl).length = [] := by
        unfold plV
        rw [List.length_map, List.drop_length]
      rw [e, withAt] at hw
      walk_at "zz"
      refine z_kRevL (SqL.of hf) fun R H5 nR s5 h5 => ?_
      have hq5 := made_same (sH.trans s5) hq
      refine z_kIL (SqL.of h5) (f_list (K := K) (a := R) (xs := ys.reverse) (fun i σ' H' => ∃ (v0 v4 v5 : Option V) (v : V), σ' = [v0, some (.ref p), some v, some (.ref f), v4, v5] ∧ Same H5 H' ∧ MadeAt K T.CM H' ((fr.reverse.take i).foldl putFr u) v) ⟨_, _, _, q, rfl, Same.refl _, hq5⟩ (fun i σ' H' ⟨_, _, _, _, _, sH', _⟩ => SqL.of (sH' _ _ h5)) ?_ ?_)
      · rintro i z σ' H6 hz ⟨w0, w4, w5, va, rfl, s6, hva⟩
        have l1 : i < ys.length := by
          have := (List.getElem?_eq_some_iff.mp hz).1
          simpa using this
        have l2 : i < fr.reverse.length := by rw [List.length_reverse, ← hfr.1]; exact l1
        rw [List.getElem?_reverse l1] at hz
        have hg : fr[ys.length - 1 - i]? = some (fr.reverse[i]) := by
          have := List.getElem?_reverse (l := fr) (i := i) (by rw [← hfr.1]; exact l1)
          rw [List.getElem?_eq_getElem l2, ← hfr.1] at this
          exact this.symm
        obtain ⟨r, a, rfl, h7, h8, h9, h10⟩ := (hfr.2 _ z _ hz hg).ki (KI.keep (same_keep (s5.trans s6)))
        have htk : fr.reverse.take (i + 1) = fr.reverse.take i ++ [fr.reverse[i]] := by
          rw [List.take_add_one, List.getElem?_eq_getElem l2]
          rfl
        generalize fr.reverse[i] = g at h7 h8 h9 h10 htk
        obtain ⟨m, qs, n⟩ := g
        simp only at h7 h8 h9 h10
        refine z_gTup h7 (by rfl) ?_
        walk_at "zz"
        refine z_maker T.MM h8 ?_
        walk_at "zz"
        refine z_parts T.MM h8 fun pp ws h11 h12 hl => ?_
        walk_at "zz"
        refine z_slA h11 fun p1 H7 s7 h13 => ?_
        rw [cutV_to] at h13
        walk_at "zz"
        refine z_kTup (line_ge (by simp)) fun p2 H8 n8 s8 h14 => ?_
        walk_at "zz"
        refine z_catA (same_st s8 h13) (SqT.of h14) (by rw [sizeLine_eq, List.length_take, List.length_singleton]; omega) fun p3 H9 s9 h15 _ => ?_
        walk_at "zz"
        have h8' := made_same (s7.trans (s8.trans s9)) h8
        refine z_parts T.MM h8' fun pp' ws' h11' h12' hl' => ?_
        walk_at "zz"
        refine z_slA h11' fun p4 H10 s10 h16 => ?_
        rw [show ((n : Nat) : Int) + 1 = ((n + 1 : Nat) : Int) by omega, cutV_from] at h16
        walk_at "zz"
        refine z_catA (same_st s10 h15) h16 (by rw [sizeLine_eq, List.length_append, List.length_take, List.length_drop, List.length_singleton]; omega) fun p5 H11 s11 h17 _ => ?_
        walk_at "zz"
        refine z_made h17 fun xx dx fs H12 nx s12 h18 h19 h20 => ?_
        walk_at "zz"
        have s79 := s7.trans (s8.trans s9)
        have s7c := s79.trans (s10.trans (s11.trans s12))
        refine ⟨_, _, _, .ref xx, rfl, s6.trans s7c, ?_⟩
        rw [htk, List.foldl_append]
        show MadeAt K T.CM H12 (putFr ((fr.reverse.take i).foldl putFr u) (m, qs, n)) (.ref xx)
        refine made_mk h18 h19 h20 (same_st s12 h17) ?_
        show MadeAll K T.CM H12 (qs.set n _) _
        rw [← set_parts qs n _ h9]
        refine mades_app (mades_app ?_ ?_) ?_
        · refine mades_of (by rw [List.length_take, List.length_take, hl]) fun j b c e1 e2 => ?_
          obtain ⟨c', e3, h3⟩ := mades_at h12 (i := j) (t := b) (tk_at e1)
          rw [tk_at e2] at e3
          cases e3
          exact made_same s7c h3
        · exact mades_of rfl fun j b c e1 e2 => by
            cases j with
            | zero =>
              cases e1
              cases e2
              exact made_same s7c hva
            | succ j => simp at e1
        · refine mades_of (by rw [List.length_drop, List.length_drop, hl']) fun j b c e1 e2 => ?_
          rw [List.getElem?_drop] at e1 e2
          obtain ⟨c', e3, h3⟩ := mades_at h12' e1
          rw [e3] at e2
          cases e2
          exact made_same (s10.trans (s11.trans s12)) h3
      · rintro σ' H6 ⟨w0, w4, w5, va, rfl, s6, hva⟩
        walk_at "zz"
        refine k1 _ va H6 (by rw [hw]; rfl) (sH.trans (s5.trans s6)) ?_
        have e2 : fr.reverse.take ys.reverse.length = fr.reverse := List.take_of_length_le (by rw [List.length_reverse, List.length_reverse, hfr.1]; exact Nat.le_refl _)
        rw [e2, List.foldl_reverse] at hva
        exact hva
end
end K01

namespace K01
open PySem PySem.Spec PyProof.Rows L2 Nm
theorem depth_mem {t : Nm.T} {ts : List Nm.T} {n : Nat} (h : t ∈ ts) (hd : 1 + depthAll ts ≤ n + 1) : t.depth ≤ n := depthAll_iff.mp (by omega) t h
section
variable {P : Program} {w : World} {K : PySem.W.Frag} {mg : Str → Option Value} {base : Heap}
def spOwn (K : PySem.W.Frag) (C : Addr) (n : Nat) : Sp := fun vs H Q _ => ∃ (x : V) (t : Nm.T), vs = [x] ∧ MadeAt K C H t x ∧ t.depth ≤ n ∧ t.size ≤ 1000000 ∧ ∀ v H', Same H H' → Dp K (Nw H H') v t.own → Q v H'
theorem ok_own (T : Tx P K mg) : ∀ n, FnOk P w K mg base CX0 (0 + n + 1) T.aown T.fdown ["_law_value"] (spOwn K T.CM n) := by
  refine rec_ok 0 (spOwn K T.CM) fun n Gown => ?_
  refine T.Down.F.ok scown (fun vs H Q E h => ?_) (fun cdv A outer s H vs Q E hr h => ?_)
  · obtain ⟨x, t, rfl, _⟩ := h
    rfl
  · obtain ⟨x, t, rfl, hx, hd, hz, k⟩ := h
    have hrown := hr
    have hu := hu_of hr
    refine ⟨_, pss_cons (ps_if (pt_val (pe_callB call_isi (by rfl) T.n_isinstance (by decide +kernel) (pa_cons (pv 0) (pa_cons (pe_bltn (v := .ty "int") rfl T.n_int (by decide +kernel) rfl) pa_nil))))
(pss_one (ps_ret (pv 0)))
(pss_nil))
(pss_one (ps_ret (pe_tup (pa_cons (pe_fld (pv 0) rfl) (pa_cons (pe_lc (own := [("_law_part", 1)]) rfl scown.nd (pi_tup (pe_fld (pv 0) rfl)) (blkOk_by (own := [("_law_part", 1)]) (N := ["_law_value", "_law_part"]) (sc := defScope sown) (by decide +kernel)) (fun _ _ _ _ _ => pg_name (i := 1) scown.nd rfl (Or.inl rfl)) (fun _ _ _ _ _ => pts_nil) (fun _ _ _ _ _ => pe_callN T.Down Gown hrown pass0 (pa_cons (pv 1) pa_nil))) pa_nil))))), ?_⟩
    walk_at "z0"
    walk_at "zz"
    refine z_isInt T.MM hx ?_
    walk_at "zz"
    cases t with
    | num l =>
      refine iteT ?_
      walk_at "zz"
      rw [MadeAt] at hx
      subst hx
      exact k _ H (Same.refl _) (by rw [Nm.T.own]; exact .int l)
    | node m qs =>
      refine iteF ?_
      rw [Nm.T.depth] at hd
      rw [Nm.T.size] at hz
      obtain ⟨n, rfl⟩ : ∃ n', n = n' + 1 := ⟨n - 1, by omega⟩
      walk_at "zz"
      refine z_maker T.MM hx ?_
      walk_at "zz"
      refine z_parts T.MM hx fun pp ws h2 h3 hl => ?_
      refine z_kIT h2 ?_
      have qz := sizeAll_len qs
      refine l_gen walk_tup (fun D i v H1 => ∀ s, qs[i]? = some s → Dp K (del (Nw H H1) D) v s.own) (fun D i v H1 H2 s h q e => dp_keep (same_keep (del_mono (nw_mono s))) (h q e)) (fun D i v H1 xs o hD hx h q e => dp_keep (same_keep del_upd) (h q e)) (by omega) (fun H5 s5 => same_st s5 h2) ?_ ?_ mono_name
      · rintro D i z H5 H5' hD hD5 hi s5 ⟨eH, ez⟩ Q' k'
        subst eH
        refine ⟨rfl, ?_⟩
        walk_at "zz"
        obtain ⟨s, es⟩ : ∃ s, qs[i]? = some s := ⟨_, List.getElem?_eq_getElem (by omega)⟩
        obtain ⟨v', ev, hv⟩ := mades_at h3 es
        rw [ez] at ev
        cases ev
        have ms := List.mem_of_getElem? es
        refine ⟨z, s, rfl, made_same s5 hv, depth_mem ms hd, by have := size_mem ms; omega, fun v H6 s6 hv6 => k' v H6 s6 fun s' e' => ?_⟩
        rw [es] at e'
        cases e'
        exact dp_keep (same_keep (nw_del (dom_same s5) hD5)) hv6
      · intro D H5 ys hD s5 hD5 hly hys
        walk_at "zz"
        refine z_kTup (line_ge (by simp)) fun p H6 np s6 h6 => ?_
        walk_at "zz"
        refine k _ H6 (s5.trans s6) (own_mk (l := D) (vs := ys) (SqT.of (nw_at ?_ h6)) (SqL.of (nw_at hD (s6 _ _ hD5))) (dps_own (by omega) fun i v t e1 e2 => dp_keep (same_keep (del_sub.trans (nw_mono s6))) (hys i v e1 t e2)))
        cases e : H p with
        | none => rfl
        | some o => rw [s5 _ _ e] at np; cases np
def spMade (K : PySem.W.Frag) (C : Addr) (n : Nat) : Sp := fun vs H Q _ => ∃ (x : V) (t : Nm.T), vs = [x] ∧ Dp K H x t.own ∧ t.depth ≤ n ∧ t.size ≤ 1000000 ∧ ∀ v H', Same H H' → MadeAt K C H' t v → Q v H'
theorem ok_made (T : Tx P K mg) : ∀ n, FnOk P w K mg base CX0 (2 + n + 1) T.amade T.fdmade ["_law_value"] (spMade K T.CM n) := by
  have Ginit : FnOk P w K mg base CX0 1 T.ainit T.fdinit ["self", "maker", "parts"] (spMadeI K T.CM) := ok_init T
  refine rec_ok 2 (spMade K T.CM) fun n Gmade => ?_
  refine T.Dmade.F.ok scmade (fun vs H Q E h => ?_) (fun cdv A outer s H vs Q E hr h => ?_)
  · obtain ⟨x, t, rfl, _⟩ := h
    rfl
  · obtain ⟨x, t, rfl, hx, hd, hz, k⟩ := h
    have hrmade := hr
    have hrinit := hr.mono (j := 2) (by omega)
    have hu := hu_of hr
    refine ⟨_, pss_one (ps_ret (pe_cut (pe_ifExp (pt_val (pe_callB call_isi (by rfl) T.n_isinstance (by decide +kernel) (pa_cons (pv 0) (pa_cons (pe_bltn (v := .ty "int") rfl T.n_int (by decide +kernel) rfl) pa_nil)))) (pv 0) (pe_make T.M_Made Ginit hrinit rfl T.g_Made T.Dinit.b .nil pass0 (pa_cons (pe_ix ix_tup (pv 0) (pe_int) (fun _ _ => rfl)) (pa_cons (pe_callTy call_tupleOf (by rfl) T.n_tuple (by decide +kernel) (pa_cons (pe_lc (own := [("_law_part", 1)]) rfl scmade.nd (pi_list (pe_ix ix_tup (pv 0) (pe_int) (fun _ _ => rfl))) (blkOk_by (own := [("_law_part", 1)]) (N := ["_law_value", "_law_part"]) (sc := defScope smade) (by decide +kernel)) (fun _ _ _ _ _ => pg_name (i := 1) scmade.nd rfl (Or.inl rfl)) (fun _ _ _ _ _ => pts_nil) (fun _ _ _ _ _ => pe_callN T.Dmade Gmade hrmade pass0 (pa_cons (pv 1) pa_nil))) pa_nil)) pa_nil)))))), ?_⟩
    walk_at "z0"
    walk_at "zz"
    refine z_cutE (fun v H' => Same H H' ∧ MadeAt K T.CM H' t v) ?_ fun v H' ⟨s, h⟩ => ?_
    · walk_at "zz"
      refine z_ownInt hx ?_
      walk_at "zz"
      cases t with
      | num l =>
        refine iteT ?_
        walk_at "zz"
        rw [own_num hx]
        exact ⟨Same.refl _, by rw [MadeAt]⟩
      | node m qs =>
        refine iteF ?_
        rw [Nm.T.depth] at hd
        rw [Nm.T.size] at hz
        obtain ⟨n, rfl⟩ : ∃ n', n = n' + 1 := ⟨n - 1, by omega⟩
        obtain ⟨a, l, vs, rfl, ha, hl, hvs⟩ := own_node hx
        obtain ⟨lvs, hvs⟩ := dps_own_at hvs
        walk_at "zz"
        refine z_ixT ha rfl ?_
        walk_at "zz"
        refine z_ixT ha rfl ?_
        refine z_kIL hl ?_
        have qz := sizeAll_len qs
        refine l_gen walk_list (fun D i v H1 => ∀ s, qs[i]? = some s → MadeAt K T.CM H1 s v) (fun D i v H1 H2 s h q e => made_same s (h q e)) (fun D i v H1 xs o hD hx h q e => made_ki (KI.lst hx) (h q e)) (by omega) (fun H5 s5 => same_sq s5 hl) ?_ ?_ mono_name
        · rintro D i z H5 H5' hD hD5 hi s5 ⟨eH, ez⟩ Q' k'
          subst eH
          refine ⟨rfl, ?_⟩
          walk_at "zz"
          obtain ⟨s, es⟩ : ∃ s, qs[i]? = some s := ⟨_, List.getElem?_eq_getElem (by omega)⟩
          have ms := List.mem_of_getElem? es
          refine ⟨z, s, rfl, dp_keep (same_keep s5) (hvs i z s ez es), depth_mem ms hd, by have := size_mem ms; omega, fun v H6 s6 hv6 => k' v H6 s6 fun s' e' => ?_⟩
          rw [es] at e'
          cases e'
          exact hv6
        · intro D H5 ys hD s5 hD5 hly hys
          walk_at "zz"
          refine z_tupleOfL (SqL.of hD5) fun p H6 np s6 h6 => ?_
          walk_at "zz"
          refine z_made (SqT.of h6) fun xx dx fs H7 nx s7 h8 h9 h10 => ?_
          exact ⟨s5.trans (s6.trans s7), made_mk h8 h9 h10 (SqT.of (s7 _ _ h6)) (mades_of (by omega) fun i t v e1 e2 => made_same (s6.trans s7) (hys i v e2 t e1))⟩
    · walk_at "zz"
      exact k v H' s h
end
end K01

namespace K01
open PySem PySem.Spec PyProof.Rows L2 Nm
mutual
/-- no maker has more than four parts -/
def thin : Nm.T → Bool
  | .num _ => true
  | .node _ ps => decide (ps.length ≤ 4) && thinAll ps
def thinAll : List Nm.T → Bool
  | [] => true
  | t :: ts => thin t && thinAll ts
end
theorem thinAll_iff {ts : List Nm.T} : thinAll ts = true ↔ ∀ t ∈ ts, thin t = true := by
  induction ts with
  | nil => simp [thinAll]
  | cons t ts ih => simp [thinAll, ih]
def bnd : Nat → Nat
  | 0 => 1
  | n + 1 => 1 + 4 * bnd n
theorem bnd_pos : ∀ n, 1 ≤ bnd n
  | 0 => Nat.le_refl _
  | n + 1 => by rw [bnd]; omega
theorem bnd_le {n : Nat} (h : n ≤ 4) : bnd n ≤ 341 := by
  match n, h with
  | 0, _ | 1, _ | 2, _ | 3, _ | 4, _ => decide
def cost : Nat → Nat
  | 0 => 2
  | n + 1 => 3 + 4 * cost n
theorem cost_ge : ∀ n, 2 ≤ cost n
  | 0 => Nat.le_refl _
  | n + 1 => by rw [cost]; omega
theorem cost_le {n : Nat} (h : n ≤ 4) : cost n ≤ 1000 := by
  match n, h with
  | 0, _ | 1, _ | 2, _ | 3, _ | 4, _ => decide
/-- a drawn value -/
structure Small (n : Nat) (t : Nm.T) : Prop where
  d : t.depth ≤ n + 1
  z : t.size ≤ bnd n
  g : t.good = true
  t : thin t = true
theorem small_num (n : Nat) (l : Int) : Small n (.num l) := ⟨by rw [Nm.T.depth]; omega, by rw [Nm.T.size]; exact bnd_pos n, rfl, rfl⟩
theorem small_leaf (n : Nat) {m : Str} (h : okV 24 (.str m) = true) : Small n (.node m []) := ⟨by rw [Nm.T.depth, depthAll]; omega, by rw [Nm.T.size, sizeAll]; exact bnd_pos n, by rw [Nm.T.good, h]; rfl, rfl⟩
theorem sizeAll_le {b : Nat} : ∀ {ts : List Nm.T}, (∀ t ∈ ts, t.size ≤ b) → sizeAll ts ≤ b * ts.length
  | [], _ => by rw [sizeAll]; exact Nat.zero_le _
  | t :: ts, h => by
    have h1 := h t (by simp)
    have h2 := sizeAll_le (ts := ts) fun u hu => h u (by simp [hu])
    rw [sizeAll, List.length_cons, Nat.mul_succ]
    omega
theorem small_node {n : Nat} {m : Str} {ts : List Nm.T} (h : okV 24 (.str m) = true) (hl : ts.length ≤ 4) (ht : ∀ t ∈ ts, Small n t) : Small (n + 1) (.node m ts) := by
  refine ⟨?_, ?_, ?_, ?_⟩
  · rw [Nm.T.depth]
    have : depthAll ts ≤ n + 1 := depthAll_iff.mpr fun t h => (ht t h).d
    omega
  · rw [Nm.T.size, bnd]
    have h1 := sizeAll_le (b := bnd n) fun t h => (ht t h).z
    have h2 : bnd n * ts.length ≤ bnd n * 4 := Nat.mul_le_mul_left _ hl
    omega
  · rw [Nm.T.good, h, goodAll_iff.mpr fun t h => (ht t h).g]
    rfl
  · rw [thin, thinAll_iff.mpr fun t h => (ht t h).t, decide_eq_true hl]
    rfl
section
variable {P : Program} {w : World} {K : PySem.W.Frag} {mg : Str → Option Value} {base : Heap}
def spAny (K : PySem.W.Frag) (n : Nat) : Sp := fun vs H Q _ => ∃ (d c : Addr) (m : Nat), vs = [.ref d, .int (n : Nat)] ∧ Pen K H d c (m + cost n) ∧ ∀ v t H', But d H H' → Pen K H' d c m → Small n t → Dp K (Nw H H') v t.own → Q v H'
theorem pen_some {H : Hp} {d c : Addr} {m : Nat} (p : Pen K H d c m) : H d ≠ none := by
  obtain ⟨_, _, _, _, _, q, _⟩ := p
  rw [q]
  simp
theorem ok_any (T : Tx P K mg) : ∀ n, FnOk P w K mg base CX0 (2 + n + 1) T.aany T.fdany ["_law_pen_here", "_law_depth"] (spAny K n) := by
  have Gdraw : FnOk P w K mg base CX0 1 T.adraw T.fddraw ["_law_pen_here", "_law_many"] (spDraw K) := ok_draw T
  have Gpick : FnOk P w K mg base CX0 2 T.apick T.fdpick ["_law_pen_here", "_law_some"] (spPick K) := ok_pick T
  refine rec_ok 2 (spAny K) fun n Gany => ?_
  refine T.Dany.F.ok scany (fun vs H Q E h => ?_) (fun cdv A outer s H vs Q E hr h => ?_)
  · obtain ⟨d, c, m, rfl, _⟩ := h
    rfl
  · obtain ⟨d, c, m, rfl, p0, k⟩ := h
    have hrany := hr
    have hrdraw := hr.mono (j := 1) (by omega)
    have hrpick := hr.mono (j := 2) (by omega)
    have hu := hu_of hr
    have cge := cost_ge n
    refine ⟨_, pss_cons (ps_set (i := 2) scany.nd rfl (Or.inl rfl) (pe_callN T.Ddraw Gdraw hrdraw pass0 (pa_cons (pv 0) (pa_cons (pe_int) pa_nil))))
(pss_cons (ps_if (pt_cut (PW.pt (pw_or (pt_cmpR op_eq (pv 1) (pe_int) (nomark _)) (pw_or1 (pt_cmpR op_eq (pv 2) (pe_int) (nomark _))))))
(pss_one (ps_ret (pe_callN T.Dpick Gpick hrpick pass0 (pa_cons (pv 0) (pa_cons (pe_lst (pa_cons (pe_int) (pa_cons (pe_un un_neg (pe_int)) (pa_cons (pe_int) (pa_cons (pe_op op_sub (pe_op op_powW (pe_op op_pow (pe_int) (pe_int)) (pe_int)) (pe_int)) (pa_cons (pe_op op_sub (pe_int) (pe_op op_pow (pe_int) (pe_int))) (pa_cons (pe_tup (pa_cons (pe_str) (pa_cons (pe_lst pa_nil) pa_nil))) (pa_cons (pe_tup (pa_cons (pe_str) (pa_cons (pe_lst pa_nil) pa_nil))) pa_nil)))))))) pa_nil)))))
(pss_nil))
(pss_cons (ps_setLc (i := 3) (own := [("_law_k", 4)]) rfl scany.nd rfl rfl (sw_true rfl rfl rfl (by decide +kernel)) (pi_range1 rfl T.n_range (pa_cons (pe_callN T.Dpick Gpick hrpick pass0 (pa_cons (pv 0) (pa_cons (pe_lst (pa_cons (pe_int) (pa_cons (pe_int) (pa_cons (pe_int) (pa_cons (pe_int) pa_nil))))) pa_nil))) pa_nil)) (blkOk_by (own := [("_law_k", 4)]) (N := ["_law_pen_here", "_law_depth", "_law_way", "_law_parts", "_law_k"]) (sc := defScope sany) (by decide +kernel)) (fun _ _ _ _ _ => pg_name (i := 4) scany.nd rfl (Or.inl rfl)) (fun _ _ _ _ _ => pts_nil) (fun _ _ _ _ _ => pe_callN T.Dany Gany hrany pass0 (pa_cons (pv 0) (pa_cons (pe_op op_sub (pv 1) (pe_int)) pa_nil))))
(pss_one (ps_ret (pe_tup (pa_cons (pe_callN T.Dpick Gpick hrpick pass0 (pa_cons (pv 0) (pa_cons (pe_lst (pa_cons (pe_str) (pa_cons (pe_str) (pa_cons (pe_str) pa_nil)))) pa_nil))) (pa_cons (pv 3) pa_nil))))))), ?_⟩
    walk_at "z0"
    walk_at "zz"
    refine use_draw (m := m + cost n - 1) (by rw [show m + cost n - 1 + 1 = m + cost n by omega]; exact p0) (by omega) (by omega) fun r H1 r0 r1 b1 p1 => ?_
    walk_at "zz"
    refine z_cutB (decide (n = 0) || decide (r = 0)) ?_ fun H2 s2 => ?_
    · walk_at "zz"
      rw [show decide (((n : Nat) : Int) = 0) = decide (n = 0) from decide_eq_decide.mpr (by omega)]
      refine z_ite (fun e => ?_) (fun e => ?_)
      · exact ⟨by rw [e]; rfl, Same.refl _⟩
      · walk_at "zz"
        exact ⟨by rw [e]; rfl, Same.refl _⟩
    have p2 := p1.same s2
    have b2 := b1.trans (same_but s2)
    refine z_ite (fun e => ?_) (fun e => ?_)
    · walk_at "zz"
      refine z_rI ⟨by decide, by decide, by decide⟩ ?_
      walk_at "zz"
      refine z_rI ⟨by decide, by decide, by decide⟩ ?_
      walk_at "zz"
      refine z_kLst (line_ge (by simp)) fun l1 H3 n3 s3 h3 => ?_
      walk_at "zz"
      refine z_kTup (line_ge (by simp)) fun q1 H4 n4 s4 h4 => ?_
      walk_at "zz"
      refine z_kLst (line_ge (by simp)) fun l2 H5 n5 s5 h5 => ?_
      walk_at "zz"
      refine z_kTup (line_ge (by simp)) fun q2 H6 n6 s6 h6 => ?_
      walk_at "zz"
      refine z_kLst (line_ge (by simp)) fun l3 H7 n7 s7 h7 => ?_
      walk_at "zz"
      have s36 := s4.trans (s5.trans s6)
      have s37 := s3.trans (s36.trans s7)
      have p7 := p2.same s37
      have b7 := b2.trans (same_but s37)
      have d2 : Dom H H2 := dom_but b2 (pen_some p2)
      have nn : ∀ {a : Addr} {H0 : Hp}, Same H2 H0 → H0 a = none → H a = none := fun s h => d2 _ (dom_same s _ h)
      refine ⟨d, c, l3, m + cost n - 2, _, rfl, by rw [show m + cost n - 2 + 1 = m + cost n - 1 by omega]; exact p7, SqL.of h7, by simp, by simp, fun v H8 hv b8 p8 => ?_⟩
      walk_at "zz"
      have ok : ∃ t, Small n t ∧ Dp K (Nw H H8) v t.own := by
        have sb : Same (Nw H H7) (Nw H H8) := nw_but b8 (pen_some p0)
        have num : ∀ l : Int, ∃ t, Small n t ∧ Dp K (Nw H H8) (.int l) t.own := fun l => ⟨.num l, small_num n l, by rw [Nm.T.own]; exact .int l⟩
        rcases List.mem_cons.mp hv with rfl | hv
        · exact num _
        rcases List.mem_cons.mp hv with rfl | hv
        · exact num _
        rcases List.mem_cons.mp hv with rfl | hv
        · exact num _
        rcases List.mem_cons.mp hv with rfl | hv
        · exact num _
        rcases List.mem_cons.mp hv with rfl | hv
        · exact num _
        rcases List.mem_cons.mp hv with rfl | hv
        · refine ⟨.node "Nil" [], small_leaf n (by decide +kernel), own_mk (l := l1) (vs := []) (SqT.of (sb _ _ (nw_at (nn s3 n4) ((s5.trans (s6.trans s7)) _ _ h4)))) (SqL.of (sb _ _ (nw_at (nn (Same.refl _) n3) ((s36.trans s7) _ _ h3)))) (by rw [ownAll]; exact .nil)⟩
        rcases List.mem_cons.mp hv with rfl | hv
        · refine ⟨.node "X_1" [], small_leaf n (by decide +kernel), own_mk (l := l2) (vs := []) (SqT.of (sb _ _ (nw_at (nn (s3.trans (s4.trans s5)) n6) (s7 _ _ h6)))) (SqL.of (sb _ _ (nw_at (nn (s3.trans s4) n5) ((s6.trans s7) _ _ h5)))) (by rw [ownAll]; exact .nil)⟩
        cases hv
      obtain ⟨t, ht, hd⟩ := ok
      exact k v t H8 (b7.trans b8) (p8.less (by omega)) ht hd
    · rw [Bool.or_eq_false_iff] at e
      have en : n ≠ 0 := of_decide_eq_false e.1
      obtain ⟨n, rfl⟩ : ∃ n', n = n' + 1 := ⟨n - 1, by omega⟩
      rw [cost] at p2 cge
      walk_at "zz"
      refine z_kLst (line_ge (by simp)) fun l1 H3 n3 s3 h3 => ?_
      walk_at "zz"
      refine ⟨d, c, l1, m + 1 + 4 * cost n, _, rfl, (p2.same s3).less (by omega), SqL.of h3, by simp, by simp, fun v H4 hv b4 p4 => ?_⟩
      obtain ⟨j, hj, rfl⟩ : ∃ j : Nat, j ≤ 4 ∧ v = .int (j : Nat) := by
        rcases List.mem_cons.mp hv with rfl | hv
        · exact ⟨0, by omega, rfl⟩
        rcases List.mem_cons.mp hv with rfl | hv
        · exact ⟨1, by omega, rfl⟩
        rcases List.mem_cons.mp hv with rfl | hv
        · exact ⟨2, by omega, rfl⟩
        rcases List.mem_cons.mp hv with rfl | hv
        · exact ⟨4, by omega, rfl⟩
        cases hv
      have b04 := b2.trans ((same_but s3).trans b4)
      have d4 : Dom H H4 := dom_but b04 (pen_some p4)
      have jc : cost n * j ≤ 4 * cost n := by rw [Nat.mul_comm 4]; exact Nat.mul_le_mul_left _ hj
      walk_at "zz"
      refine z_kIR1 (by omega) (by omega) ?_
      rw [Int.toNat_natCast]
      refine l_genD (d := d) (c := c) (m := m + 1) (cost n) (fun D v H1 => ∃ t, Small n t ∧ Dp K (del (Nw H H1) D) v t.own) (fun D v H1 H2 b ⟨t, h1, h2⟩ => ⟨t, h1, dp_keep (same_keep (del_mono (nw_but b (pen_some p0)))) h2⟩) (fun D v H1 xs o hD hx ⟨t, h1, h2⟩ => ⟨t, h1, dp_keep (same_keep del_upd) h2⟩) (by omega) (p4.less (by omega)) ?_ ?_
      · intro D i H5 j' hD hD5 hi b5 d5 p5 Q' k'
        walk_at "zz"
        have e1 : ((n + 1 : Nat) : Int) - 1 = (n : Nat) := by omega
        rw [e1]
        exact ⟨d, c, j', rfl, p5, fun v t H6 b6 p6 ht hd => k' v H6 b6 ⟨t, ht, dp_keep (same_keep (nw_del (d4.trans d5) hD5)) hd⟩ p6⟩
      · intro D H5 ys hD b5 p5 hly hys hD5
        walk_at "zz"
        refine z_kLst (line_ge (by simp)) fun l2 H6 n6 s6 h6 => ?_
        walk_at "zz"
        refine ⟨d, c, l2, m, _, rfl, p5.same s6, SqL.of h6, by simp, by simp, fun v H7 hv b7 p7 => ?_⟩
        obtain ⟨nm, hnm, rfl⟩ : ∃ nm : Str, okV 24 (.str nm) = true ∧ v = .str nm := by
          rcases List.mem_cons.mp hv with rfl | hv
          · exact ⟨_, by decide +kernel, rfl⟩
          rcases List.mem_cons.mp hv with rfl | hv
          · exact ⟨_, by decide +kernel, rfl⟩
          rcases List.mem_cons.mp hv with rfl | hv
          · exact ⟨_, by decide +kernel, rfl⟩
          cases hv
        walk_at "zz"
        refine z_kTup (line_ge (by simp)) fun q H8 nq s8 h8 => ?_
        walk_at "zz"
        have pd : D ≠ d := p4.ne hD
        have b58 : But d H5 H8 := (same_but s6).trans (b7.trans (same_but s8))
        have b07 := b04.trans (b5.trans ((same_but s6).trans b7))
        have ex : ∃ ts : List Nm.T, ts.length = ys.length ∧ ∀ (i : Nat) (t : Nm.T) (y : V), ts[i]? = some t → ys[i]? = some y → Small n t ∧ Dp K (del (Nw H H5) D) y t.own := by
          clear hly hD5
          induction ys with
          | nil => exact ⟨[], rfl, fun i t y e _ => by simp at e⟩
          | cons y ys ih =>
            obtain ⟨t, h1, h2⟩ := hys y (by simp)
            obtain ⟨ts, hl, hq⟩ := ih fun y' hy' => hys y' (by simp [hy'])
            refine ⟨t :: ts, by rw [List.length_cons, List.length_cons, hl], fun i t' y' e1 e2 => ?_⟩
            cases i with
            | zero => cases e1; cases e2; exact ⟨h1, h2⟩
            | succ i => exact hq i t' y' e1 e2
        obtain ⟨ts, hlt, hts⟩ := ex
        have hd0 : H D = none := d4 _ hD
        have sm : ∀ t ∈ ts, Small n t := fun t ht => by
          obtain ⟨i, hi, e⟩ := List.mem_iff_getElem.mp ht
          have e1 : ts[i]? = some t := by rw [List.getElem?_eq_getElem hi, e]
          exact (hts i t ys[i] e1 (List.getElem?_eq_getElem (by omega))).1
        refine k _ (.node nm ts) H8 (b07.trans (same_but s8)) (p7.same s8) (small_node hnm (by omega) sm) (own_mk (l := D) (vs := ys) (SqT.of (nw_at ?_ h8)) (SqL.of (nw_at hd0 (b58 _ _ pd hD5))) (dps_own (by omega) fun i v t e1 e2 => dp_keep (same_keep (del_sub.trans (nw_but b58 (pen_some p0)))) (hts i t v e2 e1).2))
        exact dom_but b07 (pen_some p7) _ nq
end
end K01

namespace K01
open PySem PySem.Spec PyProof.Rows L2 Nm
theorem cellsAll_snoc : ∀ (k : Nat) (ts : List Nm.T) (t : Nm.T), cellsAll k (ts ++ [t]) = cellsAll k ts ++ (cellsT t).map fun c => ((k + ts.length) :: c.1, c.2)
  | k, [], t => by simp [cellsAll]
  | k, u :: ts, t => by
    rw [List.cons_append, cellsAll, cellsAll, cellsAll_snoc (k + 1) ts t, List.append_assoc, List.length_cons, show k + 1 + ts.length = k + (ts.length + 1) by omega]
section
variable {P : Program} {w : World} {K : PySem.W.Frag} {mg : Str → Option Value} {base : Heap}
/-- a cell: its place, its value -/
def CellAt (K : PySem.W.Frag) (H : Hp) (y : V) (c : List Nat × Nm.T) : Prop := ∃ r q v, y = .ref r ∧ SqT K H r [.ref q, v] ∧ SqT K H q (plV c.1) ∧ Dp K H v c.2.own
def CellsAt (K : PySem.W.Frag) (H : Hp) (ys : List V) (cs : List (List Nat × Nm.T)) : Prop := ys.length = cs.length ∧ ∀ (i : Nat) (y : V) (c : List Nat × Nm.T), ys[i]? = some y → cs[i]? = some c → CellAt K H y c
theorem CellAt.same {H H' : Hp} {y : V} {c : List Nat × Nm.T} (s : Same H H') (h : CellAt K H y c) : CellAt K H' y c := by
  obtain ⟨r, q, v, e, h1, h2, h3⟩ := h
  exact ⟨r, q, v, e, same_st s h1, same_st s h2, dp_keep (same_keep s) h3⟩
theorem CellsAt.same {H H' : Hp} {ys : List V} {cs : List (List Nat × Nm.T)} (s : Same H H') (h : CellsAt K H ys cs) : CellsAt K H' ys cs := ⟨h.1, fun i y c e1 e2 => (h.2 i y c e1 e2).same s⟩
theorem CellsAt.app {H : Hp} {ys zs : List V} {cs ds : List (List Nat × Nm.T)} (h1 : CellsAt K H ys cs) (h2 : CellsAt K H zs ds) : CellsAt K H (ys ++ zs) (cs ++ ds) := ⟨by rw [List.length_append, List.length_append, h1.1, h2.1], fun i y q e1 e2 => by
  by_cases c : i < ys.length
  · rw [List.getElem?_append_left c] at e1
    rw [List.getElem?_append_left (by rw [← h1.1]; exact c)] at e2
    exact h1.2 i y q e1 e2
  · rw [List.getElem?_append_right (by omega)] at e1
    rw [List.getElem?_append_right (by rw [← h1.1]; omega), ← h1.1] at e2
    exact h2.2 _ y q e1 e2⟩
def spCells (K : PySem.W.Frag) (n : Nat) : Sp := fun vs H Q _ => ∃ (x : V) (t : Nm.T), vs = [x] ∧ Dp K H x t.own ∧ t.depth ≤ n ∧ t.size ≤ 100000 ∧ ∀ D H' ys, Same H H' → H' D = some (.lst ys) → CellsAt K H' ys (cellsT t) → Q (.ref D) H'
theorem ok_cells (T : Tx P K mg) : ∀ n, FnOk P w K mg base CX0 (1 + n + 1) T.acells T.fdcells ["_law_value"] (spCells K n) := by
  refine rec_ok 1 (spCells K) fun n Gcells => ?_
  refine T.Dcells.F.ok sccells (fun vs H Q E h => ?_) (fun cdv A outer s H vs Q E hr h => ?_)
  · obtain ⟨x, t, rfl, _⟩ := h
    rfl
  · obtain ⟨x, t, rfl, hx, hd, hz, k⟩ := h
    have hrcells := hr
    have hu := hu_of hr
    refine ⟨_, pss_cons (ps_set (i := 1) sccells.nd rfl (Or.inl rfl) (pe_lst (pa_cons (pe_tup (pa_cons (pe_tup pa_nil) (pa_cons (pv 0) pa_nil))) pa_nil)))
(pss_cut (ps_if (pt_not (pt_val (pe_callB call_isi (by rfl) T.n_isinstance (by decide +kernel) (pa_cons (pv 0) (pa_cons (pe_bltn (v := .ty "int") rfl T.n_int (by decide +kernel) rfl) pa_nil)))))
(pss_one (ps_for PassesOwn.never rfl (pi_enum rfl T.n_enumerate (pa_cons (pe_ix ix_tup (pv 0) (pe_int) (fun _ _ => rfl)) pa_nil)) (pg_tup rfl (pgs_cons (pg_name (i := 2) sccells.nd rfl (Or.inr rfl)) (pgs_cons (pg_name (i := 3) sccells.nd rfl (Or.inl rfl)) pgs_nil)))
(pss_one (ps_set (i := 1) sccells.nd rfl (Or.inl rfl) (pe_op op_catL (pv 1) (pe_lc (g := gTup K 2 (gCons (gName 4) (gCons (gName 5) gNil))) (own := [("_law_place", 4), ("_law_one", 5)]) rfl sccells.nd (pi_list (pe_callN T.Dcells Gcells hrcells pass0 (pa_cons (pv 3) pa_nil))) (blkOk_by (own := [("_law_place", 4), ("_law_one", 5)]) (N := ["_law_value", "_law_found", "_law_k", "_law_part", "_law_place", "_law_one"]) (sc := defScope scells) (by decide +kernel)) (fun _ _ _ _ _ => pg_tup rfl (pgs_cons (pg_name (i := 4) sccells.nd rfl (Or.inl rfl) (Or.inr rfl)) (pgs_cons (pg_name (i := 5) sccells.nd rfl (Or.inl rfl) (Or.inr rfl)) pgs_nil))) (fun _ _ _ _ _ => pts_nil) (fun _ _ _ _ _ => pe_tup (pa_cons (pe_op (by exact op_catA : OpR _ (binaryOp .Add) (rCatA K)) (pe_tup (pa_cons (pv 2) pa_nil)) (pv 4)) (pa_cons (pv 5) pa_nil)))))))))
(pss_nil))
(pss_one (ps_ret (pv 1)))), ?_⟩
    walk_at "z0"
    walk_at "zz"
    refine z_kTup (line_ge (by simp)) fun q0 H1 n1 s1 h1 => ?_
    walk_at "zz"
    refine z_kTup (line_ge (by simp)) fun r0 H2 n2 s2 h2 => ?_
    walk_at "zz"
    refine z_kLst (line_ge (by simp)) fun D0 H3 n3 s3 h3 => ?_
    walk_at "zz"
    have s23 := s2.trans s3
    have s13 := s1.trans s23
    have c0 : CellsAt K H3 [.ref r0] [([], t)] := ⟨rfl, fun i y c e1 e2 => by
      cases i with
      | zero =>
        cases e1
        cases e2
        exact ⟨r0, q0, x, rfl, SqT.of (s3 _ _ h2), SqT.of (s23 _ _ h1), dp_keep (same_keep s13) hx⟩
      | succ i => simp at e1⟩
    refine z_cut (fun σ' H' => ∃ (v2 v3 : Option V) (D : Addr) (ys : List V), σ' = [some x, some (.ref D), v2, v3, none, none] ∧ Same H H' ∧ H' D = some (.lst ys) ∧ CellsAt K H' ys (cellsT t)) ?_ ?_
    · walk_at "zz"
      refine z_ownInt (dp_keep (same_keep s13) hx) ?_
      walk_at "zz"
      cases t with
      | num l =>
        refine z_ite (fun e => by simp [Nm.T.isNode] at e) (fun _ => ?_)
        walk_at "zz"
        exact ⟨_, _, D0, _, rfl, s13, h3, c0⟩
      | node m qs =>
        rw [Nm.T.depth] at hd
        rw [Nm.T.size] at hz
        obtain ⟨n, rfl⟩ : ∃ n', n = n' + 1 := ⟨n - 1, by omega⟩
        refine z_ite (fun _ => ?_) (fun e => by simp [Nm.T.isNode] at e)
        obtain ⟨a, l, vs, rfl, ha, hl, hvs⟩ := own_node hx
        obtain ⟨lvs, hvs⟩ := dps_own_at hvs
        walk_at "zz"
        refine z_ixT (same_st s13 ha) rfl ?_
        walk_at "zz"
        refine ⟨l, vs, rfl, same_sq s13 hl, ?_⟩
        have qz := sizeAll_len qs
        refine f_enumL (fun i σ' H' => ∃ (v2 v3 : Option V) (D : Addr) (ys : List V), σ' = [some (.ref a), some (.ref D), v2, v3, none, none] ∧ Same H H' ∧ H' D = some (.lst ys) ∧ CellsAt K H' ys (([], .node m qs) :: cellsAll 0 (qs.take i))) ⟨_, _, D0, _, rfl, s13, h3, c0⟩ (fun i σ' H' ⟨_, _, _, _, _, sH, _⟩ => same_sq sH hl) ?_ ?_
        · rintro i z U σ' H4 H5 hzv ⟨v2, v3, D1, ys, rfl, s4, hD1, hc⟩ s5 hU
          obtain ⟨s, es⟩ : ∃ s, qs[i]? = some s := ⟨_, List.getElem?_eq_getElem (by have := (List.getElem?_eq_some_iff.mp hzv).1; omega)⟩
          have ms := List.mem_of_getElem? es
          have zs := size_mem ms
          refine z_gTup (SqT.of hU) rfl ?_
          walk_at "zz"
          refine ⟨z, s, rfl, dp_keep (same_keep (s4.trans s5)) (hvs i z s hzv es), depth_mem ms hd, by omega, fun D6 H6 zs' s6 h6 hc6 => ?_⟩
          refine z_kIL (SqL.of h6) ?_
          have lc6 := hc6.1
          rw [cells_len] at lc6
          refine l_gen walk_list (fun D j v H1 => ∀ c, (cellsT s)[j]? = some c → ∃ r q a, v = .ref r ∧ SqT K H1 r [.ref q, a] ∧ SqT K H1 q (plV (i :: c.1)) ∧ Dp K H6 a c.2.own) (fun D j v H1 H2 s h c e => by obtain ⟨r, q, a, e1, e2, e3, e4⟩ := h c e; exact ⟨r, q, a, e1, same_st s e2, same_st s e3, e4⟩)
            (fun D j v H1 xs o hD hx h c e => by obtain ⟨r, q, a, e1, e2, e3, e4⟩ := h c e; exact ⟨r, q, a, e1, (KI.lst hx).tup _ _ e2, (KI.lst hx).tup _ _ e3, e4⟩) (by omega) (fun H7 s7 => SqL.of (s7 _ _ h6)) ?_ ?_ mono_two
          · rintro D j y H7 H7' hD hD7 hj s7 ⟨eH, ey⟩ Q' k'
            subst eH
            obtain ⟨c, ec⟩ : ∃ c, (cellsT s)[j]? = some c := ⟨_, List.getElem?_eq_getElem (by rw [cells_len]; omega)⟩
            have cs := cells_short s (List.mem_of_getElem? ec)
            obtain ⟨r, q, va, rfl, h8, h9, h10⟩ := (hc6.2 j y c ey ec)
            refine z_gTup (same_st s7 h8) rfl ?_
            walk_at "zz"
            refine ⟨rfl, ?_⟩
            walk_at "zz"
            refine z_kTup (line_ge (by simp)) fun r2 H8 nr s8 h11 => ?_
            walk_at "zz"
            refine z_catA (SqT.of h11) (same_st (s7.trans s8) h9) (by rw [sizeLine_eq, plV, List.length_map, List.length_singleton]; omega) fun q2 H9 s9 h12 _ => ?_
            walk_at "zz"
            refine z_kTup (line_ge (by simp)) fun r3 H10 nr3 s10 h13 => ?_
            refine k' _ H10 (s8.trans (s9.trans s10)) fun c' ec' => ?_
            rw [ec] at ec'
            cases ec'
            exact ⟨r3, q2, va, rfl, SqT.of h13, same_st s10 h12, h10⟩
          · intro D H7 ws hD s7 hD7 hlw hws
            have s67 := s6.trans s7
            have hD1' := s67 _ _ (s5 _ _ hD1)
            have hcl := hc.1
            rw [List.length_cons, cellsAll_len] at hcl
            have htk : sizeAll (qs.take i) ≤ sizeAll qs := by
              have e := sizeAll_app (qs.take i) (qs.drop i)
              rw [List.take_append_drop] at e
              omega
            refine z_catL hD1' hD7 (by rw [sizeLine_eq]; omega) fun D8 H8 n8 s8 h14 => ?_
            walk_at "zz"
            have s58 := s5.trans (s67.trans s8)
            refine ⟨_, _, D8, _, rfl, s4.trans s58, h14, ?_⟩
            have etk : qs.take (i + 1) = qs.take i ++ [s] := by rw [List.take_add_one, es]; rfl
            have lti : (qs.take i).length = i := by rw [List.length_take]; have := (List.getElem?_eq_some_iff.mp es).1; omega
            rw [etk, cellsAll_snoc, lti, Nat.zero_add, ← List.cons_append]
            refine (hc.same s58).app ⟨by rw [hlw, List.length_map, cells_len]; omega, fun j y c e1 e2 => ?_⟩
            rw [List.getElem?_map] at e2
            cases e3 : (cellsT s)[j]? with
            | none => rw [e3] at e2; cases e2
            | some c' =>
              rw [e3] at e2
              cases e2
              obtain ⟨r, q, va, e4, e5, e6, e7⟩ := hws j y e1 c' e3
              exact ⟨r, q, va, e4, same_st s8 e5, same_st s8 e6, dp_keep (same_keep (s7.trans s8)) e7⟩
        · rintro σ' H4 ⟨v2, v3, D1, ys, rfl, s4, hD1, hc⟩
          walk_at "zz"
          rw [lvs, List.take_length] at hc
          exact ⟨_, _, D1, ys, rfl, s4, hD1, by rw [cellsT]; exact hc⟩
    · rintro σ' H' ⟨v2, v3, D, ys, rfl, sH, hD, hc⟩
      walk_at "zz"
      exact k D H' ys sH hD hc
end
end K01

namespace K01
open PySem PySem.Spec PyProof.Rows L2 Nm
theorem ixN_at {n j : Nat} (hj : j < n) : ixN n (j : Int) = some j := by
  unfold ixN
  simp
  omega
theorem with_node {m : Str} {ps : List Nm.T} {k : Nat} {r : List Nat} {q p : Nm.T} (h : ps[k]? = some p) : withAt (.node m ps) (k :: r) q = (withAt p r q).map fun p' => .node m (ps.set k p') := by rw [withAt, h]
theorem with_out {m : Str} {ps : List Nm.T} {k : Nat} {r : List Nat} {q : Nm.T} (h : ps[k]? = none) : withAt (.node m ps) (k :: r) q = none := by rw [withAt, h]
/-- what stood in H0, and what is new behind H -/
def Ov (H0 H H' : Hp) : Hp := fun a => match H a with
  | none => H' a
  | some _ => H0 a
theorem ov_new {H0 H H' : Hp} {a : Addr} {o : HO} (h : H a = none) (h' : H' a = some o) : Ov H0 H H' a = some o := by
  unfold Ov
  rw [h]
  exact h'
theorem ov_old {H0 H H' : Hp} {a : Addr} {o : HO} (s : Same H0 H) (h : H0 a = some o) : Ov H0 H H' a = some o := by
  unfold Ov
  rw [s _ _ h]
  exact h
theorem ov_base {H0 H H' : Hp} (s : Same H0 H) : Same H0 (Ov H0 H H') := fun _ _ h => ov_old s h
theorem ov_sub {H0 H H' : Hp} (s : Same H0 H) (s' : Same H H') : Same (Ov H0 H H') H' := fun a o h => by
  unfold Ov at h
  cases e : H a with
  | none => rw [e] at h; exact h
  | some u => rw [e] at h; exact s' _ _ (s _ _ h)
theorem ov_mono {H0 H H1 H2 : Hp} (s : Same H1 H2) : Same (Ov H0 H H1) (Ov H0 H H2) := fun a o h => by
  unfold Ov at h ⊢
  cases e : H a with
  | none => rw [e] at h; exact s _ _ h
  | some u => rw [e] at h; exact h
/-- a callee's result, seen from its caller, without the caller's own list -/
theorem ov_shift {H0 H H1 H2 : Hp} {D : Addr} (s0 : Same H0 H) (s1 : Same H H1) (hD : H D = none) (hD1 : H1 D ≠ none) : Same (Ov H0 H1 H2) (del (Ov H0 H H2) D) := fun a o h => by
  have n : a ≠ D := fun e => by
    subst e
    unfold Ov at h
    cases e : H1 a with
    | none => exact hD1 e
    | some u =>
      rw [e] at h
      have := s0 _ _ h
      rw [hD] at this
      cases this
  rw [del_ne n]
  unfold Ov at h
  cases e : H1 a with
  | none =>
    rw [e] at h
    exact ov_new (dom_same s1 _ e) h
  | some u =>
    rw [e] at h
    exact ov_old s0 h
theorem z_gSub {to ti : TE} {t : TSet} {v : V} {σ : L2.St} {H : Hp} {QS : L2.St → Hp → Prop} (h : to σ H fun o H1 => ti σ H1 fun i H2 => t o i v H2 fun H3 => QS σ H3) : gSub to ti t v σ H QS := h
section
variable {P : Program} {w : World} {K : PySem.W.Frag} {mg : Str → Option Value} {base : Heap}
def spPut (K : PySem.W.Frag) (n : Nat) : Sp := fun vs H Q _ => ∃ (H0 : Hp) (x : V) (p : Addr) (y : V) (t u : Nm.T) (pl : List Nat) (r : Nm.T), vs = [x, .ref p, y] ∧ Same H0 H ∧ Dp K H0 x t.own ∧ Dp K H0 y u.own ∧ SqT K H p (plV pl) ∧ pl.length ≤ n ∧ pl.length ≤ 1000000 ∧ t.size ≤ 1000000 ∧ withAt t pl u = some r ∧ ∀ v H', Same H H' → Dp K (Ov H0 H H') v r.own → Q v H'
theorem ok_put (T : Tx P K mg) : ∀ n, FnOk P w K mg base CX0 (1 + n + 1) T.aput T.fdput ["_law_value", "_law_place", "_law_part"] (spPut K n) := by
  refine rec_ok 1 (spPut K) fun n Gput => ?_
  refine T.Dput.F.ok scput (fun vs H Q E h => ?_) (fun cdv A outer s H vs Q E hr h => ?_)
  · obtain ⟨H0, x, p, y, t, u, pl, r, rfl, _⟩ := h
    rfl
  · obtain ⟨H0, x, p, y, t, u, pl, r, rfl, s0, hx, hy, hp, hn, hpl, hz, hw, k⟩ := h
    have hrput := hr
    have hu := hu_of hr
    refine ⟨_, pss_cons (ps_if (pt_cmpR (op_eqD hr.units) (pv 1) (pe_tup pa_nil) (nomark _))
(pss_one (ps_ret (pv 2)))
(pss_nil))
(pss_cons (ps_set (i := 3) scput.nd rfl (Or.inl rfl) (pe_callTy call_listOf (by rfl) T.n_list (by decide +kernel) (pa_cons (pe_ix ix_tup (pv 0) (pe_int) (fun _ _ => rfl)) pa_nil)))
(pss_cons (ps_asg (pe_callN T.Dput Gput hrput pass0 (pa_cons (pe_ix ix_list (pv 3) (pe_ix ix_tup (pv 1) (pe_int) (fun _ _ => rfl)) (fun _ _ => rfl)) (pa_cons (pe_slice sl_tupA (pv 1) (po_some (pe_int)) po_none) (pa_cons (pv 2) pa_nil)))) (pg_sub (pv 3) (pe_ix ix_tup (pv 1) (pe_int) (fun _ _ => rfl)) set_list))
(pss_one (ps_ret (pe_tup (pa_cons (pe_ix ix_tup (pv 0) (pe_int) (fun _ _ => rfl)) (pa_cons (pv 3) pa_nil))))))), ?_⟩
    walk_at "z0"
    walk_at "zz"
    refine z_kTup (line_ge (by simp)) fun e0 H1 n1 s1 h1 => ?_
    have shp : SeqAt.shaped (plD pl) = true := shaped_tup (n := 0) (by decide) fun d hd => by
      obtain ⟨j, _, rfl⟩ := List.mem_map.mp hd
      exact ⟨rfl, Nat.le_refl _⟩
    refine z_eqD (d := plD pl) (e := .tuple []) (.tup (same_st s1 hp) (dps_pl pl)) (.tup (SqT.of h1) .nil) shp (by decide) ?_
    have ee : PyData.eqv (plD pl) (.tuple []) = decide (pl = []) := by
      unfold plD
      rw [show PyData.eqv (.tuple (pl.map fun k => PyData.int (k : Nat))) (.tuple []) = PyData.eqvAll (pl.map fun k => PyData.int (k : Nat)) [] from rfl, eqvAll_nil]
      exact decide_eq_decide.mpr (by simp)
    rw [ee]
    walk_at "zz"
    cases pl with
    | nil =>
      refine z_ite (fun _ => ?_) (fun e => by simp at e)
      walk_at "zz"
      rw [withAt] at hw
      cases hw
      exact k y H1 s1 (dp_keep (same_keep (ov_base s0)) hy)
    | cons i pl =>
      refine z_ite (fun e => by simp at e) (fun _ => ?_)
      cases t with
      | num l => rw [withAt] at hw; cases hw
      | node m qs =>
        obtain ⟨n, rfl⟩ : ∃ n', n = n' + 1 := ⟨n - 1, by rw [List.length_cons] at hn; omega⟩
        cases eq : qs[i]? with
        | none => rw [with_out eq] at hw; cases hw
        | some t1 =>
          rw [with_node eq] at hw
          cases ew : withAt t1 pl u with
          | none => rw [ew] at hw; cases hw
          | some r1 =>
            rw [ew] at hw
            have er : Nm.T.node m (qs.set i r1) = r := Option.some.inj hw
            subst er
            obtain ⟨a, l, vs, rfl, ha, hl, hvs⟩ := own_node hx
            obtain ⟨lvs, hvs'⟩ := dps_own_at hvs
            have il := (List.getElem?_eq_some_iff.mp eq).1
            rw [Nm.T.size] at hz
            have qz := sizeAll_len qs
            have zt := size_mem (List.mem_of_getElem? eq)
            have s01 := s0.trans s1
            walk_at "zz"
            refine z_ixT (same_st s01 ha) rfl ?_
            walk_at "zz"
            refine z_listOfL (same_sq s01 hl) fun D H2 nD s2 h2 => ?_
            walk_at "zz"
            have s12 := s1.trans s2
            have hp2 := same_st s12 hp
            refine z_ixT hp2 (at_of (j := 0) rfl rfl) ?_
            walk_at "zz"
            have ev : vs[i]? = some (vs[i]'(by omega)) := List.getElem?_eq_getElem (by omega)
            refine z_ixL (SqL.of h2) (at_of rfl ev) ?_
            walk_at "zz"
            refine z_slA hp2 fun p3 H3 s3 h3 => ?_
            rw [show cutV (plV (i :: pl)) (some 1) none = plV pl from cutV_from _ 1] at h3
            walk_at "zz"
            have s03 := s0.trans (s12.trans s3)
            have hDn : H D = none := dom_same s1 _ nD
            have hD3 := s3 _ _ h2
            refine ⟨H0, _, p3, y, t1, u, pl, r1, rfl, s03, hvs' i _ t1 ev eq, hy, h3, by rw [List.length_cons] at hn; omega, by rw [List.length_cons] at hpl; omega, by omega, ew, fun v H4 s4 hv => ?_⟩
            have hv2 := dp_keep (same_keep (ov_shift (H := H) s0 (s12.trans s3) hDn (by rw [hD3]; simp))) hv
            refine z_gSub ?_
            walk_at "zz"
            have hp4 := same_st (s3.trans s4) hp2
            refine z_ixT hp4 (at_of (j := 0) rfl rfl) ?_
            have hD4 := s4 _ _ hD3
            refine ⟨D, vs, (i : Nat), i, rfl, rfl, hD4, ixN_at (by omega), ?_⟩
            walk_at "zz"
            have sH4 := s12.trans (s3.trans s4)
            have hD5 : upd H4 D (.lst (vs.set i v)) D = some (.lst (vs.set i v)) := upd_same
            have sH5 : Same H (upd H4 D (.lst (vs.set i v))) := Nm.Same.mut sH4 hDn
            have hv3 : Dp K (del (Ov H0 H (upd H4 D (.lst (vs.set i v)))) D) v r1.own := by
              refine dp_keep (same_keep fun b o hb => ?_) hv2
              have n : b ≠ D := fun e => by rw [e, del_same] at hb; cases hb
              rw [del_ne n] at hb ⊢
              unfold Ov at hb ⊢
              cases e : H b with
              | none => rw [e] at hb; show upd H4 D _ b = some o; rw [upd_ne n]; exact hb
              | some o' => rw [e] at hb; exact hb
            generalize upd H4 D (.lst (vs.set i v)) = H5 at hD5 sH5 hv3
            refine z_ixT (same_st (s0.trans sH5) ha) rfl ?_
            walk_at "zz"
            refine z_kTup (line_ge (by simp)) fun q H6 nq s6 h6 => ?_
            walk_at "zz"
            refine k _ H6 (sH5.trans s6) (own_mk (l := D) (vs := vs.set i v) (SqT.of (ov_new (dom_same sH5 _ nq) h6)) (SqL.of (ov_new hDn (s6 _ _ hD5))) (dps_own (by rw [List.length_set, List.length_set, lvs]) fun j b c e1 e2 => ?_))
            rw [List.getElem?_set] at e1 e2
            by_cases e : i = j
            · subst e
              rw [if_pos rfl, if_pos (by omega)] at e1
              rw [if_pos rfl, if_pos il] at e2
              cases e1
              cases e2
              exact dp_keep (same_keep (del_sub.trans (ov_mono s6))) hv3
            · rw [if_neg e] at e1 e2
              exact dp_keep (same_keep (ov_base s0)) (hvs' j b c e1 e2)
def spNoPlace (K : PySem.W.Frag) (C : Addr) : Sp := fun vs H Q _ => ∃ (x : V) (p : Addr) (t : Nm.T) (pl : List Nat), vs = [x, .ref p] ∧ MadeAt K C H t x ∧ SqT K H p (plV pl) ∧ t.size ≤ 1000000 ∧ pl.length ≤ 1000000 ∧ partAt t pl = none ∧ ∀ H', Same H H' → Q (.bl true) H'
theorem pl_shaped (pl : List Nat) : SeqAt.shaped (plD pl) = true := shaped_tup (n := 0) (by decide) fun d hd => by
  obtain ⟨j, _, rfl⟩ := List.mem_map.mp hd
  exact ⟨rfl, Nat.le_refl _⟩
theorem ok_noplace (T : Tx P K mg) : FnOk P w K mg base CX0 4 T.anoplace T.fdnoplace ["_law_value", "_law_place"] (spNoPlace K T.CM) := by
  have Gwith : FnOk P w K mg base (L2.CX P w) 3 T.awith T.fdwith ["value", "place", "part"] (spWith K T.CM T.CNoName) := ok_with T
  refine T.Dnoplace.F.ok scnoplace (fun vs H Q E h => ?_) (fun cdv A outer s H vs Q E hr h => ?_)
  · obtain ⟨x, p, t, pl, rfl, _⟩ := h
    rfl
  · obtain ⟨x, p, t, pl, rfl, hx, hp, hz, hl, hn, k⟩ := h
    have hrwith := hr
    have hu := hu_of hr
    refine ⟨_, pss_cons (ps_clauses rfl rfl scnoplace.nd takes0 (fun W pn xe tk _ => pss_one (ps_expr (pe_callS Gwith hrwith rfl T.Dwith.g T.Dwith.F.kp T.Dwith.b (fun σ => passAt tk σ) (pa_cons (pv 0) (pa_cons (pv 1) (pa_cons pe_int pa_nil))))))
(.cons ⟨rfl, by decide, .inl T.ENoName.gC⟩ (i := 2) rfl rfl (fun a oe cls d pn hz hf => pss_one (ps_ret (pe_cmpR (by exact op_eqD hr.units : OpR _ (compareOp .Eq) (rEqD K)) (pe_ofE T.ENoName (f := "name") (by decide) hz hf (pv 2)) (pv 1) (nomark _))))
(.nil)))
(pss_one (ps_ret (pe_bl))), ?_⟩
    walk_at "z0"
    walk_at "zz"
    refine ⟨x, p, .int 1, t, pl, .num 1, rfl, hx, hp, by rw [MadeAt], hz, hl, fun r v H' e => ?_, fun _ d H1 nd s1 h1 => ?_⟩
    · rw [with_none pl t _ hn] at e
      cases e
    · refine z_takes T.x_NoName_NoName fun a ha => ?_
      dsimp only [endsAt]
      walk_at "zz"
      refine z_kOfE (v := .ref p) h1 (by simp [List.lookup]) ?_
      walk_at "zz"
      have hp1 := same_st s1 hp
      refine z_eqD (d := plD pl) (e := plD pl) (.tup hp1 (dps_pl pl)) (.tup hp1 (dps_pl pl)) (pl_shaped pl) (pl_shaped pl) ?_
      rw [eqv_refl_shaped (pl_shaped pl)]
      walk_at "zz"
      exact k H1 s1
end
end K01

namespace K01
open PySem PySem.Spec PyProof.Rows L2 Nm
theorem dps_at {K : PySem.W.Frag} {H : Hp} : ∀ {vs : List V} {ds : List PyData}, DpAll K H vs ds → ∀ {i : Nat} {d : PyData}, ds[i]? = some d → ∃ v, vs[i]? = some v ∧ Dp K H v d
  | _, _, .nil, i, d, e => by simp at e
  | _, _, .cons h l, i, d, e => by
    cases i with
    | zero => cases e; exact ⟨_, rfl, h⟩
    | succ i => exact dps_at l e
theorem z_neT {K : PySem.W.Frag} {C : Addr} {H : Hp} {Q : VK} {x y : V} {t u : Nm.T} (h1 : MadeAt K C H t x) (h2 : MadeAt K C H u y) (hk : t.isNode = u.isNode) (z1 : t.size ≤ 1000000) (z2 : u.size ≤ 1000000) (k : ∀ H', Same H H' → Q (.bl (!decide (t = u))) H') : rNeT K C x y H Q := ⟨t, u, h1, h2, hk, z1, z2, k⟩
theorem z_eqT {K : PySem.W.Frag} {C : Addr} {H : Hp} {Q : VK} {x y : V} {t u : Nm.T} (h1 : MadeAt K C H t x) (h2 : MadeAt K C H u y) (z1 : t.size ≤ 1000000) (z2 : u.size ≤ 1000000) (k : ∀ H', Same H H' → Q (.bl (decide (t = u))) H') : rEqT K C x y H Q := ⟨t, u, h1, h2, z1, z2, k⟩
theorem plV_app (p q : List Nat) : plV (p ++ q) = plV p ++ plV q := by unfold plV; rw [List.map_append]
/-- what ends a chain -/
structure Base (b : Nm.T) : Prop where
  size : b.size = 1
  cells : (cellsT b).map Prod.fst = [[]]
  no : partAt b [0] = none
  ne : b ≠ .num 7
theorem base_num : Base (.num 0) := ⟨rfl, rfl, rfl, fun h => by injection h with h; cases h⟩
theorem base_nil : Base (.node "Nil" []) := ⟨rfl, rfl, rfl, fun h => by cases h⟩
theorem chain_kind {b c : Nm.T} (n : Nat) : (chainB b (n + 1)).isNode = (chainB c (n + 1)).isNode := rfl
section
variable {P : Program} {w : World} {K : PySem.W.Frag} {mg : Str → Option Value} {base : Heap}
def spChain (K : PySem.W.Frag) : Sp := fun vs H Q _ => ∃ (d c : Addr) (m : Nat), vs = [.ref d] ∧ Pen K H d c (m + 1) ∧ ∀ H', Q (.bl true) H'
theorem ok_chain (T : Tx P K mg) : FnOk P w K mg base CX0 5 T.achain T.fdchain ["_law_pen_here"] (spChain K) := by
  have Ginit : FnOk P w K mg base CX0 1 T.ainit T.fdinit ["self", "maker", "parts"] (spMadeI K T.CM) := ok_init T
  have Geq : FnOk P w K mg base CX0 1 T.aeq T.fdeq ["self", "other"] (spEqT K T.CM) := ok_eq T
  have Gsize : FnOk P w K mg base CX0 1 T.asize T.fdsize ["value"] (spSize K T.CM) := ok_size T
  have Gplaces : FnOk P w K mg base CX0 1 T.aplaces T.fdplaces ["value"] (spPlaces K T.CM) := ok_places T
  have Gpartat : FnOk P w K mg base CX0 1 T.apartat T.fdpartat ["value", "place"] (spPart K T.CM) := ok_partat T
  have Gwith : FnOk P w K mg base (L2.CX P w) 3 T.awith T.fdwith ["value", "place", "part"] (spWith K T.CM T.CNoName) := ok_with T
  have Gpick : FnOk P w K mg base CX0 2 T.apick T.fdpick ["_law_pen_here", "_law_some"] (spPick K) := ok_pick T
  refine T.Dchain.F.ok scchain (fun vs H Q E h => ?_) (fun cdv A outer s H vs Q E hr h => ?_)
  · obtain ⟨d, c, m, rfl, _⟩ := h
    rfl
  · obtain ⟨d, c, m, rfl, p0, k⟩ := h
    have hu := hu_of hr
    have hrinit := hr.mono (j := 2) (by decide)
    have hreq := hr.mono (j := 1) (by decide)
    have hrne := hr.mono (j := 2) (by decide)
    have hrsize := hreq
    have hrplaces := hreq
    have hrpartat := hreq
    have hrwith := hr.mono (j := 3) (by decide)
    have hrpick := hr.mono (j := 2) (by decide)
    refine ⟨_, pss_cons (ps_par3 rfl scchain.nd (i := 1) (j := 2) (l := 3) rfl rfl rfl (by decide) (by decide) (by decide) rfl rfl rfl (pa_cons (pe_int) (pa_cons (pe_callN T.Dpick Gpick hrpick pass0 (pa_cons (pv 0) (pa_cons (pe_lst (pa_cons (pe_int) (pa_cons (pe_make T.M_Made Ginit hrinit rfl T.g_Made T.Dinit.b .nil pass0 (pa_cons (pe_str) (pa_cons (pe_tup pa_nil) pa_nil))) pa_nil))) pa_nil))) (pa_cons (pe_tup pa_nil) pa_nil))) (by rfl))
(pss_cons (ps_set (i := 4) scchain.nd rfl (Or.inl rfl) (pv 2))
(pss_cons (ps_for PassesOwn.never rfl (pi_range1 rfl T.n_range (pa_cons (pv 1) pa_nil)) (pg_name (i := 5) scchain.nd rfl (Or.inl rfl))
(pss_cons (ps_set (i := 2) scchain.nd rfl (Or.inl rfl) (pe_make T.M_Made Ginit hrinit rfl T.g_Made T.Dinit.b .nil pass0 (pa_cons (pe_str) (pa_cons (pe_tup (pa_cons (pv 5) (pa_cons (pv 2) pa_nil))) pa_nil))))
(pss_one (ps_set (i := 3) scchain.nd rfl (Or.inl rfl) (pe_op op_catA (pv 3) (pe_tup (pa_cons (pe_int) pa_nil)))))))
(pss_cons (ps_if (pt_cut (PW.pt (pw_or (pt_cmpR op_ne (pe_callN T.Dsize Gsize hrsize pass0 (pa_cons (pv 2) pa_nil)) (pe_op op_add (pe_op op_mul (pe_int) (pv 1)) (pe_int)) (nomark _)) (pw_or (pt_cmpR (op_neT T.MM Geq hrne T.Deq.b pass0) (pe_callN T.Dpartat Gpartat hrpartat pass0 (pa_cons (pv 2) (pa_cons (pv 3) pa_nil))) (pv 4) (nomark _)) (pw_or1 (pt_cmpR op_notNn (pe_callN T.Dpartat Gpartat hrpartat pass0 (pa_cons (pv 2) (pa_cons (pe_op op_catA (pv 3) (pe_tup (pa_cons (pe_int) pa_nil))) pa_nil))) (pe_non) (nomark _)))))))
(pss_one (ps_ret (pe_bl)))
(pss_nil))
(pss_cons (ps_set (i := 6) scchain.nd rfl (Or.inl rfl) (pe_callN T.Dwith Gwith hrwith passF (pa_cons (pv 2) (pa_cons (pv 3) (pa_cons (pe_int) pa_nil)))))
(pss_cons (ps_if (pt_cut (PW.pt (pw_or (pt_cmpR (op_neT T.MM Geq hrne T.Deq.b pass0) (pe_callN T.Dpartat Gpartat hrpartat pass0 (pa_cons (pv 6) (pa_cons (pv 3) pa_nil))) (pe_int) (nomark _)) (pw_or (pt_cmpR (op_eqT T.MM Geq hreq T.Deq.b pass0) (pv 6) (pv 2) (nomark _)) (pw_or1 (pt_cmpR (op_neT T.MM Geq hrne T.Deq.b pass0) (pe_callN T.Dwith Gwith hrwith passF (pa_cons (pv 6) (pa_cons (pv 3) (pa_cons (pv 4) pa_nil)))) (pv 2) (nomark _)))))))
(pss_one (ps_ret (pe_bl)))
(pss_nil))
(pss_cons (ps_set (i := 7) scchain.nd rfl (Or.inl rfl) (pe_callN T.Dplaces Gplaces hrplaces pass0 (pa_cons (pe_callN T.Dpartat Gpartat hrpartat pass0 (pa_cons (pv 2) (pa_cons (pe_slice sl_tupA (pv 3) po_none (po_some (pe_int))) pa_nil))) pa_nil)))
(pss_one (ps_ret (pe_and (pe_cmpR op_eq (pe_callB call_lenL (by rfl) T.n_len (by decide +kernel) (pa_cons (pv 7) pa_nil)) (pe_int) (nomark _)) (pe_and (pe_cmpR (op_eqD hr.units) (pe_ix ix_tup (pv 7) (pe_un un_neg (pe_int)) (fun _ _ => rfl)) (pe_slice sl_tupA (pv 3) po_none (po_some (pe_int))) (nomark _)) (pe_one (pe_cmpR (op_eqD hr.units) (pe_ix ix_tup (pv 7) (pe_int) (fun _ _ => rfl)) (pe_tup (pa_cons (pe_int) pa_nil)) (nomark _))))))))))))), ?_⟩
    walk_at "z0"
    walk_at "zz"
    refine z_kTup (line_ge (by simp)) fun e0 H1 n1 s1 h1 => ?_
    walk_at "zz"
    refine z_made (SqT.of h1) fun xx dx fs H2 nx s2 h2 h3 h4 => ?_
    walk_at "zz"
    refine z_kLst (line_ge (by simp)) fun l H3 n3 s3 h5 => ?_
    walk_at "zz"
    have s13 := s1.trans (s2.trans s3)
    refine ⟨d, c, l, m, _, rfl, p0.same s13, SqL.of h5, by simp, by simp, fun v H4 hv b4 p4 => ?_⟩
    have mn : MadeAt K T.CM H2 (.node "Nil" []) (.ref xx) := made_mk h2 h3 h4 (SqT.of (s2 _ _ h1)) (by rw [MadeAll])
    have k34 : Keep H3 H4 := (p0.same s13).keep b4
    obtain ⟨b, hb, mv⟩ : ∃ b, Base b ∧ MadeAt K T.CM H4 b v := by
      rcases List.mem_cons.mp hv with rfl | hv
      · exact ⟨.num 0, base_num, by rw [MadeAt]⟩
      rcases List.mem_cons.mp hv with rfl | hv
      · exact ⟨_, base_nil, made_ki (KI.keep k34) (made_same s3 mn)⟩
      cases hv
    walk_at "zz"
    refine z_kTup (line_ge (by simp)) fun e1 H5 n5 s5 h6 => ?_
    walk_at "zz"
    refine z_kIR1 (by decide) (by decide) ?_
    obtain ⟨N, hN⟩ : ∃ N : Nat, N = (2000 : Int).toNat := ⟨_, rfl⟩
    have hN' : N = 2000 := hN
    rw [← hN]
    refine f_range (fun i σ' H' => ∃ (x : V) (p : Addr) (v5 : Option V), σ' = [some (.ref d), some (.int 2000), some x, some (.ref p), some v, v5, none, none] ∧ Same H5 H' ∧ MadeAt K T.CM H' (chainB b i) x ∧ SqT K H' p (plV (List.replicate i 1))) ⟨v, e1, _, rfl, Same.refl _, made_same s5 mv, SqT.of h6⟩ ?_ ?_
    · rintro i σ' H6 hi ⟨x, p, v5, rfl, s6, hx, hp⟩
      walk_at "zz"
      refine z_kTup (line_ge (by simp)) fun q H7 n7 s7 h7 => ?_
      walk_at "zz"
      refine z_made (SqT.of h7) fun x2 dx2 fs2 H8 nx2 s8 h8 h9 h10 => ?_
      walk_at "zz"
      refine z_kTup (line_ge (by simp)) fun q2 H9 n9 s9 h11 => ?_
      walk_at "zz"
      refine z_catA (same_st (s7.trans (s8.trans s9)) hp) (SqT.of h11) (by rw [sizeLine_eq, plV, List.length_map, List.length_replicate, List.length_singleton]; omega) fun p2 H10 s10 h12 _ => ?_
      walk_at "zz"
      refine ⟨.ref x2, p2, _, rfl, s6.trans (s7.trans (s8.trans (s9.trans s10))), ?_, ?_⟩
      · rw [chainB]
        refine made_same (s9.trans s10) (made_mk h8 h9 h10 (SqT.of (s8 _ _ h7)) ?_)
        rw [MadeAll]
        refine ⟨_, _, rfl, by rw [MadeAt]; congr 1; omega, ?_⟩
        rw [MadeAll]
        exact ⟨_, _, rfl, made_same (s7.trans s8) hx, by rw [MadeAll]⟩
      · rw [List.replicate_succ', plV_app]
        exact h12
    · rintro σ' H6 ⟨x, p, v5, rfl, s6, hx, hp⟩
      have mv6 := made_same (s5.trans s6) mv
      have zs : (chainB b N).size = 2 * N + 1 := chain_size b hb.size N
      have pN : partAt (chainB b N) (List.replicate N 1) = some b := by
        have := chain_part b N 0
        rw [Nat.zero_add] at this
        exact this
      have lplN : (List.replicate N 1).length ≤ 1000000 := by rw [List.length_replicate]; omega
      walk_at "zz"
      refine z_cutB false ?_ fun H7 s7 => ?_
      · walk_at "zz"
        refine ⟨x, chainB b N, rfl, hx, by omega, fun H7 s7 => ?_⟩
        walk_at "zz"
        have e1 : decide (((chainB b N).size : Int) = 2 * 2000 + 1) = true := decide_eq_true (by rw [zs]; omega)
        rw [e1]
        walk_at "zz"
        refine ⟨x, p, chainB b N, List.replicate N 1, rfl, made_same s7 hx, same_st s7 hp, fun y s H8 e s8 hy => ?_, fun H8 e => by rw [pN] at e; cases e⟩
        rw [pN] at e
        cases e
        walk_at "zz"
        refine z_neT hy (made_same (s7.trans s8) mv6) rfl (by rw [hb.size]; decide) (by rw [hb.size]; decide) fun H9 s9 => ?_
        rw [show decide (b = b) = true from decide_eq_true rfl]
        walk_at "zz"
        refine z_kTup (line_ge (by simp)) fun q H10 n10 s10 h10 => ?_
        walk_at "zz"
        have s70 := s7.trans (s8.trans (s9.trans s10))
        refine z_catA (same_st s70 hp) (SqT.of h10) (by rw [sizeLine_eq, plV, List.length_map, List.length_replicate, List.length_singleton]; omega) fun p2 H11 s11 h11 _ => ?_
        walk_at "zz"
        have hn : partAt (chainB b N) (List.replicate N 1 ++ [0]) = none := by rw [partAt_app, pN]; exact hb.no
        refine ⟨x, p2, chainB b N, List.replicate N 1 ++ [0], rfl, made_same (s70.trans s11) hx, by rw [plV_app]; exact h11, fun y s H12 e => absurd (hn.symm.trans e) (by simp), fun H12 e s12 => ?_⟩
        walk_at "zz"
        exact ⟨rfl, s70.trans (s11.trans s12)⟩
      refine iteF ?_
      walk_at "zz"
      have hx7 := made_same s7 hx
      have hp7 := same_st s7 hp
      refine ⟨x, p, .int 7, chainB b N, List.replicate N 1, .num 7, rfl, hx7, hp7, by rw [MadeAt], by omega, lplN, fun r y H8 e s8 hy => ?_, fun e => by rw [chain_with] at e; cases e⟩
      rw [chain_with] at e
      cases e
      walk_at "zz"
      have z7 : (chainB (.num 7) N).size = 2 * N + 1 := chain_size _ rfl N
      have p7 : partAt (chainB (.num 7) N) (List.replicate N 1) = some (.num 7) := by
        have := chain_part (.num 7) N 0
        rw [Nat.zero_add] at this
        exact this
      have hx8 := made_same s8 hx7
      have hp8 := same_st s8 hp7
      have mv8 := made_same (s7.trans s8) mv6
      refine z_cutB false ?_ fun H9 s9 => ?_
      · walk_at "zz"
        refine ⟨y, p, chainB (.num 7) N, List.replicate N 1, rfl, hy, hp8, fun y2 s H9 e s9 hy2 => ?_, fun H9 e => by rw [p7] at e; cases e⟩
        rw [p7] at e
        cases e
        walk_at "zz"
        refine z_neT (u := .num 7) hy2 (by rw [MadeAt]) rfl (by decide) (by decide) fun H10 s10 => ?_
        rw [show decide (Nm.T.num 7 = Nm.T.num 7) = true from decide_eq_true rfl]
        walk_at "zz"
        have s90 := s9.trans s10
        refine z_eqT (made_same s90 hy) (made_same s90 hx8) (by omega) (by omega) fun H11 s11 => ?_
        rw [show decide (chainB (.num 7) N = chainB b N) = false from decide_eq_false fun e => hb.ne (chain_inj e).symm]
        walk_at "zz"
        have s91 := s90.trans s11
        refine ⟨y, p, v, chainB (.num 7) N, List.replicate N 1, b, rfl, made_same s91 hy, same_st s91 hp8, made_same s91 mv8, by omega, lplN, fun r y3 H12 e s12 hy3 => ?_, fun e => by rw [chain_with] at e; cases e⟩
        rw [chain_with] at e
        cases e
        walk_at "zz"
        refine z_neT hy3 (made_same (s91.trans s12) hx8) rfl (by omega) (by omega) fun H13 s13 => ?_
        rw [show decide (chainB b N = chainB b N) = true from decide_eq_true rfl]
        walk_at "zz"
        exact ⟨rfl, s91.trans (s12.trans s13)⟩
      refine iteF ?_
      walk_at "zz"
      have hx9 := made_same s9 hx8
      have hp9 := same_st s9 hp8
      refine z_slA hp9 fun p3 H10 s10 h10 => ?_
      have ecut : ∀ j : Nat, j ≤ N → cutV (plV (List.replicate N 1)) none (some (j : Int)) = plV (List.replicate j 1) := fun j hj => by
        rw [cutV_to, plV, ← List.map_take, List.take_replicate, Nat.min_eq_left hj]
        rfl
      rw [show (some (1700 : Int)) = some ((1700 : Nat) : Int) from rfl, ecut 1700 (by omega)] at h10
      walk_at "zz"
      have p17 : partAt (chainB b N) (List.replicate 1700 1) = some (chainB b 300) := by
        rw [show N = 300 + 1700 by omega]
        exact chain_part b 1700 300
      generalize eM : (1700 : Nat) = M at h10 p17
      refine ⟨x, p3, chainB b N, List.replicate M 1, rfl, made_same s10 hx9, h10, fun y4 s H11 e s11 hy4 => ?_, fun H11 e => by rw [p17] at e; cases e⟩
      rw [p17] at e
      have e := Option.some.inj e
      subst e
      walk_at "zz"
      have z3 : (chainB b 300).size = 601 := chain_size b hb.size 300
      have clast : ((cellsT (chainB b 300)).map Prod.fst).getLast? = some (List.replicate 300 1) := chain_last b hb.cells 300
      have c1 : ((cellsT (chainB b 300)).map Prod.fst)[1]? = some [0] := by
        rw [chain_cells b 299]
        rfl
      generalize chainB b 300 = u at hy4 z3 clast c1
      refine ⟨y4, u, rfl, hy4, by omega, fun q H12 s12 hq => ?_⟩
      have clen : (cellsT u).length = 601 := by rw [cells_len, z3]
      cases hq with
      | tup hq hd =>
        rename_i ws
        have hl := dps_len hd
        rw [List.length_map, clen] at hl
        walk_at "zz"
        refine z_lenT hq ?_
        rw [hl]
        walk_at "zz"
        refine iteT ?_
        have g : ∀ (j : Nat) (pl : List Nat), ((cellsT u).map Prod.fst)[j]? = some pl → ∃ v, ws[j]? = some v ∧ Dp K H12 v (plD pl) := fun j pl e => by
          refine dps_at hd ?_
          rw [List.getElem?_map] at e ⊢
          cases e2 : (cellsT u)[j]? with
          | none => rw [e2] at e; cases e
          | some c => rw [e2] at e; cases e; rfl
        obtain ⟨vl, el, dl⟩ := g 600 (List.replicate 300 1) (by rw [List.getLast?_eq_getElem?, List.length_map, clen] at clast; exact clast)
        obtain ⟨v1, ev1, d1⟩ := g 1 [0] c1
        walk_at "zz"
        refine z_ixT hq (v := vl) (by unfold atI; rw [hl]; exact el) ?_
        walk_at "zz"
        have s1c := s10.trans (s11.trans s12)
        refine z_slA (same_st s1c hp9) fun p5 H13 s13 h13 => ?_
        rw [show (some (300 : Int)) = some ((300 : Nat) : Int) from rfl, ecut 300 (by omega)] at h13
        refine z_eqD (dp_keep (same_keep s13) dl) (.tup h13 (dps_pl _)) (pl_shaped _) (pl_shaped _) ?_
        rw [show PyData.eqv (plD (List.replicate 300 1)) (.tuple ((List.replicate 300 1).map fun k => PyData.int (k : Nat))) = true from eqv_refl_shaped (pl_shaped _)]
        walk_at "zz"
        refine z_ixT (same_st s13 hq) (at_of (j := 1) rfl ev1) ?_
        walk_at "zz"
        refine z_kTup (line_ge (by simp)) fun p6 H14 n14 s14 h14 => ?_
        refine z_eqD (dp_keep (same_keep (s13.trans s14)) d1) (.tup (SqT.of h14) (.cons (.int 0) .nil)) (pl_shaped _) (pl_shaped [0]) ?_
        rw [show PyData.eqv (plD [0]) (.tuple [.int 0]) = true from by decide]
        walk_at "zz"
        exact k _
end
end K01

namespace K01
open PySem PySem.Spec PyProof.Rows L2 Nm
theorem sizeAll_set : ∀ {ts : List Nm.T} {k : Nat} {s r : Nm.T}, ts[k]? = some s → sizeAll (ts.set k r) + s.size = sizeAll ts + r.size
  | [], k, s, r, h => by simp at h
  | t :: ts, 0, s, r, h => by
    cases h
    rw [List.set_cons_zero, sizeAll, sizeAll]
    omega
  | t :: ts, k + 1, s, r, h => by
    have := sizeAll_set (ts := ts) (k := k) (r := r) h
    rw [List.set_cons_succ, sizeAll, sizeAll]
    omega
theorem with_fit : ∀ (p : List Nat) (t u r : Nm.T), withAt t p u = some r → r.depth ≤ t.depth + u.depth ∧ r.size ≤ t.size + u.size ∧ (t.good = true → u.good = true → r.good = true)
  | [], t, u, r, h => by
    rw [withAt] at h
    cases h
    exact ⟨by omega, by omega, fun _ h => h⟩
  | k :: p, .num n, u, r, h => by rw [withAt] at h; cases h
  | k :: p, .node m ps, u, r, h => by
    cases e : ps[k]? with
    | none => rw [with_out e] at h; cases h
    | some s =>
      rw [with_node e] at h
      cases e2 : withAt s p u with
      | none => rw [e2] at h; cases h
      | some r' =>
        rw [e2] at h
        have er : Nm.T.node m (ps.set k r') = r := Option.some.inj h
        subst er
        obtain ⟨h1, h2, h3⟩ := with_fit p s u r' e2
        have ms := List.mem_of_getElem? e
        have ds : s.depth ≤ depthAll ps := depthAll_iff.mp (Nat.le_refl _) s ms
        have zs := sizeAll_set (r := r') e
        refine ⟨?_, ?_, fun g gu => ?_⟩
        · rw [Nm.T.depth, Nm.T.depth]
          have : depthAll (ps.set k r') ≤ depthAll ps + u.depth := depthAll_iff.mpr fun t ht => by
            rcases List.mem_or_eq_of_mem_set ht with q | q
            · have := depthAll_iff.mp (Nat.le_refl (depthAll ps)) t q
              omega
            · rw [q]; omega
          omega
        · rw [Nm.T.size, Nm.T.size]
          omega
        · rw [Nm.T.good, Bool.and_eq_true] at g ⊢
          refine ⟨g.1, goodAll_iff.mpr fun t ht => ?_⟩
          rcases List.mem_or_eq_of_mem_set ht with q | q
          · exact goodAll_iff.mp g.2 t q
          · rw [q]; exact h3 (goodAll_iff.mp g.2 s ms) gu
mutual
theorem cells_fit : ∀ (t : Nm.T) {c : List Nat × Nm.T}, c ∈ cellsT t → c.1.length ≤ t.depth ∧ c.2.depth ≤ t.depth ∧ c.2.size ≤ t.size ∧ (t.good = true → c.2.good = true) ∧ (thin t = true → thin c.2 = true)
  | .num n, c, h => by
    rw [cellsT, List.mem_singleton] at h
    rw [h]
    exact ⟨Nat.le_refl _, Nat.le_refl _, Nat.le_refl _, id, id⟩
  | .node m ps, c, h => by
    rw [cellsT] at h
    rcases List.mem_cons.mp h with q | q
    · rw [q]
      exact ⟨Nat.zero_le _, Nat.le_refl _, Nat.le_refl _, id, id⟩
    · obtain ⟨h1, h2, h3, h4, h5⟩ := cellsAll_fit 0 ps q
      rw [Nm.T.depth, Nm.T.size, Nm.T.good, thin]
      refine ⟨by omega, by omega, by omega, fun g => h4 ?_, fun g => h5 ?_⟩
      · rw [Bool.and_eq_true] at g; exact g.2
      · rw [Bool.and_eq_true] at g; exact g.2
theorem cellsAll_fit : ∀ (j : Nat) (ts : List Nm.T) {c : List Nat × Nm.T}, c ∈ cellsAll j ts → c.1.length ≤ 1 + depthAll ts ∧ c.2.depth ≤ depthAll ts ∧ c.2.size ≤ sizeAll ts ∧ (goodAll ts = true → c.2.good = true) ∧ (thinAll ts = true → thin c.2 = true)
  | j, [], c, h => by rw [cellsAll] at h; cases h
  | j, t :: ts, c, h => by
    rw [cellsAll] at h
    rw [depthAll, sizeAll, goodAll, thinAll]
    have m1 := Nat.le_max_left t.depth (depthAll ts)
    have m2 := Nat.le_max_right t.depth (depthAll ts)
    rcases List.mem_append.mp h with q | q
    · obtain ⟨c', hc, rfl⟩ := List.mem_map.mp q
      obtain ⟨h1, h2, h3, h4, h5⟩ := cells_fit t hc
      refine ⟨by rw [List.length_cons]; omega, Nat.le_trans h2 m1, by show c'.2.size ≤ _; omega, fun g => h4 ?_, fun g => h5 ?_⟩
      · rw [Bool.and_eq_true] at g; exact g.1
      · rw [Bool.and_eq_true] at g; exact g.1
    · obtain ⟨h1, h2, h3, h4, h5⟩ := cellsAll_fit (j + 1) ts q
      refine ⟨by omega, Nat.le_trans h2 m2, by omega, fun g => h4 ?_, fun g => h5 ?_⟩
      · rw [Bool.and_eq_true] at g; exact g.2
      · rw [Bool.and_eq_true] at g; exact g.2
end
theorem thin_out {t : Nm.T} (h : thin t = true) {k : Nat} (hk : 4 ≤ k) (r : List Nat) : partAt t (k :: r) = none := by
  cases t with
  | num n => exact part_num
  | node m ps =>
    rw [thin, Bool.and_eq_true] at h
    have := of_decide_eq_true h.1
    exact part_out (by omega)
theorem dps_pls {K : PySem.W.Frag} {H : Hp} : ∀ {ws : List V} {cs : List (List Nat × Nm.T)}, ws.length = cs.length → (∀ (j : Nat) (v : V) (c : List Nat × Nm.T), ws[j]? = some v → cs[j]? = some c → ∃ q, v = .ref q ∧ SqT K H q (plV c.1)) → DpAll K H ws (cs.map fun c => plD c.1)
  | [], [], _, _ => .nil
  | [], c :: cs, h, _ => by cases h
  | w :: ws, [], h, _ => by cases h
  | w :: ws, c :: cs, hl, h => by
    obtain ⟨q, rfl, hq⟩ := h 0 w c rfl rfl
    exact .cons (.tup hq (dps_pl _)) (dps_pls (by simpa using hl) fun j v c' e1 e2 => h (j + 1) v c' e1 e2)
theorem pls_shaped (cs : List (List Nat × Nm.T)) : SeqAt.shaped (.tuple (cs.map fun c => plD c.1)) = true := shaped_tup (n := 1) (by decide) fun d hd => by
  obtain ⟨c, _, rfl⟩ := List.mem_map.mp hd
  have h := pl_shaped c.1
  unfold SeqAt.shaped at h
  rw [Bool.and_eq_true] at h
  refine ⟨h.1, ?_⟩
  unfold plD
  rw [PyData.depth]
  have : ∀ l : List Nat, PyData.depthAll (l.map fun k => PyData.int (k : Nat)) = 0 := fun l => by
    induction l with
    | nil => rfl
    | cons k l ih => rw [List.map_cons, PyData.depthAll, ih]; rfl
  rw [this]; omega
section
variable {P : Program} {w : World} {K : PySem.W.Frag} {mg : Str → Option Value} {base : Heap}
def spLaw (K : PySem.W.Frag) : Sp := fun vs H Q _ => ∃ (a : Addr) (ns : List Int), vs = [.ref a] ∧ SqL K H a (ns.map V.int) ∧ ∀ H', Q (.bl true) H'
theorem ok_law (T : Tx P K mg) : FnOk P w K mg base CX0 9 T.alaw T.fdlaw ["_law_script"] (spLaw K) := by
  have Geq : FnOk P w K mg base CX0 1 T.aeq T.fdeq ["self", "other"] (spEqT K T.CM) := ok_eq T
  have Gsize : FnOk P w K mg base CX0 1 T.asize T.fdsize ["value"] (spSize K T.CM) := ok_size T
  have Gplaces : FnOk P w K mg base CX0 1 T.aplaces T.fdplaces ["value"] (spPlaces K T.CM) := ok_places T
  have Gpartat : FnOk P w K mg base CX0 1 T.apartat T.fdpartat ["value", "place"] (spPart K T.CM) := ok_partat T
  have Gwith : FnOk P w K mg base (L2.CX P w) 3 T.awith T.fdwith ["value", "place", "part"] (spWith K T.CM T.CNoName) := ok_with T
  have Gpen : FnOk P w K mg base CX0 1 T.apen T.fdpen ["_law_script"] (spPen K) := ok_pen T
  have Gany : FnOk P w K mg base CX0 7 T.aany T.fdany ["_law_pen_here", "_law_depth"] (spAny K 4) := ok_any T 4
  have Gany1 : FnOk P w K mg base CX0 4 T.aany T.fdany ["_law_pen_here", "_law_depth"] (spAny K 1) := ok_any T 1
  have Gown : FnOk P w K mg base CX0 8 T.aown T.fdown ["_law_value"] (spOwn K T.CM 7) := ok_own T 7
  have Gmade : FnOk P w K mg base CX0 8 T.amade T.fdmade ["_law_value"] (spMade K T.CM 5) := ok_made T 5
  have Gcells : FnOk P w K mg base CX0 7 T.acells T.fdcells ["_law_value"] (spCells K 5) := ok_cells T 5
  have Gput : FnOk P w K mg base CX0 7 T.aput T.fdput ["_law_value", "_law_place", "_law_part"] (spPut K 5) := ok_put T 5
  have Gnoplace : FnOk P w K mg base CX0 4 T.anoplace T.fdnoplace ["_law_value", "_law_place"] (spNoPlace K T.CM) := ok_noplace T
  have Gchain : FnOk P w K mg base CX0 5 T.achain T.fdchain ["_law_pen_here"] (spChain K) := ok_chain T
  refine T.Dlaw.F.ok sclaw (fun vs H Q E h => ?_) (fun cdv A outer s H vs Q E hr h => ?_)
  · obtain ⟨a, ns, rfl, _⟩ := h
    rfl
  · obtain ⟨a, ns, rfl, hS, k⟩ := h
    have hu := hu_of hr
    have hreq := hr.mono (j := 1) (by decide)
    have hrne := hr.mono (j := 2) (by decide)
    have hrsize := hreq
    have hrplaces := hreq
    have hrpartat := hreq
    have hrpen := hreq
    have hrwith := hr.mono (j := 3) (by decide)
    have hrany := hr.mono (j := 7) (by decide)
    have hrany1 := hr.mono (j := 4) (by decide)
    have hrown := hr
    have hrmade := hr
    have hrcells := hrany
    have hrput := hrany
    have hrnoplace := hrany1
    have hrchain := hr.mono (j := 5) (by decide)
    refine ⟨_, pss_cons (ps_set (i := 1) sclaw.nd rfl (Or.inl rfl) (pe_callN T.Dpen Gpen hrpen pass0 (pa_cons (pv 0) pa_nil)))
(pss_cons (ps_set (i := 2) sclaw.nd rfl (Or.inl rfl) (pe_callN T.Dany Gany hrany pass0 (pa_cons (pv 1) (pa_cons (pe_int) pa_nil))))
(pss_cons (ps_par rfl sclaw.nd (i := 3) (j := 4) rfl rfl (by decide) rfl rfl (pa_cons (pe_callN T.Dmade Gmade hrmade pass0 (pa_cons (pv 2) pa_nil)) (pa_cons (pe_callN T.Dcells Gcells hrcells pass0 (pa_cons (pv 2) pa_nil)) pa_nil)) (by rfl))
(pss_cons (ps_if (pt_cut (PW.pt (pw_or (pt_cmpR op_ne (pe_callN T.Dsize Gsize hrsize pass0 (pa_cons (pv 3) pa_nil)) (pe_callB call_lenL (by rfl) T.n_len (by decide +kernel) (pa_cons (pv 4) pa_nil)) (nomark _)) (pw_or1 (pt_cmpR (op_neD hr.units) (pe_callN T.Dplaces Gplaces hrplaces pass0 (pa_cons (pv 3) pa_nil)) (pe_callTy call_tupleOf (by rfl) T.n_tuple (by decide +kernel) (pa_cons (pe_lc (g := gTup K 2 (gCons (gName 5) (gCons (gName 6) gNil))) (own := [("_law_place", 5), ("_law_one", 6)]) rfl sclaw.nd (pi_list (pv 4)) (blkOk_by (own := [("_law_place", 5), ("_law_one", 6)]) (N := ["_law_script", "_law_pen_here", "_law_own_here", "_law_value", "_law_cells_here", "_law_place", "_law_one", "_law_wrong", "_law_part", "_law_other", "_law_due"]) (sc := defScope slaw) (by decide +kernel)) (fun _ _ _ _ _ => pg_tup rfl (pgs_cons (pg_name (i := 5) sclaw.nd rfl (Or.inl rfl) (Or.inr rfl)) (pgs_cons (pg_name (i := 6) sclaw.nd rfl (Or.inl rfl) (Or.inr rfl)) pgs_nil))) (fun _ _ _ _ _ => pts_nil) (fun _ _ _ _ _ => pv 5)) pa_nil)) (nomark _))))))
(pss_one (ps_ret (pe_bl)))
(pss_nil))
(pss_cons (ps_if (pt_cut (PW.pt (pw_or (pt_not (pt_val (pe_callB call_isi (by rfl) T.n_isinstance (by decide +kernel) (pa_cons (pe_cmpR (op_eqT T.MM Geq hreq T.Deq.b pass0) (pv 3) (pe_callN T.Dmade Gmade hrmade pass0 (pa_cons (pv 2) pa_nil)) (nomark _)) (pa_cons (pe_bltn (v := .ty "bool") rfl T.n_bool (by decide +kernel) rfl) pa_nil))))) (pw_or1 (pt_cmpR (op_neT T.MM Geq hrne T.Deq.b pass0) (pv 3) (pe_callN T.Dmade Gmade hrmade pass0 (pa_cons (pv 2) pa_nil)) (nomark _))))))
(pss_one (ps_ret (pe_bl)))
(pss_nil))
(pss_cons (ps_for PassesOwn.never rfl (pi_list (pe_slice sl_list (pv 4) po_none (po_some (pe_int)))) (pg_tup rfl (pgs_cons (pg_name (i := 5) sclaw.nd rfl (Or.inl rfl)) (pgs_cons (pg_name (i := 6) sclaw.nd rfl (Or.inl rfl)) pgs_nil)))
(pss_cons (ps_if (pt_cmpR (op_neD hr.units) (pe_callN T.Down Gown hrown pass0 (pa_cons (pe_callN T.Dpartat Gpartat hrpartat pass0 (pa_cons (pv 3) (pa_cons (pv 5) pa_nil))) pa_nil)) (pv 6) (nomark _))
(pss_one (ps_ret (pe_bl)))
(pss_nil))
(pss_cons (ps_for PassesOwn.never rfl (pi_list (pe_lst (pa_cons (pe_op op_catA (pv 5) (pe_tup (pa_cons (pe_cut (pe_ifExp (pt_not (pt_val (pe_callB call_isi (by rfl) T.n_isinstance (by decide +kernel) (pa_cons (pv 6) (pa_cons (pe_bltn (v := .ty "int") rfl T.n_int (by decide +kernel) rfl) pa_nil))))) (pe_callB call_lenL (by rfl) T.n_len (by decide +kernel) (pa_cons (pe_ix ix_tup (pv 6) (pe_int) (fun _ _ => rfl)) pa_nil)) (pe_int))) pa_nil))) (pa_cons (pe_op op_catA (pv 5) (pe_tup (pa_cons (pe_int) (pa_cons (pe_int) pa_nil)))) pa_nil)))) (pg_name (i := 7) sclaw.nd rfl (Or.inl rfl))
(pss_one (ps_if (pt_cut (PW.pt (pw_or (pt_cmpR op_notNn (pe_callN T.Dpartat Gpartat hrpartat pass0 (pa_cons (pv 3) (pa_cons (pv 7) pa_nil))) (pe_non) (nomark _)) (pw_or1 (pt_not (pt_val (pe_callN T.Dnoplace Gnoplace hrnoplace pass0 (pa_cons (pv 3) (pa_cons (pv 7) pa_nil)))))))))
(pss_one (ps_ret (pe_bl)))
(pss_nil))))
(pss_cons (ps_set (i := 8) sclaw.nd rfl (Or.inl rfl) (pe_callN T.Dany Gany1 hrany1 pass0 (pa_cons (pv 1) (pa_cons (pe_int) pa_nil))))
(pss_cons (ps_set (i := 9) sclaw.nd rfl (Or.inl rfl) (pe_callN T.Dwith Gwith hrwith passF (pa_cons (pv 3) (pa_cons (pv 5) (pa_cons (pe_callN T.Dmade Gmade hrmade pass0 (pa_cons (pv 8) pa_nil)) pa_nil)))))
(pss_cons (ps_set (i := 10) sclaw.nd rfl (Or.inl rfl) (pe_callN T.Dput Gput hrput pass0 (pa_cons (pv 2) (pa_cons (pv 5) (pa_cons (pv 8) pa_nil)))))
(pss_one (ps_if (pt_cut (PW.pt (pw_or (pt_cmpR (op_neD hr.units) (pe_callN T.Down Gown hrown pass0 (pa_cons (pv 9) pa_nil)) (pv 10) (nomark _)) (pw_or (pt_cmpR (op_neD hr.units) (pe_callN T.Down Gown hrown pass0 (pa_cons (pv 3) pa_nil)) (pv 2) (nomark _)) (pw_or1 (pt_cmpR op_ne (pe_cmpR (op_eqT T.MM Geq hreq T.Deq.b pass0) (pv 9) (pv 3) (nomark _)) (pe_cmpR (op_eqD hr.units) (pv 10) (pv 2) (nomark _)) (nomark _)))))))
(pss_one (ps_ret (pe_bl)))
(pss_nil)))))))))
(pss_one (ps_ret (pe_callN T.Dchain Gchain hrchain pass0 (pa_cons (pv 1) pa_nil))))))))), ?_⟩
    walk_at "z0"
    walk_at "zz"
    refine ⟨a, ns, rfl, hS, fun d c H1 nd s1 p1 => ?_⟩
    walk_at "zz"
    refine ⟨d, c, 1000, rfl, p1.less (by rw [show cost 4 = 767 from rfl]; omega), fun y t H2 b2 p2 ht hy => ?_⟩
    have hy2 : Dp K H2 y t.own := dp_keep (same_keep nw_sub) hy
    have td : t.depth ≤ 5 := ht.d
    have tz : t.size ≤ 341 := ht.z
    have tsh : SeqAt.shaped t.own = true := own_shaped ht.g (by omega)
    walk_at "zz"
    refine ⟨y, t, rfl, hy2, td, by omega, fun x H3 s3 hx => ?_⟩
    walk_at "zz"
    refine ⟨y, t, rfl, dp_keep (same_keep s3) hy2, td, by omega, fun D H4 ys s4 hD hc => ?_⟩
    have lys := hc.1
    rw [cells_len] at lys
    walk_at "zz"
    have hx4 := made_same s4 hx
    have hy4 := dp_keep (same_keep (s3.trans s4)) hy2
    have p4 := p2.same (s3.trans s4)
    refine z_cutB false ?_ fun H5 s5 => ?_
    · walk_at "zz"
      refine ⟨x, t, rfl, hx4, by omega, fun H5 s5 => ?_⟩
      walk_at "zz"
      refine z_lenL (SqL.of (s5 _ _ hD)) ?_
      walk_at "zz"
      rw [show decide ((t.size : Int) = (ys.length : Int)) = true from decide_eq_true (by rw [lys])]
      walk_at "zz"
      refine ⟨x, t, rfl, made_same s5 hx4, by omega, fun p H6 s6 hp => ?_⟩
      walk_at "zz"
      have s56 := s5.trans s6
      refine z_kIL (SqL.of (s56 _ _ hD)) ?_
      refine l_gen walk_list (fun D j v H1 => ∀ c, (cellsT t)[j]? = some c → ∃ q, v = .ref q ∧ SqT K H1 q (plV c.1)) (fun D j v H1 H2 s h c e => by obtain ⟨q, e1, e2⟩ := h c e; exact ⟨q, e1, same_st s e2⟩)
        (fun D j v H1 xs o hD hx h c e => by obtain ⟨q, e1, e2⟩ := h c e; exact ⟨q, e1, (KI.lst hx).tup _ _ e2⟩) (by omega) (fun H7 s7 => SqL.of (s7 _ _ (s56 _ _ hD))) ?_ ?_ mono_two
      · rintro D j z H7 H7' hD' hD7 hj s7 ⟨eH, ez⟩ Q' k'
        subst eH
        obtain ⟨c, ec⟩ : ∃ c, (cellsT t)[j]? = some c := ⟨_, List.getElem?_eq_getElem (by rw [cells_len]; omega)⟩
        obtain ⟨r, q, va, rfl, h8, h9, h10⟩ := (hc.same (s56.trans s7)).2 j z c ez ec
        refine z_gTup h8 rfl ?_
        walk_at "zz"
        refine ⟨rfl, ?_⟩
        walk_at "zz"
        refine k' _ _ (Same.refl _) fun c' ec' => ?_
        rw [ec] at ec'
        cases ec'
        exact ⟨q, rfl, h9⟩
      · intro D' H7 ws hD' s7 hD7 hlw hws
        walk_at "zz"
        refine z_tupleOfL (SqL.of hD7) fun q H8 nq s8 h8 => ?_
        have dw : DpAll K H7 ws ((cellsT t).map fun c => plD c.1) := dps_pls (by rw [cells_len]; omega) fun j v c e1 e2 => hws j v e1 c e2
        refine z_neD (dp_keep (same_keep (s7.trans s8)) hp) (.tup (SqT.of h8) (dps_keep (same_keep s8) dw)) (pls_shaped _) (pls_shaped _) ?_
        rw [eqv_refl_shaped (pls_shaped _)]
        walk_at "zz"
        exact ⟨rfl, s56.trans (s7.trans s8)⟩
    refine iteF ?_
    walk_at "zz"
    have hx5 := made_same s5 hx4
    have hy5 := dp_keep (same_keep s5) hy4
    refine z_cutB false ?_ fun H6 s6 => ?_
    · walk_at "zz"
      refine ⟨y, t, rfl, hy5, td, by omega, fun x2 H6 s6 hx2 => ?_⟩
      walk_at "zz"
      refine z_eqT (made_same s6 hx5) hx2 (by omega) (by omega) fun H7 s7 => ?_
      walk_at "zz"
      refine z_isi (ClsV.ty "bool") (.base (.bl _)) (b := true) (kit_ty (r := true) (by decide +kernel)) ?_
      walk_at "zz"
      have s67 := s6.trans s7
      refine ⟨y, t, rfl, dp_keep (same_keep s67) hy5, td, by omega, fun x3 H8 s8 hx3 => ?_⟩
      walk_at "zz"
      refine z_neT (made_same (s67.trans s8) hx5) hx3 rfl (by omega) (by omega) fun H9 s9 => ?_
      rw [show decide (t = t) = true from decide_eq_true rfl]
      walk_at "zz"
      exact ⟨rfl, s67.trans (s8.trans s9)⟩
    refine iteF ?_
    walk_at "zz"
    have s46 := s5.trans s6
    refine z_slL (SqL.of (s46 _ _ hD)) fun D2 H7 n7 s7 h7 => ?_
    rw [show (some (60 : Int)) = some ((60 : Nat) : Int) from rfl, cutV_to] at h7
    have s47 := s46.trans s7
    have hx7 := made_same s47 hx4
    have hy7 := dp_keep (same_keep s47) hy4
    have hc7 := hc.same s47
    have p7 := p4.same s47
    refine z_kIL (SqL.of h7) ?_
    have k7 : ∀ {H'}, But d H7 H' → Keep H7 H' := fun b => p7.keep b
    refine f_list (fun i σ' H' => ∃ (v5 v6 v7 v8 v9 v10 : Option V), σ' = [some (.ref a), some (.ref d), some y, some x, some (.ref D), v5, v6, v7, v8, v9, v10] ∧ But d H7 H' ∧ Pen K H' d c (1000 - 11 * i)) ⟨_, _, _, _, _, _, rfl, But.refl _ _, p7⟩ (fun i σ' H' ⟨_, _, _, _, _, _, _, b, _⟩ => (k7 b).l (SqL.of h7)) ?_ ?_
    · rintro i z σ' H8 hz ⟨v5, v6, v7, v8, v9, v10, rfl, b8, p8⟩
      have hi : i < 60 := by
        have := (List.getElem?_eq_some_iff.mp hz).1
        rw [List.length_take] at this
        omega
      have hz := tk_at hz
      obtain ⟨e, ee⟩ : ∃ e, (cellsT t)[i]? = some e := ⟨_, List.getElem?_eq_getElem (by have := (List.getElem?_eq_some_iff.mp hz).1; rw [cells_len]; omega)⟩
      obtain ⟨r, q, va, rfl, hr7, hq7, hv7⟩ := hc7.2 i z e hz ee
      have me := List.mem_of_getElem? ee
      have pe := cells_part t me
      obtain ⟨f1, f2, f3, f4, f5⟩ := cells_fit t me
      have f4 := f4 ht.g
      have f5 := f5 ht.t
      obtain ⟨pl, s⟩ := e
      have pe : partAt t pl = some s := pe
      have f1 : pl.length ≤ t.depth := f1
      have f2 : s.depth ≤ t.depth := f2
      have f3 : s.size ≤ t.size := f3
      have f4 : s.good = true := f4
      have f5 : thin s = true := f5
      have hq7 : SqT K H7 q (plV pl) := hq7
      have hv7 : Dp K H7 va s.own := hv7
      have ssh : SeqAt.shaped s.own = true := own_shaped f4 (by omega)
      have k8 := k7 b8
      have hx8 := made_ki (KI.keep k8) hx7
      have hy8 := dp_keep k8 hy7
      have hq8 := k8.t hq7
      have hv8 := dp_keep k8 hv7
      refine z_gTup (k8.t hr7) rfl ?_
      walk_at "zz"
      refine ⟨x, q, t, pl, rfl, hx8, hq8, fun v s' H9 e s9 hv => ?_, fun H9 e => by rw [pe] at e; cases e⟩
      rw [pe] at e
      cases e
      walk_at "zz"
      refine ⟨v, s, rfl, hv, by omega, by omega, fun o H10 s10 ho => ?_⟩
      walk_at "zz"
      have s90 := s9.trans s10
      refine z_neD (dp_keep (same_keep nw_sub) ho) (dp_keep (same_keep s90) hv8) ssh ssh ?_
      rw [eqv_refl_shaped ssh]
      walk_at "zz"
      refine z_cutE (fun v' H' => ∃ j : Nat, v' = .int (j : Nat) ∧ Same H10 H' ∧ partAt s [j] = none) ?_ ?_
      · walk_at "zz"
        refine z_ownInt (dp_keep (same_keep s90) hv8) ?_
        walk_at "zz"
        cases s with
        | num l =>
          refine z_ite (fun e => by simp [Nm.T.isNode] at e) (fun _ => ?_)
          walk_at "zz"
          exact ⟨0, rfl, Same.refl _, part_num⟩
        | node m qs =>
          refine z_ite (fun _ => ?_) (fun e => by simp [Nm.T.isNode] at e)
          obtain ⟨a', l', vs, rfl, ha, hl, hvs⟩ := own_node (dp_keep (same_keep s90) hv8)
          have lvs := (dps_own_at hvs).1
          walk_at "zz"
          refine z_ixT ha rfl ?_
          walk_at "zz"
          refine z_lenL hl ?_
          exact ⟨vs.length, rfl, Same.refl _, part_out (by omega)⟩
      rintro v' H11 ⟨j, rfl, s11, hj⟩
      walk_at "zz"
      refine z_kTup (line_ge (by simp)) fun q1 H12 n12 s12 h12 => ?_
      walk_at "zz"
      have s82 := s90.trans (s11.trans s12)
      refine z_catA (same_st s82 hq8) (SqT.of h12) (by rw [sizeLine_eq, plV, List.length_map, List.length_singleton]; omega) fun p1' H13 s13 h13 _ => ?_
      walk_at "zz"
      refine z_kTup (line_ge (by simp)) fun q2 H14 n14 s14 h14 => ?_
      walk_at "zz"
      have s84 := s82.trans (s13.trans s14)
      refine z_catA (same_st s84 hq8) (SqT.of h14) (by rw [sizeLine_eq, plV, List.length_map]; simp; omega) fun p2' H15 s15 h15 _ => ?_
      walk_at "zz"
      refine z_kLst (line_ge (by simp)) fun l3 H16 n16 s16 h16 => ?_
      have s86 := s84.trans (s15.trans s16)
      have hw1 : SqT K H16 p1' (plV (pl ++ [j])) := by rw [plV_app]; exact same_st (s14.trans (s15.trans s16)) h13
      have hw2 : SqT K H16 p2' (plV (pl ++ [99, 0])) := by rw [plV_app]; exact same_st s16 h15
      have no1 : partAt t (pl ++ [j]) = none := by rw [partAt_app, pe]; exact hj
      have no2 : partAt t (pl ++ [99, 0]) = none := by rw [partAt_app, pe]; exact thin_out f5 (by decide) _
      have hx16 := made_same s86 hx8
      refine z_kIL (SqL.of h16) ?_
      refine f_list (fun i σ' H' => ∃ (v7 : Option V), σ' = [some (.ref a), some (.ref d), some y, some x, some (.ref D), some (.ref q), some va, v7, v8, v9, v10] ∧ Same H16 H') ⟨_, rfl, Same.refl _⟩ (fun i σ' H' ⟨_, _, s⟩ => same_sq s (SqL.of h16)) ?_ ?_
      · rintro i' z' σ' H17 hz' ⟨v7', rfl, s17⟩
        obtain ⟨pw, wl, rfl, hpw, lpw, npw⟩ : ∃ (pw : Addr) (wl : List Nat), z' = .ref pw ∧ SqT K H16 pw (plV wl) ∧ wl.length ≤ 1000000 ∧ partAt t wl = none := by
          match i', hz' with
          | 0, e => exact ⟨p1', _, (Option.some.inj e).symm, hw1, by rw [List.length_append, List.length_singleton]; omega, no1⟩
          | 1, e => exact ⟨p2', _, (Option.some.inj e).symm, hw2, by rw [List.length_append]; simp; omega, no2⟩
          | n + 2, e => simp at e
        walk_at "zz"
        refine z_cutB false ?_ fun H18 s18 => ?_
        · walk_at "zz"
          refine ⟨x, pw, t, wl, rfl, made_same s17 hx16, same_st s17 hpw, fun v s' H18 e => absurd (npw.symm.trans e) (by simp), fun H18 e s18 => ?_⟩
          walk_at "zz"
          rw [show decide (V.non = V.non) = true from decide_eq_true rfl]
          walk_at "zz"
          have s78 := s17.trans s18
          refine ⟨x, pw, t, wl, rfl, made_same s78 hx16, same_st s78 hpw, by omega, lpw, npw, fun H19 s19 => ?_⟩
          walk_at "zz"
          exact ⟨rfl, s18.trans s19⟩
        refine iteF ?_
        walk_at "zz"
        exact ⟨_, rfl, s17.trans s18⟩
      · rintro σ' H17 ⟨v7', rfl, s17⟩
        walk_at "zz"
        have s87 := s86.trans s17
        refine ⟨d, c, 1000 - 11 * (i + 1), rfl, (p8.same s87).less (by rw [show cost 1 = 11 from rfl]; omega), fun z u H18 b18 p18 hu' hz18 => ?_⟩
        have hz18 : Dp K H18 z u.own := dp_keep (same_keep nw_sub) hz18
        have ud : u.depth ≤ 2 := hu'.d
        have uz : u.size ≤ 5 := hu'.z
        have b88 : But d H8 H18 := (same_but s87).trans b18
        have k88 : Keep H8 H18 := p8.keep b88
        have hx18 := made_ki (KI.keep k88) hx8
        have hy18 := dp_keep k88 hy8
        have hq18 := k88.t hq8
        walk_at "zz"
        refine ⟨z, u, rfl, hz18, by omega, by omega, fun zm H19 s19 hzm => ?_⟩
        walk_at "zz"
        obtain ⟨rr, er⟩ := with_some pl t u pe
        obtain ⟨r1, r2, r3⟩ := with_fit pl t u rr er
        have rg := r3 ht.g hu'.g
        have rsh : SeqAt.shaped rr.own = true := own_shaped rg (by omega)
        refine ⟨x, q, zm, t, pl, u, rfl, made_same s19 hx18, same_st s19 hq18, hzm, by omega, by omega, fun rr' v H20 e s20 hv => ?_, fun e => by rw [er] at e; cases e⟩
        rw [er] at e
        cases e
        walk_at "zz"
        have s180 := s19.trans s20
        refine ⟨H20, y, q, z, t, u, pl, rr, rfl, Same.refl _, dp_keep (same_keep s180) hy18, dp_keep (same_keep s180) hz18, same_st s180 hq18, by omega, by omega, by omega, er, fun due H21 s21 hdue => ?_⟩
        have hdue : Dp K H21 due rr.own := dp_keep (same_keep (ov_sub (Same.refl _) s21)) hdue
        have s181 := s180.trans s21
        have hx21 := made_same s181 hx18
        have hy21 := dp_keep (same_keep s181) hy18
        have hv21 := made_same s21 hv
        walk_at "zz"
        refine z_cutB false ?_ fun H22 s22 => ?_
        · walk_at "zz"
          refine ⟨v, rr, rfl, hv21, by omega, by omega, fun o2 H22 s22 ho2 => ?_⟩
          walk_at "zz"
          refine z_neD (dp_keep (same_keep nw_sub) ho2) (dp_keep (same_keep s22) hdue) rsh rsh ?_
          rw [eqv_refl_shaped rsh]
          walk_at "zz"
          refine ⟨x, t, rfl, made_same s22 hx21, by omega, by omega, fun o3 H23 s23 ho3 => ?_⟩
          walk_at "zz"
          have s223 := s22.trans s23
          refine z_neD (dp_keep (same_keep nw_sub) ho3) (dp_keep (same_keep s223) hy21) tsh tsh ?_
          rw [eqv_refl_shaped tsh]
          walk_at "zz"
          refine z_eqT (made_same s223 hv21) (made_same s223 hx21) (by omega) (by omega) fun H24 s24 => ?_
          walk_at "zz"
          have s224 := s223.trans s24
          refine z_eqD (dp_keep (same_keep s224) hdue) (dp_keep (same_keep s224) hy21) rsh tsh ?_
          rw [own_eqv]
          walk_at "zz"
          refine z_ne rfl ?_
          rw [show decide (V.bl (decide (rr = t)) = V.bl (decide (rr = t))) = true from decide_eq_true rfl]
          walk_at "zz"
          exact ⟨rfl, s224⟩
        refine iteF ?_
        walk_at "zz"
        exact ⟨_, _, _, _, _, _, rfl, b8.trans (b88.trans (same_but (s181.trans s22))), p18.same (s181.trans s22)⟩
    · rintro σ' H8 ⟨v5, v6, v7, v8, v9, v10, rfl, b8, p8⟩
      walk_at "zz"
      have l60 : (ys.take 60).length ≤ 60 := by rw [List.length_take]; omega
      refine ⟨d, c, 0, rfl, p8.less (by omega), fun H' => ?_⟩
      walk_at "zz"
      exact k H'
end
end K01

namespace K01
open PySem PySem.Spec PyProof.Rows L2 Nm
abbrev sIni0 : Stmt := Nm.inClass (top 2) 0
theorem ini0 : NmE.Ini sIni0 ["name"] :=
  ⟨⟨_, _, _, _, _, _, _, rfl, (.cons .nil), (.cons .nil), rfl⟩, by decide, ⟨_, rfl, rfl⟩, by decide +kernel, by decide +kernel, by decide +kernel, by decide +kernel, by decide +kernel, by decide +kernel, rfl, rfl, rfl⟩
theorem bind0 (qual : Str) (cc : Addr) (kV doc pm : Value) (an : Option Addr) (cda : Addr) (ct : Value) (us : List Value) (hl : us.length = (("self" : Str) :: ["name"]).length) :
    bindArgs (PySem.W.ksFn "__init__" qual (defArgs sIni0) (defBody sIni0) (defScope sIni0) .none kV doc pm an (.ref cda) ct cc) ⟨us, []⟩ = pure ((("self" : Str) :: ["name"]).zip us) := by
  match us, hl with
  | [_, _], _ => first | rfl | kernel_rfl | with_unfolding_all rfl
/-- a method, by what the written part says of it -/
theorem dm_mk {K : PySem.W.Frag} {x q : Str} {st : Stmt} {ps : List Str} {f : Addr} {oc : Value} {od : Option Addr} {osl : Array (Option Value)} {n qual : Str} {p : Arguments} {b : List Stmt} {s : Scope} {cl : List (Str × Addr)} {dV kV doc pm : Value} {an : Option Addr} {cdv ct : Value}
    (h : K.lookup f = some ⟨oc, od, .func (PySem.W.fnX n qual p b s cl dV kV doc pm an cdv ct), osl⟩) (e0 : n = x) (e1 : qual = q) (e2 : p = defArgs st) (e3 : b = defBody st) (e4 : s = defScope st) (e5 : cl = []) (e6 : dV = .none) (c : PySem.W.codeIn K cdv q = true) (k : PySem.W.keepIn K (.ref f) = true)
    (hb : ∀ (kV doc pm : Value) (an : Option Addr) (cdv ct : Value) (us : List Value), us.length = ps.length → bindArgs (PySem.W.fnOf x q (defArgs st) (defBody st) (defScope st) .none kV doc pm an cdv ct) ⟨us, []⟩ = pure (ps.zip us)) :
    Nm.Dm K x q st ps f (PySem.W.fnOf x q (defArgs st) (defBody st) (defScope st) .none kV doc pm an cdv ct) := by
  subst e0 e1 e2 e3 e4 e5 e6
  exact ⟨fun_mk (st := st) h c k, (fun_mk (st := st) h c k).binds hb⟩
/-- what is written of the classes -/
structure ClsW (P : Program) (K : PySem.W.Frag) (mg : Str → Option Value) (c0 cM fi fe : Addr) (di de : FuncData) : Prop where
  e0 : NmE.Err P K mg "NoName" c0 ["name"]
  s0_0 : PySem.W.subIn K (.ref c0) (.ref c0) = some true
  gM : mg "Made" = some (.ref cM)
  mkW : L2.Mk K cM fi
  mm : Nm.MadeC K cM fe
  diD : Nm.Dm K "__init__" "Made.__init__" sinit ["self", "maker", "parts"] fi di
  deD : Nm.Dm K "__eq__" "Made.__eq__" seq ["self", "other"] fe de
end K01


open PySem PySem.W PyProof.Rows
set_option maxRecDepth 100000 in
set_option maxHeartbeats 0 in
theorem PySem.Challenge.cw_namedmeets_k01_values_and_places_holds : PySem.Challenge.rw_namedmeets_k01_values_and_places.Holds := by
  w_on; o_law; k_head; (case hw => w_witness2)
  k_fill
  refine Nm.walk_ofX (l := PySem.Challenge.rw_namedmeets_k01_values_and_places) (n := 63) (k := 9) (x := "_law_script") (CX := L2.CX0) (sp := K01.spLaw) rfl (by decide) rfl ⟨rfl, by decide, by decide⟩ (fun w h Y => PySem.W.kIn_of Y) ?F (fun K H a ns _ hS => ⟨a, ns, rfl, hS, fun _ => rfl⟩) (fun _ _ _ _ z => z)
  case F =>
    intro w mg fa h XP KX G hmg
    obtain ⟨asize, fdsize, Dsize⟩ : ∃ a fd, Nm.Df _ mg "size_of" K01.ssize ["value"] a fd := by
      refine' Nm.df_mk KX G ?n ?l ?c ?k (fun _ _ _ _ _ _ us hl => match us, hl with | [_], _ => rfl)
      (case n => k_is); (case l => k_is); (case c => k_is); (case k => k_is)
    obtain ⟨aplaces, fdplaces, Dplaces⟩ : ∃ a fd, Nm.Df _ mg "places_of" K01.splaces ["value"] a fd := by
      refine' Nm.df_mk KX G ?n ?l ?c ?k (fun _ _ _ _ _ _ us hl => match us, hl with | [_], _ => rfl)
      (case n => k_is); (case l => k_is); (case c => k_is); (case k => k_is)
    obtain ⟨apartat, fdpartat, Dpartat⟩ : ∃ a fd, Nm.Df _ mg "part_at" K01.spartat ["value", "place"] a fd := by
      refine' Nm.df_mk KX G ?n ?l ?c ?k (fun _ _ _ _ _ _ us hl => match us, hl with | [_, _], _ => rfl)
      (case n => k_is); (case l => k_is); (case c => k_is); (case k => k_is)
    obtain ⟨awith, fdwith, Dwith⟩ : ∃ a fd, Nm.Df _ mg "value_with" K01.swith ["value", "place", "part"] a fd := by
      refine' Nm.df_mk KX G ?n ?l ?c ?k (fun _ _ _ _ _ _ us hl => match us, hl with | [_, _, _], _ => rfl)
      (case n => k_is); (case l => k_is); (case c => k_is); (case k => k_is)
    obtain ⟨apen, fdpen, Dpen⟩ : ∃ a fd, Nm.Df _ mg "_law_pen" K01.spen ["_law_script"] a fd := by
      refine' Nm.df_mk KX G ?n ?l ?c ?k (fun _ _ _ _ _ _ us hl => match us, hl with | [_], _ => rfl)
      (case n => k_is); (case l => k_is); (case c => k_is); (case k => k_is)
    obtain ⟨adraw, fddraw, Ddraw⟩ : ∃ a fd, Nm.Df _ mg "_law_draw" K01.sdraw ["_law_pen_here", "_law_many"] a fd := by
      refine' Nm.df_mk KX G ?n ?l ?c ?k (fun _ _ _ _ _ _ us hl => match us, hl with | [_, _], _ => rfl)
      (case n => k_is); (case l => k_is); (case c => k_is); (case k => k_is)
    obtain ⟨apick, fdpick, Dpick⟩ : ∃ a fd, Nm.Df _ mg "_law_pick" K01.spick ["_law_pen_here", "_law_some"] a fd := by
      refine' Nm.df_mk KX G ?n ?l ?c ?k (fun _ _ _ _ _ _ us hl => match us, hl with | [_, _], _ => rfl)
      (case n => k_is); (case l => k_is); (case c => k_is); (case k => k_is)
    obtain ⟨aown, fdown, Down⟩ : ∃ a fd, Nm.Df _ mg "_law_own" K01.sown ["_law_value"] a fd := by
      refine' Nm.df_mk KX G ?n ?l ?c ?k (fun _ _ _ _ _ _ us hl => match us, hl with | [_], _ => rfl)
      (case n => k_is); (case l => k_is); (case c => k_is); (case k => k_is)
    obtain ⟨amade, fdmade, Dmade⟩ : ∃ a fd, Nm.Df _ mg "_law_made" K01.smade ["_law_value"] a fd := by
      refine' Nm.df_mk KX G ?n ?l ?c ?k (fun _ _ _ _ _ _ us hl => match us, hl with | [_], _ => rfl)
      (case n => k_is); (case l => k_is); (case c => k_is); (case k => k_is)
    obtain ⟨aany, fdany, Dany⟩ : ∃ a fd, Nm.Df _ mg "_law_any_value" K01.sany ["_law_pen_here", "_law_depth"] a fd := by
      refine' Nm.df_mk KX G ?n ?l ?c ?k (fun _ _ _ _ _ _ us hl => match us, hl with | [_, _], _ => rfl)
      (case n => k_is); (case l => k_is); (case c => k_is); (case k => k_is)
    obtain ⟨acells, fdcells, Dcells⟩ : ∃ a fd, Nm.Df _ mg "_law_cells" K01.scells ["_law_value"] a fd := by
      refine' Nm.df_mk KX G ?n ?l ?c ?k (fun _ _ _ _ _ _ us hl => match us, hl with | [_], _ => rfl)
      (case n => k_is); (case l => k_is); (case c => k_is); (case k => k_is)
    obtain ⟨aput, fdput, Dput⟩ : ∃ a fd, Nm.Df _ mg "_law_put" K01.sput ["_law_value", "_law_place", "_law_part"] a fd := by
      refine' Nm.df_mk KX G ?n ?l ?c ?k (fun _ _ _ _ _ _ us hl => match us, hl with | [_, _, _], _ => rfl)
      (case n => k_is); (case l => k_is); (case c => k_is); (case k => k_is)
    obtain ⟨anoplace, fdnoplace, Dnoplace⟩ : ∃ a fd, Nm.Df _ mg "_law_no_place" K01.snoplace ["_law_value", "_law_place"] a fd := by
      refine' Nm.df_mk KX G ?n ?l ?c ?k (fun _ _ _ _ _ _ us hl => match us, hl with | [_, _], _ => rfl)
      (case n => k_is); (case l => k_is); (case c => k_is); (case k => k_is)
    obtain ⟨achain, fdchain, Dchain⟩ : ∃ a fd, Nm.Df _ mg "_law_chain_right" K01.schain ["_law_pen_here"] a fd := by
      refine' Nm.df_mk KX G ?n ?l ?c ?k (fun _ _ _ _ _ _ us hl => match us, hl with | [_], _ => rfl)
      (case n => k_is); (case l => k_is); (case c => k_is); (case k => k_is)
    obtain ⟨alaw, fdlaw, Dlaw, Blaw⟩ : ∃ a fd, Nm.Df _ mg "law" K01.slaw ["_law_script"] a fd ∧ ∀ (s : Shared) (us : List Value), us.length = (["_law_script"] : List Str).length → BindsTo s fd ⟨us, []⟩ ((["_law_script"] : List Str).zip us) := by
      refine' Nm.df_mkB KX G ?n ?l ?c ?k (fun _ _ _ _ _ _ us hl => match us, hl with | [_], _ => rfl)
      (case n => k_is); (case l => k_is); (case c => k_is); (case k => k_is)
    obtain ⟨c0, cM, fi, fe, di, de, W⟩ : ∃ (c0 cM fi fe : Addr) (di de : FuncData), K01.ClsW PySem.Challenge.rw_namedmeets_k01_values_and_places.prog _ mg c0 cM fi fe di de := by
      refine' ⟨_, _, _, _, _, _, { e0 := NmE.err_mk (st := K01.sIni0) KX G ?n0 ?c0 ?hbm0 ?sa0 ?ga0 ?gg0 ?noN0 ?kC0 ?exC0 ?veC0 ?tyC0 ?hdC0 ?opq0 ?own0 ?nsp0 ?iC0 ?tI0 ?lI0 ?hcr0 ?hcc0 ?hcd0 ?hvs0 ?hfile0 ?sup0 ?top0 K01.ini0 (K01.bind0 _), s0_0 := ?s0_0, gM := PySem.W.mg_of KX G ?gM, mkW := ⟨?mkm, ?mki, ?mkf, ?mkk⟩, mm := { cl := ⟨?pg, ?hd, ?po, ?sa⟩, nM := ?mnM, nP := ?mnP, eq := ?meq, fn := ?mfn, ne := ?mne, ob := ?mob, int := ?mint, nf := ?mnf, ha := ?mha, hn := ?mhn, ht := ?mht, hm := ?mhm, kI := ?mkI, kM := ?mkM, iM := ?miM }, diD := K01.dm_mk (st := K01.sinit) ?hdi ?e0di ?e1di ?e2di ?e3di ?e4di ?e5di ?e6di ?cdi ?kdi (fun _ _ _ _ _ _ us hl => match us, hl with | [_, _, _], _ => rfl), deD := K01.dm_mk (st := K01.seq) ?hde ?e0de ?e1de ?e2de ?e3de ?e4de ?e5de ?e6de ?cde ?kde (fun _ _ _ _ _ _ us hl => match us, hl with | [_, _], _ => rfl) }⟩
      (case n0 => k_is)
      (case c0 => k_is)
      (case hbm0 => decide +kernel)
      (case sa0 => k_is)
      (case ga0 => k_is)
      (case gg0 => k_is)
      (case noN0 => intro f hf; rcases List.mem_cons.mp hf with rfl | hf; (· k_is); cases hf)
      (case kC0 => k_is)
      (case exC0 => k_is)
      (case veC0 => k_is)
      (case tyC0 => k_is)
      (case hdC0 => k_is)
      (case opq0 => k_is)
      (case own0 => k_is)
      (case nsp0 => k_is)
      (case iC0 => k_is)
      (case tI0 => k_is)
      (case lI0 =>
        refine' NmE.fn_split ?h ?e1 ?e2 ?e3 ?e4 ?e5 ?e6 ?e7
        (case h => k_is); (case e1 => rfl); (case e2 => rfl); (case e3 => rfl); (case e4 => rfl); (case e5 => rfl); (case e6 => rfl); (case e7 => rfl))
      (case hcr0 => k_is)
      (case hcc0 => k_is)
      (case hcd0 => k_is)
      (case hvs0 => rfl)
      (case hfile0 => first | rfl | decide +kernel)
      (case sup0 => ks_is)
      (case top0 => first | rfl | decide +kernel)
      (case s0_0 => k_is)
      (case gM => k_is)
      (case mki => k_is)
      (case meq => k_is)
      (case mkm => k_is)
      (case mkf => k_is)
      (case mkk => k_is)
      (case pg => k_is)
      (case hd => k_is)
      (case po => k_is)
      (case sa => k_is)
      (case mnM => unfold L2.NoAttr; k_is)
      (case mnP => unfold L2.NoAttr; k_is)
      (case mfn => k_is)
      (case mne => k_is)
      (case mob => k_is)
      (case mint => k_is)
      (case mnf => k_is)
      (case mha => k_is)
      (case mhn => k_is)
      (case mht => k_is)
      (case mhm => k_is)
      (case mkI => kit_is)
      (case mkM => kit_is)
      (case miM => kit_is)
      (case hdi => k_is)
      (case e0di => rfl)
      (case e1di => rfl)
      (case e2di => rfl)
      (case e3di => rfl)
      (case e4di => rfl)
      (case e5di => rfl)
      (case e6di => rfl)
      (case cdi => k_is); (case kdi => k_is)
      (case hde => k_is)
      (case e0de => rfl)
      (case e1de => rfl)
      (case e2de => rfl)
      (case e3de => rfl)
      (case e4de => rfl)
      (case e5de => rfl)
      (case e6de => rfl)
      (case cde => k_is); (case kde => k_is)
    have n_len : mg "len" = none := by
      refine' PySem.W.mg_none_of KX G ?n
      (case n => k_is)
    have n_enumerate : mg "enumerate" = none := by
      refine' PySem.W.mg_none_of KX G ?n
      (case n => k_is)
    have n_list : mg "list" = none := by
      refine' PySem.W.mg_none_of KX G ?n
      (case n => k_is)
    have n_int : mg "int" = none := by
      refine' PySem.W.mg_none_of KX G ?n
      (case n => k_is)
    have n_range : mg "range" = none := by
      refine' PySem.W.mg_none_of KX G ?n
      (case n => k_is)
    have n_isinstance : mg "isinstance" = none := by
      refine' PySem.W.mg_none_of KX G ?n
      (case n => k_is)
    have n_tuple : mg "tuple" = none := by
      refine' PySem.W.mg_none_of KX G ?n
      (case n => k_is)
    have n_bool : mg "bool" = none := by
      refine' PySem.W.mg_none_of KX G ?n
      (case n => k_is)
    have n_zip : mg "zip" = none := by
      refine' PySem.W.mg_none_of KX G ?n
      (case n => k_is)
    have n_super : mg "super" = none := by
      refine' PySem.W.mg_none_of KX G ?n
      (case n => k_is)
    have e : fa = alaw := Value.ref.inj (Option.some.inj (hmg.symm.trans Dlaw.g))
    subst e
    exact ⟨_, fun s v => Blaw s [v] rfl, fun base _ _ => K01.ok_law { ainit := fi, fdinit := di, Dinit := W.diD, aeq := fe, fdeq := de, Deq := W.deD, asize := asize, fdsize := fdsize, Dsize := Dsize, aplaces := aplaces, fdplaces := fdplaces, Dplaces := Dplaces, apartat := apartat, fdpartat := fdpartat, Dpartat := Dpartat, awith := awith, fdwith := fdwith, Dwith := Dwith, apen := apen, fdpen := fdpen, Dpen := Dpen, adraw := adraw, fddraw := fddraw, Ddraw := Ddraw, apick := apick, fdpick := fdpick, Dpick := Dpick, aown := aown, fdown := fdown, Down := Down, amade := amade, fdmade := fdmade, Dmade := Dmade, aany := aany, fdany := fdany, Dany := Dany, acells := acells, fdcells := fdcells, Dcells := Dcells, aput := aput, fdput := fdput, Dput := Dput, anoplace := anoplace, fdnoplace := fdnoplace, Dnoplace := Dnoplace, achain := achain, fdchain := fdchain, Dchain := Dchain, alaw := fa, fdlaw := fdlaw, Dlaw := Dlaw, n_len := n_len, n_enumerate := n_enumerate, n_list := n_list, n_int := n_int, n_range := n_range, n_isinstance := n_isinstance, n_tuple := n_tuple, n_bool := n_bool, n_zip := n_zip, n_super := n_super, CNoName := c0, ENoName := W.e0, x_NoName_NoName := PySem.W.exm_ref W.e0.exC W.e0.hdC W.e0.tyC W.s0_0, CM := cM, g_Made := W.gM, M_Made := W.mkW, MM := W.mm }⟩


