import PyProof.Rows.All
import Wide.All
import OpenK.AllK
import Wide.FinOn
import HandS.ForMost
import HandS.Walk
import HandS.IsInst
import HandS.Flow
import HandS.Wide
import HandS.Conv
import PyProof.ListStr
import PyProof.StrOps2
import KE.GoesEnum
import PySem.Challenge.RW_namedmeets_k03_words_of_lines
set_option Elab.async false
set_option linter.all false
set_option maxRecDepth 100000
set_option maxHeartbeats 4000000
/-! The own layer: heaps that only grow but for dicts, readings by names, steps. -/
namespace Nm
open PySem PySem.Spec PyProof.Rows L2

/-! ### heaps -/
def isD : HO → Bool
  | .dK _ => true
  | .dT _ => true
  | _ => false
/-- all that is tracked stands, but dicts may change -/
def Keep (H H' : Hp) : Prop := ∀ a o, H a = some o → isD o = false → H' a = some o
theorem Keep.refl (H : Hp) : Keep H H := fun _ _ h _ => h
theorem Keep.trans {H H1 H2 : Hp} (a : Keep H H1) (b : Keep H1 H2) : Keep H H2 := fun x o h z => b x o (a x o h z) z
theorem same_keep {H H' : Hp} (a : Same H H') : Keep H H' := fun x o h _ => a x o h
theorem Keep.rdL {H H' : Hp} {a : Addr} {xs : List V} (k : Keep H H') (h : Rd H a (.lst xs)) : Rd H' a (.lst xs) := by
  rcases h with h | ⟨o, h⟩
  · exact .inl (k _ _ h rfl)
  · exact .inr ⟨o, k _ _ h rfl⟩
theorem Keep.rdT {H H' : Hp} {a : Addr} {xs : List V} (k : Keep H H') (h : Rd H a (.tup xs)) : Rd H' a (.tup xs) := by
  rcases h with h | ⟨o, h⟩
  · exact .inl (k _ _ h rfl)
  · exact .inr ⟨o, k _ _ h rfl⟩
theorem Keep.l {K : PySem.W.Frag} {H H' : Hp} {a : Addr} {xs : List V} (k : Keep H H') (h : SqL K H a xs) : SqL K H' a xs := by
  rcases h with h | h
  · exact .inl (k.rdL h)
  · exact .inr h
theorem Keep.t {K : PySem.W.Frag} {H H' : Hp} {a : Addr} {xs : List V} (k : Keep H H') (h : SqT K H a xs) : SqT K H' a xs := by
  rcases h with h | h
  · exact .inl (k.rdT h)
  · exact .inr h
mutual
theorem dp_keep {K : PySem.W.Frag} {H H' : Hp} (k : Keep H H') : ∀ {v : V} {d : PyData}, Dp K H v d → Dp K H' v d
  | _, _, .non => .non
  | _, _, .bl b => .bl b
  | _, _, .int i => .int i
  | _, _, .str x => .str x
  | _, _, .lst h l => .lst (k.l h) (dps_keep k l)
  | _, _, .tup h l => .tup (k.t h) (dps_keep k l)
theorem dps_keep {K : PySem.W.Frag} {H H' : Hp} (k : Keep H H') : ∀ {v : List V} {d : List PyData}, DpAll K H v d → DpAll K H' v d
  | _, _, .nil => .nil
  | _, _, .cons h l => .cons (dp_keep k h) (dps_keep k l)
end
theorem Same.new {H : Hp} {p : Addr} {o : HO} (h : H p = none) : Same H (upd H p o) := fun b u e => by
  rw [upd_ne (ne_of_none e h)]
  exact e
/-- an object that H does not know may change -/
theorem Same.mut {H H' : Hp} {p : Addr} {o : HO} (e : Same H H') (h : H p = none) : Same H (upd H' p o) := fun b u q => by
  rw [upd_ne (ne_of_none q h)]
  exact e b u q
theorem Keep.mut {H H' : Hp} {p : Addr} {o : HO} (e : Keep H H') (h : H p = none) : Keep H (upd H' p o) := fun b u q z => by
  rw [upd_ne (ne_of_none q h)]
  exact e b u q z
/-- all but the object at d stands -/
def But (d : Addr) (H H' : Hp) : Prop := ∀ a o, a ≠ d → H a = some o → H' a = some o
theorem But.refl (d : Addr) (H : Hp) : But d H H := fun _ _ _ h => h
theorem But.trans {d : Addr} {H H1 H2 : Hp} (a : But d H H1) (b : But d H1 H2) : But d H H2 := fun x o n h => b x o n (a x o n h)
theorem But.keep {d : Addr} {H H' : Hp} {kvs : List (Key × V)} (b : But d H H') (h : H d = some (.dK kvs)) : Keep H H' := fun a o e z => by
  refine b a o (fun q => ?_) e
  rw [q, h] at e
  cases e
  cases z
theorem But.upd {d : Addr} {H : Hp} {o : HO} : But d H (upd H d o) := fun a u n e => by
  rw [upd_ne n]
  exact e
end Nm

/-! Rules of the own layer: text * int, list(text), enumerate(text). -/
namespace Nm
open PySem PySem.Spec PyProof.Rows L2
/-- z, n times -/
def mulS (z : Str) (n : Nat) : Str := ⟨(List.replicate n z.cps.toList).flatten.toArray⟩
theorem foldl_rep (x : Array Nat) : ∀ (n : Nat) (acc : Array Nat), ((List.replicate n x).foldl (· ++ ·) acc).toList = acc.toList ++ (List.replicate n x.toList).flatten
  | 0, acc => by simp
  | n + 1, acc => by
    rw [List.replicate_succ, List.foldl_cons, foldl_rep x n, List.replicate_succ, List.flatten_cons, Array.toList_append, List.append_assoc]
theorem rep_mulS (x : Str) (n : Nat) : (⟨(List.replicate n x.cps).foldl (· ++ ·) #[]⟩ : Str) = mulS x n := by
  unfold mulS
  congr 1
  apply Array.toList_inj.mp
  rw [foldl_rep]
  simp
theorem mulS_len (x : Str) (n : Nat) : (mulS x n).length = x.length * n := by
  show ((List.replicate n x.cps.toList).flatten.toArray).size = x.cps.size * n
  simp [Nat.mul_comm]
def rMulS : R2 := fun x y H Q => ∃ z n, x = .str z ∧ y = .int n ∧ 0 ≤ n ∧ n ≤ 100000 ∧ z.length ≤ 100 ∧ Q (.str (mulS z n.toNat)) H
theorem op_mulS {X : Cx} : OpR X (binaryOp .Mult) rMulS := by
  intro pins s σ H x y v u Q I rx ry h
  obtain ⟨z, n, rfl, rfl, h0, h1, hz, q⟩ := h
  obtain ⟨t, rfl⟩ := rx
  obtain ⟨t', rfl⟩ := ry
  have hle : z.length * n.toNat ≤ 10000000 := Nat.le_trans (Nat.mul_le_mul hz (show n.toNat ≤ 100000 by omega)) (by decide)
  have hsl : (sizeLine : Nat) = 16777216 := sizeLine_eq
  refine PySem.P.mul_str ?_ ?_ ?_ ?_
  · rw [Bool.or_eq_false_iff]
    exact ⟨decide_eq_false (by omega), decide_eq_false (by omega)⟩
  · intro hn _ hc
    have e1 : (2 ^ 63 - 1 : Int) / n ≥ 100 := by
      rw [ge_iff_le, Int.le_ediv_iff_mul_le (by omega)]
      omega
    omega
  · intro _ _
    unfold Builtin.Str.tooLong
    refine decide_eq_false ?_
    omega
  · by_cases c1 : n < 1
    · rw [if_pos c1]
      have e0 : n.toNat = 0 := by omega
      rw [e0] at q
      exact ⟨by decide, .str _, H, I.tok _, ⟨_, rfl⟩, q⟩
    · rw [if_neg c1]
      by_cases c2 : (n == 1 || z.length == 0) = true
      · rw [if_pos c2]
        have e : mulS z n.toNat = z := by
          rw [Bool.or_eq_true] at c2
          rcases c2 with c | c
          · have e1 : n.toNat = 1 := by
              have := eq_of_beq c
              omega
            rw [e1]
            unfold mulS
            simp
          · have e1 : z.cps.size = 0 := eq_of_beq c
            have e2 : z.cps = #[] := Array.eq_empty_of_size_eq_zero e1
            obtain ⟨cps⟩ := z
            simp only at e2
            subst e2
            unfold mulS
            simp
        rw [e] at q
        exact ⟨.str z, H, I, ⟨t, rfl⟩, q⟩
      · rw [if_neg c2, rep_mulS]
        refine ⟨?_, .str _, H, I.tok _, ⟨_, rfl⟩, q⟩
        rw [mulS_len]
        omega

/-- list(text) -/
def signsV (z : Str) : List V := z.cps.toList.map fun c => V.str ⟨#[c]⟩
def rListS : List V → Hp → VK → Prop := fun xs H Q => ∃ z, xs = [.str z] ∧ z.length ≤ sizeLine ∧ ∀ l, H l = none → Q (.ref l) (upd H l (.lst (signsV z)))
theorem vals_signs {x : Str} {acc : Array Value} (h : ItemsOf (SignAt x) acc x.cps.size) : Vals (signsV x) acc.toList := by
  refine vals_of_at ?_ ?_
  · unfold signsV
    rw [List.length_map]
    simpa using h.1.symm
  · intro j a u ha hu
    unfold signsV at ha
    rw [List.getElem?_map] at ha
    cases e : x.cps.toList[j]? with
    | none => rw [e] at ha; cases ha
    | some c =>
      rw [e] at ha
      have ha' : V.str ⟨#[c]⟩ = a := Option.some.inj ha
      subst ha'
      obtain ⟨c', t, hc, rfl⟩ := h.2 j u (by simpa using hu)
      have e2 : x.cps[j]? = some c := by simpa using e
      rw [e2] at hc
      cases hc
      exact ⟨t, rfl⟩
theorem call_list_str' {X : Cx} (hc : X.calm = true) : CallR X (.type "list") rListS := by
  intro pins s σ H xs us Q I r h
  obtain ⟨z, rfl, hz, q⟩ := h
  obtain ⟨u, rfl, ru⟩ := vals1 r
  obtain ⟨t, rfl⟩ := ru
  refine PySem.call_list_str (I.ok.hd hc) z t (fun h' tk acc' c' hk hS hacc => ?_) hz
  refine ⟨.ref s.heap.objs.size, _, I.laid (t' := tk) (o := .lst (signsV z)) hk (Nat.le_refl _) ⟨?_, acc'.toList, c', vals_signs hacc, by simpa using hS⟩, rfl, q _ (I.hok.fresh (Nat.le_refl _))⟩
  unfold signsV
  rw [List.length_map]
  exact hz
/-! ### enumerate(text) -/
def ItE (z : Str) : It :=
  ⟨fun i _ => i < z.cps.size, fun i H v H' => ∃ T c, v = .ref T ∧ H T = none ∧ z.cps[i]? = some c ∧ H' = upd H T (.tup [.int (i : Nat), .str ⟨#[c]⟩]), fun i _ => i = z.cps.size⟩
theorem turn_enumS {P : Program} {w : World} {K : PySem.W.Frag} {elts : List Expr} {kk : Nat} {tpos : Pos} (x : Str) (t : Tok) (e it : Addr) :
    Turn P w K (.Tuple elts kk tpos) (ItE x) [e, it] e (fun i h => (∃ old, IsEnum h e it ((i : Nat) : Int) old) ∧ h.IsStrIter it (strIterType x) x t i ∧ e ≠ it) where
  mem := by simp
  obj := fun i h st b hb => by
    obtain ⟨⟨old, he⟩, ⟨o, ho, hc, hd⟩, _⟩ := st
    have e' : b = e ∨ b = it := by simpa using hb
    rcases e' with z | z
    · rw [z]; exact ⟨_, he, fun v q => nomatch q⟩
    · rw [z]; exact ⟨o, ho, fun v q => by rw [hd] at q; cases q⟩
  keep := fun i h h' st k => let ⟨⟨old, he⟩, ⟨o, ho, r⟩, hne⟩ := st; ⟨⟨old, k e (by simp) _ he⟩, ⟨o, k it (by simp) o ho, r⟩, hne⟩
  item := by
    intro X hP hw hK hc i pins s σ H E I hf st hg
    subst hP hw hK
    obtain ⟨⟨old, he⟩, hit, hne⟩ := st
    have hel : e < s.heap.objs.size := Heap.lt_size he
    have hil : it < s.heap.objs.size := by obtain ⟨_, q, _⟩ := hit; exact Heap.lt_size q
    have D := Draws.text (prog := X.prog) (w := X.w) (A := X.A.in1) (by show X.A.handled = none; exact I.ok.hd hc) it x t
    have hef : e ∉ [it] := by simpa using hne
    refine wpAny_pyNext_enum_itemC D he hit hg hne hef fun v h' tk hP ho hit' hT hsz hk => ?_
    obtain ⟨c, u, hcx, rfl⟩ := hP
    refine ⟨_, rfl, wpAny_letOwnedTupleGo_enum (s := { s with heap := h', toks := tk + 1 }) ho fun h'' he' sb => ?_⟩
    have hT2 : h''.get? s.heap.objs.size = some { cls := .type "tuple", data := .seq #[.int i tk, .str ⟨#[c]⟩ u] } := (sb.2 _ (Nat.ne_of_gt hel)).trans hT
    have new : ObjOk X.prog X.w (upd H s.heap.objs.size (.tup [.int (i : Nat), .str ⟨#[c]⟩])) h'' s.heap.objs.size (.tup [.int (i : Nat), .str ⟨#[c]⟩]) :=
      ⟨by show 2 ≤ sizeLine; decide, [.int i tk, .str ⟨#[c]⟩ u], .cons ⟨_, rfl⟩ (.cons ⟨_, rfl⟩ .nil), ⟨_, hT2, rfl, _, rfl⟩⟩
    have I1 : Inv X pins σ (upd H s.heap.objs.size (.tup [.int (i : Nat), .str ⟨#[c]⟩])) { s with heap := h'', toks := tk + 1 } :=
      I.turnedNew (ch := [e, it]) (fun b ob hb q => (sb.2 b (fun z => hb (by simp [z]))).trans (hk b ob (fun z => hb (by simp [z])) (fun z => hb (by simp [z])) q)) hf (Nat.le_refl _) new
    refine ⟨.ref s.heap.objs.size, _, I1, rfl, ⟨_, c, rfl, I.hok.fresh (Nat.le_refl _), hcx, rfl⟩, ⟨⟨.str ⟨#[c]⟩ u, ?_⟩, ?_, hne⟩, fun b hb => ?_⟩
    · have e1 : ((i + 1 : Nat) : Int) = (i : Int) + 1 := by omega
      rw [e1]; exact he'
    · obtain ⟨o, ho', r⟩ := hit'
      exact ⟨o, (sb.2 it (Ne.symm hne)).trans ho', r⟩
    · have hb' : b < s.heap.objs.size := by
        have e' : b = e ∨ b = it := by simpa using hb
        rcases e' with z | z
        · rw [z]; exact hel
        · rw [z]; exact hil
      rw [upd_ne (Nat.ne_of_lt hb')]
      exact (hf b hb).1
  done := by
    intro X hP hw hK hc i pins s σ H E I hf st hg
    subst hP hw hK
    obtain ⟨⟨old, he⟩, hit, hne⟩ := st
    have hst : s.heap.IsStrIter it (strIterType x) x t i := hit
    have hg' : i = x.cps.size := hg
    subst hg'
    have D := Draws.text (prog := X.prog) (w := X.w) (A := X.A.in1) (by show X.A.handled = none; exact I.ok.hd hc) it x t
    obtain ⟨f0, f1, f2, f3, f4, f5⟩ := hf it (by simp)
    exact wpAny_pyNext_enum_endD D he hst fun h' eb => ⟨rfl, I.turned (t' := s.toks) (fun b o hb q => eb b o hb q) f0 f1 f3 f4 f5⟩
  self := fun A i s Q E st h => let ⟨⟨_, he⟩, _⟩ := st; wpAny_pyIter_enum he h
def iEnumS (ta : TA) : TI := fun σ H R => ta σ H fun vs H1 => ∃ z, vs = [.str z] ∧ R (ItE z) H1
theorem pi_enumS {X : Cx} {e : Expr} {ta : TA} {p pos tpos : Pos} {elts : List Expr} {kk : Nat} (hg : Gl X "enumerate") (hm : X.mg "enumerate" = none) (ha : PA X [e] ta) (hs : starEach [e] X.env = [(false, eval e X.env)] := by rfl) :
    PI X (.Tuple elts kk tpos) (.Call (.Name "enumerate" p) [e] [] pos) (iEnumS ta) := by
  refine ⟨fun pins s σ H R I h => ?_⟩
  refine Call_ (ld_blt I hg hm boot_enumerate (PyProof.Rows.callWith_type1 (thn (ha.run pos pins s σ H _ I h) fun us s1 ⟨vs, H1, I1, r1, q1⟩ => ?_) hs rfl))
  obtain ⟨z, ex, q⟩ := q1
  subst ex
  obtain ⟨u, rfl, ru⟩ := vals1 r1
  obtain ⟨t, rfl⟩ := ru
  refine PySem.call_enumerate_str fun h' he hit hsz hk => wpAny_pyIter_enum he ?_
  have I2 : Inv X pins σ H1 { s1 with heap := h' } := I1.kept (t' := s1.toks) hk
  refine ⟨s1.heap.objs.size + 1, [s1.heap.objs.size + 1, s1.heap.objs.size], _, _, H1, rfl, I2, turn_enumS z t (s1.heap.objs.size + 1) s1.heap.objs.size, ⟨⟨.none, he⟩, hit, Nat.succ_ne_self _⟩, fun b hb => ?_, q⟩
  have e' : b = s1.heap.objs.size + 1 ∨ b = s1.heap.objs.size := by simpa using hb
  have hle : s1.heap.objs.size ≤ b := by
    rcases e' with z | z
    · rw [z]; exact Nat.le_add_right _ _
    · rw [z]; exact Nat.le_refl _
  exact I1.fpOk hle (I1.hok.fresh hle)
theorem walk_enumS {z : Str} : Walk (ItE z) z.cps.size (fun _ => True) (fun i H v H' => ∃ T c, v = .ref T ∧ H T = none ∧ z.cps[i]? = some c ∧ H' = upd H T (.tup [.int (i : Nat), .str ⟨#[c]⟩])) :=
  ⟨fun _ _ hi _ => hi, fun _ _ => rfl, fun _ _ _ _ _ _ y => y⟩
end Nm

/-! The own layer: readings by names, their steps (z_..). -/
namespace Nm
open PySem PySem.Spec PyProof.Rows L2
/-! ### readings that the layer has without a name -/
def nAddS : R2 := fun x y H Q => ∃ i j, x = .str i ∧ y = .str j ∧ i.length + j.length ≤ sizeLine ∧ Q (.str (i ++ j)) H
def nInC : R2 := fun x y H Q => ∃ (c : Nat) (z : Str), x = .str ⟨#[c]⟩ ∧ y = .str z ∧ Q (.bl (decide (c ∈ z.cps.toList))) H
def nNotInC : R2 := fun x y H Q => ∃ (c : Nat) (z : Str), x = .str ⟨#[c]⟩ ∧ y = .str z ∧ Q (.bl (!decide (c ∈ z.cps.toList))) H
def nIsN : R2 := fun x y H Q => y = .non ∧ Q (.bl (decide (x = .non))) H
def nNotN : R2 := fun x y H Q => y = .non ∧ Q (.bl (!decide (x = .non))) H
def nLenS : List V → Hp → VK → Prop := fun xs H Q => ∃ z, xs = [.str z] ∧ z.length ≤ sizeLine ∧ Q (.int z.length) H
def nLenL (K : PySem.W.Frag) : List V → Hp → VK → Prop := fun xs H Q => ∃ p ys, xs = [.ref p] ∧ (SqL K H p ys ∨ SqT K H p ys) ∧ Q (.int ys.length) H
def nListOf (K : PySem.W.Frag) : List V → Hp → VK → Prop := fun xs H Q => ∃ p ys, xs = [.ref p] ∧ (SqL K H p ys ∨ SqT K H p ys) ∧ ∀ l, H l = none → Q (.ref l) (upd H l (.lst ys))
def nTupleOf (K : PySem.W.Frag) : List V → Hp → VK → Prop := fun xs H Q => ∃ p ys, xs = [.ref p] ∧ ((SqL K H p ys ∧ ∀ l, H l = none → Q (.ref l) (upd H l (.tup ys))) ∨ (SqT K H p ys ∧ Q (.ref p) H))
def nInt1 : List V → Hp → VK → Prop := fun xs H Q => (∃ i, xs = [.int i] ∧ Q (.int i) H) ∨ ∃ k, xs = [.bl k] ∧ Q (.int (if k then 1 else 0)) H
section
variable {X : Cx}
theorem op_addS : OpR X (binaryOp .Add) nAddS := op_add_str
theorem op_inC : OpR X (compareOp .In) nInC := op_in_sign
theorem op_notInC : OpR X (compareOp .NotIn) nNotInC := op_notIn_sign
theorem op_isNn : OpR X (compareOp .Is) nIsN := op_isN
theorem op_notNn : OpR X (compareOp .IsNot) nNotN := op_notN
theorem call_lenS : CallR X (.builtin "len") nLenS := call_len_str
theorem call_lenL : CallR X (.builtin "len") (nLenL X.K) := call_len_seq
theorem call_listOf : CallR X (.type "list") (nListOf X.K) := call_list_of
theorem call_tupleOf : CallR X (.type "tuple") (nTupleOf X.K) := call_tuple_of
theorem call_int1n : CallR X (.type "int") nInt1 := call_int1
end

theorem rel_str {x : Str} {t : Tok} : RelV (.str x) (.str x t) := ⟨t, rfl⟩
theorem rel_int {x : Int} {t : Tok} : RelV (.int x) (.int x t) := ⟨t, rfl⟩
theorem rel_ref {a : Addr} : RelV (.ref a) (.ref a) := rfl

/-! ### a call of an own def, nothing left to defaults -/
def tCallN (sp : Sp) (E : XK) (t : TA) : TE := fun σ H Q => t σ H fun vs H1 => sp vs H1 Q E
section
variable {X : Cx} {CX : CXT} {k : Nat} {f : Addr} {fd : FuncData} {ps : List Str} {sp : Sp} {E : XK} {x : Str} {e : Expr} {es : List Expr} {t : TA} {p pos : Pos}
theorem tCallN_eq : tCallN sp E t = tCall sp [] E t := by
  funext σ H Q
  show t σ H (fun vs H1 => sp vs H1 Q E) = t σ H (fun vs H1 => sp (vs ++ []) H1 Q E)
  simp only [List.append_nil]
/-- where a def stands -/
structure Df (K : PySem.W.Frag) (mg : Str → Option Value) (x : Str) (st : Stmt) (ps : List Str) (f : Addr) (fd : FuncData) : Prop where
  F : Fun K x x st f fd
  g : mg x = some (.ref f)
  b : Binds K fd ps []
theorem pe_callN {st : Stmt} (D : Df X.K X.mg x st ps f fd) (F : FnOk X.prog X.w X.K X.mg X.base CX k f fd ps sp) (hr : Room k X.A) (hx : Passes CX X E) (ha : PA X (e :: es) t) (hg : Gl X x := by rfl)
    (hs : starEach (e :: es) X.env = (false, eval e X.env) :: starEach es X.env := by rfl) (hpl : (backTo pos (starEach es X.env)).any (·.1) = false := by rfl) (hdb : (x == ("__debug__" : Str)) = false := by decide) :
    PE X (.Call (.Name x p) (e :: es) [] pos) (tCallN sp E t) := by
  rw [tCallN_eq]
  exact pe_call F hr hg D.g D.F.kp D.b .nil hx ha (hdb := hdb) (he := hs) (hpl := hpl)
theorem pe_callN0 {st : Stmt} (D : Df X.K X.mg x st ps f fd) (F : FnOk X.prog X.w X.K X.mg X.base CX k f fd ps sp) (hr : Room k X.A) (hx : Passes CX X E) (hg : Gl X x := by rfl) (hdb : (x == ("__debug__" : Str)) = false := by decide) :
    PE X (.Call (.Name x p) [] [] pos) (tCallN sp E tNil) := by
  rw [tCallN_eq]
  exact pe_call0 F hr hg D.g D.F.kp D.b .nil hx (hdb := hdb)
end

/-! ### words between: an expression, a test -/
def tCutE (te : TE) : TE := fun σ H Q => ∃ W : V → Hp → Prop, te σ H W ∧ ∀ v H', W v H' → Q v H'
def tCutT (tt : TT) : TT := fun σ H Q => ∃ W : Bool → Hp → Prop, tt σ H W ∧ ∀ v H', W v H' → Q v H'
theorem pe_cut {X : Cx} {e : Expr} {te : TE} (h : PE X e te) : PE X e (tCutE te) := ⟨fun pins s σ H Q I ⟨W, h1, h2⟩ => thn (h.run pins s σ H W I h1) fun u s' ⟨v, H', I', r, q⟩ => ⟨v, H', I', r, h2 v H' q⟩⟩
theorem pt_cut {X : Cx} {e : Expr} {tt : TT} (h : PT X e tt) : PT X e (tCutT tt) := ⟨fun pins s σ H Q I ⟨W, h1, h2⟩ => thn (h.run pins s σ H W I h1) fun u s' ⟨H', I', q⟩ => ⟨H', I', h2 u H' q⟩⟩
theorem z_cutE {te : TE} {σ : L2.St} {H : Hp} {Q : VK} (W : V → Hp → Prop) (h1 : te σ H W) (h2 : ∀ v H', W v H' → Q v H') : tCutE te σ H Q := ⟨W, h1, h2⟩
theorem z_cutT {tt : TT} {σ : L2.St} {H : Hp} {Q : Bool → Hp → Prop} (W : Bool → Hp → Prop) (h1 : tt σ H W) (h2 : ∀ v H', W v H' → Q v H') : tCutT tt σ H Q := ⟨W, h1, h2⟩
/-- the value is known, what stood stands -/
theorem z_cutV {te : TE} {σ : L2.St} {H : Hp} {Q : VK} (v : V) (h1 : te σ H fun v' H' => v' = v ∧ Same H H') (h2 : ∀ H', Same H H' → Q v H') : tCutE te σ H Q := ⟨_, h1, fun v' H' ⟨e, s⟩ => e ▸ h2 H' s⟩
theorem z_cutB {tt : TT} {σ : L2.St} {H : Hp} {Q : Bool → Hp → Prop} (b : Bool) (h1 : tt σ H fun b' H' => b' = b ∧ Same H H') (h2 : ∀ H', Same H H' → Q b H') : tCutT tt σ H Q := ⟨_, h1, fun v' H' ⟨e, s⟩ => e ▸ h2 H' s⟩

theorem not_t {b : Bool} (h : (!b) = true) : b = false := by simpa using h
theorem not_f {b : Bool} (h : (!b) = false) : b = true := by simpa using h
theorem z_iteNT {A B : Prop} (h : B) : if (!true) = true then A else B := by simpa using h
theorem z_iteNF {A B : Prop} (h : A) : if (!false) = true then A else B := by simpa using h
/-! ### steps -/
section
variable {σ : L2.St} {H : Hp} {Q : VK} {QT : Bool → Hp → Prop} {QA : List V → Hp → Prop} {QO : Option Int → Hp → Prop} {ta tb tc te : TE} {r r' : R2} {x y v : V} {K : PySem.W.Frag} {D : Ends}
theorem z_var {i : Nat} (h : σ[i]? = some (some v)) (q : Q v H) : tVar i σ H Q := ⟨v, h, q⟩
theorem z_c (q : Q v H) : tC v σ H Q := q
theorem z_op (h : ta σ H fun x H1 => tb σ H1 fun y H2 => r x y H2 Q) : tOp r ta tb σ H Q := h
theorem z_un {r : V → Hp → VK → Prop} (h : ta σ H fun x H1 => r x H1 Q) : tUn r ta σ H Q := h
/-! two ints -/
theorem z_rI0 {g : Int → Int → V} {i j : Int} (q : Q (g i j) H) : rI0 g (.int i) (.int j) H Q := ⟨i, j, rfl, rfl, q⟩
theorem z_rI {C : Int → Int → Prop} {g : Int → Int → V} {i j : Int} (c : C i j) (q : Q (g i j) H) : rI C g (.int i) (.int j) H Q := ⟨i, j, rfl, rfl, c, q⟩
theorem z_rU {g : Int → V} {i : Int} (q : Q (g i) H) : rU g (.int i) H Q := ⟨i, rfl, q⟩
/-! == and != of plain things -/
theorem z_eqI {i j : Int} (q : Q (.bl (decide (i = j))) H) : rEq (.int i) (.int j) H Q := ⟨rfl, by
  have e : decide (V.int i = V.int j) = decide (i = j) := by simp
  rw [e]; exact q⟩
theorem z_neI {i j : Int} (q : Q (.bl (!decide (i = j))) H) : rNe (.int i) (.int j) H Q := ⟨rfl, by
  have e : decide (V.int i = V.int j) = decide (i = j) := by simp
  rw [e]; exact q⟩
theorem z_eqS {i j : Str} (q : Q (.bl (decide (i = j))) H) : rEq (.str i) (.str j) H Q := ⟨rfl, by
  have e : decide (V.str i = V.str j) = decide (i = j) := by simp
  rw [e]; exact q⟩
theorem z_neS {i j : Str} (q : Q (.bl (!decide (i = j))) H) : rNe (.str i) (.str j) H Q := ⟨rfl, by
  have e : decide (V.str i = V.str j) = decide (i = j) := by simp
  rw [e]; exact q⟩
theorem z_eq (h : scal x y = true) (q : Q (.bl (decide (x = y))) H) : rEq x y H Q := ⟨h, q⟩
theorem z_ne (h : scal x y = true) (q : Q (.bl (!decide (x = y))) H) : rNe x y H Q := ⟨h, q⟩
/-! texts -/
theorem z_addS {i j : Str} (hl : i.length + j.length ≤ sizeLine) (q : Q (.str (i ++ j)) H) : nAddS (.str i) (.str j) H Q := ⟨i, j, rfl, rfl, hl, q⟩
theorem z_inC {c : Nat} {z : Str} (q : Q (.bl (decide (c ∈ z.cps.toList))) H) : nInC (.str ⟨#[c]⟩) (.str z) H Q := ⟨c, z, rfl, rfl, q⟩
theorem z_notInC {c : Nat} {z : Str} (q : Q (.bl (!decide (c ∈ z.cps.toList))) H) : nNotInC (.str ⟨#[c]⟩) (.str z) H Q := ⟨c, z, rfl, rfl, q⟩
theorem z_mulS {z : Str} {n : Int} (h0 : 0 ≤ n) (h1 : n ≤ 100000) (hz : z.length ≤ 100) (q : Q (.str (mulS z n.toNat)) H) : rMulS (.str z) (.int n) H Q := ⟨z, n, rfl, rfl, h0, h1, hz, q⟩
theorem z_lenS {z : Str} (hz : z.length ≤ sizeLine) (q : Q (.int z.length) H) : nLenS [.str z] H Q := ⟨z, rfl, hz, q⟩
theorem z_ixS {z : Str} {i : Int} {c : Nat} (hz : z.length ≤ sizeLine) (h : atI z.cps.toList i = some c) (q : Q (.str ⟨#[c]⟩) H) : rIxS (.str z) (.int i) H Q := ⟨z, i, c, rfl, rfl, hz, h, q⟩
theorem z_slS {z : Str} {lo hi : Option Int} (hz : z.length ≤ sizeLine) (q : Q (.str (cutS z lo hi)) H) : rSlS (.str z) lo hi H Q := ⟨z, rfl, hz, q⟩
theorem z_isN (q : Q (.bl (decide (x = .non))) H) : nIsN x .non H Q := ⟨rfl, q⟩
theorem z_notN (q : Q (.bl (!decide (x = .non))) H) : nNotN x .non H Q := ⟨rfl, q⟩
/-! slices -/
theorem z_sl {rs : V → Option Int → Option Int → Hp → VK → Prop} {tl th : TO} (h : te σ H fun x H1 => tl σ H1 fun l H2 => th σ H2 fun u H3 => rs x l u H3 Q) : tSl rs te tl th σ H Q := h
theorem z_noPart (q : QO none H) : tNoPart σ H QO := q
def kPart (QO : Option Int → Hp → Prop) : VK := fun x H1 => ∃ i, x = .int i ∧ QO (some i) H1
theorem z_part (h : te σ H (kPart QO)) : tPart te σ H QO := h
theorem z_kPart {i : Int} (q : QO (some i) H) : kPart QO (.int i) H := ⟨i, rfl, q⟩
/-! arguments, displays -/
theorem z_nil (q : QA [] H) : tNil σ H QA := q
theorem z_cons {tr : TA} (h : ta σ H fun x H1 => tr σ H1 fun xs H2 => QA (x :: xs) H2) : tCons ta tr σ H QA := h
def kTup (Q : VK) : List V → Hp → Prop := fun xs H1 => xs.length ≤ sizeLine ∧ ∀ p, H1 p = none → Q (.ref p) (upd H1 p (.tup xs))
def kLst (Q : VK) : List V → Hp → Prop := fun xs H1 => xs.length ≤ sizeLine ∧ ∀ p, H1 p = none → Q (.ref p) (upd H1 p (.lst xs))
theorem z_tup {t : TA} (h : t σ H (kTup Q)) : tTup t σ H Q := h
theorem z_lst {t : TA} (h : t σ H (kLst Q)) : tLst t σ H Q := h
/-- a new object at p, the heap behind it by a letter -/
theorem new_by {H : Hp} {o : HO} {R : Addr → Hp → Prop} (k : ∀ p H', H p = none → Same H H' → H' p = some o → (∀ a, a ≠ p → H' a = H a) → R p H') : ∀ p, H p = none → R p (upd H p o) :=
  fun p hp => k p _ hp (Same.new hp) upd_same fun a ha => upd_ne ha
theorem z_kTup {xs : List V} (hl : xs.length ≤ sizeLine) (k : ∀ p H', H p = none → Same H H' → H' p = some (.tup xs) → Q (.ref p) H') : kTup Q xs H := ⟨hl, new_by (R := fun p H' => Q (.ref p) H') fun p H' a b c _ => k p H' a b c⟩
theorem z_kLst {xs : List V} (hl : xs.length ≤ sizeLine) (k : ∀ p H', H p = none → Same H H' → H' p = some (.lst xs) → Q (.ref p) H') : kLst Q xs H := ⟨hl, new_by (R := fun p H' => Q (.ref p) H') fun p H' a b c _ => k p H' a b c⟩
/-! calls -/
theorem z_cb {f : List V → Hp → VK → Prop} {t : TA} (h : t σ H fun vs H1 => f vs H1 Q) : tCB f t σ H Q := h
theorem z_call {sp : Sp} {E : XK} {t : TA} (h : t σ H fun vs H1 => sp vs H1 Q E) : tCallN sp E t σ H Q := h
theorem z_lenL {p : Addr} {ys : List V} (h : SqL K H p ys) (q : Q (.int ys.length) H) : nLenL K [.ref p] H Q := ⟨p, ys, rfl, .inl h, q⟩
theorem z_lenT {p : Addr} {ys : List V} (h : SqT K H p ys) (q : Q (.int ys.length) H) : nLenL K [.ref p] H Q := ⟨p, ys, rfl, .inr h, q⟩
theorem z_listOfL {p : Addr} {ys : List V} (h : SqL K H p ys) (k : ∀ p H', H p = none → Same H H' → H' p = some (.lst ys) → Q (.ref p) H') : nListOf K [.ref p] H Q := ⟨p, ys, rfl, .inl h, new_by (R := fun p H' => Q (.ref p) H') fun p H' a b c _ => k p H' a b c⟩
theorem z_listOfT {p : Addr} {ys : List V} (h : SqT K H p ys) (k : ∀ p H', H p = none → Same H H' → H' p = some (.lst ys) → Q (.ref p) H') : nListOf K [.ref p] H Q := ⟨p, ys, rfl, .inr h, new_by (R := fun p H' => Q (.ref p) H') fun p H' a b c _ => k p H' a b c⟩
theorem z_listS {z : Str} (hz : z.length ≤ sizeLine) (k : ∀ p H', H p = none → Same H H' → H' p = some (.lst (signsV z)) → Q (.ref p) H') : rListS [.str z] H Q := ⟨z, rfl, hz, new_by (R := fun p H' => Q (.ref p) H') fun p H' a b c _ => k p H' a b c⟩
theorem z_tupleOfL {p : Addr} {ys : List V} (h : SqL K H p ys) (k : ∀ p H', H p = none → Same H H' → H' p = some (.tup ys) → Q (.ref p) H') : nTupleOf K [.ref p] H Q := ⟨p, ys, rfl, .inl ⟨h, new_by (R := fun p H' => Q (.ref p) H') fun p H' a b c _ => k p H' a b c⟩⟩
theorem z_tupleOfT {p : Addr} {ys : List V} (h : SqT K H p ys) (q : Q (.ref p) H) : nTupleOf K [.ref p] H Q := ⟨p, ys, rfl, .inr ⟨h, q⟩⟩
theorem z_intI {i : Int} (q : Q (.int i) H) : nInt1 [.int i] H Q := .inl ⟨i, rfl, q⟩
theorem z_intB {b : Bool} (q : Q (.int (if b then 1 else 0)) H) : nInt1 [.bl b] H Q := .inr ⟨b, rfl, q⟩
/-! items -/
theorem z_ixL {p : Addr} {ys : List V} {i : Int} (h : SqL K H p ys) (e : atI ys i = some v) (q : Q v H) : rIxL K (.ref p) (.int i) H Q := ⟨p, ys, i, v, rfl, rfl, h, e, q⟩
theorem z_ixT {p : Addr} {ys : List V} {i : Int} (h : SqT K H p ys) (e : atI ys i = some v) (q : Q v H) : rIxT K (.ref p) (.int i) H Q := ⟨p, ys, i, v, rfl, rfl, h, e, q⟩
theorem z_slL {p : Addr} {ys : List V} {lo hi : Option Int} (h : SqL K H p ys) (k : ∀ p H', H p = none → Same H H' → H' p = some (.lst (cutV ys lo hi)) → Q (.ref p) H') : rSlL K (.ref p) lo hi H Q := ⟨p, ys, rfl, h, new_by (R := fun p H' => Q (.ref p) H') fun p H' a b c _ => k p H' a b c⟩
theorem z_inL {p : Addr} {ys : List V} {neg : Bool} (h : SqL K H p ys) (hx : flatV x = true) (ha : ys.all flatV = true) (q : Q (.bl (if neg then !inV x ys else inV x ys)) H) : rIn K neg x (.ref p) H Q := ⟨p, ys, rfl, .inl h, hx, ha, q⟩
theorem z_inT {p : Addr} {ys : List V} {neg : Bool} (h : SqT K H p ys) (hx : flatV x = true) (ha : ys.all flatV = true) (q : Q (.bl (if neg then !inV x ys else inV x ys)) H) : rIn K neg x (.ref p) H Q := ⟨p, ys, rfl, .inr h, hx, ha, q⟩
theorem z_eqD {d e : PyData} (h1 : Dp K H x d) (h2 : Dp K H y e) (s1 : SeqAt.shaped d = true) (s2 : SeqAt.shaped e = true) (q : Q (.bl (PyData.eqv d e)) H) : rEqD K x y H Q := ⟨d, e, h1, h2, s1, s2, q⟩
theorem z_neD {d e : PyData} (h1 : Dp K H x d) (h2 : Dp K H y e) (s1 : SeqAt.shaped d = true) (s2 : SeqAt.shaped e = true) (q : Q (.bl (!PyData.eqv d e)) H) : rNeD K x y H Q := ⟨d, e, h1, h2, s1, s2, q⟩
theorem z_all {p : Addr} {bs : List Bool} (h : SqL K H p (bs.map V.bl)) (q : Q (.bl (bs.all id)) H) : rAll K [.ref p] H Q := ⟨p, bs, rfl, h, q⟩
theorem z_isi {c : V} {t u : Value} {b : Bool} (hc : ClsV c u) (hx : TyX K H x t) (e : PySem.W.kitOne K t u = some b) (q : Q (.bl b) H) : rIsi K [x, c] H Q := ⟨x, c, t, u, b, rfl, hc, hx, e, q⟩
/-! tests -/
def kT (QT : Bool → Hp → Prop) : VK := fun x H' => ∃ k, x = .bl k ∧ QT k H'
theorem z_test (h : te σ H (kT QT)) : tTest te σ H QT := h
theorem z_tB (h : te σ H (kT QT)) : tB te σ H QT := h
theorem z_kT {b : Bool} (q : QT b H) : kT QT (.bl b) H := ⟨b, rfl, q⟩
def kCh (r' : R2) (tc : TE) (σ : L2.St) (y : V) (Q : VK) : VK := fun z H3 => ∃ k, z = .bl k ∧ (if k = true then tc σ H3 fun w' H4 => r' y w' H4 Q else Q (.bl false) H3)
theorem z_chain (h : ta σ H fun x H1 => tb σ H1 fun y H2 => r x y H2 (kCh r' tc σ y Q)) : tChain r r' ta tb tc σ H Q := h
theorem z_kCh {b : Bool} (q : if b = true then tc σ H fun w' H4 => r' y w' H4 Q else Q (.bl false) H) : kCh r' tc σ y Q (.bl b) H := ⟨b, rfl, q⟩
variable {t u : TT}
theorem z_andT (h : t σ H fun c H1 => if c = true then u σ H1 QT else QT false H1) : tAnd t u σ H QT := h
theorem z_orT (h : t σ H fun c H1 => if c = true then QT true H1 else u σ H1 QT) : tOr t u σ H QT := h
theorem z_notT (h : t σ H fun c H1 => QT (!c) H1) : tNot t σ H QT := h
def kAndV (tb : TE) (σ : L2.St) (Q : VK) : VK := fun x H1 => ∃ c, x = .bl c ∧ if c = true then tb σ H1 Q else Q (.bl false) H1
def kOrV (tb : TE) (σ : L2.St) (Q : VK) : VK := fun x H1 => ∃ c, x = .bl c ∧ if c = true then Q (.bl true) H1 else tb σ H1 Q
def kNotV (Q : VK) : VK := fun x H1 => ∃ c, x = .bl c ∧ Q (.bl (!c)) H1
theorem z_andV (h : ta σ H (kAndV tb σ Q)) : tAndV ta tb σ H Q := h
theorem z_orV (h : ta σ H (kOrV tb σ Q)) : tOrV ta tb σ H Q := h
theorem z_notV (h : ta σ H (kNotV Q)) : tNotV ta σ H Q := h
theorem z_kAndV {b : Bool} (q : if b = true then tb σ H Q else Q (.bl false) H) : kAndV tb σ Q (.bl b) H := ⟨b, rfl, q⟩
theorem z_kOrV {b : Bool} (q : if b = true then Q (.bl true) H else tb σ H Q) : kOrV tb σ Q (.bl b) H := ⟨b, rfl, q⟩
theorem z_kNotV {b : Bool} (q : Q (.bl (!b)) H) : kNotV Q (.bl b) H := ⟨b, rfl, q⟩
theorem z_ifE (h : t σ H fun c H1 => if c = true then ta σ H1 Q else tb σ H1 Q) : tIf t ta tb σ H Q := h
/-! statements -/
variable {ts us : TS}
theorem z_seq (h : ts { D with nx := us D } σ H) : tSeq ts us D σ H := h
theorem z_next (h : D.nx σ H) : tNext D σ H := h
theorem z_brk (h : D.bk σ H) : tBreak D σ H := h
theorem z_cnt (h : D.ct σ H) : tCont D σ H := h
theorem z_ret (h : te σ H D.rt) : tRet te D σ H := h
theorem z_retN (h : D.rt .non H) : tRetN D σ H := h
theorem z_ifS {c : TT} (h : c σ H fun b H1 => if b = true then ts D σ H1 else us D σ H1) : tIfS c ts us D σ H := h
theorem z_drop (h : te σ H fun _ H1 => D.nx σ H1) : tDrop te D σ H := h
theorem z_asg {g : TG} (h : te σ H fun x H1 => g x σ H1 D.nx) : tAsg te g D σ H := h
theorem z_gName {i : Nat} {QS : L2.St → Hp → Prop} (h : QS (σ.set i (some v)) H) : gName i v σ H QS := h
theorem z_gTup {n : Nat} {g : TGs} {QS : L2.St → Hp → Prop} {a : Addr} {xs : List V} (h : SqT K H a xs) (hn : xs.length = n) (q : g xs σ H QS) : gTup K n g (.ref a) σ H QS := ⟨a, xs, rfl, h, hn, q⟩
theorem z_gCons {g : TG} {gs : TGs} {QS : L2.St → Hp → Prop} {vs : List V} (q : g v σ H fun σ' H' => gs vs σ' H' QS) : gCons g gs (v :: vs) σ H QS := ⟨v, vs, rfl, q⟩
theorem z_gNil {QS : L2.St → Hp → Prop} (q : QS σ H) : gNil [] σ H QS := ⟨rfl, q⟩
def kPar (i j : Nat) (D : Ends) (σ : L2.St) : List V → Hp → Prop := fun vs H1 => ∃ v w, vs = [v, w] ∧ D.nx ((σ.set i (some v)).set j (some w)) H1
theorem z_par {i j : Nat} {t : TA} (h : t σ H (kPar i j D σ)) : tPar i j t D σ H := h
theorem z_kPar {i j : Nat} (h : D.nx ((σ.set i (some x)).set j (some y)) H) : kPar i j D σ [x, y] H := ⟨x, y, rfl, h⟩
/-! the ends -/
variable {n b c : L2.St → Hp → Prop} {rt : VK}
theorem z_nx (h : n σ H) : Ends.nx ⟨n, rt, b, c⟩ σ H := h
theorem z_rt (h : rt v H) : Ends.rt ⟨n, rt, b, c⟩ v H := h
theorem z_bk (h : b σ H) : Ends.bk ⟨n, rt, b, c⟩ σ H := h
theorem z_ct (h : c σ H) : Ends.ct ⟨n, rt, b, c⟩ σ H := h
/-! branches -/
theorem z_ite {b : Bool} {A B : Prop} (h1 : b = true → A) (h2 : b = false → B) : if b = true then A else B := by
  cases b with
  | true => exact iteT (h1 rfl)
  | false => exact iteF (h2 rfl)
/-! append -/
theorem z_bm {T : String} {f : V → List V → Hp → VK → Prop} {t : TA} (h : ta σ H fun x H1 => tyV K T x H1 ∧ t σ H1 fun xs H2 => f x xs H2 Q) : tBM K T f ta t σ H Q := h
end
end Nm

/-! The own layer: the pen of the laws (the source of all draws). -/
namespace Nm
open PySem PySem.Spec PyProof.Rows L2
def penKv (c : Addr) (a g n f : Int) : List (Key × V) :=
  [(.inr "cells", .ref c), (.inr "at", .int a), (.inr "digits", .int g), (.inr "count", .int n), (.inr "fold", .int f)]
section
variable (c : Addr) (a g n f z : Int)
theorem pen_cells : valV (penKv c a g n f) (.inr "cells") = some (.ref c) := by kernel_rfl
theorem pen_at : valV (penKv c a g n f) (.inr "at") = some (.int a) := by kernel_rfl
theorem pen_digits : valV (penKv c a g n f) (.inr "digits") = some (.int g) := by kernel_rfl
theorem pen_count : valV (penKv c a g n f) (.inr "count") = some (.int n) := by kernel_rfl
theorem pen_fold : valV (penKv c a g n f) (.inr "fold") = some (.int f) := by kernel_rfl
theorem put_at : putK (penKv c a g n f) (.inr "at") (.int z) = penKv c z g n f := by kernel_rfl
theorem put_digits : putK (penKv c a g n f) (.inr "digits") (.int z) = penKv c a z n f := by kernel_rfl
theorem put_count : putK (penKv c a g n f) (.inr "count") (.int z) = penKv c a g z f := by kernel_rfl
theorem put_fold : putK (penKv c a g n f) (.inr "fold") (.int z) = penKv c a g n z := by kernel_rfl
theorem pen_merge : mergeK [] (penKv c a g n f) = penKv c a g n f := by kernel_rfl
end
/-- a pen stands at d, m draws are still let -/
def Pen (K : PySem.W.Frag) (H : Hp) (d : Addr) (m : Nat) : Prop :=
  ∃ (c : Addr) (a g n f : Int) (ns : List Int), H d = some (.dK (penKv c a g n f)) ∧ SqL K H c (ns.map V.int) ∧ 0 ≤ a ∧ 0 ≤ g ∧ 0 ≤ n ∧ n + m ≤ 1000000000 ∧ 0 ≤ f ∧ f < 2147483587
theorem Pen.less {K : PySem.W.Frag} {H : Hp} {d : Addr} {m m' : Nat} (h : Pen K H d m) (e : m' ≤ m) : Pen K H d m' := by
  obtain ⟨c, a, g, n, f, ns, h1, h2, h3, h4, h5, h6, h7, h8⟩ := h
  exact ⟨c, a, g, n, f, ns, h1, h2, h3, h4, h5, by omega, h7, h8⟩
theorem Pen.same {K : PySem.W.Frag} {H H' : Hp} {d : Addr} {m : Nat} (s : Same H H') (h : Pen K H d m) : Pen K H' d m := by
  obtain ⟨c, a, g, n, f, ns, h1, h2, h3⟩ := h
  exact ⟨c, a, g, n, f, ns, s _ _ h1, s.seq h2, h3⟩
theorem Pen.keep {K : PySem.W.Frag} {H H' : Hp} {d : Addr} {m : Nat} (b : But d H H') (h : Pen K H d m) : Keep H H' := by
  obtain ⟨c, a, g, n, f, ns, h1, _⟩ := h
  exact b.keep h1
/-- a pen that was changed -/
theorem pen_new {K : PySem.W.Frag} {H : Hp} {d c : Addr} {a g n f : Int} {kvs : List (Key × V)} {ns : List Int} {m : Nat} (h1 : H d = some (.dK kvs)) (h2 : SqL K H c (ns.map V.int)) (e : kvs = penKv c a g n f) (h : 0 ≤ a ∧ 0 ≤ g ∧ 0 ≤ n ∧ n + m ≤ 1000000000 ∧ 0 ≤ f ∧ f < 2147483587) : Pen K H d m := by
  subst e
  exact ⟨c, a, g, n, f, ns, h1, h2, h⟩
/-- _law_draw -/
def spDraw (K : PySem.W.Frag) : Sp := fun vs H Q _ => ∃ (d : Addr) (m : Nat) (many : Int), vs = [.ref d, .int many] ∧ Pen K H d (m + 1) ∧ 0 < many ∧ many.natAbs.log2 < 9000 ∧
  ∀ (r : Int) H', 0 ≤ r → r < many → But d H H' → Pen K H' d m → Q (.int r) H'
/-- _law_pen -/
def spPen (K : PySem.W.Frag) : Sp := fun vs H Q _ => ∃ (a : Addr) (ns : List Int), vs = [.ref a] ∧ SqL K H a (ns.map V.int) ∧ ∀ d H', H d = none → Same H H' → Pen K H' d 100000000 → Q (.ref d) H'
/-- _law_pick: the drawn item of a list -/
def spPick (K : PySem.W.Frag) : Sp := fun vs H Q _ => ∃ (d p : Addr) (m : Nat) (ys : List V), vs = [.ref d, .ref p] ∧ Pen K H d (m + 1) ∧ SqL K H p ys ∧ ys ≠ [] ∧ ys.length ≤ 100000 ∧
  ∀ (v : V) H', v ∈ ys → But d H H' → Pen K H' d m → Q v H'
/-! dict steps of the pen -/
section
variable {σ : L2.St} {H : Hp} {Q : VK} {K : PySem.W.Frag} {D : Ends} {td ty tv : TE}
def kPut (D : Ends) (σ : L2.St) (v x y : V) (H3 : Hp) : Prop := ∃ a H4, x = .ref a ∧ DPut H3 a y v H4 ∧ D.nx σ H4
theorem z_dput (h : tv σ H fun v H1 => td σ H1 fun x H2 => ty σ H2 fun y H3 => kPut D σ v x y H3) : sDPut td ty tv D σ H := h
theorem z_kPutS {v : V} {d : Addr} {x : Str} {kvs : List (Key × V)} (h : H d = some (.dK kvs)) (hl : kvs.length ≤ 1000) (q : D.nx σ (upd H d (.dK (putK kvs (.inr x) v)))) : kPut D σ v (.ref d) (.str x) H :=
  ⟨d, _, rfl, DPut.k (k := Sum.inr x) h (small1000 hl), q⟩
theorem z_kPutI {v : V} {d : Addr} {x : Int} {kvs : List (Key × V)} (h : H d = some (.dK kvs)) (hl : kvs.length ≤ 1000) (q : D.nx σ (upd H d (.dK (putK kvs (.inl x) v)))) : kPut D σ v (.ref d) (.int x) H :=
  ⟨d, _, rfl, DPut.k (k := Sum.inl x) h (small1000 hl), q⟩
def kGet (Q : VK) (x y : V) (H2 : Hp) : Prop := ∃ a v, x = .ref a ∧ DGet H2 a y (some v) ∧ Q v H2
theorem z_dget (h : td σ H fun x H1 => ty σ H1 fun y H2 => kGet Q x y H2) : tDGet td ty σ H Q := h
theorem z_kGetS {v : V} {d : Addr} {x : Str} {kvs : List (Key × V)} (h : H d = some (.dK kvs)) (e : valV kvs (.inr x) = some v) (q : Q v H) : kGet Q (.ref d) (.str x) H :=
  ⟨d, v, rfl, by rw [← e]; exact DGet.k (k := Sum.inr x) h, q⟩
theorem z_kGetI {v : V} {d : Addr} {x : Int} {kvs : List (Key × V)} (h : H d = some (.dK kvs)) (e : valV kvs (.inl x) = some v) (q : Q v H) : kGet Q (.ref d) (.int x) H :=
  ⟨d, v, rfl, by rw [← e]; exact DGet.k (k := Sum.inl x) h, q⟩
end
theorem log2_small {n : Int} (h0 : 0 < n) (h : n ≤ 1000000000000000000) : n.natAbs.log2 < 9000 := by
  have : n.natAbs < 2 ^ 9000 := Nat.lt_of_le_of_lt (m := 1000000000000000000) (by omega) (by decide)
  exact (Nat.log2_lt (by omega)).mpr this
section
variable {σ : L2.St} {H : Hp} {Q : VK} {K : PySem.W.Frag} {D : Ends} {d c : Addr} {a g n f z : Int}
theorem put_gen {kvs kvs' : List (Key × V)} {x : Str} {v : V} (h : H d = some (.dK kvs)) (hl : kvs.length ≤ 1000) (e : putK kvs (.inr x) v = kvs') (k : ∀ H', But d H H' → H' d = some (.dK kvs') → D.nx σ H') : kPut D σ v (.ref d) (.str x) H :=
  z_kPutS h hl (k _ But.upd (by rw [upd_same, e]))
theorem z_put_at (h : H d = some (.dK (penKv c a g n f))) (k : ∀ H', But d H H' → H' d = some (.dK (penKv c z g n f)) → D.nx σ H') : kPut D σ (.int z) (.ref d) (.str "at") H := put_gen h (by show 5 ≤ 1000; decide) (put_at ..) k
theorem z_put_digits (h : H d = some (.dK (penKv c a g n f))) (k : ∀ H', But d H H' → H' d = some (.dK (penKv c a z n f)) → D.nx σ H') : kPut D σ (.int z) (.ref d) (.str "digits") H := put_gen h (by show 5 ≤ 1000; decide) (put_digits ..) k
theorem z_put_count (h : H d = some (.dK (penKv c a g n f))) (k : ∀ H', But d H H' → H' d = some (.dK (penKv c a g z f)) → D.nx σ H') : kPut D σ (.int z) (.ref d) (.str "count") H := put_gen h (by show 5 ≤ 1000; decide) (put_count ..) k
theorem z_put_fold (h : H d = some (.dK (penKv c a g n f))) (k : ∀ H', But d H H' → H' d = some (.dK (penKv c a g n z)) → D.nx σ H') : kPut D σ (.int z) (.ref d) (.str "fold") H := put_gen h (by show 5 ≤ 1000; decide) (put_fold ..) k
theorem z_get_cells (h : H d = some (.dK (penKv c a g n f))) (q : Q (.ref c) H) : kGet Q (.ref d) (.str "cells") H := z_kGetS h (pen_cells ..) q
theorem z_get_at (h : H d = some (.dK (penKv c a g n f))) (q : Q (.int a) H) : kGet Q (.ref d) (.str "at") H := z_kGetS h (pen_at ..) q
theorem z_get_digits (h : H d = some (.dK (penKv c a g n f))) (q : Q (.int g) H) : kGet Q (.ref d) (.str "digits") H := z_kGetS h (pen_digits ..) q
theorem z_get_count (h : H d = some (.dK (penKv c a g n f))) (q : Q (.int n) H) : kGet Q (.ref d) (.str "count") H := z_kGetS h (pen_count ..) q
theorem z_get_fold (h : H d = some (.dK (penKv c a g n f))) (q : Q (.int f) H) : kGet Q (.ref d) (.str "fold") H := z_kGetS h (pen_fold ..) q
end
/-! loops -/
section
variable {σ : L2.St} {H : Hp} {Q : VK} {K : PySem.W.Frag} {D : Ends} {g : TG} {tb : TS} {wi : TI} {ta : TA} {te : TE}
def kFor (g : TG) (tb : TS) (D : Ends) (σ : L2.St) : It → Hp → Prop := fun J H1 => ∃ W : Nat → Nat → L2.St → Hp → Prop, (∃ m, W 0 m σ H1) ∧ ∀ i m σ H, W i m σ H →
      (J.stop i H ∧ D.nx σ H) ∨ (J.go i H ∧ ∃ N : L2.St → Hp → Prop, (∀ σ' H', N σ' H' → ∃ m', m' < m ∧ W (i + 1) m' σ' H') ∧ ∀ x H', J.yld i H x H' → g x σ H' fun σ2 H2 => tb { D with nx := N, ct := N, bk := D.nx } σ2 H2)
theorem z_for (h : wi σ H (kFor g tb D σ)) : tFor wi g tb D σ H := h
def kIL (K : PySem.W.Frag) (R : It → Hp → Prop) : VK := fun x H1 => ∃ a, x = .ref a ∧ (∃ xs, SqL K H1 a xs) ∧ R (Itl K a) H1
def kIT (K : PySem.W.Frag) (R : It → Hp → Prop) : VK := fun x H1 => ∃ a, x = .ref a ∧ (∃ xs, SqT K H1 a xs) ∧ R (Itt K a) H1
def kIS (R : It → Hp → Prop) : VK := fun v H1 => ∃ x, v = .str x ∧ R (Its x) H1
def kIR1 (R : It → Hp → Prop) : List V → Hp → Prop := fun vs H1 => ∃ j : Int, vs = [.int j] ∧ -(2 ^ 62) ≤ j ∧ j < 2 ^ 62 ∧ R (Itr 0 j.toNat) H1
def kIE (R : It → Hp → Prop) : List V → Hp → Prop := fun vs H1 => ∃ z, vs = [.str z] ∧ R (ItE z) H1
variable {R : It → Hp → Prop}
theorem z_iList (h : te σ H (kIL K R)) : iList K te σ H R := h
theorem z_kIL {a : Addr} {xs : List V} (h : SqL K H a xs) (q : R (Itl K a) H) : kIL K R (.ref a) H := ⟨a, rfl, ⟨xs, h⟩, q⟩
theorem z_iTup (h : te σ H (kIT K R)) : iTup K te σ H R := h
theorem z_kIT {a : Addr} {xs : List V} (h : SqT K H a xs) (q : R (Itt K a) H) : kIT K R (.ref a) H := ⟨a, rfl, ⟨xs, h⟩, q⟩
theorem z_iStr (h : te σ H (kIS R)) : iStr te σ H R := h
theorem z_kIS {z : Str} (q : R (Its z) H) : kIS R (.str z) H := ⟨z, rfl, q⟩
theorem z_iRng1 (h : ta σ H (kIR1 R)) : iRng1 ta σ H R := h
theorem z_kIR1 {j : Int} (h0 : -(2 ^ 62) ≤ j) (h1 : j < 2 ^ 62) (q : R (Itr 0 j.toNat) H) : kIR1 R [.int j] H := ⟨j, rfl, h0, h1, q⟩
theorem z_iEnumS (h : ta σ H (kIE R)) : iEnumS ta σ H R := h
theorem z_kIE {z : Str} (q : R (ItE z) H) : kIE R [.str z] H := ⟨z, rfl, q⟩
/-- a loop over a list that stands still: Pv by the turn, the slots, the heap -/
theorem f_list {a : Addr} {xs : List V} (Pv : Nat → L2.St → Hp → Prop) (h0 : Pv 0 σ H) (hl : ∀ i σ H, Pv i σ H → SqL K H a xs)
    (hs : ∀ i x σ H, xs[i]? = some x → Pv i σ H → g x σ H fun σ2 H2 => tb { D with nx := Pv (i + 1), ct := Pv (i + 1), bk := D.nx } σ2 H2) (hd : ∀ σ H, Pv xs.length σ H → D.nx σ H) : kFor g tb D σ (Itl K a) H :=
  for_list (K := K) (a := a) (xs := xs) Pv h0 (fun i σ H _ => hl i σ H) hs hd
theorem f_tup {a : Addr} {xs : List V} (Pv : Nat → L2.St → Hp → Prop) (h0 : Pv 0 σ H) (hl : ∀ i σ H, Pv i σ H → SqT K H a xs)
    (hs : ∀ i x σ H, xs[i]? = some x → Pv i σ H → g x σ H fun σ2 H2 => tb { D with nx := Pv (i + 1), ct := Pv (i + 1), bk := D.nx } σ2 H2) (hd : ∀ σ H, Pv xs.length σ H → D.nx σ H) : kFor g tb D σ (Itt K a) H :=
  for_tup (K := K) (a := a) (xs := xs) Pv h0 (fun i σ H _ => hl i σ H) hs hd
theorem f_range {lo : Int} {n : Nat} (Pv : Nat → L2.St → Hp → Prop) (h0 : Pv 0 σ H)
    (hs : ∀ (i : Nat) σ H, i < n → Pv i σ H → g (.int (lo + i)) σ H fun σ2 H2 => tb { D with nx := Pv (i + 1), ct := Pv (i + 1), bk := D.nx } σ2 H2) (hd : ∀ σ H, Pv n σ H → D.nx σ H) : kFor g tb D σ (Itr lo n) H :=
  for_range Pv h0 hs hd
theorem f_str {z : Str} (Pv : Nat → L2.St → Hp → Prop) (h0 : Pv 0 σ H)
    (hs : ∀ i c σ H, z.cps[i]? = some c → Pv i σ H → g (.str ⟨#[c]⟩) σ H fun σ2 H2 => tb { D with nx := Pv (i + 1), ct := Pv (i + 1), bk := D.nx } σ2 H2) (hd : ∀ σ H, Pv z.cps.size σ H → D.nx σ H) : kFor g tb D σ (Its z) H :=
  for_it walk_str Pv h0 (fun _ _ _ _ _ => trivial) (fun i x σ H H' hi p ⟨e, c, hc, ev⟩ => by subst e ev; exact hs i c σ _ hc p) hd
/-- for at, sign in enumerate(text) -/
theorem f_enumS {z : Str} {i0 j0 : Nat} (Pv : Nat → L2.St → Hp → Prop) (h0 : Pv 0 σ H)
    (hs : ∀ (i : Nat) c σ H H', z.cps[i]? = some c → Pv i σ H → Same H H' → tb { D with nx := Pv (i + 1), ct := Pv (i + 1), bk := D.nx } ((σ.set i0 (some (.int (i : Nat)))).set j0 (some (.str ⟨#[c]⟩))) H') (hd : ∀ σ H, Pv z.cps.size σ H → D.nx σ H) :
    kFor (gTup K 2 (gCons (gName i0) (gCons (gName j0) gNil))) tb D σ (ItE z) H :=
  for_it walk_enumS Pv h0 (fun _ _ _ _ _ => trivial) (fun i x σ H H' hi p ⟨T, c, ev, hT, hc, eH⟩ => by
    subst ev eH
    exact ⟨T, _, rfl, SqT.of upd_same, rfl, _, _, rfl, _, _, rfl, rfl, hs i c σ H _ hc p (Same.new hT)⟩) hd
end
/-! dict displays -/
section
variable {σ : L2.St} {H : Hp} {Q : VK} {K : PySem.W.Frag}
def kDisp (Q : VK) (p : Addr) : List (V × V) → Hp → Prop := fun ps H2 => H2 p = some (.dK []) ∧ ∃ kvs : List (Key × V), ps = kvs.map (fun kv => (kV kv.1, kv.2)) ∧ kvs.length ≤ 15 ∧ Q (.ref p) (upd H2 p (.dK (mergeK [] kvs)))
theorem z_disp {trs : List (TE × TE)} (h : ∀ p H', H p = none → Same H H' → H' p = some (.dK []) → tPairs trs σ H' (kDisp Q p)) : tDisp trs σ H Q := fun p hp => h p _ hp (Same.new hp) upd_same
theorem z_pcons {tk tv : TE} {r : List (TE × TE)} {QP : List (V × V) → Hp → Prop} (h : tk σ H fun x H1 => tv σ H1 fun y H2 => tPairs r σ H2 fun ps H3 => QP ((x, y) :: ps) H3) : tPairs ((tk, tv) :: r) σ H QP := h
theorem z_pnil {QP : List (V × V) → Hp → Prop} (h : QP [] H) : tPairs [] σ H QP := h
theorem z_kDisp {p : Addr} {ps : List (V × V)} (kvs : List (Key × V)) (e : ps = kvs.map (fun kv => (kV kv.1, kv.2))) (h : H p = some (.dK [])) (hl : kvs.length ≤ 15) (k : ∀ H', But p H H' → H' p = some (.dK (mergeK [] kvs)) → Q (.ref p) H') : kDisp Q p ps H :=
  ⟨h, kvs, e, hl, k _ But.upd upd_same⟩
end
/-- a statement, then the rest, with a word between them (HandS.Codes) -/
def tCut (t u : TS) : TS := fun D σ H => ∃ Mid : L2.St → Hp → Prop, t { D with nx := Mid } σ H ∧ ∀ σ' H', Mid σ' H' → u D σ' H'
theorem pss_cut {X : Cx} {st : Stmt} {rest : List Stmt} {t u : TS} (h1 : PS X st t) (h2 : PSs X rest u) : PSs X (st :: rest) (tCut t u) := by
  refine ⟨fun pins s σ H D I h => ?_⟩
  obtain ⟨Mid, hm, hu⟩ := h
  refine wpAny_execs_cons (thn (h1.run pins s σ H { D with nx := Mid } I hm) fun f s1 q => ?_)
  cases f with
  | next =>
    obtain ⟨σ', H', I', q⟩ := q
    exact h2.run pins s1 σ' H' D I' (hu σ' H' q)
  | ret v => exact q
  | brk => exact q
  | cont => exact q
theorem z_cut {t u : TS} {D : Ends} {σ : L2.St} {H : Hp} (Mid : L2.St → Hp → Prop) (h1 : t { D with nx := Mid } σ H) (h2 : ∀ σ' H', Mid σ' H' → u D σ' H') : Nm.tCut t u D σ H := ⟨Mid, h1, h2⟩
theorem same_at {H H' : Hp} {a : Addr} {o : HO} (s : Same H H') (h : H a = some o) : H' a = some o := s a o h
theorem same_sq {K : PySem.W.Frag} {H H' : Hp} {a : Addr} {xs : List V} (s : Same H H') (h : SqL K H a xs) : SqL K H' a xs := s.seq h
theorem same_st {K : PySem.W.Frag} {H H' : Hp} {a : Addr} {xs : List V} (s : Same H H') (h : SqT K H a xs) : SqT K H' a xs := (same_keep s).t h
theorem But.same {p : Addr} {H H1 H2 : Hp} (s : Same H H1) (b : But p H1 H2) (hp : H p = none) : Same H H2 := fun a o e => b a o (ne_of_none e hp) (s a o e)
end Nm

/-! The own layer: comprehensions. -/
namespace Nm
open PySem PySem.Spec PyProof.Rows L2
def kLc (g : TG) (tt : TT) (te : TE) (vs : List Nat) (σ : L2.St) (Q : VK) : It → Hp → Prop := fun J H1 => ∀ D, H1 D = none → ∃ W : Nat → Nat → Hp → Prop, (∃ m, W 0 m (upd H1 D (.lst []))) ∧ ∀ i m H, W i m H →
  (J.stop i H ∧ Q (.ref D) H) ∨ (J.go i H ∧ ∃ Nx : Hp → Prop, (∀ H', Nx H' → ∃ m', m' < m ∧ W (i + 1) m' H') ∧ ∀ x H', J.yld i H x H' → g x (wipe σ vs) H' fun σ2 H2 => wipe σ2 vs = wipe σ vs ∧ tt σ2 H2 fun b H3 =>
    if b = true then te σ2 H3 fun y H4 => ∃ acc, H4 D = some (.lst acc) ∧ acc.length < sizeLine ∧ Nx (upd H4 D (.lst (acc ++ [y]))) else Nx H3)
section
variable {wi : TI} {g : TG} {tt : TT} {te : TE} {vs : List Nat} {σ : L2.St} {H : Hp} {Q : VK} {J : It} {K : PySem.W.Frag}
theorem z_lc (h : wi σ H (kLc g tt te vs σ Q)) : tLc wi g tt te vs σ H Q := h
theorem z_tYes {QT : Bool → Hp → Prop} (h : QT true H) : tYes σ H QT := h
def YEm {α : Type} (xs : List α) (e : α → V) : Nat → Hp → V → Hp → Prop := fun i H x H' => H' = H ∧ ∃ a, xs[i]? = some a ∧ x = e a
theorem filter_take {α : Type} (p : α → Bool) : ∀ (xs : List α) (i : Nat) (a : α), xs[i]? = some a → (xs.take (i + 1)).filter p = (xs.take i).filter p ++ (if p a = true then [a] else [])
  | [], i, a, h => by simp at h
  | x :: xs, 0, a, h => by
    have e : x = a := Option.some.inj h
    subst e
    cases q : p x <;> simp [q]
  | x :: xs, i + 1, a, h => by
    have ih := filter_take p xs i a h
    rw [List.take_succ_cons, List.take_succ_cons, List.filter_cons, List.filter_cons, ih]
    cases q : p x <;> simp
theorem set_none_twice {σ : L2.St} {i : Nat} {x : Option V} : ((σ.set i none).set i x).set i none = σ.set i none := by simp
/-- [f(x) for x in xs if p(x)], nothing of what stood changed -/
theorem l_pure {α : Type} {xs : List α} {e : α → V} {G : Hp → Prop} {i0 : Nat} (w : Walk J xs.length G (YEm xs e)) (p : α → Bool) (f : α → V) (hz : xs.length ≤ 1000000) (hG : ∀ H1, Same H H1 → G H1)
    (ht : ∀ (i : Nat) a H1, xs[i]? = some a → Same H H1 → ∀ QT : Bool → Hp → Prop, (∀ H2, Same H1 H2 → QT (p a) H2) → tt ((σ.set i0 none).set i0 (some (e a))) H1 QT)
    (he : ∀ (i : Nat) a H1, xs[i]? = some a → p a = true → Same H H1 → ∀ Q' : VK, (∀ H2, Same H1 H2 → Q' (f a) H2) → te ((σ.set i0 none).set i0 (some (e a))) H1 Q')
    (k : ∀ D H', H D = none → Same H H' → H' D = some (.lst ((xs.filter p).map f)) → Q (.ref D) H') : kLc (gName i0) tt te [i0] σ Q J H := fun D hD => by
  refine lc_it w (Pv := fun i H1 => Same H H1 ∧ H1 D = some (.lst (((xs.take i).filter p).map f))) ⟨Same.new hD, by rw [upd_same]; simp⟩ (fun i H1 _ ⟨s, _⟩ => hG H1 s) ?_ ?_
  · rintro i x H1 H1' hi ⟨s1, h1⟩ ⟨eH, a, ha, ex⟩
    subst eH ex
    refine ⟨set_none_twice, ?_⟩
    refine ht i a _ ha s1 _ fun H2 s2 => ?_
    have hf := filter_take p xs i a ha
    cases q : p a with
    | true =>
      refine iteT ?_
      refine he i a H2 ha q (s1.trans s2) _ fun H3 s3 => ?_
      refine ⟨_, s3 _ _ (s2 _ _ h1), ?_, Nm.Same.mut ((s1.trans s2).trans s3) hD, ?_⟩
      · have h2 : ((xs.take i).filter p).length ≤ i := Nat.le_trans (List.length_filter_le _ _) (by rw [List.length_take]; omega)
        rw [List.length_map, sizeLine_eq]
        omega
      · rw [upd_same, hf, q]
        simp
    | false =>
      refine iteF ?_
      refine ⟨s1.trans s2, ?_⟩
      rw [hf, q, s2 _ _ h1]
      simp
  · rintro H1 ⟨s1, h1⟩
    refine k D H1 hD s1 ?_
    rw [h1, List.take_length]
theorem walk_text {z : Str} : Walk (Its z) z.cps.toList.length (fun _ => True) (YEm z.cps.toList fun c => V.str ⟨#[c]⟩) where
  goes := fun i H hi _ => by
    have hi' : i < z.cps.size := by simpa using hi
    exact walk_str.goes i H hi' trivial
  stops := fun H _ => by
    have e : z.cps.toList.length = z.cps.size := by simp
    rw [e]
    exact walk_str.stops H trivial
  yields := fun i H x H' hi _ y => by
    have hi' : i < z.cps.size := by simpa using hi
    obtain ⟨e, c, hc, ev⟩ := walk_str.yields i H x H' hi' trivial y
    exact ⟨e, c, by simpa using hc, ev⟩
theorem walk_lst {a : Addr} {xs : List V} : Walk (Itl K a) xs.length (fun H => SqL K H a xs) (YEm xs id) where
  goes := walk_list.goes
  stops := walk_list.stops
  yields := fun i H x H' hi g y => by
    obtain ⟨e, h⟩ := walk_list.yields i H x H' hi g y
    exact ⟨e, x, h, rfl⟩
theorem walk_lstE {α : Type} {a : Addr} {xs : List α} {e : α → V} : Walk (Itl K a) xs.length (fun H => SqL K H a (xs.map e)) (YEm xs e) where
  goes := fun i H hi g => walk_list.goes i H (by rw [List.length_map]; exact hi) g
  stops := fun H g => by
    have q := walk_list.stops H g
    rw [List.length_map] at q
    exact q
  yields := fun i H x H' hi g y => by
    obtain ⟨e1, h⟩ := walk_list.yields i H x H' (by rw [List.length_map]; exact hi) g y
    rw [List.getElem?_map] at h
    cases q : xs[i]? with
    | none => rw [q] at h; cases h
    | some y => rw [q] at h; exact ⟨e1, y, q, (Option.some.inj h).symm⟩
theorem walk_tupE {α : Type} {a : Addr} {xs : List α} {e : α → V} : Walk (Itt K a) xs.length (fun H => SqT K H a (xs.map e)) (YEm xs e) where
  goes := fun i H hi g => walk_tup.goes i H (by rw [List.length_map]; exact hi) g
  stops := fun H g => by
    have q := walk_tup.stops H g
    rw [List.length_map] at q
    exact q
  yields := fun i H x H' hi g y => by
    obtain ⟨e1, h⟩ := walk_tup.yields i H x H' (by rw [List.length_map]; exact hi) g y
    rw [List.getElem?_map] at h
    cases q : xs[i]? with
    | none => rw [q] at h; cases h
    | some y => rw [q] at h; exact ⟨e1, y, q, (Option.some.inj h).symm⟩
theorem walk_rng {lo : Int} {n : Nat} : Walk (Itr lo n) (List.range n).length (fun _ => True) (YEm (List.range n) fun i => V.int (lo + (i : Nat))) where
  goes := fun i H hi g => by
    have hi' : i < n := by simpa using hi
    exact walk_range.goes i H hi' g
  stops := fun H g => by
    rw [List.length_range]
    exact walk_range.stops H g
  yields := fun i H x H' hi g y => by
    have hi' : i < n := by simpa using hi
    obtain ⟨e1, h⟩ := walk_range.yields i H x H' hi' g y
    exact ⟨e1, i, by rw [List.getElem?_range]; simpa using hi', h⟩
end
/-! texts by their signs -/
abbrev tl (z : Str) : List Nat := z.cps.toList
theorem str_ext {a b : Str} (h : tl a = tl b) : a = b := by
  obtain ⟨x⟩ := a
  obtain ⟨y⟩ := b
  congr 1
  exact Array.toList_inj.mp h
theorem str_eq {a b : Str} : (a = b) = (tl a = tl b) := propext ⟨fun h => by rw [h], str_ext⟩
theorem str_len (z : Str) : z.length = (tl z).length := by
  show z.cps.size = z.cps.toList.length
  simp
theorem tl_app (a b : Str) : tl (a ++ b) = tl a ++ tl b := by
  show (a.cps ++ b.cps).toList = _
  simp
theorem app_len (a b : Str) : (a ++ b).length = a.length + b.length := by
  rw [str_len, str_len, str_len, tl_app, List.length_append]
theorem tl_mk (l : List Nat) : tl ⟨l.toArray⟩ = l := by simp [tl]
theorem line_ge {n : Nat} (h : n ≤ 1000000) : n ≤ sizeLine := Nat.le_trans h (by decide)
theorem tl_cut (z : Str) (lo hi : Option Int) : tl (cutS z lo hi) = ((tl z).drop (HT.sIx z.length 0 lo)).take (HT.sIx z.length z.length hi - HT.sIx z.length 0 lo) := by
  unfold cutS
  exact tl_mk _
theorem cut_to (z : Str) (k : Nat) : tl (cutS z none (some (k : Int))) = (tl z).take k := by
  rw [tl_cut, HT.sIx_nat, HT.sIx_none, List.drop_zero, Nat.sub_zero, str_len, Nat.min_def]
  by_cases h : k ≤ (tl z).length
  · rw [if_pos h]
  · rw [if_neg h, List.take_length, List.take_of_length_le (by omega)]
theorem cut_from (z : Str) (k : Nat) : tl (cutS z (some (k : Int)) none) = (tl z).drop k := by
  rw [tl_cut, HT.sIx_nat, HT.sIx_none, str_len]
  by_cases h : k ≤ (tl z).length
  · rw [Nat.min_eq_left h, List.take_of_length_le (by rw [List.length_drop]; omega)]
  · rw [Nat.min_eq_right (by omega), List.drop_length, List.take_nil, List.drop_of_length_le (by omega)]
theorem cut_mid (z : Str) (a b : Nat) (h : b ≤ (tl z).length) : tl (cutS z (some (a : Int)) (some (b : Int))) = ((tl z).drop a).take (b - a) := by
  rw [tl_cut, HT.sIx_nat, HT.sIx_nat, str_len, Nat.min_eq_left h]
  by_cases q : a ≤ (tl z).length
  · rw [Nat.min_eq_left q]
  · have e : b - a = 0 := by omega
    have e2 : b - min a (tl z).length = 0 := by omega
    rw [e, e2, List.take_zero, List.take_zero]
/-- a text of one sign against a written one -/
theorem one_eq {c k : Nat} {x : Str} (e : tl x = [k]) : decide ((⟨#[c]⟩ : Str) = x) = decide (c = k) := by
  refine decide_eq_decide.mpr ?_
  rw [str_eq, e]
  refine ⟨fun h => ?_, fun h => ?_⟩
  · have h' : [c] = [k] := h
    exact (List.cons.inj h').1
  · show [c] = [k]
    rw [h]
theorem txt_eq {z x : Str} {k : List Nat} (e : tl x = k) : decide (z = x) = decide (tl z = k) := decide_eq_decide.mpr (by rw [str_eq, e])
theorem tl_mulS (z : Str) (n : Nat) : tl (mulS z n) = (List.replicate n (tl z)).flatten := by
  unfold mulS
  exact tl_mk _
end Nm

/-! The own layer: data without lists stands while a list changes; lists that grow. -/
namespace Nm
open PySem PySem.Spec PyProof.Rows L2
mutual
def noL : PyData → Bool
  | .list _ => false
  | .tuple ds => noLs ds
  | .dict _ => false
  | _ => true
def noLs : List PyData → Bool
  | [] => true
  | d :: ds => noL d && noLs ds
end
/-- tuples stand -/
def KT (K : PySem.W.Frag) (H H' : Hp) : Prop := ∀ a xs, SqT K H a xs → SqT K H' a xs
theorem KT.keep {K : PySem.W.Frag} {H H' : Hp} (k : Keep H H') : KT K H H' := fun _ _ h => k.t h
theorem KT.trans {K : PySem.W.Frag} {H H1 H2 : Hp} (a : KT K H H1) (b : KT K H1 H2) : KT K H H2 := fun x o h => b x o (a x o h)
theorem KT.upd {K : PySem.W.Frag} {H : Hp} {p : Addr} {xs : List V} {o : HO} (h : H p = some (.lst xs)) : KT K H (upd H p o) := fun a ys q => by
  rcases q with (q | ⟨u, q⟩) | q
  · exact .inl (.inl (by rw [upd_ne (ne_of q h (by intro z; cases z))]; exact q))
  · exact .inl (.inr ⟨u, by rw [upd_ne (ne_of q h (by intro z; cases z))]; exact q⟩)
  · exact .inr q
mutual
theorem dp_kt {K : PySem.W.Frag} {H H' : Hp} (k : KT K H H') : ∀ {v : V} {d : PyData}, noL d = true → Dp K H v d → Dp K H' v d
  | _, _, _, .non => .non
  | _, _, _, .bl b => .bl b
  | _, _, _, .int i => .int i
  | _, _, _, .str x => .str x
  | _, _, n, .lst h l => by simp [noL] at n
  | _, _, n, .tup h l => .tup (k _ _ h) (dps_kt k (by simpa [noL] using n) l)
theorem dps_kt {K : PySem.W.Frag} {H H' : Hp} (k : KT K H H') : ∀ {v : List V} {d : List PyData}, noLs d = true → DpAll K H v d → DpAll K H' v d
  | _, _, _, .nil => .nil
  | _, _, n, .cons h l => by
    simp only [noLs, Bool.and_eq_true] at n
    exact .cons (dp_kt k n.1 h) (dps_kt k n.2 l)
end
theorem dps_app {K : PySem.W.Frag} {H : Hp} : ∀ {vs ws : List V} {ds es : List PyData}, DpAll K H vs ds → DpAll K H ws es → DpAll K H (vs ++ ws) (ds ++ es)
  | _, _, _, _, .nil, h => h
  | _, _, _, _, .cons a l, h => .cons a (dps_app l h)
theorem dps_len {K : PySem.W.Frag} {H : Hp} : ∀ {vs : List V} {ds : List PyData}, DpAll K H vs ds → vs.length = ds.length
  | _, _, .nil => rfl
  | _, _, .cons _ l => by rw [List.length_cons, List.length_cons, dps_len l]
theorem noLs_app : ∀ (ds es : List PyData), noLs (ds ++ es) = (noLs ds && noLs es)
  | [], es => by simp [noLs]
  | d :: ds, es => by
    show (noL d && noLs (ds ++ es)) = _
    rw [noLs_app ds es]
    show _ = (noL d && noLs ds && noLs es)
    rw [Bool.and_assoc]
/-- a list at p that holds the data ds, none of them with a list in it -/
structure Grow (K : PySem.W.Frag) (H : Hp) (p : Addr) (ds : List PyData) : Prop where
  no : noLs ds = true
  ex : ∃ vs, H p = some (.lst vs) ∧ DpAll K H vs ds
theorem Grow.same {K : PySem.W.Frag} {H H' : Hp} {p : Addr} {ds : List PyData} (g : Grow K H p ds) (s : Same H H') : Grow K H' p ds := by
  obtain ⟨n, vs, h, l⟩ := g
  exact ⟨n, vs, s _ _ h, dps_keep (same_keep s) l⟩
theorem Grow.keep {K : PySem.W.Frag} {H H' : Hp} {p : Addr} {ds : List PyData} (g : Grow K H p ds) (s : Keep H H') : Grow K H' p ds := by
  obtain ⟨n, vs, h, l⟩ := g
  exact ⟨n, vs, s _ _ h rfl, dps_keep s l⟩
theorem grow_nil {K : PySem.W.Frag} {H : Hp} {p : Addr} (h : H p = some (.lst [])) : Grow K H p [] := ⟨rfl, [], h, .nil⟩
theorem Grow.sq {K : PySem.W.Frag} {H : Hp} {p : Addr} {ds : List PyData} (g : Grow K H p ds) : ∃ vs, SqL K H p vs ∧ DpAll K H vs ds ∧ vs.length = ds.length := by
  obtain ⟨n, vs, h, l⟩ := g
  exact ⟨vs, SqL.of h, l, dps_len l⟩
/-- xs.append(v) of a growing list -/
theorem z_append {K : PySem.W.Frag} {H : Hp} {p : Addr} {ds : List PyData} {v : V} {d : PyData} {Q : VK} (g : Grow K H p ds) (hv : Dp K H v d) (hn : noL d = true) (hl : ds.length ≤ 1000000) (k : ∀ H', Grow K H' p (ds ++ [d]) → (∀ H0, Same H0 H → H0 p = none → Same H0 H') → (∀ a, a ≠ p → H' a = H a) → Q .non H') :
    rAppend (.ref p) [v] H Q := by
  obtain ⟨n, vs, h, l⟩ := g
  have hlen := dps_len l
  refine ⟨p, vs, v, rfl, rfl, h, by rw [sizeLine_eq]; omega, k _ ⟨by rw [noLs_app, n]; simp [noLs, hn], _, upd_same, ?_⟩ (fun H0 s hp => Nm.Same.mut s hp) fun a ha => upd_ne ha⟩
  exact dps_app (dps_kt (KT.upd h) n l) (.cons (dp_kt (KT.upd h) hn hv) .nil)
theorem Grow.ty {K : PySem.W.Frag} {H : Hp} {p : Addr} {ds : List PyData} (g : Grow K H p ds) : tyV K "list" (.ref p) H := by
  obtain ⟨n, vs, h, l⟩ := g
  exact .inl ⟨rfl, _, SqL.of h⟩
end Nm

/-! The own layer: comprehensions over a text; == of data. -/
namespace Nm
open PySem PySem.Spec PyProof.Rows L2
section
variable {te : TE} {tt : TT} {σ : L2.St} {H : Hp} {Q : VK} {K : PySem.W.Frag}
/-- [g(c) for c in z], truth values -/
theorem l_textB {z : Str} {i0 : Nat} (g : Nat → Bool) (hz : z.length ≤ 1000000)
    (he : ∀ (c : Nat) H1, c ∈ tl z → Same H H1 → ∀ Q' : VK, Q' (.bl (g c)) H1 → te ((σ.set i0 none).set i0 (some (.str ⟨#[c]⟩))) H1 Q')
    (k : ∀ D H', H D = none → Same H H' → H' D = some (.lst (((tl z).map g).map V.bl)) → Q (.ref D) H') : kLc (gName i0) tYes te [i0] σ Q (Its z) H := by
  refine l_pure (p := fun _ => true) (f := fun c => V.bl (g c)) walk_text (by rw [← str_len]; exact hz) (fun _ _ => trivial) (fun i a H1 _ s QT q => q H1 (Same.refl _)) (fun i a H1 ha _ s Q' q => he a H1 (List.mem_of_getElem? ha) s Q' (q H1 (Same.refl _))) fun D H' hD s h => k D H' hD s ?_
  rw [h]
  have e : (z.cps.toList.filter fun _ => true) = z.cps.toList := List.filter_eq_self.mpr fun _ _ => rfl
  rw [e, List.map_map]
  rfl
/-- [1 for c in z if p(c)] -/
theorem l_textF {z : Str} {i0 : Nat} (p : Nat → Bool) (v : V) (hz : z.length ≤ 1000000)
    (ht : ∀ (c : Nat) H1, c ∈ tl z → Same H H1 → ∀ QT : Bool → Hp → Prop, QT (p c) H1 → tt ((σ.set i0 none).set i0 (some (.str ⟨#[c]⟩))) H1 QT)
    (he : ∀ (c : Nat) H1, Same H H1 → ∀ Q' : VK, Q' v H1 → te ((σ.set i0 none).set i0 (some (.str ⟨#[c]⟩))) H1 Q')
    (k : ∀ D H', H D = none → Same H H' → H' D = some (.lst (((tl z).filter p).map fun _ => v)) → Q (.ref D) H') : kLc (gName i0) tt te [i0] σ Q (Its z) H :=
  l_pure (p := p) (f := fun _ => v) walk_text (by rw [← str_len]; exact hz) (fun _ _ => trivial) (fun i a H1 ha s QT q => ht a H1 (List.mem_of_getElem? ha) s QT (q H1 (Same.refl _))) (fun i a H1 _ _ s Q' q => he a H1 s Q' (q H1 (Same.refl _))) k
end
theorem dps_ints {K : PySem.W.Frag} {H : Hp} {α : Type} (n : Int) : ∀ (l : List α), DpAll K H (l.map fun _ => V.int n) (l.map fun _ => PyData.int n)
  | [] => .nil
  | _ :: l => .cons (.int n) (dps_ints n l)
theorem dps_bls {K : PySem.W.Frag} {H : Hp} : ∀ (l : List Bool), DpAll K H (l.map V.bl) (l.map PyData.bool)
  | [] => .nil
  | b :: l => .cons (.bl b) (dps_bls l)
theorem eqvAll_nil {l : List PyData} : PyData.eqvAll l [] = decide (l = []) := by
  cases l with
  | nil => rfl
  | cons a l => rfl
theorem eqv_list_nil {l : List PyData} : PyData.eqv (.list l) (.list []) = decide (l = []) := eqvAll_nil
theorem canLayAll_iff : ∀ {l : List PyData}, PyData.canLayAll0 l = true ↔ ∀ d ∈ l, PyData.canLay0 d = true
  | [] => by simp [PyData.canLayAll0]
  | d :: l => by simp [PyData.canLayAll0, canLayAll_iff (l := l)]
theorem depthAll_le {n : Nat} : ∀ {l : List PyData}, (∀ d ∈ l, PyData.depth d ≤ n) → PyData.depthAll l ≤ n
  | [], _ => by simp [PyData.depthAll]
  | d :: l, h => by
    simp only [PyData.depthAll]
    exact Nat.max_le.mpr ⟨h d (by simp), depthAll_le fun e he => h e (by simp [he])⟩
/-- a list, a tuple, of things that are not deep -/
theorem shaped_list {n : Nat} {l : List PyData} (hn : n < 64) (h : ∀ d ∈ l, PyData.canLay0 d = true ∧ PyData.depth d ≤ n) : SeqAt.shaped (.list l) = true := by
  unfold SeqAt.shaped
  rw [Bool.and_eq_true]
  refine ⟨?_, decide_eq_true ?_⟩
  · simp only [PyData.canLay0]
    exact canLayAll_iff.mpr fun d hd => (h d hd).1
  · simp only [PyData.depth]
    have := depthAll_le (n := n) fun d hd => (h d hd).2
    omega
theorem shaped_tup {n : Nat} {l : List PyData} (hn : n < 64) (h : ∀ d ∈ l, PyData.canLay0 d = true ∧ PyData.depth d ≤ n) : SeqAt.shaped (.tuple l) = true := by
  unfold SeqAt.shaped
  rw [Bool.and_eq_true]
  refine ⟨?_, decide_eq_true ?_⟩
  · simp only [PyData.canLay0]
    exact canLayAll_iff.mpr fun d hd => (h d hd).1
  · simp only [PyData.depth]
    have := depthAll_le (n := n) fun d hd => (h d hd).2
    omega
theorem eqv_refl_shaped {d : PyData} (h : SeqAt.shaped d = true) : PyData.eqv d d = true := PySem.SeqAt.eqv_refl d (SeqAt.canLay_of_shaped h)
/-- [n for c in z if c not in x] == [] -/
theorem z_noneOf {tx ts : TE} {i : Nat} {n : Int} {z x : Str} {σ : L2.St} {H : Hp} {Q : VK} {K : PySem.W.Frag} (hz : z.length ≤ 100000) (h1 : ∀ R : VK, R (.str z) H → tx σ H R)
    (h2 : ∀ (c : Nat) H1, Same H H1 → ∀ R : VK, R (.str x) H1 → ts ((σ.set i none).set i (some (.str ⟨#[c]⟩))) H1 R) (hi : i < σ.length)
    (k : ∀ H', Same H H' → Q (.bl (decide ((tl z).filter (fun c => !decide (c ∈ tl x)) = []))) H') : tOp (rEqD K) (tLc (iStr tx) (gName i) (tTest (tOp nNotInC (tVar i) ts)) (tC (.int n)) [i]) (tLst tNil) σ H Q := by
  refine z_op (z_lc (z_iStr (h1 _ (z_kIS ?_))))
  refine l_textF (fun c => !decide (c ∈ tl x)) (.int n) (by omega) (fun c H1 _ s QT q => ?_) (fun c H1 s Q' q => q) fun D H' hD s hDl => ?_
  · refine z_test (z_op (z_var (v := .str ⟨#[c]⟩) (by simp [hi]) (h2 c H1 s _ (z_notInC (z_kT q)))))
  · refine z_lst (z_nil (z_kLst (Nat.zero_le _) fun p H2 hp s2 hp2 => ?_))
    refine z_eqD (d := .list (((tl z).filter (fun c => !decide (c ∈ tl x))).map fun _ => .int n)) (e := .list []) (.lst (SqL.of (s2 _ _ hDl)) (dps_ints n _)) (.lst (SqL.of hp2) .nil) (shaped_list (n := 0) (by decide) fun d hd => ?_) rfl ?_
    · obtain ⟨c, _, rfl⟩ := List.mem_map.mp hd
      exact ⟨rfl, Nat.le_refl _⟩
    · rw [eqv_list_nil]
      have e : decide ((((tl z).filter (fun c => !decide (c ∈ tl x))).map fun _ => PyData.int n) = []) = decide ((tl z).filter (fun c => !decide (c ∈ tl x)) = []) := decide_eq_decide.mpr List.map_eq_nil_iff
      rw [e]
      exact k H2 (s.trans s2)
/-- a text of at most n good signs -/
def okS (n : Nat) (x : Str) : Prop := x.length ≤ n ∧ PyData.strOk x = true
def okV (n : Nat) : V → Bool
  | .str x => decide (x.length ≤ n) && PyData.strOk x
  | _ => false
theorem okV_of {n : Nat} {ys : List V} {v : V} (h : ys.all (okV n) = true) (hv : v ∈ ys) : ∃ x, v = .str x ∧ okS n x := by
  have q := List.all_eq_true.mp h v hv
  cases v with
  | str x =>
    have q' : (decide (x.length ≤ n) && PyData.strOk x) = true := q
    rw [Bool.and_eq_true] at q'
    exact ⟨x, rfl, of_decide_eq_true q'.1, q'.2⟩
  | _ => cases q
theorem strOk_iff {x : Str} : PyData.strOk x = true ↔ ∀ c ∈ tl x, c < 0x110000 := by
  unfold PyData.strOk
  rw [← Array.all_toList, List.all_eq_true]
  simp
theorem okS_app {a b : Nat} {x y : Str} (hx : okS a x) (hy : okS b y) : okS (a + b) (x ++ y) := by
  refine ⟨by rw [app_len]; have := hx.1; have := hy.1; omega, ?_⟩
  rw [strOk_iff, tl_app]
  intro c hc
  rcases List.mem_append.mp hc with q | q
  · exact strOk_iff.mp hx.2 c q
  · exact strOk_iff.mp hy.2 c q
theorem okS.le {a b : Nat} {x : Str} (h : okS a x) (e : a ≤ b) : okS b x := ⟨Nat.le_trans h.1 e, h.2⟩
theorem signs_ok {z : Str} (h : PyData.strOk z = true) : (signsV z).all (okV 1) = true := by
  rw [List.all_eq_true]
  intro v hv
  obtain ⟨c, hc, rfl⟩ := List.mem_map.mp hv
  show (decide ((⟨#[c]⟩ : Str).length ≤ 1) && PyData.strOk ⟨#[c]⟩) = true
  rw [Bool.and_eq_true]
  refine ⟨rfl, strOk_iff.mpr fun c' hc' => ?_⟩
  have e : c' = c := by simpa [tl] using hc'
  rw [e]
  exact strOk_iff.mp h c hc
theorem signs_ne {z : Str} (h : 0 < z.length) : signsV z ≠ [] := by
  unfold signsV
  intro q
  have := List.map_eq_nil_iff.mp q
  rw [str_len] at h
  rw [show tl z = [] from this] at h
  exact absurd h (by decide)
theorem signs_len (z : Str) : (signsV z).length = z.length := by
  unfold signsV
  rw [List.length_map, str_len]
theorem same_but {d : Addr} {H H' : Hp} (s : Same H H') : But d H H' := fun a o _ h => s a o h
/-- a drawn text out of a list of texts -/
theorem use_pick {K : PySem.W.Frag} {H : Hp} {Q : VK} {E : XK} {d p : Addr} {m : Nat} {ys : List V} (n : Nat) (hp : Pen K H d (m + 1)) (h : H p = some (.lst ys)) (hok : ys.all (okV n) = true) (hne : ys ≠ []) (hl : ys.length ≤ 100000)
    (k : ∀ x H', okS n x → But d H H' → Pen K H' d m → Q (.str x) H') : spPick K [.ref d, .ref p] H Q E :=
  ⟨d, p, m, ys, rfl, hp, SqL.of h, hne, hl, fun v H' hv b p' => by
    obtain ⟨x, rfl, ox⟩ := okV_of hok hv
    exact k x H' ox b p'⟩
theorem use_draw {K : PySem.W.Frag} {H : Hp} {Q : VK} {E : XK} {d : Addr} {m : Nat} {many : Int} (hp : Pen K H d (m + 1)) (h0 : 0 < many) (h1 : many ≤ 1000000000000000000) (k : ∀ (r : Int) H', 0 ≤ r → r < many → But d H H' → Pen K H' d m → Q (.int r) H') : spDraw K [.ref d, .int many] H Q E :=
  ⟨d, m, many, rfl, hp, h0, log2_small h0 h1, k⟩
end Nm

/-! The own layer: the end. -/
namespace Nm
open PySem PySem.Spec PyProof.Rows L2
theorem walk_ofX {l : PySem.W.OpenLaw} {n k : Nat} {q : Program} {loose : List Str} {XP : (Str → Option Value) → Heap → Prop} {YP : World → Heap → Prop} {d : DefRec} {K : Params → PySem.W.Frag} {CX : CXT} {sp : PySem.W.Frag → Sp} {x : Str}
    (hn : l.most = some n) (hn2 : n ≤ sizeLine) (hdf : d.params.defaults = []) (hr : Room k callerA)
    (hY : ∀ (w : World) (h : Heap), YP w h → (K w.params).In h)
    (F : ∀ (w : World) (mg : Str → Option Value) (fa : Addr) (h : Heap), XP mg h → (K w.params).In h → h.Ns mainGlobals mg → mg d.name = some (.ref fa) →
      ∃ fd : FuncData, (∀ (s : Shared) (u : Value), BindsTo s fd ⟨[u], []⟩ [(x, u)]) ∧
        ∀ base : Heap, (K w.params).In base → base.Ns mainGlobals mg → FnOk l.prog w (K w.params) mg base CX k fa fd [x] (sp (K w.params)))
    (hsp : ∀ (K : PySem.W.Frag) (H : Hp) (a : Addr) (ns : List Int), ns.length ≤ n → SqL K H a (ns.map V.int) → sp K [.ref a] H (fun v _ => v = .bl true) fun _ _ _ => False)
    (hCX : ∀ (H : Hp) (s : Shared) (e : Value) (s' : Shared), CX [] H s (fun _ _ _ => False) e s' → False) :
    PySem.W.WalkO q loose XP YP l.row.toRowW d [] (fun f vs => PySem.call f vs) := by
  refine Att.attach_call hn hdf fun w s₀ s₁ mg mb fa o pm cd doc a vs ns G Y ho hd hcd hmg hobj hints hlen hg => ?_
  have KX := hY w _ Y
  obtain ⟨fd, hb, hF⟩ := F w mg fa _ G.X KX G.T.g hmg
  exact law_call KX G.T.g G.T.b G.T.builtins G.T.nolimit hg hobj hints (Nat.le_trans hlen hn2) hr hF hb (fun H hO hS => hsp (K w.params) H a ns hlen hS) fun H e s' => hCX H s₁ e s'
theorem df_mk {K : PySem.W.Frag} {mg : Str → Option Value} {h : Heap} {x : Str} {st : Stmt} {ps : List Str} {f : Addr} {oc : Value} {od an : Option Addr} {osl : Array (Option Value)} {kV doc pm cdv ct : Value} (X : K.In h) (G : h.Ns mainGlobals mg)
    (n : PySem.W.nsIn K mainGlobals x = some (some (.ref f)))
    (l : K.lookup f = some ⟨oc, od, .func (PySem.W.fnOf x x (defArgs st) (defBody st) (defScope st) .none kV doc pm an cdv ct), osl⟩) (c : PySem.W.codeIn K cdv x = true) (k : PySem.W.keepIn K (.ref f) = true)
    (hb : ∀ (kV doc pm : Value) (an : Option Addr) (cdv ct : Value) (us : List Value), us.length = ps.length → bindArgs (PySem.W.fnOf x x (defArgs st) (defBody st) (defScope st) .none kV doc pm an cdv ct) ⟨us, []⟩ = pure (ps.zip us)) :
    ∃ a fd, Df K mg x st ps a fd :=
  ⟨f, _, fun_mk (st := st) l c k, PySem.W.mg_of X G n, (fun_mk (st := st) l c k).binds hb⟩
theorem df_mkB {K : PySem.W.Frag} {mg : Str → Option Value} {h : Heap} {x : Str} {st : Stmt} {ps : List Str} {f : Addr} {oc : Value} {od an : Option Addr} {osl : Array (Option Value)} {kV doc pm cdv ct : Value} (X : K.In h) (G : h.Ns mainGlobals mg)
    (n : PySem.W.nsIn K mainGlobals x = some (some (.ref f)))
    (l : K.lookup f = some ⟨oc, od, .func (PySem.W.fnOf x x (defArgs st) (defBody st) (defScope st) .none kV doc pm an cdv ct), osl⟩) (c : PySem.W.codeIn K cdv x = true) (k : PySem.W.keepIn K (.ref f) = true)
    (hb : ∀ (kV doc pm : Value) (an : Option Addr) (cdv ct : Value) (us : List Value), us.length = ps.length → bindArgs (PySem.W.fnOf x x (defArgs st) (defBody st) (defScope st) .none kV doc pm an cdv ct) ⟨us, []⟩ = pure (ps.zip us)) :
    ∃ a fd, Df K mg x st ps a fd ∧ ∀ (s : Shared) (us : List Value), us.length = ps.length → BindsTo s fd ⟨us, []⟩ (ps.zip us) :=
  ⟨f, _, ⟨fun_mk (st := st) l c k, PySem.W.mg_of X G n, (fun_mk (st := st) l c k).binds hb⟩, fun s us hl => .of_eq (hb _ _ _ _ _ _ us hl)⟩
theorem str_mk {K : PySem.W.Frag} {mg : Str → Option Value} {h : Heap} {x z : Str} {t : Tok} (X : K.In h) (G : h.Ns mainGlobals mg) (n : PySem.W.nsIn K mainGlobals x = some (some (.str z t))) : ∃ t, mg x = some (.str z t) := ⟨t, PySem.W.mg_of X G n⟩
theorem loose_mk {q : Program} {lv : List (Str × PySem.W.WData)} {mg : Str → Option Value} {h : Heap} {x z : Str} (X : PySem.W.XL q lv mg h) (m : (x, PySem.W.WData.str z) ∈ lv) : ∃ t, mg x = some (.str z t) := by
  obtain ⟨v, e, r⟩ := X.2.val _ m
  obtain ⟨t, rfl, _⟩ := PySem.W.readsW_str_inv r
  exact ⟨t, e⟩
theorem tup_mk {K : PySem.W.Frag} {mg : Str → Option Value} {h : Heap} {x : Str} {a : Addr} {od : Option Addr} {its : Array Value} {n : Nat} {sl : Array (Option Value)} (xs : List V) (X : K.In h) (G : h.Ns mainGlobals mg) (e : PySem.W.nsIn K mainGlobals x = some (some (.ref a)))
    (l : K.lookup a = some ⟨.type "tuple", od, .seq its n, sl⟩) (hz : its.size ≤ sizeLine) (r : Vals xs its.toList) : ∃ a, mg x = some (.ref a) ∧ ∀ H, SqT K H a xs :=
  ⟨a, PySem.W.mg_of X G e, fun _ => .inr ⟨_, its, n, l, rfl, rfl, hz, r⟩⟩
end Nm

/-! k03, the plain law: words of a line, kinds of words, as lists of code points. -/
namespace K3
open PySem L2 Nm
def BIG : List Nat := tl "ABCDEFGHIJKLMNOPQRSTUVWXYZ"
def SMALL : List Nat := tl "abcdefghijklmnopqrstuvwxyz"
def DIG : List Nat := tl "0123456789"
def LATER : List Nat := tl "ABCDEFGHIJKLMNOPQRSTUVWXYZabcdefghijklmnopqrstuvwxyz0123456789_"
def kept : List (List Nat) := [tl "kind", tl "fun", tl "let", tl "in"]
def named (w f : List Nat) : Bool := decide (1 ≤ w.length) && decide (w.length ≤ 24) && decide (w.headD 0 ∈ f) && w.all fun c => decide (c ∈ LATER)
def isBig (w : List Nat) : Bool := named w BIG
def isSmall (w : List Nat) : Bool := named w SMALL && !decide (w ∈ kept)
def digs (w : List Nat) : List Nat := if w.take 1 = [45] then w.drop 1 else w
def isNum (w : List Nat) : Bool := decide (1 ≤ (digs w).length) && decide ((digs w).length ≤ 400) && ((digs w).all fun c => decide (c ∈ DIG)) && (!decide ((digs w).headD 0 = 48) || decide (w = [48]))
/-! the law's own -/
def lkind (w : List Nat) : List Nat :=
  if w ∈ kept then w
  else if (w.headD 0 ∈ BIG ++ SMALL ∧ w.length ≤ 24) ∧ w.filter (fun c => !decide (c ∈ LATER)) = [] then (if w.headD 0 ∈ BIG then tl "big" else tl "small")
  else
    let d := if w.headD 0 = 45 then w.drop 1 else w
    if (d ≠ [] ∧ d.length ≤ 400 ∧ d.filter (fun c => !decide (c ∈ DIG)) = []) ∧ (w = [48] ∨ d.headD 0 ≠ 48) then tl "number" else tl "word " ++ w
theorem filter_all {p : Nat → Bool} {w : List Nat} : (w.filter (fun c => !p c) = []) ↔ w.all p = true := by
  rw [List.filter_eq_nil_iff, List.all_eq_true]
  constructor
  · intro h c hc
    have := h c hc
    simpa using this
  · intro h c hc
    simp [h c hc]
theorem big_small : ∀ c ∈ BIG, ¬ c ∈ SMALL := by decide +kernel
theorem kept_len : ∀ w ∈ kept, w ≠ tl "big" ∧ w ≠ tl "small" ∧ w ≠ tl "number" ∧ isBig w = false ∧ isNum w = false := by decide +kernel
theorem dig_big : ∀ c ∈ BIG, ¬ c ∈ DIG ∧ c ≠ 45 := by decide +kernel
theorem dig_small : ∀ c ∈ SMALL, ¬ c ∈ DIG ∧ c ≠ 45 := by decide +kernel
theorem w_big : tl "big" ≠ tl "small" ∧ tl "big" ≠ tl "number" ∧ tl "small" ≠ tl "number" := by decide +kernel
theorem word_ne (w : List Nat) : tl "word " ++ w ≠ tl "big" ∧ tl "word " ++ w ≠ tl "small" ∧ tl "word " ++ w ≠ tl "number" := by
  have e : tl "word " = [119, 111, 114, 100, 32] := by decide +kernel
  have e1 : tl "big" = [98, 105, 103] := by decide +kernel
  have e2 : tl "small" = [115, 109, 97, 108, 108] := by decide +kernel
  have e3 : tl "number" = [110, 117, 109, 98, 101, 114] := by decide +kernel
  rw [e, e1, e2, e3]
  refine ⟨?_, ?_, ?_⟩ <;> intro h <;> simp at h
theorem digs_eq {w : List Nat} (h : w ≠ []) : digs w = if w.headD 0 = 45 then w.drop 1 else w := by
  cases w with
  | nil => exact absurd rfl h
  | cons a r =>
    unfold digs
    simp
theorem kinds {w : List Nat} (h : w ≠ []) : isBig w = decide (lkind w = tl "big") ∧ isSmall w = decide (lkind w = tl "small") ∧ isNum w = decide (lkind w = tl "number") := by
  have hl : 1 ≤ w.length := List.length_pos_iff.mpr h
  unfold lkind
  by_cases hk : w ∈ kept
  · rw [if_pos hk]
    obtain ⟨k1, k2, k3, k4, k5⟩ := kept_len w hk
    refine ⟨?_, ?_, ?_⟩
    · rw [k4, decide_eq_false k1]
    · unfold isSmall
      rw [decide_eq_true hk, decide_eq_false k2]
      simp
    · rw [k5, decide_eq_false k3]
  · rw [if_neg hk]
    by_cases hn : (w.headD 0 ∈ BIG ++ SMALL ∧ w.length ≤ 24) ∧ w.filter (fun c => !decide (c ∈ LATER)) = []
    · rw [if_pos hn]
      obtain ⟨⟨h1, h2⟩, h3⟩ := hn
      rw [filter_all (p := fun c => decide (c ∈ LATER))] at h3
      have hnum : isNum w = false := by
        unfold isNum
        rw [digs_eq h]
        have hh : ¬ w.headD 0 ∈ DIG ∧ w.headD 0 ≠ 45 := by
          rcases List.mem_append.mp h1 with q | q
          · exact dig_big _ q
          · exact dig_small _ q
        rw [if_neg hh.2]
        have : (w.all fun c => decide (c ∈ DIG)) = false := by
          cases w with
          | nil => exact absurd rfl h
          | cons a r =>
            have ha : ¬ a ∈ DIG := hh.1
            simp [ha]
        rw [this]
        simp
      by_cases hb : w.headD 0 ∈ BIG
      · rw [if_pos hb]
        refine ⟨?_, ?_, ?_⟩
        · simp only [isBig, named, hl, h2, hb, h3, decide_true, decide_false, Bool.and_true, Bool.true_and, Bool.and_self, Bool.and_false, Bool.false_and, Bool.not_true, Bool.not_false, eq_self]
        · have := big_small _ hb
          simp only [isSmall, named, this, w_big.1, decide_true, decide_false, Bool.and_true, Bool.true_and, Bool.and_self, Bool.and_false, Bool.false_and, Bool.not_true, Bool.not_false, eq_self]
        · rw [hnum, decide_eq_false w_big.2.1]
      · rw [if_neg hb]
        have hs : w.headD 0 ∈ SMALL := (List.mem_append.mp h1).resolve_left hb
        refine ⟨?_, ?_, ?_⟩
        · simp only [isBig, named, hb, w_big.1.symm, decide_true, decide_false, Bool.and_true, Bool.true_and, Bool.and_self, Bool.and_false, Bool.false_and, Bool.not_true, Bool.not_false, eq_self]
        · simp only [isSmall, named, hl, h2, hs, h3, hk, decide_true, decide_false, Bool.and_true, Bool.true_and, Bool.and_self, Bool.and_false, Bool.false_and, Bool.not_true, Bool.not_false, eq_self]
        · rw [hnum, decide_eq_false w_big.2.2]
    · rw [if_neg hn]
      have hB : isBig w = false := by
        rw [Bool.eq_false_iff]
        intro q
        simp only [isBig, named, Bool.and_eq_true, decide_eq_true_eq] at q
        exact hn ⟨⟨List.mem_append.mpr (.inl q.1.2), q.1.1.2⟩, (filter_all (p := fun c => decide (c ∈ LATER))).mpr q.2⟩
      have hS : isSmall w = false := by
        rw [Bool.eq_false_iff]
        intro q
        simp only [isSmall, named, Bool.and_eq_true, decide_eq_true_eq] at q
        exact hn ⟨⟨List.mem_append.mpr (.inr q.1.1.2), q.1.1.1.2⟩, (filter_all (p := fun c => decide (c ∈ LATER))).mpr q.1.2⟩
      have en : isNum w = true ↔ (((if w.headD 0 = 45 then w.drop 1 else w) ≠ [] ∧ (if w.headD 0 = 45 then w.drop 1 else w).length ≤ 400 ∧ (if w.headD 0 = 45 then w.drop 1 else w).filter (fun c => !decide (c ∈ DIG)) = []) ∧ (w = [48] ∨ (if w.headD 0 = 45 then w.drop 1 else w).headD 0 ≠ 48)) := by
        unfold isNum
        rw [digs_eq h]
        generalize (if w.headD 0 = 45 then w.drop 1 else w) = d
        rw [filter_all (p := fun c => decide (c ∈ DIG))]
        simp only [Bool.and_eq_true, Bool.or_eq_true, decide_eq_true_eq, Bool.not_eq_true', decide_eq_false_iff_not]
        constructor
        · rintro ⟨⟨⟨q1, q2⟩, q3⟩, q4⟩
          exact ⟨⟨List.length_pos_iff.mp q1, q2, q3⟩, q4.symm⟩
        · rintro ⟨⟨q1, q2, q3⟩, q4⟩
          exact ⟨⟨⟨List.length_pos_iff.mpr q1, q2⟩, q3⟩, q4.symm⟩
      rw [hB, hS]
      by_cases hd : isNum w = true
      · rw [if_pos (en.mp hd), hd, decide_eq_false w_big.2.1.symm, decide_eq_false w_big.2.2.symm]
        simp
      · have hd' : isNum w = false := by simpa using hd
        rw [if_neg (fun q => hd (en.mpr q)), hd', decide_eq_false (word_ne w).1, decide_eq_false (word_ne w).2.1, decide_eq_false (word_ne w).2.2]
        simp
/-! words of a line -/
abbrev F := List (List Nat × Nat)
def fl (k : Nat) (s : F × List Nat) : F := if s.2 = [] then s.1 else s.1 ++ [(s.2, k + 1 - s.2.length)]
def stp (k c : Nat) (s : F × List Nat) : F × List Nat :=
  if c = 40 ∨ c = 41 then (fl k s ++ [([c], k + 1)], []) else if c = 32 then (fl k s, []) else (s.1, s.2 ++ [c])
def wl : List Nat → Nat → F × List Nat → F
  | [], k, s => fl k s
  | c :: r, k, s => if c = 59 then fl k s else wl r (k + 1) (stp k c s)
def words (z : List Nat) : F := wl z 0 ([], [])
theorem wl_drop {z : List Nat} {i c : Nat} {s : F × List Nat} (h : z[i]? = some c) : wl (z.drop i) i s = if c = 59 then fl i s else wl (z.drop (i + 1)) (i + 1) (stp i c s) := by
  have hi : i < z.length := (List.getElem?_eq_some_iff.mp h).1
  have e : z.drop i = c :: z.drop (i + 1) := by
    rw [List.drop_eq_getElem_cons hi]
    congr 1
    exact (List.getElem?_eq_some_iff.mp h).2
  rw [e]
  rfl
theorem wl_end {z : List Nat} {i : Nat} {s : F × List Nat} (h : z.length ≤ i) : wl (z.drop i) i s = fl i s := by
  rw [List.drop_eq_nil_of_le h]
  rfl
/-- a word as the program gives it out -/
def wd (p : List Nat × Nat) : PyData := .tuple [.str ⟨p.1.toArray⟩, .int (p.2 : Int)]
theorem noL_wd (f : F) : noLs (f.map wd) = true := by
  induction f with
  | nil => rfl
  | cons p f ih =>
    show (noL (wd p) && noLs (f.map wd)) = true
    rw [ih]
    rfl
end K3

namespace K3
open PySem PySem.Spec PyProof.Rows L2 Nm
def top (i : Nat) : Stmt := PySem.Challenge.pw_namedmeets_k03_words_of_lines.main.body.getD i (.Pass ⟨0, 0, 0, 0⟩)
abbrev snamed : Stmt := top 6
theorem scnamed : FnScope ["word", "first", "sign"] ["word", "first"] (defScope snamed) := ⟨rfl, rfl, rfl, by decide +kernel, rfl, by decide +kernel, by decide +kernel⟩
abbrev sbig : Stmt := top 7
theorem scbig : FnScope ["word"] ["word"] (defScope sbig) := ⟨rfl, rfl, rfl, by decide +kernel, rfl, by decide +kernel, by decide +kernel⟩
abbrev ssmall : Stmt := top 8
theorem scsmall : FnScope ["word"] ["word"] (defScope ssmall) := ⟨rfl, rfl, rfl, by decide +kernel, rfl, by decide +kernel, by decide +kernel⟩
abbrev snumber : Stmt := top 9
theorem scnumber : FnScope ["word", "digits", "sign"] ["word"] (defScope snumber) := ⟨rfl, rfl, rfl, by decide +kernel, rfl, by decide +kernel, by decide +kernel⟩
abbrev swords : Stmt := top 10
theorem scwords : FnScope ["line", "found", "start", "at", "sign"] ["line"] (defScope swords) := ⟨rfl, rfl, rfl, by decide +kernel, rfl, by decide +kernel, by decide +kernel⟩
abbrev spen : Stmt := top 12
theorem scpen : FnScope ["_law_script", "_law_fold", "_law_cell"] ["_law_script"] (defScope spen) := ⟨rfl, rfl, rfl, by decide +kernel, rfl, by decide +kernel, by decide +kernel⟩
abbrev sdraw : Stmt := top 13
theorem scdraw : FnScope ["_law_pen_here", "_law_many", "_law_cell", "_law_digit", "_law_mixed"] ["_law_pen_here", "_law_many"] (defScope sdraw) := ⟨rfl, rfl, rfl, by decide +kernel, rfl, by decide +kernel, by decide +kernel⟩
abbrev spick : Stmt := top 14
theorem scpick : FnScope ["_law_pen_here", "_law_some"] ["_law_pen_here", "_law_some"] (defScope spick) := ⟨rfl, rfl, rfl, by decide +kernel, rfl, by decide +kernel, by decide +kernel⟩
abbrev ssigns : Stmt := top 15
theorem scsigns : FnScope ["_law_big", "_law_small"] [] (defScope ssigns) := ⟨rfl, rfl, rfl, by decide +kernel, rfl, by decide +kernel, by decide +kernel⟩
abbrev slwords : Stmt := top 16
theorem sclwords : FnScope ["_law_line", "_law_found", "_law_word", "_law_k", "_law_sign"] ["_law_line"] (defScope slwords) := ⟨rfl, rfl, rfl, by decide +kernel, rfl, by decide +kernel, by decide +kernel⟩
abbrev skind : Stmt := top 17
theorem sckind : FnScope ["_law_word", "_law_signs_here", "_law_digits", "_law_sign"] ["_law_word"] (defScope skind) := ⟨rfl, rfl, rfl, by decide +kernel, rfl, by decide +kernel, by decide +kernel⟩
abbrev ssome : Stmt := top 18
theorem scsome : FnScope ["_law_pen_here", "_law_signs_here", "_law_way", "_law_zeros", "_law_word", "_law_lap"] ["_law_pen_here"] (defScope ssome) := ⟨rfl, rfl, rfl, by decide +kernel, rfl, by decide +kernel, by decide +kernel⟩
abbrev sasked : Stmt := top 19
theorem scasked : FnScope ["_law_word"] ["_law_word"] (defScope sasked) := ⟨rfl, rfl, rfl, by decide +kernel, rfl, by decide +kernel, by decide +kernel⟩
abbrev slaw : Stmt := top 20
theorem sclaw : FnScope ["_law_script", "_law_pen_here", "_law_line", "_law_lap", "_law_word", "_law_due", "_law_told", "_law_odd"] ["_law_script"] (defScope slaw) := ⟨rfl, rfl, rfl, by decide +kernel, rfl, by decide +kernel, by decide +kernel⟩
/-- what the top has written -/
structure Tx (K : PySem.W.Frag) (mg : Str → Option Value) where
  anamed : Addr
  fdnamed : FuncData
  Dnamed : Nm.Df K mg "is_named" snamed ["word", "first"] anamed fdnamed
  abig : Addr
  fdbig : FuncData
  Dbig : Nm.Df K mg "is_big" sbig ["word"] abig fdbig
  asmall : Addr
  fdsmall : FuncData
  Dsmall : Nm.Df K mg "is_small" ssmall ["word"] asmall fdsmall
  anumber : Addr
  fdnumber : FuncData
  Dnumber : Nm.Df K mg "is_number" snumber ["word"] anumber fdnumber
  awords : Addr
  fdwords : FuncData
  Dwords : Nm.Df K mg "words_of" swords ["line"] awords fdwords
  apen : Addr
  fdpen : FuncData
  Dpen : Nm.Df K mg "_law_pen" spen ["_law_script"] apen fdpen
  adraw : Addr
  fddraw : FuncData
  Ddraw : Nm.Df K mg "_law_draw" sdraw ["_law_pen_here", "_law_many"] adraw fddraw
  apick : Addr
  fdpick : FuncData
  Dpick : Nm.Df K mg "_law_pick" spick ["_law_pen_here", "_law_some"] apick fdpick
  asigns : Addr
  fdsigns : FuncData
  Dsigns : Nm.Df K mg "_law_signs" ssigns [] asigns fdsigns
  alwords : Addr
  fdlwords : FuncData
  Dlwords : Nm.Df K mg "_law_words" slwords ["_law_line"] alwords fdlwords
  akind : Addr
  fdkind : FuncData
  Dkind : Nm.Df K mg "_law_word_kind" skind ["_law_word"] akind fdkind
  asome : Addr
  fdsome : FuncData
  Dsome : Nm.Df K mg "_law_some_word" ssome ["_law_pen_here"] asome fdsome
  aasked : Addr
  fdasked : FuncData
  Dasked : Nm.Df K mg "_law_asked" sasked ["_law_word"] aasked fdasked
  alaw : Addr
  fdlaw : FuncData
  Dlaw : Nm.Df K mg "law" slaw ["_law_script"] alaw fdlaw
  n_len : mg "len" = none
  n_all : mg "all" = none
  n_enumerate : mg "enumerate" = none
  n_tuple : mg "tuple" = none
  n_list : mg "list" = none
  n_int : mg "int" = none
  n_range : mg "range" = none
  n_isinstance : mg "isinstance" = none
  t_BIG_LETTERS : Tok
  g_BIG_LETTERS : mg "BIG_LETTERS" = some (.str "ABCDEFGHIJKLMNOPQRSTUVWXYZ" t_BIG_LETTERS)
  t_SMALL_LETTERS : Tok
  g_SMALL_LETTERS : mg "SMALL_LETTERS" = some (.str "abcdefghijklmnopqrstuvwxyz" t_SMALL_LETTERS)
  t_DIGITS : Tok
  g_DIGITS : mg "DIGITS" = some (.str "0123456789" t_DIGITS)
  t_LATER : Tok
  g_LATER : mg "LATER" = some (.str "ABCDEFGHIJKLMNOPQRSTUVWXYZabcdefghijklmnopqrstuvwxyz0123456789_" t_LATER)
  r_KEPT : Addr
  g_KEPT : mg "KEPT" = some (.ref r_KEPT)
  q_KEPT : ∀ H, SqT K H r_KEPT [.str "kind", .str "fun", .str "let", .str "in"]
end K3

open PySem PySem.Spec PyProof.Rows L2 Nm
local macro_rules | `(tactic| walk_at "z0") => `(tactic| (simp only [L2.start, cxOf, Cx.nox, Cx.wish, List.map_cons, List.map_nil, List.length_cons, List.length_nil, List.replicate_succ, List.replicate_zero, List.cons_append, List.nil_append, Nat.reduceAdd, Nat.reduceSub]))
local macro_rules | `(tactic| walk_at "zc") => `(tactic| first | assumption | omega | decide | (refine line_ge ?_; omega) | (unfold CMul; omega) | (unfold CDivW; refine ⟨?_, ?_⟩ <;> first | omega | assumption | decide))
local macro_rules | `(tactic| walk_at "hp") => `(tactic| first | assumption | (refine same_at (by assumption) ?_; walk_at "hp"))
local macro_rules | `(tactic| walk_at "hl") => `(tactic| first | assumption | (refine SqL.of ?_; walk_at "hp") | (refine same_sq (by assumption) ?_; walk_at "hl"))
local macro_rules | `(tactic| walk_at "ht") => `(tactic| first | assumption | (refine SqT.of ?_; walk_at "hp") | (refine same_st (by assumption) ?_; walk_at "ht"))
local macro_rules | `(tactic| walk_at "z1") => `(tactic| first
  | ((with_reducible refine' z_var ?zk ?_); (case zk => exact rfl))
  | with_reducible refine z_c ?_
  | with_reducible refine z_op ?_
  | with_reducible refine z_cons ?_
  | with_reducible refine z_nil ?_
  | with_reducible refine z_rI0 ?_
  | ((with_reducible refine z_rI ?zk ?_); (case zk => walk_at "zc"))
  | with_reducible refine z_rU ?_
  | with_reducible refine z_un ?_
  | with_reducible refine z_cb ?_
  | with_reducible refine z_call ?_
  | with_reducible refine z_dget ?_
  | ((with_reducible refine' z_get_cells ?zk ?_); (case zk => assumption))
  | ((with_reducible refine' z_get_at ?zk ?_); (case zk => assumption))
  | ((with_reducible refine' z_get_digits ?zk ?_); (case zk => assumption))
  | ((with_reducible refine' z_get_count ?zk ?_); (case zk => assumption))
  | ((with_reducible refine' z_get_fold ?zk ?_); (case zk => assumption))
  | with_reducible refine z_dput ?_
  | with_reducible refine z_test ?_
  | with_reducible refine z_tB ?_
  | with_reducible refine z_kT ?_
  | with_reducible refine z_eqI ?_
  | with_reducible refine z_neI ?_
  | with_reducible refine z_eqS ?_
  | with_reducible refine z_neS ?_
  | with_reducible refine z_inC ?_
  | with_reducible refine z_notInC ?_
  | with_reducible refine z_isN ?_
  | ((with_reducible refine z_lenS ?zk ?_); (case zk => walk_at "zc"))
  | ((with_reducible refine z_slS ?zk ?_); (case zk => walk_at "zc"))
  | ((with_reducible refine z_addS ?zk ?_); (case zk => walk_at "zc"))
  | ((with_reducible refine z_mulS ?za ?zb ?zc ?_); (case za => decide); (case zb => decide); (case zc => decide))
  | with_reducible refine z_bm ?_
  | with_reducible refine z_lc ?_
  | with_reducible refine z_tYes ?_
  | with_reducible refine z_notN ?_
  | with_reducible refine z_intI ?_
  | with_reducible refine z_intB ?_
  | with_reducible refine z_sl ?_
  | with_reducible refine z_noPart ?_
  | with_reducible refine z_part ?_
  | with_reducible refine z_kPart ?_
  | with_reducible refine z_tup ?_
  | with_reducible refine z_lst ?_
  | with_reducible refine z_chain ?_
  | with_reducible refine z_kCh ?_
  | with_reducible refine z_andT ?_
  | with_reducible refine z_orT ?_
  | with_reducible refine z_notT ?_
  | with_reducible refine z_andV ?_
  | with_reducible refine z_orV ?_
  | with_reducible refine z_notV ?_
  | with_reducible refine z_kAndV ?_
  | with_reducible refine z_kOrV ?_
  | with_reducible refine z_kNotV ?_
  | with_reducible refine z_ifE ?_
  | with_reducible refine z_seq ?_
  | with_reducible refine z_next ?_
  | with_reducible refine z_brk ?_
  | with_reducible refine z_cnt ?_
  | with_reducible refine z_ret ?_
  | with_reducible refine z_retN ?_
  | with_reducible refine z_ifS ?_
  | with_reducible refine z_drop ?_
  | with_reducible refine z_asg ?_
  | with_reducible refine z_gName ?_
  | with_reducible refine z_gCons ?_
  | with_reducible refine z_gNil ?_
  | with_reducible refine z_par ?_
  | with_reducible refine z_kPar ?_
  | with_reducible refine z_nx ?_
  | with_reducible refine z_rt ?_
  | with_reducible refine z_bk ?_
  | with_reducible refine z_ct ?_
  | with_reducible refine z_for ?_
  | with_reducible refine z_iList ?_
  | with_reducible refine z_iTup ?_
  | with_reducible refine z_iStr ?_
  | with_reducible refine z_kIS ?_
  | with_reducible refine z_iRng1 ?_
  | with_reducible refine z_iEnumS ?_
  | with_reducible refine z_kIE ?_
  | with_reducible refine z_pcons ?_
  | with_reducible refine z_pnil ?_
  | with_reducible refine iteT ?_
  | with_reducible refine iteF ?_
  | with_reducible refine z_iteNT ?_
  | with_reducible refine z_iteNF ?_)
local macro_rules | `(tactic| walk_at "zz") => `(tactic| repeat walk_at "z1")
namespace K3
open PySem PySem.Spec PyProof.Rows L2 Nm
section
variable {P : Program} {w : World} {K : PySem.W.Frag} {mg : Str → Option Value} {base : Heap}
theorem ok_pen (T : Tx K mg) : FnOk P w K mg base CX0 1 T.apen T.fdpen ["_law_script"] (spPen K) := by
  refine T.Dpen.F.ok scpen (fun vs H Q E h => ?_) (fun cdv A outer s H vs Q E hr h => ?_)
  · obtain ⟨a, ns, rfl, _⟩ := h
    rfl
  · obtain ⟨a, ns, rfl, hS, k⟩ := h
    have hu := hu_of hr
    refine ⟨_, pss_cons (ps_set (i := 1) scpen.nd rfl (Or.inl rfl) (pe_int))
(pss_cons (ps_for PassesOwn.never rfl (pi_list (pv 0)) (pg_name (i := 2) scpen.nd rfl (Or.inl rfl))
(pss_one (ps_set (i := 1) scpen.nd rfl (Or.inl rfl) (pe_op op_mod (pe_callTy call_int1n (by rfl) T.n_int (by decide +kernel) (pa_cons (pe_op op_add (pe_op op_mul (pv 1) (pe_int)) (pv 2)) pa_nil)) (pe_int)))))
(pss_one (ps_ret (pe_disp (pps_cons (pe_str) (pe_callTy call_listOf (by rfl) T.n_list (by decide +kernel) (pa_cons (pv 0) pa_nil)) (pps_cons (pe_str) (pe_int) (pps_cons (pe_str) (pe_int) (pps_cons (pe_str) (pe_int) (pps_cons (pe_str) (pv 1) (pps_nil)))))) (by rfl) (by rfl) (fun z => by cases z) (by decide))))), ?_⟩
    walk_at "z0"
    walk_at "zz"
    refine z_kIL hS (f_list (K := K) (a := a) (xs := ns.map V.int) (fun i σ' H' => ∃ (f : Int) (v : Option V), σ' = [some (.ref a), some (.int f), v] ∧ 0 ≤ f ∧ f < 1000000007 ∧ H' = H) ⟨0, none, rfl, by decide, by decide, rfl⟩ (fun i σ' H' ⟨_, _, _, _, _, e⟩ => e ▸ hS) ?_ ?_)
    · rintro i x σ' H' hx ⟨f, v, rfl, h0, h1, rfl⟩
      obtain ⟨z, rfl⟩ : ∃ z, x = V.int z := by
        rw [List.getElem?_map] at hx
        cases e : ns[i]? with
        | none => rw [e] at hx; cases hx
        | some z => rw [e] at hx; exact ⟨z, (Option.some.inj hx).symm⟩
      walk_at "zz"
      exact ⟨_, _, rfl, Int.emod_nonneg _ (by decide), Int.emod_lt_of_pos _ (by decide), rfl⟩
    · rintro σ' H' ⟨f, v, rfl, h0, h1, rfl⟩
      walk_at "zz"
      refine z_disp fun p H1 hp s1 h1 => ?_
      walk_at "zz"
      refine z_listOfL (s1.seq hS) fun l H2 hl s2 h2 => ?_
      walk_at "zz"
      refine z_kDisp (penKv l 0 0 0 f) rfl (s2 _ _ h1) (by show 5 ≤ 15; decide) fun H3 b3 h3 => ?_
      walk_at "zz"
      refine k p H3 hp (b3.same (s1.trans s2) hp) ⟨l, 0, 0, 0, f, ns, h3, ?_, by decide, by decide, by decide, by decide, h0, by omega⟩
      refine SqL.of (b3 _ _ ?_ h2)
      exact fun e => by rw [e] at h2; rw [s2 _ _ h1] at h2; cases h2
theorem ok_draw (T : Tx K mg) : FnOk P w K mg base CX0 1 T.adraw T.fddraw ["_law_pen_here", "_law_many"] (spDraw K) := by
  refine T.Ddraw.F.ok scdraw (fun vs H Q E h => ?_) (fun cdv A outer s H vs Q E hr h => ?_)
  · obtain ⟨d, m, many, rfl, _⟩ := h
    rfl
  · obtain ⟨d, m, many, rfl, ⟨c, a, g, n, f, ns, hd, hc, h0, h1, h2, h3, h4, h5⟩, hm, hl, k⟩ := h
    have hu := hu_of hr
    refine ⟨_, pss_cons (ps_dput hu (pv 0) (pe_str) (pe_op op_add (pe_dget hu (pv 0) (pe_str) (fun _ _ => rfl)) (pe_int)) rfl)
(pss_cut (ps_if (pt_cut (PW.pt (pw_and (pt_cmpR op_eq (pe_dget hu (pv 0) (pe_str) (fun _ _ => rfl)) (pe_int) (nomark _)) (pw_and1 (pt_cmpR op_lt (pe_dget hu (pv 0) (pe_str) (fun _ _ => rfl)) (pe_callB call_lenL (by rfl) T.n_len (by decide +kernel) (pa_cons (pe_dget hu (pv 0) (pe_str) (fun _ _ => rfl)) pa_nil)) (nomark _))))))
(pss_cons (ps_set (i := 2) scdraw.nd rfl (Or.inl rfl) (pe_ix ix_list (pe_dget hu (pv 0) (pe_str) (fun _ _ => rfl)) (pe_dget hu (pv 0) (pe_str) (fun _ _ => rfl)) (fun _ _ => rfl)))
(pss_cons (ps_dput hu (pv 0) (pe_str) (pe_op op_add (pe_dget hu (pv 0) (pe_str) (fun _ _ => rfl)) (pe_int)) rfl)
(pss_one (ps_if (pt_cmpR op_ge (pv 2) (pe_op op_pow (pe_int) (pe_int)) (nomark _))
(pss_one (ps_dput hu (pv 0) (pe_str) (pe_op op_sub (pv 2) (pe_op op_pow (pe_int) (pe_int))) rfl))
(pss_one (ps_dput hu (pv 0) (pe_str) (pe_op op_mod (pe_callTy call_int1n (by rfl) T.n_int (by decide +kernel) (pa_cons (pe_op op_add (pe_op op_mul (pe_dget hu (pv 0) (pe_str) (fun _ _ => rfl)) (pe_int)) (pv 2)) pa_nil)) (pe_int)) rfl))))))
(pss_nil))
(pss_cons (ps_if (pt_cmpR op_gt (pe_dget hu (pv 0) (pe_str) (fun _ _ => rfl)) (pe_int) (nomark _))
(pss_cons (ps_set (i := 3) scdraw.nd rfl (Or.inl rfl) (pe_op op_mod (pe_callTy call_int1n (by rfl) T.n_int (by decide +kernel) (pa_cons (pe_dget hu (pv 0) (pe_str) (fun _ _ => rfl)) pa_nil)) (pv 1)))
(pss_cons (ps_dput hu (pv 0) (pe_str) (pe_op op_fdivW (pe_dget hu (pv 0) (pe_str) (fun _ _ => rfl)) (pv 1)) rfl)
(pss_one (ps_ret (pv 3)))))
(pss_nil))
(pss_cons (ps_set (i := 4) scdraw.nd rfl (Or.inl rfl) (pe_op op_add (pe_op op_add (pe_dget hu (pv 0) (pe_str) (fun _ _ => rfl)) (pe_op op_mul (pe_dget hu (pv 0) (pe_str) (fun _ _ => rfl)) (pe_int))) (pe_int)))
(pss_one (ps_ret (pe_op op_mod (pe_op op_fdivW (pe_callTy call_int1n (by rfl) T.n_int (by decide +kernel) (pa_cons (pe_op op_mod (pe_op op_pow (pv 4) (pe_int)) (pe_int)) pa_nil)) (pe_int)) (pv 1))))))), ?_⟩
    walk_at "z0"
    walk_at "zz"
    refine z_put_count hd fun H1 b1 d1 => ?_
    have c1 : SqL K H1 c (ns.map V.int) := (b1.keep hd).l hc
    refine z_cut (fun σ' H' => ∃ (v : Option V) (a g f : Int), σ' = [some (V.ref d), some (V.int many), v, none, none] ∧ But d H H' ∧ H' d = some (.dK (penKv c a g (n + 1) f)) ∧ SqL K H' c (ns.map V.int) ∧ 0 ≤ a ∧ 0 ≤ g ∧ 0 ≤ f ∧ f < 2147483587) ?_ ?_
    · walk_at "zz"
      refine z_cutT (fun b H' => H' = H1 ∧ (b = true → g = 0 ∧ a < ns.length)) ?_ ?_
      · walk_at "zz"
        refine z_ite (fun eg => ?_) (fun _ => ?_)
        · walk_at "zz"
          refine z_lenL c1 ?_
          walk_at "zz"
          refine ⟨rfl, fun q => ⟨of_decide_eq_true eg, ?_⟩⟩
          have := of_decide_eq_true q
          rw [List.length_map] at this
          omega
        · walk_at "zz"
          exact ⟨rfl, fun q => by cases q⟩
      rintro b H' ⟨rfl, hb⟩
      refine z_ite (fun eg => ?_) (fun _ => ?_)
      · obtain ⟨eg, ea'⟩ := hb eg
        refine z_seq ?_
        · walk_at "zz"
          have hx : (ns.map V.int)[a.toNat]? = some (.int (ns.getD a.toNat 0)) := by
            rw [List.getElem?_map, List.getD_eq_getElem?_getD, List.getElem?_eq_getElem (by omega)]
            rfl
          refine z_ixL c1 (at_of (by omega) hx) ?_
          walk_at "zz"
          refine z_put_at d1 fun H2 b2 d2 => ?_
          have c2 : SqL K H2 c (ns.map V.int) := (b2.keep d1).l c1
          walk_at "zz"
          refine z_rI ⟨by decide, by decide, by decide⟩ ?_
          walk_at "zz"
          refine z_ite (fun ez => ?_) (fun _ => ?_)
          · walk_at "zz"
            refine z_rI ⟨by decide, by decide, by decide⟩ ?_
            walk_at "zz"
            refine z_put_digits d2 fun H3 b3 d3 => ?_
            walk_at "zz"
            exact ⟨_, _, _, _, rfl, (b1.trans b2).trans b3, d3, (b3.keep d2).l c2, by omega, Int.sub_nonneg_of_le (of_decide_eq_true ez), h4, h5⟩
          · walk_at "zz"
            refine z_put_fold d2 fun H3 b3 d3 => ?_
            walk_at "zz"
            exact ⟨_, _, _, _, rfl, (b1.trans b2).trans b3, d3, (b3.keep d2).l c2, by omega, h1, Int.emod_nonneg _ (by decide), Int.emod_lt_of_pos _ (by decide)⟩
      · walk_at "zz"
        exact ⟨_, _, _, _, rfl, b1, d1, c1, h0, h1, h4, h5⟩
    · rintro σ' H2 ⟨v, a, g, f, rfl, b2, d2, c2, h0, h1, h4, h5⟩
      walk_at "zz"
      refine z_ite (fun eg => ?_) (fun _ => ?_)
      · walk_at "zz"
        refine z_put_digits d2 fun H3 b3 d3 => ?_
        walk_at "zz"
        exact k _ H3 (Int.emod_nonneg _ (by omega)) (Int.emod_lt_of_pos _ hm) (b2.trans b3) (pen_new d3 ((b3.keep d2).l c2) rfl ⟨h0, Int.ediv_nonneg h1 (by omega), by omega, by omega, h4, h5⟩)
      · walk_at "zz"
        refine z_rI ?_ ?_
        · exact ⟨by decide, by decide, by omega⟩
        walk_at "zz"
        exact k _ H2 (Int.emod_nonneg _ (by omega)) (Int.emod_lt_of_pos _ hm) b2 (pen_new d2 c2 rfl ⟨h0, h1, by omega, by omega, h4, h5⟩)
theorem ok_pick (T : Tx K mg) : FnOk P w K mg base CX0 2 T.apick T.fdpick ["_law_pen_here", "_law_some"] (spPick K) := by
  have Gdraw : FnOk P w K mg base CX0 1 T.adraw T.fddraw ["_law_pen_here", "_law_many"] (spDraw K) := ok_draw T
  refine T.Dpick.F.ok scpick (fun vs H Q E h => ?_) (fun cdv A outer s H vs Q E hr h => ?_)
  · obtain ⟨d, p, m, ys, rfl, _⟩ := h
    rfl
  · obtain ⟨d, p, m, ys, rfl, hp, hs, hne, hlen, k⟩ := h
    have hrdraw := hr
    refine ⟨_, pss_one (ps_ret (pe_ix ix_list (pv 1) (pe_callN T.Ddraw Gdraw hrdraw pass0 (pa_cons (pv 0) (pa_cons (pe_callB call_lenL (by rfl) T.n_len (by decide +kernel) (pa_cons (pv 1) pa_nil)) pa_nil))) (fun _ _ => rfl))), ?_⟩
    walk_at "z0"
    walk_at "zz"
    refine z_lenL hs ?_
    walk_at "zz"
    have hpos : 0 < ys.length := List.length_pos_iff.mpr hne
    refine ⟨d, m, _, rfl, hp, by omega, ?_, fun r H' h0 h1 b hp' => ?_⟩
    · exact log2_small (by omega) (by omega)
    have hx : ys[r.toNat]? = some (ys[r.toNat]'(by omega)) := List.getElem?_eq_getElem (by omega)
    refine z_ixL ((hp.keep b).l hs) (at_of (by omega) hx) ?_
    walk_at "zz"
    exact k _ H' (List.getElem_mem _) b hp'
end
end K3

namespace K3
open PySem PySem.Spec PyProof.Rows L2 Nm
theorem head_at {z : Str} (h : 1 ≤ z.length) : atI z.cps.toList 0 = some ((tl z).headD 0) := by
  rw [str_len] at h
  cases e : tl z with
  | nil => rw [e] at h; exact absurd h (by decide)
  | cons a r =>
    show atI (tl z) ((0 : Nat) : Int) = _
    rw [e]
    exact atI_nat rfl
section
variable {P : Program} {w : World} {K : PySem.W.Frag} {mg : Str → Option Value} {base : Heap}
def spNamed : Sp := fun vs H Q _ => ∃ z f : Str, vs = [.str z, .str f] ∧ z.length ≤ 100000 ∧ ∀ b H', b = named (tl z) (tl f) → Same H H' → Q (.bl b) H'
def spW (g : List Nat → Bool) : Sp := fun vs H Q _ => ∃ z : Str, vs = [.str z] ∧ z.length ≤ 100000 ∧ ∀ b H', b = g (tl z) → Same H H' → Q (.bl b) H'
theorem ok_named (T : Tx K mg) : FnOk P w K mg base CX0 1 T.anamed T.fdnamed ["word", "first"] spNamed := by
  refine T.Dnamed.F.ok scnamed (fun vs H Q E h => ?_) (fun cdv A outer s H vs Q E hr h => ?_)
  · obtain ⟨z, f, rfl, _⟩ := h
    rfl
  · obtain ⟨z, f, rfl, hz, k⟩ := h
    have hu := hu_of hr
    refine ⟨_, pss_one (ps_ret (pe_and (pe_chain op_le op_le (pe_int) (pe_callB call_lenS (by rfl) T.n_len (by decide +kernel) (pa_cons (pv 0) pa_nil)) (pe_int)) (pe_and (pe_cmpR op_inC (pe_ix ix_str (pv 0) (pe_int) (fun _ _ => rfl)) (pv 1) (by rfl)) (pe_one (pe_callB (cr_all rfl) (by rfl) T.n_all (by decide +kernel) (pa_cons (pe_lc (own := [("sign", 2)]) rfl scnamed.nd (pi_str (pv 0)) (blkOk_by (own := [("sign", 2)]) (N := ["word", "first", "sign"]) (sc := defScope snamed) (by decide +kernel)) (fun _ _ _ _ _ => pg_name (i := 2) scnamed.nd rfl (Or.inl rfl)) (fun _ _ _ _ _ => pts_nil) (fun _ _ _ _ _ => pe_cmpR op_inC (pv 2) (pe_glob rfl T.g_LATER rel_str) (by rfl))) pa_nil)))))), ?_⟩
    walk_at "z0"
    walk_at "zz"
    have zl := str_len z
    refine z_ite (fun e1 => ?_) (fun e1 => ?_)
    · walk_at "zz"
      have e1 := of_decide_eq_true e1
      have e1' : 1 ≤ z.length := by omega
      refine z_ite (fun e2 => ?_) (fun e2 => ?_)
      · walk_at "zz"
        have e2 := of_decide_eq_true e2
        refine z_ixS (line_ge (by omega)) (head_at e1') ?_
        walk_at "zz"
        refine z_ite (fun e3 => ?_) (fun e3 => ?_)
        · walk_at "zz"
          refine l_textB (fun c => decide (c ∈ LATER)) (by omega) (fun c H1 _ _ Q' q => ?_) fun D H1 hD s1 h1 => ?_
          · walk_at "zz"
            exact q
          · walk_at "zz"
            refine z_all (SqL.of h1) ?_
            walk_at "zz"
            refine k _ _ ?_ s1
            simp only [named, zl ▸ decide_eq_true e1', decide_eq_true (show (tl z).length ≤ 24 by omega), show decide ((tl z).headD 0 ∈ tl f) = true from e3, Bool.true_and]
            rw [List.all_map]
            rfl
        · walk_at "zz"
          refine k _ _ ?_ (Same.refl _)
          simp only [named, show decide ((tl z).headD 0 ∈ tl f) = false from e3, Bool.and_false, Bool.false_and]
      · walk_at "zz"
        have e2 := of_decide_eq_false e2
        refine k _ _ ?_ (Same.refl _)
        simp only [named, decide_eq_false (show ¬ (tl z).length ≤ 24 by omega), Bool.and_false, Bool.false_and]
    · walk_at "zz"
      have e1 := of_decide_eq_false e1
      refine k _ _ ?_ (Same.refl _)
      simp only [named, decide_eq_false (show ¬ 1 ≤ (tl z).length by omega), Bool.and_false, Bool.false_and]
theorem ok_big (T : Tx K mg) : FnOk P w K mg base CX0 2 T.abig T.fdbig ["word"] (spW isBig) := by
  have Gnamed : FnOk P w K mg base CX0 1 T.anamed T.fdnamed ["word", "first"] spNamed := ok_named T
  refine T.Dbig.F.ok scbig (fun vs H Q E h => ?_) (fun cdv A outer s H vs Q E hr h => ?_)
  · obtain ⟨z, rfl, _⟩ := h
    rfl
  · obtain ⟨z, rfl, hz, k⟩ := h
    have hrnamed := hr
    refine ⟨_, pss_one (ps_ret (pe_callN T.Dnamed Gnamed hrnamed pass0 (pa_cons (pv 0) (pa_cons (pe_glob rfl T.g_BIG_LETTERS rel_str) pa_nil)))), ?_⟩
    walk_at "z0"
    walk_at "zz"
    refine ⟨_, _, rfl, hz, fun b H' e s => ?_⟩
    walk_at "zz"
    exact k b H' e s
theorem in_kept (z : Str) : inV (.str z) [.str "kind", .str "fun", .str "let", .str "in"] = decide (tl z ∈ kept) := by
  have e : ∀ x : Str, eqV (.str x) (.str z) = decide (tl z = tl x) := fun x => by
    show (x == z) = _
    rw [Bool.beq_eq_decide_eq]
    exact decide_eq_decide.mpr (by rw [str_eq]; exact eq_comm)
  show ([V.str "kind", V.str "fun", V.str "let", V.str "in"].any fun x => eqV x (.str z)) = _
  simp only [List.any_cons, List.any_nil, Bool.or_false, e, kept, List.mem_cons, List.not_mem_nil, or_false, Bool.decide_or]
theorem ok_small (T : Tx K mg) : FnOk P w K mg base CX0 2 T.asmall T.fdsmall ["word"] (spW isSmall) := by
  have Gnamed : FnOk P w K mg base CX0 1 T.anamed T.fdnamed ["word", "first"] spNamed := ok_named T
  refine T.Dsmall.F.ok scsmall (fun vs H Q E h => ?_) (fun cdv A outer s H vs Q E hr h => ?_)
  · obtain ⟨z, rfl, _⟩ := h
    rfl
  · obtain ⟨z, rfl, hz, k⟩ := h
    have hrnamed := hr
    refine ⟨_, pss_one (ps_ret (pe_and (pe_callN T.Dnamed Gnamed hrnamed pass0 (pa_cons (pv 0) (pa_cons (pe_glob rfl T.g_SMALL_LETTERS rel_str) pa_nil))) (pe_one (pe_cmpR op_notIn_seq (pv 0) (pe_glob rfl T.g_KEPT rel_ref) (by rfl))))), ?_⟩
    walk_at "z0"
    walk_at "zz"
    refine ⟨_, _, rfl, hz, fun b H' e s => ?_⟩
    walk_at "zz"
    refine z_ite (fun e3 => ?_) (fun e3 => ?_)
    · walk_at "zz"
      refine z_inT (T.q_KEPT _) rfl rfl ?_
      rw [if_pos rfl, in_kept]
      walk_at "zz"
      refine k _ _ ?_ s
      have en : named (tl z) SMALL = true := e3 ▸ e.symm
      unfold isSmall
      rw [en, Bool.true_and]
    · walk_at "zz"
      refine k _ _ ?_ s
      have en : named (tl z) SMALL = false := e3 ▸ e.symm
      unfold isSmall
      rw [en, Bool.false_and]
theorem tl_one {z : Str} (x : Str) (k : List Nat) (e : tl x = k) : (z = x) = (tl z = k) := by rw [str_eq, e]
theorem ok_number (T : Tx K mg) : FnOk P w K mg base CX0 1 T.anumber T.fdnumber ["word"] (spW isNum) := by
  refine T.Dnumber.F.ok scnumber (fun vs H Q E h => ?_) (fun cdv A outer s H vs Q E hr h => ?_)
  · obtain ⟨z, rfl, _⟩ := h
    rfl
  · obtain ⟨z, rfl, hz, k⟩ := h
    refine ⟨_, pss_cons (ps_set (i := 1) scnumber.nd rfl (Or.inl rfl) (pe_cut (pe_ifExp (pt_cmpR op_eq (pe_slice sl_str (pv 0) po_none (po_some (pe_int))) (pe_str) (nomark _)) (pe_slice sl_str (pv 0) (po_some (pe_int)) po_none) (pv 0))))
(pss_cons (ps_if (pt_cut (PW.pt (pw_or (pt_not (pt_chain op_le op_le (pe_int) (pe_callB call_lenS (by rfl) T.n_len (by decide +kernel) (pa_cons (pv 1) pa_nil)) (pe_int))) (pw_or1 (pt_not (pt_val (pe_callB (cr_all rfl) (by rfl) T.n_all (by decide +kernel) (pa_cons (pe_lc (own := [("sign", 2)]) rfl scnumber.nd (pi_str (pv 1)) (blkOk_by (own := [("sign", 2)]) (N := ["word", "digits", "sign"]) (sc := defScope snumber) (by decide +kernel)) (fun _ _ _ _ _ => pg_name (i := 2) scnumber.nd rfl (Or.inl rfl)) (fun _ _ _ _ _ => pts_nil) (fun _ _ _ _ _ => pe_cmpR op_inC (pv 2) (pe_glob rfl T.g_DIGITS rel_str) (by rfl))) pa_nil))))))))
(pss_one (ps_ret (pe_bl)))
(pss_nil))
(pss_one (ps_ret (pe_or (pe_cmpR op_ne (pe_ix ix_str (pv 1) (pe_int) (fun _ _ => rfl)) (pe_str) (nomark _)) (pe_one (pe_cmpR op_eq (pv 0) (pe_str) (nomark _))))))), ?_⟩
    walk_at "z0"
    walk_at "zz"
    have zl := str_len z
    have e45 : tl "-" = [45] := by decide +kernel
    have e48 : tl "0" = [48] := by decide +kernel
    have q45 : (cutS z none (some 1) = "-") = ((tl z).take 1 = [45]) := by rw [tl_one _ _ e45, show ((1 : Int)) = ((1 : Nat) : Int) from rfl, cut_to]
    refine z_cutV (.str ⟨(digs (tl z)).toArray⟩) ?_ fun H1 s1 => ?_
    · walk_at "zz"
      refine z_ite (fun e => ?_) (fun e => ?_)
      · have e := of_decide_eq_true e
        rw [q45] at e
        walk_at "zz"
        refine ⟨congrArg V.str (str_ext ?_), Same.refl _⟩
        rw [tl_mk, digs, if_pos e]
        exact cut_from z 1
      · have e := of_decide_eq_false e
        rw [q45] at e
        walk_at "zz"
        refine ⟨congrArg V.str (str_ext ?_), Same.refl _⟩
        rw [tl_mk, digs, if_neg e]
    generalize hd : (⟨(digs (tl z)).toArray⟩ : Str) = dz
    have ed : tl dz = digs (tl z) := by rw [← hd, tl_mk]
    have dl := str_len dz
    have hdz : dz.length ≤ 100000 := by
      have : (digs (tl z)).length ≤ (tl z).length := by
        unfold digs
        split
        · rw [List.length_drop]
          omega
        · exact Nat.le_refl _
      rw [dl, ed]
      omega
    walk_at "zz"
    refine z_cutB (!(decide (1 ≤ (tl dz).length) && decide ((tl dz).length ≤ 400) && ((tl dz).all fun c => decide (c ∈ DIG)))) ?_ fun H2 s2 => ?_
    · walk_at "zz"
      refine z_ite (fun e1 => ?_) (fun e1 => ?_)
      · walk_at "zz"
        have e1 := of_decide_eq_true e1
        refine z_ite (fun e2 => ?_) (fun e2 => ?_)
        · have e2 := of_decide_eq_false (not_t e2)
          have e3 : ¬ (tl dz).length ≤ 400 := by omega
          refine ⟨?_, Same.refl _⟩
          rw [decide_eq_false e3, Bool.and_false, Bool.false_and, Bool.not_false]
        · have e2 := of_decide_eq_true (not_f e2)
          walk_at "zz"
          refine l_textB (fun c => decide (c ∈ DIG)) (by omega) (fun c H1 _ _ Q' q => ?_) fun D H1 hD s1 h1 => ?_
          · walk_at "zz"
            exact q
          walk_at "zz"
          refine z_all (SqL.of h1) ?_
          walk_at "zz"
          refine ⟨?_, s1⟩
          rw [decide_eq_true (show 1 ≤ (tl dz).length by omega), decide_eq_true (show (tl dz).length ≤ 400 by omega), Bool.true_and, Bool.true_and, List.all_map]
          rfl
      · walk_at "zz"
        have e1 := of_decide_eq_false e1
        refine ⟨?_, Same.refl _⟩
        rw [decide_eq_false (show ¬ 1 ≤ (tl dz).length by omega), Bool.false_and, Bool.false_and, Bool.not_false]
    refine z_ite (fun e => ?_) (fun e => ?_)
    · walk_at "zz"
      refine k _ _ ?_ (s1.trans s2)
      unfold isNum
      rw [← ed]
      have : (decide (1 ≤ (tl dz).length) && decide ((tl dz).length ≤ 400) && ((tl dz).all fun c => decide (c ∈ DIG))) = false := not_t e
      rw [this, Bool.false_and]
    · have e' : (decide (1 ≤ (tl dz).length) && decide ((tl dz).length ≤ 400) && ((tl dz).all fun c => decide (c ∈ DIG))) = true := not_f e
      have e1 : 1 ≤ dz.length := by
        have q := e'
        simp only [Bool.and_eq_true, decide_eq_true_eq] at q
        omega
      walk_at "zz"
      refine z_ixS (line_ge (by omega)) (head_at e1) ?_
      walk_at "zz"
      have q48 : decide ((⟨#[(tl dz).headD 0]⟩ : Str) = "0") = decide ((tl dz).headD 0 = 48) := by
        refine decide_eq_decide.mpr ?_
        rw [tl_one _ _ e48]
        constructor
        · intro h
          have h' : [(tl dz).headD 0] = [48] := h
          exact (List.cons.inj h').1
        · intro h
          show [(tl dz).headD 0] = [48]
          rw [h]
      have qz : decide (z = "0") = decide (tl z = [48]) := decide_eq_decide.mpr (by rw [tl_one _ _ e48])
      rw [q48]
      refine z_ite (fun e5 => ?_) (fun e5 => ?_)
      · walk_at "zz"
        refine k _ _ ?_ (s1.trans s2)
        unfold isNum
        rw [← ed, e', e5]
        rfl
      · walk_at "zz"
        refine k _ _ ?_ (s1.trans s2)
        unfold isNum
        rw [← ed, e', e5, qz, Bool.true_and, Bool.false_or]
end
end K3

namespace K3
open PySem PySem.Spec PyProof.Rows L2 Nm
section
variable {P : Program} {w : World} {K : PySem.W.Frag} {mg : Str → Option Value} {base : Heap}
def stV (i : Nat) (cur : List Nat) : V := if cur = [] then .non else .int ((i - cur.length : Nat) : Int)
theorem stV_non {i : Nat} {cur : List Nat} : decide (stV i cur = .non) = decide (cur = []) := by
  unfold stV
  by_cases h : cur = []
  · rw [if_pos h, decide_eq_true h]
    rfl
  · rw [if_neg h, decide_eq_false h]
    rfl
theorem e_sep : tl " ();" = [32, 40, 41, 59] := by decide +kernel
theorem e_semi : tl ";" = [59] := by decide +kernel
theorem e_par : tl "()" = [40, 41] := by decide +kernel
theorem e_sp : tl " " = [32] := by decide +kernel
theorem in_sep {c : Nat} : decide (c ∈ tl " ();") = decide (c = 32 ∨ c = 40 ∨ c = 41 ∨ c = 59) := decide_eq_decide.mpr (by rw [e_sep]; simp)
theorem in_par {c : Nat} : decide (c ∈ tl "()") = decide (c = 40 ∨ c = 41) := decide_eq_decide.mpr (by rw [e_par]; simp)
def spWords (K : PySem.W.Frag) : Sp := fun vs H Q _ => ∃ z : Str, vs = [.str z] ∧ z.length ≤ 100000 ∧ ∀ p us H', Same H H' → H' p = some (.tup us) → DpAll K H' us ((words (tl z)).map wd) → Q (.ref p) H'
/-- what is known at turn i: s is the state of the reading -/
structure WAt (K : PySem.W.Frag) (H H' : Hp) (z : Str) (p : Addr) (i : Nat) (s : F × List Nat) : Prop where
  s0 : Same H H'
  g : Grow K H' p (s.1.map wd)
  le : s.2.length ≤ i
  cur : s.2 = ((tl z).take i).drop (i - s.2.length)
  eq : wl ((tl z).drop i) i s = words (tl z)
  few : s.1.length ≤ 2 * i
theorem fl_len (k : Nat) (s : F × List Nat) : (fl k s).length ≤ s.1.length + 1 := by
  unfold fl
  split
  · omega
  · rw [List.length_append]
    exact Nat.le_refl _
/-- found.append((line[start:at], start + 1)) -/
theorem flush_ok {H H' : Hp} {z : Str} {p : Addr} {i : Nat} {s : F × List Nat} {x : Str} {Q : VK} (W : WAt K H H' z p i s) (hp : H p = none) (hi : i ≤ 100000) (hs : s.2 ≠ []) (hx : tl x = s.2)
    {t : Addr} (ht : H' t = some (.tup [.str x, .int (((i - s.2.length : Nat) : Int) + 1)])) (k : ∀ H2, Same H H2 → Grow K H2 p ((fl i s).map wd) → Q .non H2) : rAppend (.ref p) [.ref t] H' Q := by
  refine z_append (d := wd (s.2, i + 1 - s.2.length)) W.g ?_ rfl ?_ fun H2 g2 a2 b2 => ?_
  · have e1 : (i + 1 - s.2.length : Nat) = (i - s.2.length) + 1 := by have := W.le; omega
    unfold wd
    show Dp K H' (.ref t) (.tuple [.str ⟨s.2.toArray⟩, .int ((i + 1 - s.2.length : Nat) : Int)])
    have e2 : (⟨s.2.toArray⟩ : Str) = x := str_ext (by rw [tl_mk, hx])
    rw [e1, e2]
    exact .tup (SqT.of ht) (.cons (.str _) (.cons (.int _) .nil))
  · rw [List.length_map]
    have := W.few
    omega
  · refine k H2 (a2 H W.s0 hp) ?_
    unfold fl
    rw [if_neg hs, List.map_append]
    exact g2
theorem cur_cut {z : Str} {i : Nat} {s : F × List Nat} (hi : i ≤ (tl z).length) (h : s.2.length ≤ i) (e : s.2 = ((tl z).take i).drop (i - s.2.length)) :
    tl (cutS z (some ((i - s.2.length : Nat) : Int)) (some (i : Int))) = s.2 := by
  rw [cut_mid z _ _ hi]
  conv => rhs; rw [e]
  rw [List.drop_take]
theorem ok_words (T : Tx K mg) : FnOk P w K mg base CX0 1 T.awords T.fdwords ["line"] (spWords K) := by
  refine T.Dwords.F.ok scwords (fun vs H Q E h => ?_) (fun cdv A outer s H vs Q E hr h => ?_)
  · obtain ⟨z, rfl, _⟩ := h
    rfl
  · obtain ⟨z, rfl, hz, k⟩ := h
    have hu := hu_of hr
    refine ⟨_, pss_cons (ps_par rfl scwords.nd (i := 1) (j := 2) rfl rfl (by decide) rfl rfl (pa_cons (pe_lst pa_nil) (pa_cons (pe_non) pa_nil)) (by rfl))
(pss_cons (ps_for PassesOwn.never rfl (pi_enumS rfl T.n_enumerate (pa_cons (pv 0) pa_nil)) (pg_tup rfl (pgs_cons (pg_name (i := 3) scwords.nd rfl (Or.inl rfl)) (pgs_cons (pg_name (i := 4) scwords.nd rfl (Or.inl rfl)) pgs_nil)))
(pss_cut (ps_if (pt_cut (PW.pt (pw_and (pt_cmpR op_inC (pv 4) (pe_str) (by rfl)) (pw_and1 (pt_cmpR op_notNn (pv 2) (pe_non) (nomark _))))))
(pss_cons (ps_expr (pe_bm PySem.F.plainAttrs_list PySem.F.slot_list_append PySem.F.type_list_append mt_append (pv 1) (pa_cons (pe_tup (pa_cons (pe_slice sl_str (pv 0) (po_some (pv 2)) (po_some (pv 3))) (pa_cons (pe_op op_add (pv 2) pe_int) pa_nil))) pa_nil)))
(pss_one (ps_set (i := 2) scwords.nd rfl (Or.inl rfl) (pe_non))))
(pss_nil))
(pss_cons (ps_if (pt_cmpR op_eq (pv 4) (pe_str) (nomark _))
(pss_one (ps_ret (pe_callTy call_tupleOf (by rfl) T.n_tuple (by decide +kernel) (pa_cons (pv 1) pa_nil))))
(pss_nil))
(pss_one (ps_if (pt_cmpR op_inC (pv 4) (pe_str) (by rfl))
(pss_one (ps_expr (pe_bm PySem.F.plainAttrs_list PySem.F.slot_list_append PySem.F.type_list_append mt_append (pv 1) (pa_cons (pe_tup (pa_cons (pv 4) (pa_cons (pe_op op_add (pv 3) (pe_int)) pa_nil))) pa_nil))))
(pss_one (ps_if (pt_cut (PW.pt (pw_and (pt_cmpR op_ne (pv 4) (pe_str) (nomark _)) (pw_and1 (pt_cmpR op_isNn (pv 2) (pe_non) (nomark _))))))
(pss_one (ps_set (i := 2) scwords.nd rfl (Or.inl rfl) (pv 3)))
(pss_nil))))))))
(pss_cut (ps_if (pt_cmpR op_notNn (pv 2) (pe_non) (nomark _))
(pss_one (ps_expr (pe_bm PySem.F.plainAttrs_list PySem.F.slot_list_append PySem.F.type_list_append mt_append (pv 1) (pa_cons (pe_tup (pa_cons (pe_slice sl_str (pv 0) (po_some (pv 2)) po_none) (pa_cons (pe_op op_add (pv 2) pe_int) pa_nil))) pa_nil))))
(pss_nil))
(pss_one (ps_ret (pe_callTy call_tupleOf (by rfl) T.n_tuple (by decide +kernel) (pa_cons (pv 1) pa_nil)))))), ?_⟩
    walk_at "z0"
    walk_at "zz"
    refine z_kLst (Nat.zero_le _) fun p H1 hp s1 h1 => ?_
    walk_at "zz"
    have zl := str_len z
    have hzz : (tl z).length ≤ 100000 := by omega
    refine f_enumS (fun i σ' H' => ∃ (s : F × List Nat) (x3 x4 : Option V), σ' = [some (.str z), some (.ref p), some (stV i s.2), x3, x4] ∧ WAt K H H' z p i s) ⟨([], []), none, none, rfl, s1, grow_nil h1, Nat.le_refl _, rfl, rfl, Nat.zero_le _⟩ ?_ ?_
    · rintro i c σ' H' H2 hc ⟨s, x3, x4, rfl, W⟩ s2
      have hc' : (tl z)[i]? = some c := by simpa using hc
      have hi : i < (tl z).length := (List.getElem?_eq_some_iff.mp hc').1
      have W2 : WAt K H H2 z p i s := ⟨W.s0.trans s2, W.g.same s2, W.le, W.cur, W.eq, W.few⟩
      have ew := W.eq
      rw [wl_drop hc'] at ew
      refine z_cut (fun σ3 H3 => ∃ s', σ3 = [some (.str z), some (.ref p), some (stV i s'.2), some (.int (i : Nat)), some (.str ⟨#[c]⟩)] ∧ Same H H3 ∧ Grow K H3 p (s'.1.map wd) ∧ s' = (if c = 32 ∨ c = 40 ∨ c = 41 ∨ c = 59 then (fl i s, []) else s)) ?_ ?_
      · walk_at "zz"
        refine z_cutB (decide ((c = 32 ∨ c = 40 ∨ c = 41 ∨ c = 59) ∧ s.2 ≠ [])) ?_ fun H3 s3 => ?_
        · walk_at "zz"
          refine z_ite (fun e => ?_) (fun e => ?_)
          · walk_at "zz"
            rw [in_sep] at e
            refine ⟨?_, Same.refl _⟩
            rw [stV_non, Bool.decide_and, e, Bool.true_and, decide_not]
          · rw [in_sep] at e
            refine ⟨?_, Same.refl _⟩
            rw [Bool.decide_and, e, Bool.false_and]
        have W3 : WAt K H H3 z p i s := ⟨W2.s0.trans s3, W2.g.same s3, W.le, W.cur, W.eq, W.few⟩
        refine z_ite (fun e => ?_) (fun e => ?_)
        · have e := of_decide_eq_true e
          have est : stV i s.2 = .int ((i - s.2.length : Nat) : Int) := if_neg e.2
          rw [est]
          walk_at "zz"
          refine ⟨W3.g.ty, ?_⟩
          walk_at "zz"
          refine z_kTup (by show 2 ≤ sizeLine; decide) fun t H4 ht s4 h4 => ?_
          walk_at "zz"
          have W4 : WAt K H H4 z p i s := ⟨W3.s0.trans s4, W3.g.same s4, W.le, W.cur, W.eq, W.few⟩
          refine flush_ok W4 hp (by omega) e.2 (cur_cut (Nat.le_of_lt hi) W.le W.cur) h4 fun H5 s5 g5 => ?_
          walk_at "zz"
          exact ⟨(fl i s, []), rfl, s5, g5, by rw [if_pos e.1]⟩
        · have e := of_decide_eq_false e
          walk_at "zz"
          by_cases ec : c = 32 ∨ c = 40 ∨ c = 41 ∨ c = 59
          · have e2 : s.2 = [] := Classical.byContradiction fun q => e ⟨ec, q⟩
            refine ⟨(fl i s, []), ?_, W3.s0, ?_, by rw [if_pos ec]⟩
            · rw [e2]
              rfl
            · have ef : fl i s = s.1 := if_pos e2
              rw [ef]
              exact W3.g
          · exact ⟨s, rfl, W3.s0, W3.g, by rw [if_neg ec]⟩
      · rintro σ3 H3 ⟨s', rfl, s3, g3, es⟩
        walk_at "zz"
        rw [one_eq e_semi]
        refine z_ite (fun e => ?_) (fun e => ?_)
        · have e := of_decide_eq_true e
          rw [if_pos e] at ew
          rw [if_pos (by omega)] at es
          subst es
          walk_at "zz"
          obtain ⟨us, h4, h5, h6⟩ := g3.sq
          refine z_tupleOfL h4 fun q H4 hq s4 h7 => ?_
          walk_at "zz"
          refine k q us H4 (s3.trans s4) h7 ?_
          rw [← ew]
          exact dps_keep (same_keep s4) h5
        · have e := of_decide_eq_false e
          rw [if_neg e] at ew
          have hlen : s'.1.length ≤ 2 * i + 1 := by
            have q1 := fl_len i s
            have q2 := W.few
            subst es
            split
            · show (fl i s).length ≤ _
              omega
            · omega
          walk_at "zz"
          rw [in_par]
          refine z_ite (fun e2 => ?_) (fun e2 => ?_)
          · have e2 := of_decide_eq_true e2
            rw [if_pos (by omega)] at es
            subst es
            walk_at "zz"
            refine ⟨g3.ty, ?_⟩
            walk_at "zz"
            refine z_kTup (by show 2 ≤ sizeLine; decide) fun t H4 ht s4 h4 => ?_
            walk_at "zz"
            refine z_append (d := wd ([c], i + 1)) (g3.same s4) (.tup (SqT.of h4) (.cons (.str _) (.cons (.int _) .nil))) rfl (by rw [List.length_map]; omega) fun H5 g5 a5 b5 => ?_
            walk_at "zz"
            have est : stp i c s = (fl i s ++ [([c], i + 1)], []) := if_pos e2
            rw [est] at ew
            refine ⟨(fl i s ++ [([c], i + 1)], []), _, _, rfl, a5 H (s3.trans s4) hp, ?_, Nat.zero_le _, ?_, ew, ?_⟩
            · rw [List.map_append]
              exact g5
            · simp
            · rw [List.length_append]
              show (fl i s).length + 1 ≤ _
              have q : (fl i s).length ≤ 2 * i + 1 := hlen
              omega
          · have e2 := of_decide_eq_false e2
            walk_at "zz"
            refine z_cutB (decide (c ≠ 32 ∧ s'.2 = [])) ?_ fun H4 s4 => ?_
            · walk_at "zz"
              rw [one_eq e_sp]
              refine z_ite (fun e3 => ?_) (fun e3 => ?_)
              · walk_at "zz"
                refine ⟨?_, Same.refl _⟩
                rw [stV_non, Bool.decide_and, decide_not, e3, Bool.true_and]
              · walk_at "zz"
                refine ⟨?_, Same.refl _⟩
                rw [Bool.decide_and, decide_not, e3, Bool.false_and]
            by_cases e32 : c = 32
            · rw [if_pos (by omega)] at es
              subst es
              refine z_ite (fun e3 => absurd e32 (of_decide_eq_true e3).1) (fun e3 => ?_)
              walk_at "zz"
              have est : stp i c s = (fl i s, []) := by
                unfold stp
                rw [if_neg e2, if_pos e32]
              rw [est] at ew
              exact ⟨(fl i s, []), _, _, rfl, s3.trans s4, g3.same s4, Nat.zero_le _, by simp, ew, by show (fl i s).length ≤ _; have q : (fl i s).length ≤ 2 * i + 1 := hlen; omega⟩
            · rw [if_neg (by omega)] at es
              subst es
              have est : stp i c s' = (s'.1, s'.2 ++ [c]) := by
                unfold stp
                rw [if_neg e2, if_neg e32]
              rw [est] at ew
              have hcur : s'.2 ++ [c] = ((tl z).take (i + 1)).drop (i + 1 - (s'.2 ++ [c]).length) := by
                have el : (s'.2 ++ [c]).length = s'.2.length + 1 := by simp
                rw [el, List.take_add_one, hc', Option.toList_some, show i + 1 - (s'.2.length + 1) = i - s'.2.length by omega, List.drop_append_of_le_length (by rw [List.length_take]; omega), ← W.cur]
              have hst : ∀ v3 v4 : Option V, ∀ v : V, v = stV (i + 1) (s'.2 ++ [c]) → (fun σ' H' => ∃ (s : F × List Nat) (x3 x4 : Option V), σ' = [some (.str z), some (.ref p), some (stV (i + 1) s.2), x3, x4] ∧ WAt K H H' z p (i + 1) s) [some (.str z), some (.ref p), some v, v3, v4] H4 := fun v3 v4 v ev =>
                ⟨(s'.1, s'.2 ++ [c]), v3, v4, by rw [ev], s3.trans s4, g3.same s4, by have := W.le; simp; omega, hcur, ew, by show s'.1.length ≤ _; have := W.few; omega⟩
              refine z_ite (fun e3 => ?_) (fun e3 => ?_)
              · have e3 := (of_decide_eq_true e3).2
                walk_at "zz"
                refine hst _ _ _ ?_
                unfold stV
                rw [if_neg (by simp), e3]
                simp
              · have e3 : s'.2 ≠ [] := fun q => of_decide_eq_false e3 ⟨e32, q⟩
                walk_at "zz"
                refine hst _ _ _ ?_
                unfold stV
                rw [if_neg e3, if_neg (show ¬ s'.2 ++ [c] = [] from fun q => List.cons_ne_nil _ _ (List.append_eq_nil_iff.mp q).2)]
                have el : (s'.2 ++ [c]).length = s'.2.length + 1 := by simp
                rw [el]
                congr 1
                omega
    · rintro σ' H' ⟨s, x3, x4, rfl, W⟩
      have en : z.cps.size = (tl z).length := by simp [tl]
      rw [en]
      rw [en] at W
      have ew := W.eq
      rw [wl_end (Nat.le_refl _)] at ew
      refine z_cut (fun σ3 H3 => ∃ v, σ3 = [some (.str z), some (.ref p), v, x3, x4] ∧ Same H H3 ∧ Grow K H3 p ((fl (tl z).length s).map wd)) ?_ ?_
      · walk_at "zz"
        rw [stV_non]
        refine z_ite (fun e => ?_) (fun e => ?_)
        · have e := of_decide_eq_false (not_t e)
          have est : stV (tl z).length s.2 = .int (((tl z).length - s.2.length : Nat) : Int) := if_neg e
          rw [est]
          walk_at "zz"
          refine ⟨W.g.ty, ?_⟩
          walk_at "zz"
          refine z_kTup (by show 2 ≤ sizeLine; decide) fun t H4 ht s4 h4 => ?_
          walk_at "zz"
          have W4 : WAt K H H4 z p (tl z).length s := ⟨W.s0.trans s4, W.g.same s4, W.le, W.cur, W.eq, W.few⟩
          refine flush_ok W4 hp (by omega) e ?_ h4 fun H5 s5 g5 => ?_
          · rw [cut_from]
            have q := W.cur
            rw [List.take_length] at q
            exact q.symm
          walk_at "zz"
          exact ⟨_, rfl, s5, g5⟩
        · have e := of_decide_eq_true (not_f e)
          walk_at "zz"
          refine ⟨_, rfl, W.s0, ?_⟩
          have ef : fl (tl z).length s = s.1 := if_pos e
          rw [ef]
          exact W.g
      · rintro σ3 H3 ⟨v, rfl, s3, g3⟩
        walk_at "zz"
        obtain ⟨us, h4, h5, h6⟩ := g3.sq
        refine z_tupleOfL h4 fun q H4 hq s4 h7 => ?_
        walk_at "zz"
        refine k q us H4 (s3.trans s4) h7 ?_
        rw [← ew]
        exact dps_keep (same_keep s4) h5
end
end K3

namespace K3
open PySem PySem.Spec PyProof.Rows L2 Nm
section
variable {P : Program} {w : World} {K : PySem.W.Frag} {mg : Str → Option Value} {base : Heap}
def sgKv : List (Key × V) := [(.inr "big", .str ⟨BIG.toArray⟩), (.inr "small", .str ⟨SMALL.toArray⟩), (.inr "all", .str ⟨LATER.toArray⟩)]
theorem sg_big : valV sgKv (.inr "big") = some (.str ⟨BIG.toArray⟩) := by kernel_rfl
theorem sg_small : valV sgKv (.inr "small") = some (.str ⟨SMALL.toArray⟩) := by kernel_rfl
theorem sg_all : valV sgKv (.inr "all") = some (.str ⟨LATER.toArray⟩) := by kernel_rfl
theorem sg_merge : mergeK [] sgKv = sgKv := by kernel_rfl
def spSigns : Sp := fun vs H Q _ => vs = [] ∧ ∀ d H', Same H H' → H' d = some (.dK sgKv) → Q (.ref d) H'
theorem ok_signs (T : Tx K mg) : FnOk P w K mg base CX0 1 T.asigns T.fdsigns [] spSigns := by
  refine T.Dsigns.F.ok scsigns (fun vs H Q E h => ?_) (fun cdv A outer s H vs Q E hr h => ?_)
  · obtain ⟨rfl, _⟩ := h
    rfl
  · obtain ⟨rfl, k⟩ := h
    refine ⟨_, pss_cons (ps_asg (pe_tup (pa_cons (pe_str) (pa_cons (pe_str) pa_nil))) (pg_tup rfl (pgs_cons (pg_name (i := 0) scsigns.nd rfl (Or.inl rfl)) (pgs_cons (pg_name (i := 1) scsigns.nd rfl (Or.inl rfl)) pgs_nil))))
(pss_one (ps_ret (pe_disp (pps_cons (pe_str) (pv 0) (pps_cons (pe_str) (pv 1) (pps_cons (pe_str) (pe_op op_addS (pe_op op_addS (pv 0) (pv 1)) (pe_str)) (pps_nil)))) (by rfl) (by rfl) (fun z => by cases z) (by decide)))), ?_⟩
    walk_at "z0"
    walk_at "zz"
    refine z_kTup (by show 2 ≤ sizeLine; decide) fun t H0 ht s0 h0 => ?_
    walk_at "zz"
    refine z_gTup (SqT.of h0) rfl ?_
    walk_at "zz"
    refine z_disp fun p H1 hp s1 h1 => ?_
    walk_at "zz"
    refine z_kDisp sgKv ?_ h1 (by decide) fun H2 b2 h2 => ?_
    · kernel_rfl
    walk_at "zz"
    exact k p H2 (s0.trans (b2.same s1 hp)) (by rw [h2, sg_merge])
def spLWords (K : PySem.W.Frag) : Sp := fun vs H Q _ => ∃ z : Str, vs = [.str z] ∧ z.length ≤ 100000 ∧ ∀ p H', Same H H' → Grow K H' p ((words (tl z)).map wd) → Q (.ref p) H'
/-- what is known at turn i of the law's own reading -/
structure LAt (K : PySem.W.Frag) (H H' : Hp) (z : Str) (p : Addr) (i : Nat) (s : F × List Nat) : Prop where
  s0 : Same H H'
  g : Grow K H' p (s.1.map wd)
  le : s.2.length ≤ i
  eq : wl ((tl z ++ [32]).drop i) i s = words (tl z)
  few : s.1.length ≤ 2 * i
  fin : i = (tl z).length + 1 → s.2 = []
theorem wl_app (r : List Nat) : ∀ (k : Nat) (s : F × List Nat), wl (r ++ [32]) k s = wl r k s := by
  induction r with
  | nil =>
    intro k s
    show (if 32 = 59 then fl k s else wl [] (k + 1) (stp k 32 s)) = fl k s
    rw [if_neg (by decide)]
    show fl (k + 1) (stp k 32 s) = fl k s
    unfold stp
    rw [if_neg (by decide), if_pos rfl]
    rfl
  | cons c r ih =>
    intro k s
    show (if c = 59 then fl k s else wl (r ++ [32]) (k + 1) (stp k c s)) = (if c = 59 then fl k s else wl r (k + 1) (stp k c s))
    rw [ih]
theorem ok_lwords (T : Tx K mg) : FnOk P w K mg base CX0 1 T.alwords T.fdlwords ["_law_line"] (spLWords K) := by
  refine T.Dlwords.F.ok sclwords (fun vs H Q E h => ?_) (fun cdv A outer s H vs Q E hr h => ?_)
  · obtain ⟨z, rfl, _⟩ := h
    rfl
  · obtain ⟨z, rfl, hz, k⟩ := h
    refine ⟨_, pss_cons (ps_par rfl sclwords.nd (i := 1) (j := 2) rfl rfl (by decide) rfl rfl (pa_cons (pe_lst pa_nil) (pa_cons (pe_str) pa_nil)) (by rfl))
(pss_cons (ps_for PassesOwn.never rfl (pi_enumS rfl T.n_enumerate (pa_cons (pe_op op_addS (pv 0) (pe_str)) pa_nil)) (pg_tup rfl (pgs_cons (pg_name (i := 3) sclwords.nd rfl (Or.inl rfl)) (pgs_cons (pg_name (i := 4) sclwords.nd rfl (Or.inl rfl)) pgs_nil)))
(pss_cut (ps_if (pt_cut (PW.pt (pw_and (pt_cmpR op_inC (pv 4) (pe_str) (by rfl)) (pw_and1 (pt_cmpR op_ne (pv 2) (pe_str) (nomark _))))))
(pss_cons (ps_expr (pe_bm PySem.F.plainAttrs_list PySem.F.slot_list_append PySem.F.type_list_append mt_append (pv 1) (pa_cons (pe_tup (pa_cons (pv 2) (pa_cons (pe_op op_sub (pe_op op_add (pv 3) (pe_int)) (pe_callB call_lenS (by rfl) T.n_len (by decide +kernel) (pa_cons (pv 2) pa_nil))) pa_nil))) pa_nil)))
(pss_one (ps_set (i := 2) sclwords.nd rfl (Or.inl rfl) (pe_str))))
(pss_nil))
(pss_cons (ps_if (pt_cmpR op_eq (pv 4) (pe_str) (nomark _))
(pss_one (ps_ret (pv 1)))
(pss_nil))
(pss_one (ps_if (pt_cmpR op_inC (pv 4) (pe_str) (by rfl))
(pss_one (ps_expr (pe_bm PySem.F.plainAttrs_list PySem.F.slot_list_append PySem.F.type_list_append mt_append (pv 1) (pa_cons (pe_tup (pa_cons (pv 4) (pa_cons (pe_op op_add (pv 3) (pe_int)) pa_nil))) pa_nil))))
(pss_one (ps_if (pt_cmpR op_ne (pv 4) (pe_str) (nomark _))
(pss_one (ps_set (i := 2) sclwords.nd rfl (Or.inl rfl) (pe_op op_addS (pv 2) (pv 4))))
(pss_nil))))))))
(pss_one (ps_ret (pv 1)))), ?_⟩
    walk_at "z0"
    walk_at "zz"
    refine z_kLst (Nat.zero_le _) fun p H1 hp s1 h1 => ?_
    walk_at "zz"
    have zl := str_len z
    have e0 : tl "" = [] := by decide +kernel
    refine z_addS ?_ ?_
    · refine line_ge ?_
      rw [str_len (" " : Str), e_sp]
      show z.length + 1 ≤ _
      omega
    walk_at "zz"
    generalize hzz : z ++ (" " : Str) = zz
    have ez : tl zz = tl z ++ [32] := by rw [← hzz, tl_app, e_sp]
    have en : zz.cps.size = (tl zz).length := by simp [tl]
    have hlen : (tl zz).length ≤ 100001 := by
      rw [ez, List.length_append]
      show (tl z).length + 1 ≤ _
      omega
    refine f_enumS (fun i σ' H' => ∃ (s : F × List Nat) (x : Str) (x3 x4 : Option V), tl x = s.2 ∧ σ' = [some (.str z), some (.ref p), some (.str x), x3, x4] ∧ LAt K H H' z p i s) ⟨([], []), "", none, none, e0, rfl, s1, grow_nil h1, Nat.le_refl _, ?_, Nat.zero_le _, fun q => rfl⟩ ?_ ?_
    · show wl (tl z ++ [32]) 0 ([], []) = _
      rw [wl_app]
      rfl
    · rintro i c σ' H' H2 hc ⟨s, x, x3, x4, ex, rfl, W⟩ s2
      have hc' : (tl zz)[i]? = some c := by simpa using hc
      have hi : i < (tl zz).length := (List.getElem?_eq_some_iff.mp hc').1
      have ew := W.eq
      rw [← ez, wl_drop hc'] at ew
      have h32 : i = (tl z).length → c = 32 := fun q => by
        rw [ez, q, List.getElem?_append_right (Nat.le_refl _), Nat.sub_self] at hc'
        exact (Option.some.inj hc').symm
      refine z_cut (fun σ3 H3 => ∃ (s' : F × List Nat) (x' : Str), tl x' = s'.2 ∧ σ3 = [some (.str z), some (.ref p), some (.str x'), some (.int (i : Nat)), some (.str ⟨#[c]⟩)] ∧ Same H H3 ∧ Grow K H3 p (s'.1.map wd) ∧ s' = (if c = 32 ∨ c = 40 ∨ c = 41 ∨ c = 59 then (fl i s, []) else s)) ?_ ?_
      · walk_at "zz"
        refine z_cutB (decide ((c = 32 ∨ c = 40 ∨ c = 41 ∨ c = 59) ∧ s.2 ≠ [])) ?_ fun H3 s3 => ?_
        · walk_at "zz"
          rw [in_sep]
          refine z_ite (fun e => ?_) (fun e => ?_)
          · walk_at "zz"
            refine ⟨?_, Same.refl _⟩
            rw [txt_eq e0, ex, Bool.decide_and, e, Bool.true_and, decide_not]
          · refine ⟨?_, Same.refl _⟩
            rw [Bool.decide_and, e, Bool.false_and]
        have g3 := (W.g.same s2).same s3
        have s03 := (W.s0.trans s2).trans s3
        refine z_ite (fun e => ?_) (fun e => ?_)
        · have e := of_decide_eq_true e
          walk_at "zz"
          refine ⟨g3.ty, ?_⟩
          walk_at "zz"
          have xl := str_len x
          rw [ex] at xl
          refine z_lenS (line_ge (by have := W.le; omega)) ?_
          walk_at "zz"
          refine z_kTup (by show 2 ≤ sizeLine; decide) fun t H4 ht s4 h4 => ?_
          walk_at "zz"
          have hfl : fl i s = s.1 ++ [(s.2, i + 1 - s.2.length)] := if_neg e.2
          refine z_append (d := wd (s.2, i + 1 - s.2.length)) (g3.same s4) ?_ rfl (by rw [List.length_map]; have := W.few; omega) fun H5 g5 a5 b5 => ?_
          · have e1 : ((i + 1 - s.2.length : Nat) : Int) = (i : Int) + 1 - (x.length : Int) := by have := W.le; omega
            have e2 : (⟨s.2.toArray⟩ : Str) = x := str_ext (by rw [tl_mk, ex])
            unfold wd
            show Dp K H4 (.ref t) (.tuple [.str ⟨s.2.toArray⟩, .int ((i + 1 - s.2.length : Nat) : Int)])
            rw [e1, e2]
            exact .tup (SqT.of h4) (.cons (.str _) (.cons (.int _) .nil))
          walk_at "zz"
          refine ⟨(fl i s, []), "", e0, rfl, a5 H (s03.trans s4) hp, ?_, by rw [if_pos e.1]⟩
          show Grow K H5 p ((fl i s).map wd)
          rw [hfl, List.map_append]
          exact g5
        · have e := of_decide_eq_false e
          walk_at "zz"
          by_cases ec : c = 32 ∨ c = 40 ∨ c = 41 ∨ c = 59
          · have e2 : s.2 = [] := Classical.byContradiction fun q => e ⟨ec, q⟩
            refine ⟨(fl i s, []), x, by rw [ex, e2], rfl, s03, ?_, by rw [if_pos ec]⟩
            have ef : fl i s = s.1 := if_pos e2
            rw [ef]
            exact g3
          · exact ⟨s, x, ex, rfl, s03, g3, by rw [if_neg ec]⟩
      · rintro σ3 H3 ⟨s', x', ex', rfl, s3, g3, es⟩
        walk_at "zz"
        rw [one_eq e_semi]
        refine z_ite (fun e => ?_) (fun e => ?_)
        · have e := of_decide_eq_true e
          rw [if_pos e] at ew
          rw [if_pos (by omega)] at es
          subst es
          walk_at "zz"
          refine k p _ s3 ?_
          rw [← ew]
          exact g3
        · have e := of_decide_eq_false e
          rw [if_neg e] at ew
          have hl2 : s'.1.length ≤ 2 * i + 1 := by
            have q1 := fl_len i s
            have q2 := W.few
            subst es
            split
            · show (fl i s).length ≤ _
              omega
            · omega
          walk_at "zz"
          rw [in_par]
          refine z_ite (fun e2 => ?_) (fun e2 => ?_)
          · have e2 := of_decide_eq_true e2
            rw [if_pos (by omega)] at es
            subst es
            walk_at "zz"
            refine ⟨g3.ty, ?_⟩
            walk_at "zz"
            refine z_kTup (by show 2 ≤ sizeLine; decide) fun t H4 ht s4 h4 => ?_
            walk_at "zz"
            refine z_append (d := wd ([c], i + 1)) (g3.same s4) (.tup (SqT.of h4) (.cons (.str _) (.cons (.int _) .nil))) rfl (by rw [List.length_map]; omega) fun H5 g5 a5 b5 => ?_
            walk_at "zz"
            have est : stp i c s = (fl i s ++ [([c], i + 1)], []) := if_pos e2
            rw [est, ez] at ew
            refine ⟨(fl i s ++ [([c], i + 1)], []), x', _, _, ex', rfl, a5 H (s3.trans s4) hp, ?_, Nat.zero_le _, ew, ?_, fun _ => rfl⟩
            · rw [List.map_append]
              exact g5
            · rw [List.length_append]
              show (fl i s).length + 1 ≤ _
              have q : (fl i s).length ≤ 2 * i + 1 := hl2
              omega
          · have e2 := of_decide_eq_false e2
            walk_at "zz"
            rw [one_eq e_sp]
            refine z_ite (fun e3 => ?_) (fun e3 => ?_)
            · have e32 := of_decide_eq_false (not_t e3)
              rw [if_neg (by omega)] at es
              subst es
              have xl := str_len x'
              rw [ex'] at xl
              walk_at "zz"
              refine z_addS (line_ge ?_) ?_
              · have := W.le
                show x'.length + 1 ≤ _
                omega
              walk_at "zz"
              have est : stp i c s' = (s'.1, s'.2 ++ [c]) := by
                unfold stp
                rw [if_neg e2, if_neg e32]
              rw [est, ez] at ew
              refine ⟨(s'.1, s'.2 ++ [c]), x' ++ ⟨#[c]⟩, _, _, ?_, rfl, s3, g3, ?_, ew, ?_, fun q => absurd (h32 (by omega)) e32⟩
              · rw [tl_app, ex']
              · have := W.le
                simp
                omega
              · have := W.few
                show s'.1.length ≤ _
                omega
            · have e32 := of_decide_eq_true (not_f e3)
              rw [if_pos (by omega)] at es
              subst es
              walk_at "zz"
              have est : stp i c s = (fl i s, []) := by
                unfold stp
                rw [if_neg e2, if_pos e32]
              rw [est, ez] at ew
              exact ⟨(fl i s, []), x', _, _, ex', rfl, s3, g3, Nat.zero_le _, ew, by show (fl i s).length ≤ _; have q : (fl i s).length ≤ 2 * i + 1 := hl2; omega, fun _ => rfl⟩
    · rintro σ' H' ⟨s, x, x3, x4, ex, rfl, W⟩
      walk_at "zz"
      refine k p _ W.s0 ?_
      have ew := W.eq
      rw [en, ← ez, wl_end (Nat.le_refl _)] at ew
      have e2 : s.2 = [] := W.fin (by rw [en, ez, List.length_append]; rfl)
      have ef : fl (tl zz).length s = s.1 := if_pos e2
      rw [← ew, ef]
      exact W.g
end
end K3

local macro_rules | `(tactic| walk_at "z1") => `(tactic| ((with_reducible refine' z_kGetS ?zk ?zl ?_); (case zk => walk_at "hp"); (case zl => first | exact K3.sg_big | exact K3.sg_small | exact K3.sg_all)))
namespace K3
open PySem PySem.Spec PyProof.Rows L2 Nm
section
variable {P : Program} {w : World} {K : PySem.W.Frag} {mg : Str → Option Value} {base : Heap}
def spKind : Sp := fun vs H Q _ => ∃ z : Str, vs = [.str z] ∧ z.length ≤ 100000 ∧ tl z ≠ [] ∧ ∀ x H', Same H H' → tl x = lkind (tl z) → Q (.str x) H'
theorem ok_kind (T : Tx K mg) : FnOk P w K mg base CX0 2 T.akind T.fdkind ["_law_word"] spKind := by
  have Gsigns : FnOk P w K mg base CX0 1 T.asigns T.fdsigns [] spSigns := ok_signs T
  refine T.Dkind.F.ok sckind (fun vs H Q E h => ?_) (fun cdv A outer s H vs Q E hr h => ?_)
  · obtain ⟨z, rfl, _⟩ := h
    rfl
  · obtain ⟨z, rfl, hz, hne, k⟩ := h
    have hu := hu_of hr
    have hrsigns := hr
    refine ⟨_, pss_cons (ps_set (i := 1) sckind.nd rfl (Or.inr rfl) (pe_callN0 T.Dsigns Gsigns hrsigns pass0))
(pss_cons (ps_if (pt_cmpR op_in_seq (pv 0) (pe_lst (pa_cons (pe_str) (pa_cons (pe_str) (pa_cons (pe_str) (pa_cons (pe_str) pa_nil))))) (by rfl))
(pss_one (ps_ret (pv 0)))
(pss_nil))
(pss_cut (ps_if (pt_cut (PW.pt (pw_and (pt_cmpR op_inC (pe_ix ix_str (pv 0) (pe_int) (fun _ _ => rfl)) (pe_op op_addS (pe_dget hu (pv 1) (pe_str) (fun _ _ => rfl)) (pe_dget hu (pv 1) (pe_str) (fun _ _ => rfl))) (by rfl)) (pw_and1 (pt_cmpR op_le (pe_callB call_lenS (by rfl) T.n_len (by decide +kernel) (pa_cons (pv 0) pa_nil)) (pe_int) (nomark _))))))
(pss_one (ps_if (pt_cmpR (op_eqD hr.units) (pe_lc (own := [("_law_sign", 3)]) rfl sckind.nd (pi_str (pv 0)) (blkOk_by (own := [("_law_sign", 3)]) (N := ["_law_word", "_law_signs_here", "_law_digits", "_law_sign"]) (sc := defScope skind) (by decide +kernel)) (fun _ _ _ _ _ => pg_name (i := 3) sckind.nd rfl (Or.inl rfl)) (fun _ _ _ _ _ => pts_one (pt_cmpR op_notInC (pv 3) (pe_dget hu (pv 1) (pe_str) (fun _ _ => rfl)) (by rfl))) (fun _ _ _ _ _ => pe_int)) (pe_lst pa_nil) (nomark _))
(pss_one (ps_ret (pe_cut (pe_ifExp (pt_cmpR op_inC (pe_ix ix_str (pv 0) (pe_int) (fun _ _ => rfl)) (pe_dget hu (pv 1) (pe_str) (fun _ _ => rfl)) (by rfl)) (pe_str) (pe_str)))))
(pss_nil)))
(pss_nil))
(pss_cons (ps_set (i := 2) sckind.nd rfl (Or.inl rfl) (pe_cut (pe_ifExp (pt_cmpR op_eq (pe_ix ix_str (pv 0) (pe_int) (fun _ _ => rfl)) (pe_str) (nomark _)) (pe_slice sl_str (pv 0) (po_some (pe_int)) po_none) (pv 0))))
(pss_cut (ps_if (pt_cut (PW.pt (pw_and (pt_cmpR op_ne (pv 2) (pe_str) (nomark _)) (pw_and (pt_cmpR op_le (pe_callB call_lenS (by rfl) T.n_len (by decide +kernel) (pa_cons (pv 2) pa_nil)) (pe_int) (nomark _)) (pw_and1 (pt_cmpR (op_eqD hr.units) (pe_lc (own := [("_law_sign", 3)]) rfl sckind.nd (pi_str (pv 2)) (blkOk_by (own := [("_law_sign", 3)]) (N := ["_law_word", "_law_signs_here", "_law_digits", "_law_sign"]) (sc := defScope skind) (by decide +kernel)) (fun _ _ _ _ _ => pg_name (i := 3) sckind.nd rfl (Or.inl rfl)) (fun _ _ _ _ _ => pts_one (pt_cmpR op_notInC (pv 3) (pe_str) (by rfl))) (fun _ _ _ _ _ => pe_int)) (pe_lst pa_nil) (nomark _)))))))
(pss_one (ps_if (pt_cut (PW.pt (pw_or (pt_cmpR op_eq (pv 0) (pe_str) (nomark _)) (pw_or1 (pt_cmpR op_ne (pe_ix ix_str (pv 2) (pe_int) (fun _ _ => rfl)) (pe_str) (nomark _))))))
(pss_one (ps_ret (pe_str)))
(pss_nil)))
(pss_nil))
(pss_one (ps_ret (pe_op op_addS (pe_str) (pv 0)))))))), ?_⟩
    walk_at "z0"
    walk_at "zz"
    refine ⟨rfl, fun d H1 s1 h1 => ?_⟩
    walk_at "zz"
    refine z_kLst (by show 4 ≤ sizeLine; decide) fun p H2 hp s2 h2 => ?_
    walk_at "zz"
    refine z_inL (SqL.of h2) rfl rfl ?_
    rw [if_neg Bool.false_ne_true, in_kept]
    walk_at "zz"
    have zl := str_len z
    have hlen : 1 ≤ z.length := by
      have := List.length_pos_iff.mpr hne
      omega
    refine z_ite (fun e => ?_) (fun e => ?_)
    · walk_at "zz"
      refine k z H2 (s1.trans s2) ?_
      unfold lkind
      rw [if_pos (of_decide_eq_true e)]
    have e := of_decide_eq_false e
    walk_at "zz"
    have eBS : ∀ c, decide (c ∈ (((⟨BIG.toArray⟩ : Str) ++ (⟨SMALL.toArray⟩ : Str) : Str)).cps.toList) = decide (c ∈ BIG ++ SMALL) := fun c => decide_eq_decide.mpr (by show c ∈ tl _ ↔ _; rw [tl_app, tl_mk, tl_mk])
    have eL : tl (⟨LATER.toArray⟩ : Str) = LATER := tl_mk _
    have eD : tl "0123456789" = DIG := rfl
    have e48 : tl "0" = [48] := by decide +kernel
    have e45 : tl "-" = [45] := by decide +kernel
    have e0 : tl "" = [] := by decide +kernel
    -- the first question: a name
    refine z_cut (fun σ' H' => σ' = [some (.str z), some (.ref d), none, none] ∧ Same H H' ∧ H' d = some (.dK sgKv) ∧ ¬ ((((tl z).headD 0 ∈ BIG ++ SMALL ∧ (tl z).length ≤ 24) ∧ (tl z).filter (fun c => !decide (c ∈ LATER)) = []))) ?_ ?_
    · refine z_ifS ?_
      refine z_cutB (decide ((tl z).headD 0 ∈ BIG ++ SMALL ∧ (tl z).length ≤ 24)) ?_ fun H3 s3 => ?_
      · walk_at "zz"
        refine z_ixS (line_ge (by omega)) (head_at hlen) ?_
        walk_at "zz"
        rw [eBS]
        refine z_ite (fun e1 => ?_) (fun e1 => ?_)
        · walk_at "zz"
          refine ⟨?_, Same.refl _⟩
          rw [Bool.decide_and, e1, Bool.true_and]
          exact decide_eq_decide.mpr (by omega)
        · refine ⟨?_, Same.refl _⟩
          rw [Bool.decide_and, e1, Bool.false_and]
      have hd3 : H3 d = some (.dK sgKv) := s3 _ _ (s2 _ _ h1)
      have s03 := (s1.trans s2).trans s3
      refine z_ite (fun e1 => ?_) (fun e1 => ?_)
      · have e1 := of_decide_eq_true e1
        refine z_ifS (z_test (z_noneOf (x := ⟨LATER.toArray⟩) hz (fun R q => ?_) (fun c H4 s4 R q => ?_) (by simp) fun H4 s4 => z_kT ?_))
        · walk_at "zz"
          exact q
        · walk_at "zz"
          exact q
        · rw [eL]
          refine z_ite (fun e2 => ?_) (fun e2 => ?_)
          · have e2 := of_decide_eq_true e2
            walk_at "zz"
            have ek : lkind (tl z) = if (tl z).headD 0 ∈ BIG then tl "big" else tl "small" := by
              unfold lkind
              rw [if_neg e, if_pos ⟨e1, e2⟩]
            refine z_cutE (fun v H' => Same H4 H' ∧ ∃ x, v = .str x ∧ tl x = lkind (tl z)) ?_ ?_
            · walk_at "zz"
              refine z_ixS (line_ge (by omega)) (head_at hlen) ?_
              walk_at "zz"
              refine z_ite (fun e3 => ?_) (fun e3 => ?_)
              · have e3 : (tl z).headD 0 ∈ tl ⟨BIG.toArray⟩ := of_decide_eq_true e3
                rw [tl_mk] at e3
                walk_at "zz"
                exact ⟨Same.refl _, _, rfl, by rw [ek, if_pos e3]⟩
              · have e3 : ¬ (tl z).headD 0 ∈ tl ⟨BIG.toArray⟩ := of_decide_eq_false e3
                rw [tl_mk] at e3
                walk_at "zz"
                exact ⟨Same.refl _, _, rfl, by rw [ek, if_neg e3]⟩
            · rintro v H' ⟨s5, x, rfl, ex⟩
              walk_at "zz"
              exact k x H' ((s03.trans s4).trans s5) ex
          · have e2 := of_decide_eq_false e2
            walk_at "zz"
            exact ⟨rfl, s03.trans s4, s4 _ _ hd3, fun q => e2 q.2⟩
      · have e1 := of_decide_eq_false e1
        walk_at "zz"
        exact ⟨rfl, s03, hd3, fun q => e1 q.1⟩
    · rintro σ' H3 ⟨rfl, s3, h3, hn⟩
      walk_at "zz"
      generalize hdz : (if (tl z).headD 0 = 45 then (tl z).drop 1 else tl z) = dl
      have hdl : dl.length ≤ (tl z).length := by
        rw [← hdz]
        split
        · rw [List.length_drop]
          omega
        · exact Nat.le_refl _
      have ek : lkind (tl z) = if (dl ≠ [] ∧ dl.length ≤ 400 ∧ dl.filter (fun c => !decide (c ∈ DIG)) = []) ∧ (tl z = [48] ∨ dl.headD 0 ≠ 48) then tl "number" else tl "word " ++ tl z := by
        unfold lkind
        rw [if_neg e, if_neg hn]
        simp only [hdz]
      refine z_cutV (.str ⟨dl.toArray⟩) ?_ fun H4 s4 => ?_
      · walk_at "zz"
        refine z_ixS (line_ge (by omega)) (head_at hlen) ?_
        walk_at "zz"
        rw [one_eq e45]
        refine z_ite (fun e1 => ?_) (fun e1 => ?_)
        · have e1 := of_decide_eq_true e1
          walk_at "zz"
          refine ⟨congrArg V.str (str_ext ?_), Same.refl _⟩
          rw [tl_mk, ← hdz, if_pos e1]
          exact cut_from z 1
        · have e1 := of_decide_eq_false e1
          walk_at "zz"
          refine ⟨congrArg V.str (str_ext ?_), Same.refl _⟩
          rw [tl_mk, ← hdz, if_neg e1]
      generalize hg : (⟨dl.toArray⟩ : Str) = dz
      have ed : tl dz = dl := by rw [← hg, tl_mk]
      have dlen := str_len dz
      rw [ed] at dlen
      walk_at "zz"
      refine z_cut (fun σ' H' => σ' = [some (.str z), some (.ref d), some (.str dz), none] ∧ Same H H' ∧ ¬ ((dl ≠ [] ∧ dl.length ≤ 400 ∧ dl.filter (fun c => !decide (c ∈ DIG)) = []) ∧ (tl z = [48] ∨ dl.headD 0 ≠ 48))) ?_ ?_
      · refine z_ifS ?_
        refine z_cutB (decide (dl ≠ [] ∧ dl.length ≤ 400 ∧ dl.filter (fun c => !decide (c ∈ DIG)) = [])) ?_ fun H5 s5 => ?_
        · walk_at "zz"
          rw [txt_eq e0, ed]
          refine z_ite (fun e1 => ?_) (fun e1 => ?_)
          · have e1 := of_decide_eq_false (not_t e1)
            walk_at "zz"
            refine z_ite (fun e2 => ?_) (fun e2 => ?_)
            · have e2 := of_decide_eq_true e2
              refine z_test (z_noneOf (z := dz) (x := "0123456789") (by omega) (fun R q => ?_) (fun c H5 s5 R q => ?_) (by simp) fun H5 s5 => z_kT ?_)
              · walk_at "zz"
                exact q
              · walk_at "zz"
                exact q
              · rw [eD, ed]
                refine ⟨decide_eq_decide.mpr ?_, s5⟩
                constructor
                · intro q
                  exact ⟨e1, by omega, q⟩
                · intro q
                  exact q.2.2
            · have e2 := of_decide_eq_false e2
              refine ⟨(decide_eq_false ?_).symm, Same.refl _⟩
              intro q
              exact e2 (by omega)
          · have e1 := of_decide_eq_true (not_f e1)
            refine ⟨(decide_eq_false ?_).symm, Same.refl _⟩
            intro q
            exact q.1 e1
        have s05 := (s3.trans s4).trans s5
        refine z_ite (fun e1 => ?_) (fun e1 => ?_)
        · have e1 := of_decide_eq_true e1
          have hdlen : 1 ≤ dz.length := by
            have := List.length_pos_iff.mpr e1.1
            omega
          refine z_ifS ?_
          refine z_cutB (decide (tl z = [48] ∨ dl.headD 0 ≠ 48)) ?_ fun H6 s6 => ?_
          · walk_at "zz"
            rw [txt_eq e48]
            refine z_ite (fun e2 => ?_) (fun e2 => ?_)
            · refine ⟨(decide_eq_true ?_).symm, Same.refl _⟩
              exact .inl (of_decide_eq_true e2)
            · have e2 := of_decide_eq_false e2
              walk_at "zz"
              refine z_ixS (line_ge (by omega)) (head_at hdlen) ?_
              walk_at "zz"
              rw [one_eq e48, ed]
              refine ⟨?_, Same.refl _⟩
              rw [← decide_not]
              refine decide_eq_decide.mpr ?_
              exact ⟨fun q => .inr q, fun q => q.resolve_left e2⟩
          refine z_ite (fun e2 => ?_) (fun e2 => ?_)
          · have e2 := of_decide_eq_true e2
            walk_at "zz"
            refine k _ H6 (s05.trans s6) ?_
            rw [ek, if_pos ⟨e1, e2⟩]
          · have e2 := of_decide_eq_false e2
            walk_at "zz"
            exact ⟨rfl, s05.trans s6, fun q => e2 q.2⟩
        · have e1 := of_decide_eq_false e1
          walk_at "zz"
          exact ⟨rfl, s05, fun q => e1 q.1⟩
      · rintro σ' H5 ⟨rfl, s5, hn2⟩
        walk_at "zz"
        refine z_addS ?_ ?_
        · refine line_ge ?_
          have e5 : ("word " : Str).length = 5 := by decide +kernel
          omega
        walk_at "zz"
        refine k _ H5 s5 ?_
        rw [ek, if_neg hn2, tl_app]
end
end K3

local macro_rules | `(tactic| walk_at "z1") => `(tactic| ((with_reducible refine' z_kGetS ?zk ?zl ?_); (case zk => walk_at "hp"); (case zl => first | exact K3.sg_big | exact K3.sg_small | exact K3.sg_all)))
namespace K3
open PySem PySem.Spec PyProof.Rows L2 Nm
section
variable {P : Program} {w : World} {K : PySem.W.Frag} {mg : Str → Option Value} {base : Heap}
def spAsked : Sp := fun vs H Q _ => ∃ z : Str, vs = [.str z] ∧ z.length ≤ 100000 ∧ ∀ p H', Same H H' → H' p = some (.lst [.bl (isBig (tl z)), .bl (isSmall (tl z)), .bl (isNum (tl z))]) → Q (.ref p) H'
theorem ok_asked (T : Tx K mg) : FnOk P w K mg base CX0 3 T.aasked T.fdasked ["_law_word"] spAsked := by
  have Gbig : FnOk P w K mg base CX0 2 T.abig T.fdbig ["word"] (spW isBig) := ok_big T
  have Gsmall : FnOk P w K mg base CX0 2 T.asmall T.fdsmall ["word"] (spW isSmall) := ok_small T
  have Gnumber : FnOk P w K mg base CX0 1 T.anumber T.fdnumber ["word"] (spW isNum) := ok_number T
  refine T.Dasked.F.ok scasked (fun vs H Q E h => ?_) (fun cdv A outer s H vs Q E hr h => ?_)
  · obtain ⟨z, rfl, _⟩ := h
    rfl
  · obtain ⟨z, rfl, hz, k⟩ := h
    have hrbig := hr
    have hrsmall := hr
    have hrnumber := hr.mono (j := 1) (by decide)
    refine ⟨_, pss_one (ps_ret (pe_lst (pa_cons (pe_callN T.Dbig Gbig hrbig pass0 (pa_cons (pv 0) pa_nil)) (pa_cons (pe_callN T.Dsmall Gsmall hrsmall pass0 (pa_cons (pv 0) pa_nil)) (pa_cons (pe_callN T.Dnumber Gnumber hrnumber pass0 (pa_cons (pv 0) pa_nil)) pa_nil))))), ?_⟩
    walk_at "z0"
    walk_at "zz"
    refine ⟨_, rfl, hz, fun b1 H1 e1 s1 => ?_⟩
    walk_at "zz"
    refine ⟨_, rfl, hz, fun b2 H2 e2 s2 => ?_⟩
    walk_at "zz"
    refine ⟨_, rfl, hz, fun b3 H3 e3 s3 => ?_⟩
    walk_at "zz"
    refine z_kLst (by show 3 ≤ sizeLine; decide) fun p H4 hp s4 h4 => ?_
    walk_at "zz"
    subst e1 e2 e3
    exact k p H4 (((s1.trans s2).trans s3).trans s4) h4
def spSome (K : PySem.W.Frag) : Sp := fun vs H Q _ => ∃ (d : Addr) (m : Nat), vs = [.ref d] ∧ Pen K H d (m + 20) ∧ ∀ x H', okS 500 x → But d H H' → Pen K H' d m → Q (.str x) H'
theorem ok_some (T : Tx K mg) : FnOk P w K mg base CX0 3 T.asome T.fdsome ["_law_pen_here"] (spSome K) := by
  have Gsigns : FnOk P w K mg base CX0 1 T.asigns T.fdsigns [] spSigns := ok_signs T
  have Gdraw : FnOk P w K mg base CX0 1 T.adraw T.fddraw ["_law_pen_here", "_law_many"] (spDraw K) := ok_draw T
  have Gpick : FnOk P w K mg base CX0 2 T.apick T.fdpick ["_law_pen_here", "_law_some"] (spPick K) := ok_pick T
  refine T.Dsome.F.ok scsome (fun vs H Q E h => ?_) (fun cdv A outer s H vs Q E hr h => ?_)
  · obtain ⟨d, m, rfl, _⟩ := h
    rfl
  · obtain ⟨d, m, rfl, hp, k⟩ := h
    have hu := hu_of hr
    have hrsigns := hr.mono (j := 1) (by decide)
    have hrdraw := hr.mono (j := 1) (by decide)
    have hrpick := hr
    refine ⟨_, pss_cons (ps_set (i := 1) scsome.nd rfl (Or.inl rfl) (pe_dget hu (pe_callN0 T.Dsigns Gsigns hrsigns pass0) (pe_str) (fun _ _ => rfl)))
(pss_cons (ps_set (i := 2) scsome.nd rfl (Or.inl rfl) (pe_callN T.Ddraw Gdraw hrdraw pass0 (pa_cons (pv 0) (pa_cons (pe_int) pa_nil))))
(pss_cons (ps_if (pt_cmpR op_eq (pv 2) (pe_int) (nomark _))
(pss_one (ps_ret (pe_callN T.Dpick Gpick hrpick pass0 (pa_cons (pv 0) (pa_cons (pe_lst (pa_cons (pe_str) (pa_cons (pe_str) (pa_cons (pe_str) (pa_cons (pe_str) (pa_cons (pe_str) (pa_cons (pe_str) (pa_cons (pe_str) (pa_cons (pe_str) (pa_cons (pe_str) (pa_cons (pe_str) (pa_cons (pe_str) (pa_cons (pe_str) (pa_cons (pe_str) pa_nil)))))))))))))) pa_nil)))))
(pss_nil))
(pss_cons (ps_if (pt_cmpR op_eq (pv 2) (pe_int) (nomark _))
(pss_cons (ps_set (i := 3) scsome.nd rfl (Or.inl rfl) (pe_callN T.Dpick Gpick hrpick pass0 (pa_cons (pv 0) (pa_cons (pe_lst (pa_cons (pe_str) (pa_cons (pe_str) (pa_cons (pe_str) (pa_cons (pe_str) (pa_cons (pe_str) pa_nil)))))) pa_nil))))
(pss_one (ps_ret (pe_op op_addS (pv 3) (pe_callN T.Dpick Gpick hrpick pass0 (pa_cons (pv 0) (pa_cons (pe_lst (pa_cons (pe_str) (pa_cons (pe_str) (pa_cons (pe_str) (pa_cons (pe_op op_mulS (pe_str) (pe_int)) (pa_cons (pe_op op_addS (pe_str) (pe_op op_mulS (pe_str) (pe_int))) (pa_cons (pe_op op_mulS (pe_str) (pe_int)) (pa_cons (pe_str) (pa_cons (pe_str) pa_nil))))))))) pa_nil)))))))
(pss_nil))
(pss_cons (ps_if (pt_cmpR op_eq (pv 2) (pe_int) (nomark _))
(pss_one (ps_ret (pe_op op_addS (pe_callN T.Dpick Gpick hrpick pass0 (pa_cons (pv 0) (pa_cons (pe_lst (pa_cons (pe_str) (pa_cons (pe_str) (pa_cons (pe_str) (pa_cons (pe_str) pa_nil))))) pa_nil))) (pe_op op_mulS (pe_str) (pe_callN T.Dpick Gpick hrpick pass0 (pa_cons (pv 0) (pa_cons (pe_lst (pa_cons pe_int (pa_cons pe_int (pa_cons pe_int (pa_cons pe_int (pa_cons pe_int pa_nil)))))) pa_nil)))))))
(pss_nil))
(pss_cons (ps_set (i := 4) scsome.nd rfl (Or.inl rfl) (pe_callN T.Dpick Gpick hrpick pass0 (pa_cons (pv 0) (pa_cons (pe_callTy (call_list_str' rfl) (by rfl) T.n_list (by decide +kernel) (pa_cons (pe_op op_addS (pv 1) (pe_str)) pa_nil)) pa_nil))))
(pss_cons (ps_for PassesOwn.never rfl (pi_range1 rfl T.n_range (pa_cons (pe_callN T.Ddraw Gdraw hrdraw pass0 (pa_cons (pv 0) (pa_cons (pe_int) pa_nil))) pa_nil)) (pg_name (i := 5) scsome.nd rfl (Or.inl rfl))
(pss_one (ps_set (i := 4) scsome.nd rfl (Or.inl rfl) (pe_op op_addS (pv 4) (pe_callN T.Dpick Gpick hrpick pass0 (pa_cons (pv 0) (pa_cons (pe_callTy (call_list_str' rfl) (by rfl) T.n_list (by decide +kernel) (pa_cons (pe_op op_addS (pe_op op_addS (pv 1) (pv 1)) (pe_str)) pa_nil)) pa_nil)))))))
(pss_one (ps_ret (pv 4))))))))), ?_⟩
    walk_at "z0"
    walk_at "zz"
    refine ⟨rfl, fun g H1 s1 h1 => ?_⟩
    walk_at "zz"
    have eL : (⟨LATER.toArray⟩ : Str).length = 63 := by decide +kernel
    have oL : okS 63 ⟨LATER.toArray⟩ := ⟨Nat.le_of_eq eL, by decide +kernel⟩
    refine use_draw (hp.same s1) (by decide) (by decide) fun r H2 r0 r1 b2 p2 => ?_
    have b02 : But d H H2 := (same_but s1).trans b2
    walk_at "zz"
    refine z_ite (fun e => ?_) (fun e => ?_)
    · walk_at "zz"
      refine z_kLst (by decide) fun p H3 hp3 s3 h3 => ?_
      walk_at "zz"
      refine use_pick 500 (p2.same s3) h3 (by decide +kernel) (by simp) (by simp) fun x H4 ox b4 p4 => ?_
      walk_at "zz"
      exact k x H4 ox (b02.trans ((same_but s3).trans b4)) (p4.less (by omega))
    walk_at "zz"
    refine z_ite (fun e => ?_) (fun e => ?_)
    · walk_at "zz"
      refine z_kLst (by decide) fun p H3 hp3 s3 h3 => ?_
      walk_at "zz"
      refine use_pick 5 (p2.same s3) h3 (by decide +kernel) (by simp) (by simp) fun x H4 ox b4 p4 => ?_
      walk_at "zz"
      refine z_kLst (by decide) fun p5 H5 hp5 s5 h5 => ?_
      walk_at "zz"
      refine use_pick 401 (p4.same s5) h5 (by decide +kernel) (by simp) (by simp) fun y H6 oy b6 p6 => ?_
      walk_at "zz"
      refine z_addS (line_ge (by have := ox.1; have := oy.1; omega)) ?_
      walk_at "zz"
      exact k _ H6 ((okS_app ox oy).le (by decide)) (b02.trans ((same_but s3).trans (b4.trans ((same_but s5).trans b6)))) (p6.less (by omega))
    walk_at "zz"
    refine z_ite (fun e => ?_) (fun e => ?_)
    · walk_at "zz"
      refine z_kLst (by decide) fun p H3 hp3 s3 h3 => ?_
      walk_at "zz"
      refine use_pick 5 (p2.same s3) h3 (by decide +kernel) (by simp) (by simp) fun x H4 ox b4 p4 => ?_
      walk_at "zz"
      refine z_kLst (by decide) fun p5 H5 hp5 s5 h5 => ?_
      walk_at "zz"
      refine ⟨d, p5, _, _, rfl, p4.same s5, SqL.of h5, by simp, by simp, fun v H6 hv b6 p6 => ?_⟩
      obtain ⟨n, rfl, n0, n1⟩ : ∃ n : Int, v = .int n ∧ 0 ≤ n ∧ n ≤ 24 := by
        simp only [List.mem_cons, List.not_mem_nil, or_false] at hv
        rcases hv with q | q | q | q | q <;> exact ⟨_, q, by decide, by decide⟩
      refine z_mulS n0 (by omega) (by decide) ?_
      have ob : okS 24 (mulS "b" n.toNat) := by
        refine ⟨by rw [mulS_len]; show 1 * n.toNat ≤ 24; omega, strOk_iff.mpr fun c hc => ?_⟩
        rw [tl_mulS] at hc
        obtain ⟨l, hl, hcl⟩ := List.mem_flatten.mp hc
        rw [(List.mem_replicate.mp hl).2] at hcl
        exact (by decide +kernel : ∀ c ∈ tl "b", c < 0x110000) c hcl
      refine z_addS (line_ge (by have := ox.1; have := ob.1; omega)) ?_
      walk_at "zz"
      exact k _ H6 ((okS_app ox ob).le (by decide)) (b02.trans ((same_but s3).trans (b4.trans ((same_but s5).trans b6)))) (p6.less (by omega))
    walk_at "zz"
    have e22 : okS 22 "<=*+|.,:'#$&@!?/{}[]~^" := ⟨by decide +kernel, by decide +kernel⟩
    have e7 : okS 7 "<=*+|.-" := ⟨by decide +kernel, by decide +kernel⟩
    have o1 := okS_app oL e22
    have o2 := okS_app (okS_app oL oL) e7
    refine z_listS (line_ge (by have := o1.1; omega)) fun p H3 hp3 s3 h3 => ?_
    walk_at "zz"
    refine use_pick 1 (p2.same s3) h3 (signs_ok o1.2) (signs_ne (by rw [app_len, eL]; omega)) (by rw [signs_len]; have := o1.1; omega) fun x H4 ox b4 p4 => ?_
    walk_at "zz"
    refine use_draw p4 (by decide) (by decide) fun r2 H5 r20 r21 b5 p5 => ?_
    walk_at "zz"
    refine z_kIR1 (by omega) (by omega) ?_
    have b05 : But d H H5 := b02.trans ((same_but s3).trans (b4.trans b5))
    refine f_range (fun i σ' H' => ∃ (x : Str) (v3 v5 : Option V), σ' = [some (.ref d), some (.str ⟨LATER.toArray⟩), some (.int r), v3, some (.str x), v5] ∧ okS (1 + i) x ∧ i ≤ 7 ∧ But d H H' ∧ Pen K H' d (m + 17 - i)) ⟨x, none, none, rfl, ox, by decide, b05, p5.less (by omega)⟩ ?_ ?_
    · rintro i σ' H' hi ⟨x, v3, v5, rfl, ox, hi7, b6, p6⟩
      walk_at "zz"
      refine z_listS (line_ge (by have := o2.1; omega)) fun p H7 hp7 s7 h7 => ?_
      walk_at "zz"
      have p6' : Pen K H7 d (m + 16 - i + 1) := (p6.same s7).less (by omega)
      refine use_pick 1 p6' h7 (signs_ok o2.2) (signs_ne (by rw [app_len, app_len, eL]; omega)) (by rw [signs_len]; have := o2.1; omega) fun y H8 oy b8 p8 => ?_
      walk_at "zz"
      refine z_addS (line_ge (by have := ox.1; have := oy.1; omega)) ?_
      walk_at "zz"
      exact ⟨_, _, _, rfl, (okS_app ox oy).le (by omega), by omega, b6.trans ((same_but s7).trans b8), p8.less (by omega)⟩
    · rintro σ' H' ⟨x, v3, v5, rfl, ox, hi7, b6, p6⟩
      walk_at "zz"
      exact k _ _ (ox.le (by omega)) b6 (p6.less (by omega))
end
end K3

local macro_rules | `(tactic| walk_at "z1") => `(tactic| ((with_reducible refine' z_kGetS ?zk ?zl ?_); (case zk => walk_at "hp"); (case zl => first | exact K3.sg_big | exact K3.sg_small | exact K3.sg_all)))
namespace K3
open PySem PySem.Spec PyProof.Rows L2 Nm
theorem fl_ok {P : Nat → Prop} {k : Nat} {s : F × List Nat} (h1 : ∀ p ∈ s.1, ∀ c ∈ p.1, P c) (h2 : ∀ c ∈ s.2, P c) : ∀ p ∈ fl k s, ∀ c ∈ p.1, P c := by
  unfold fl
  split
  · exact h1
  · intro p hp c hc
    rcases List.mem_append.mp hp with q | q
    · exact h1 p q c hc
    · rw [List.mem_singleton.mp q] at hc
      exact h2 c hc
theorem wl_ok {P : Nat → Prop} : ∀ (z : List Nat) (k : Nat) (s : F × List Nat), (∀ c ∈ z, P c) → (∀ p ∈ s.1, ∀ c ∈ p.1, P c) → (∀ c ∈ s.2, P c) → ∀ p ∈ wl z k s, ∀ c ∈ p.1, P c
  | [], k, s, _, h1, h2 => fl_ok h1 h2
  | c :: r, k, s, h, h1, h2 => by
    show ∀ p ∈ (if c = 59 then fl k s else wl r (k + 1) (stp k c s)), ∀ c ∈ p.1, P c
    have hc : P c := h c (by simp)
    by_cases e : c = 59
    · rw [if_pos e]
      exact fl_ok h1 h2
    · rw [if_neg e]
      have q1 : ∀ p ∈ (stp k c s).1, ∀ c' ∈ p.1, P c' := by
        unfold stp
        split
        · intro p hp c' hc'
          rcases List.mem_append.mp hp with q | q
          · exact fl_ok h1 h2 p q c' hc'
          · rw [List.mem_singleton.mp q] at hc'
            rw [List.mem_singleton.mp hc']
            exact hc
        · split
          · exact fl_ok h1 h2
          · exact h1
      have q2 : ∀ c' ∈ (stp k c s).2, P c' := by
        unfold stp
        split
        · intro c' hc'
          cases hc'
        · split
          · intro c' hc'
            cases hc'
          · intro c' hc'
            rcases List.mem_append.mp hc' with q | q
            · exact h2 c' q
            · rw [List.mem_singleton.mp q]
              exact hc
      exact wl_ok r (k + 1) _ (fun c' hc' => h c' (by simp [hc'])) q1 q2
theorem shaped_wd {z : Str} (h : PyData.strOk z = true) : SeqAt.shaped (.list ((words (tl z)).map wd)) = true := by
  refine shaped_list (n := 1) (by decide) fun d hd => ?_
  obtain ⟨p, hp, rfl⟩ := List.mem_map.mp hd
  have q := wl_ok (P := fun c => c < 0x110000) (tl z) 0 ([], []) (strOk_iff.mp h) (fun _ h => by cases h) (fun _ h => by cases h) p hp
  have q2 : PyData.strOk ⟨p.1.toArray⟩ = true := strOk_iff.mpr (by rw [tl_mk]; exact q)
  refine ⟨?_, Nat.le_refl _⟩
  show (PyData.strOk ⟨p.1.toArray⟩ && (true && true)) = true
  rw [q2]
  rfl
def odds : List V := [.str "", .str "(", .str ")", .str "=", .str " ", .str "a b", .str "1 ", .str "A)", .str "-0", .str "00", .str "-", .str "fun", .str "_", .str (mulS "1" 401), .str (mulS "a" 25)]
def oddV : V → Bool
  | .str x => decide (x.length ≤ 1000) && !isBig (tl x) && !isSmall (tl x) && !isNum (tl x)
  | _ => false
theorem odds_ok : odds.all oddV = true := by decide +kernel
section
variable {P : Program} {w : World} {K : PySem.W.Frag} {mg : Str → Option Value} {base : Heap}
def spLaw (K : PySem.W.Frag) : Sp := fun vs H Q _ => ∃ (a : Addr) (ns : List Int), vs = [.ref a] ∧ SqL K H a (ns.map V.int) ∧ ∀ H', Q (.bl true) H'
theorem ok_law (T : Tx K mg) : FnOk P w K mg base CX0 4 T.alaw T.fdlaw ["_law_script"] (spLaw K) := by
  have Gpen : FnOk P w K mg base CX0 1 T.apen T.fdpen ["_law_script"] (spPen K) := ok_pen T
  have Gpick : FnOk P w K mg base CX0 2 T.apick T.fdpick ["_law_pen_here", "_law_some"] (spPick K) := ok_pick T
  have Gsome : FnOk P w K mg base CX0 3 T.asome T.fdsome ["_law_pen_here"] (spSome K) := ok_some T
  have Gkind : FnOk P w K mg base CX0 2 T.akind T.fdkind ["_law_word"] spKind := ok_kind T
  have Gasked : FnOk P w K mg base CX0 3 T.aasked T.fdasked ["_law_word"] spAsked := ok_asked T
  have Gwords : FnOk P w K mg base CX0 1 T.awords T.fdwords ["line"] (spWords K) := ok_words T
  have Glwords : FnOk P w K mg base CX0 1 T.alwords T.fdlwords ["_law_line"] (spLWords K) := ok_lwords T
  refine T.Dlaw.F.ok sclaw (fun vs H Q E h => ?_) (fun cdv A outer s H vs Q E hr h => ?_)
  · obtain ⟨a, ns, rfl, _⟩ := h
    rfl
  · obtain ⟨a, ns, rfl, hS, k⟩ := h
    have hu := hu_of hr
    have hrpen := hr.mono (j := 1) (by decide)
    have hrpick := hr.mono (j := 2) (by decide)
    have hrsome := hr
    have hrkind := hr.mono (j := 2) (by decide)
    have hrasked := hr
    have hrwords := hr.mono (j := 1) (by decide)
    have hrlwords := hr.mono (j := 1) (by decide)
    refine ⟨_, pss_cons (ps_set (i := 1) sclaw.nd rfl (Or.inl rfl) (pe_callN T.Dpen Gpen hrpen pass0 (pa_cons (pv 0) pa_nil)))
(pss_cons (ps_set (i := 2) sclaw.nd rfl (Or.inl rfl) (pe_str))
(pss_cons (ps_for PassesOwn.never rfl (pi_range1 rfl T.n_range (pa_cons (pe_int) pa_nil)) (pg_name (i := 3) sclaw.nd rfl (Or.inl rfl))
(pss_cons (ps_set (i := 4) sclaw.nd rfl (Or.inl rfl) (pe_callN T.Dsome Gsome hrsome pass0 (pa_cons (pv 1) pa_nil)))
(pss_cons (ps_set (i := 5) sclaw.nd rfl (Or.inl rfl) (pe_cut (pe_ifExp (pt_cmpR op_eq (pv 4) (pe_str) (nomark _)) (pe_str) (pe_callN T.Dkind Gkind hrkind pass0 (pa_cons (pv 4) pa_nil)))))
(pss_cons (ps_if (pt_cmpR (op_neD hr.units) (pe_callN T.Dasked Gasked hrasked pass0 (pa_cons (pv 4) pa_nil)) (pe_lst (pa_cons (pe_cmpR op_eq (pv 5) (pe_str) (nomark _)) (pa_cons (pe_cmpR op_eq (pv 5) (pe_str) (nomark _)) (pa_cons (pe_cmpR op_eq (pv 5) (pe_str) (nomark _)) pa_nil)))) (nomark _))
(pss_one (ps_ret (pe_bl)))
(pss_nil))
(pss_one (ps_set (i := 2) sclaw.nd rfl (Or.inl rfl) (pe_op op_addS (pe_op op_addS (pv 2) (pv 4)) (pe_callN T.Dpick Gpick hrpick pass0 (pa_cons (pv 1) (pa_cons (pe_slice sl_list (pe_lst (pa_cons (pe_str) (pa_cons (pe_str) (pa_cons (pe_str) (pa_cons (pe_str) (pa_cons (pe_str) (pa_cons (pe_str) (pa_cons (pe_str) (pa_cons (pe_str) (pa_cons (pe_str) pa_nil)))))))))) po_none (po_some (pe_op op_add (pe_int) (pe_op op_mul (pe_int) (pe_callTy call_int1n (by rfl) T.n_int (by decide +kernel) (pa_cons (pe_cmpR op_gt (pv 3) (pe_int) (nomark _)) pa_nil)))))) pa_nil))))))))))
(pss_cons (ps_set (i := 6) sclaw.nd rfl (Or.inl rfl) (pe_callN T.Dwords Gwords hrwords pass0 (pa_cons (pv 2) pa_nil)))
(pss_cons (ps_if (pt_cut (PW.pt (pw_or (pt_not (pt_val (pe_callB call_isi (by rfl) T.n_isinstance (by decide +kernel) (pa_cons (pv 6) (pa_cons (pe_bltn (v := .ty "tuple") rfl T.n_tuple (by decide +kernel) rfl) pa_nil))))) (pw_or1 (pt_cmpR (op_neD hr.units) (pe_callTy call_listOf (by rfl) T.n_list (by decide +kernel) (pa_cons (pv 6) pa_nil)) (pe_callN T.Dlwords Glwords hrlwords pass0 (pa_cons (pv 2) pa_nil)) (nomark _))))))
(pss_one (ps_ret (pe_bl)))
(pss_nil))
(pss_cons (ps_for PassesOwn.never rfl (pi_list (pe_lst (pa_cons (pe_str) (pa_cons (pe_str) (pa_cons (pe_str) (pa_cons (pe_str) (pa_cons (pe_str) (pa_cons (pe_str) (pa_cons (pe_str) (pa_cons (pe_str) (pa_cons (pe_str) (pa_cons (pe_str) (pa_cons (pe_str) (pa_cons (pe_str) (pa_cons (pe_str) (pa_cons (pe_op op_mulS (pe_str) (pe_int)) (pa_cons (pe_op op_mulS (pe_str) (pe_int)) pa_nil))))))))))))))))) (pg_name (i := 7) sclaw.nd rfl (Or.inl rfl))
(pss_one (ps_if (pt_cmpR (op_neD hr.units) (pe_callN T.Dasked Gasked hrasked pass0 (pa_cons (pv 7) pa_nil)) (pe_lst (pa_cons (pe_bl) (pa_cons (pe_bl) (pa_cons (pe_bl) pa_nil)))) (nomark _))
(pss_one (ps_ret (pe_bl)))
(pss_nil))))
(pss_one (ps_ret (pe_and (pe_cmpR (op_eqD hr.units) (pe_callN T.Dwords Gwords hrwords pass0 (pa_cons (pe_str) pa_nil)) (pe_tup pa_nil) (nomark _)) (pe_and (pe_cmpR (op_eqD hr.units) (pe_callN T.Dwords Gwords hrwords pass0 (pa_cons (pe_str) pa_nil)) (pe_tup pa_nil) (nomark _)) (pe_one (pe_cmpR (op_eqD hr.units) (pe_callN T.Dwords Gwords hrwords pass0 (pa_cons (pe_str) pa_nil)) (pe_tup (pa_cons (pe_tup (pa_cons (pe_str) (pa_cons (pe_int) pa_nil))) (pa_cons (pe_tup (pa_cons (pe_str) (pa_cons (pe_int) pa_nil))) pa_nil))) (nomark _)))))))))))), ?_⟩
    walk_at "z0"
    walk_at "zz"
    refine ⟨a, ns, rfl, hS, fun d H1 hd s1 p1 => ?_⟩
    walk_at "zz"
    refine z_kIR1 (by decide) (by decide) ?_
    have e0 : tl "" = [] := by decide +kernel
    refine f_range (fun i σ' H' => ∃ (x : Str) (v3 v4 v5 : Option V), σ' = [some (.ref a), some (.ref d), some (.str x), v3, v4, v5, none, none] ∧ okS (510 * i) x ∧ Pen K H' d (100000000 - 21 * i)) ⟨"", none, none, none, rfl, ⟨by decide +kernel, by decide +kernel⟩, p1⟩ ?_ ?_
    · rintro i σ' H' hi ⟨x, v3, v4, v5, rfl, ox, p2⟩
      have hi12 : i < 12 := hi
      walk_at "zz"
      have p2' : Pen K H' d (100000000 - 21 * (i + 1) + 1 + 20) := p2.less (by omega)
      refine ⟨d, _, rfl, p2', fun y H2 oy b2 p3 => ?_⟩
      walk_at "zz"
      refine z_cutE (fun v H3 => Same H2 H3 ∧ ∃ u, v = .str u ∧ isBig (tl y) = decide (tl u = tl "big") ∧ isSmall (tl y) = decide (tl u = tl "small") ∧ isNum (tl y) = decide (tl u = tl "number")) ?_ ?_
      · walk_at "zz"
        rw [txt_eq e0]
        refine z_ite (fun e => ?_) (fun e => ?_)
        · have e := of_decide_eq_true e
          walk_at "zz"
          refine ⟨Same.refl _, _, rfl, ?_⟩
          rw [e, e0]
          decide +kernel
        · have e := of_decide_eq_false e
          walk_at "zz"
          refine ⟨y, rfl, by have := oy.1; omega, e, fun u H3 s3 eu => ?_⟩
          walk_at "zz"
          refine ⟨s3, u, rfl, ?_⟩
          rw [eu]
          exact kinds e
      rintro v H3 ⟨s3, u, rfl, k1, k2, k3⟩
      walk_at "zz"
      refine ⟨y, rfl, by have := oy.1; omega, fun q H4 s4 h4 => ?_⟩
      walk_at "zz"
      refine z_kLst (by show 3 ≤ sizeLine; decide) fun q5 H5 hq5 s5 h5 => ?_
      walk_at "zz"
      rw [k1, k2, k3] at h4
      have eq : ∀ (t : Str), decide (u = t) = decide (tl u = tl t) := fun t => txt_eq rfl
      rw [eq, eq, eq] at h5
      refine z_neD (d := .list [.bool _, .bool _, .bool _]) (.lst (SqL.of (s5 _ _ h4)) (.cons (.bl _) (.cons (.bl _) (.cons (.bl _) .nil)))) (.lst (SqL.of h5) (.cons (.bl _) (.cons (.bl _) (.cons (.bl _) .nil)))) rfl rfl ?_
      rw [eqv_refl_shaped rfl]
      walk_at "zz"
      refine z_addS (line_ge (by have := ox.1; have := oy.1; omega)) ?_
      walk_at "zz"
      refine z_kLst (by show 9 ≤ sizeLine; decide) fun q6 H6 hq6 s6 h6 => ?_
      walk_at "zz"
      refine z_slL (SqL.of h6) fun q7 H7 hq7 s7 h7 => ?_
      walk_at "zz"
      have p4 : Pen K H7 d (100000000 - 21 * (i + 1) + 1) := ((((p3.same s3).same s4).same s5).same s6).same s7
      have hcut : ∀ b : Bool, (cutV [V.str " ", V.str "", V.str "(", V.str ")", V.str "  ", V.str " ( ", V.str ") ", V.str " ; ", V.str ";"] none (some (7 + 2 * (if b = true then 1 else 0)))).all (okV 3) = true ∧ cutV [V.str " ", V.str "", V.str "(", V.str ")", V.str "  ", V.str " ( ", V.str ") ", V.str " ; ", V.str ";"] none (some (7 + 2 * (if b = true then 1 else 0))) ≠ [] := by
        intro b
        cases b <;> decide +kernel
      refine use_pick 3 p4 h7 (hcut _).1 (hcut _).2 (Nat.le_trans (cutV_length _ _ _) (by decide)) fun g H8 og b8 p8 => ?_
      have o1 := okS_app ox oy
      have o2 := okS_app o1 og
      have l1 := app_len x y
      refine z_addS (line_ge (by have := ox.1; have := oy.1; have := og.1; omega)) ?_
      walk_at "zz"
      exact ⟨_, _, _, _, rfl, o2.le (by omega), p8.less (by omega)⟩
    · rintro σ' H' ⟨x, v3, v4, v5, rfl, ox, p2⟩
      have hx : x.length ≤ 100000 := by
        have q : x.length ≤ 510 * Int.toNat 12 := ox.1
        have : Int.toNat 12 = 12 := rfl
        omega
      walk_at "zz"
      refine ⟨x, rfl, hx, fun p us H2 s2 h2 l2 => ?_⟩
      walk_at "zz"
      refine z_cutB false ?_ fun H3 s3 => ?_
      · walk_at "zz"
        refine z_isi (b := true) (.ty "tuple") (.base (.tup h2)) (kit_ty (by decide +kernel)) ?_
        walk_at "zz"
        refine z_listOfT (SqT.of h2) fun q H3 hq s3 h3 => ?_
        walk_at "zz"
        refine ⟨x, rfl, hx, fun q4 H4 s4 g4 => ?_⟩
        walk_at "zz"
        obtain ⟨vs, h5, h6, _⟩ := g4.sq
        refine z_neD (.lst (SqL.of (s4 _ _ h3)) (dps_keep (same_keep (s3.trans s4)) l2)) (.lst h5 h6) (shaped_wd ox.2) (shaped_wd ox.2) ?_
        rw [eqv_refl_shaped (shaped_wd ox.2)]
        walk_at "zz"
        exact ⟨rfl, s3.trans s4⟩
      refine iteF ?_
      walk_at "zz"
      refine z_kLst (by show 15 ≤ sizeLine; decide) fun q4 H4 hq4 s4 h4 => ?_
      walk_at "zz"
      have hdx : H4 q4 = some (.lst odds) := h4
      refine z_kIL (SqL.of hdx) (f_list (K := K) (a := q4) (xs := odds) (fun i σ' H' => ∃ v3 v4 v5 v7 : Option V, σ' = [some (.ref a), some (.ref d), some (.str x), v3, v4, v5, some (.ref p), v7] ∧ H' q4 = some (.lst odds)) ⟨_, _, _, _, rfl, hdx⟩ (fun i σ' H' ⟨_, _, _, _, _, q⟩ => SqL.of q) ?_ ?_)
      · rintro i v σ' H' hv ⟨v3, v4, v5, v7, rfl, h5⟩
        have ho := List.all_eq_true.mp odds_ok v (List.mem_of_getElem? hv)
        obtain ⟨y, rfl, y1, y2, y3, y4⟩ : ∃ y, v = .str y ∧ y.length ≤ 1000 ∧ isBig (tl y) = false ∧ isSmall (tl y) = false ∧ isNum (tl y) = false := by
          cases v with
          | str y =>
            have q : (decide (y.length ≤ 1000) && !isBig (tl y) && !isSmall (tl y) && !isNum (tl y)) = true := ho
            simp only [Bool.and_eq_true, decide_eq_true_eq, Bool.not_eq_true'] at q
            exact ⟨y, rfl, q.1.1.1, q.1.1.2, q.1.2, q.2⟩
          | _ => cases ho
        walk_at "zz"
        refine ⟨y, rfl, by omega, fun q6 H6 s6 h6 => ?_⟩
        rw [y2, y3, y4] at h6
        walk_at "zz"
        refine z_kLst (by show 3 ≤ sizeLine; decide) fun q7 H7 hq7 s7 h7 => ?_
        refine z_neD (d := .list [.bool _, .bool _, .bool _]) (.lst (SqL.of (s7 _ _ h6)) (.cons (.bl _) (.cons (.bl _) (.cons (.bl _) .nil)))) (.lst (SqL.of h7) (.cons (.bl _) (.cons (.bl _) (.cons (.bl _) .nil)))) rfl rfl ?_
        rw [eqv_refl_shaped rfl]
        walk_at "zz"
        exact ⟨_, _, _, _, rfl, s7 _ _ (s6 _ _ h5)⟩
      · rintro σ' H' ⟨v3, v4, v5, v7, rfl, h5⟩
        have w1 : words (tl "") = [] := by decide +kernel
        have w2 : words (tl "  ; a") = [] := by decide +kernel
        have w3 : words (tl "))") = [([41], 1), ([41], 2)] := by decide +kernel
        have e41 : (⟨[41].toArray⟩ : Str) = ")" := str_ext (by decide +kernel)
        walk_at "zz"
        refine ⟨"", rfl, by decide +kernel, fun p1 us1 H1 s1 h1 l1 => ?_⟩
        rw [w1] at l1
        walk_at "zz"
        refine z_kTup (Nat.zero_le _) fun q1 H2 hq1 s2 h2 => ?_
        refine z_eqD (.tup (SqT.of (s2 _ _ h1)) (dps_keep (same_keep s2) l1)) (.tup (SqT.of h2) .nil) rfl rfl ?_
        rw [List.map_nil, eqv_refl_shaped rfl]
        walk_at "zz"
        refine ⟨"  ; a", rfl, by decide +kernel, fun p1 us1 H1 s1 h1 l1 => ?_⟩
        rw [w2] at l1
        walk_at "zz"
        refine z_kTup (Nat.zero_le _) fun q1 H2 hq1 s2 h2 => ?_
        refine z_eqD (.tup (SqT.of (s2 _ _ h1)) (dps_keep (same_keep s2) l1)) (.tup (SqT.of h2) .nil) rfl rfl ?_
        rw [List.map_nil, eqv_refl_shaped rfl]
        walk_at "zz"
        refine ⟨"))", rfl, by decide +kernel, fun p1 us1 H1 s1 h1 l1 => ?_⟩
        rw [w3] at l1
        walk_at "zz"
        refine z_kTup (by show 2 ≤ sizeLine; decide) fun q1 H2 hq1 s2 h2 => ?_
        walk_at "zz"
        refine z_kTup (by show 2 ≤ sizeLine; decide) fun q2 H3 hq2 s3 h3 => ?_
        walk_at "zz"
        refine z_kTup (by show 2 ≤ sizeLine; decide) fun q3 H4 hq3 s4 h4 => ?_
        have hd : [([41], 1), ([41], 2)].map wd = [.tuple [.str ")", .int 1], .tuple [.str ")", .int 2]] := by
          show [PyData.tuple [.str ⟨[41].toArray⟩, .int 1], .tuple [.str ⟨[41].toArray⟩, .int 2]] = _
          rw [e41]
        rw [hd] at l1
        have s14 := (s2.trans s3).trans s4
        refine z_eqD (.tup (SqT.of (s14 _ _ h1)) (dps_keep (same_keep s14) l1)) (.tup (SqT.of h4) (.cons (.tup (SqT.of (s4 _ _ (s3 _ _ h2))) (.cons (.str _) (.cons (.int _) .nil))) (.cons (.tup (SqT.of (s4 _ _ h3)) (.cons (.str _) (.cons (.int _) .nil))) .nil))) (by decide +kernel) (by decide +kernel) ?_
        rw [eqv_refl_shaped (by decide +kernel)]
        walk_at "zz"
        exact k _
end
end K3

open PySem PySem.W PyProof.Rows
set_option maxRecDepth 100000 in
set_option maxHeartbeats 0 in
theorem PySem.Challenge.cw_namedmeets_k03_words_of_lines_holds : PySem.Challenge.rw_namedmeets_k03_words_of_lines.Holds := by
  w_on; o_law; k_head; (case hw => w_witness2)
  k_fill
  refine Nm.walk_ofX (l := PySem.Challenge.rw_namedmeets_k03_words_of_lines) (n := 63) (k := 4) (x := "_law_script") (CX := L2.CX0) (sp := K3.spLaw) rfl (by decide) rfl ⟨rfl, by decide, by decide⟩ (fun w h Y => PySem.W.kIn_of Y) ?F (fun K H a ns _ hS => ⟨a, ns, rfl, hS, fun _ => rfl⟩) (fun _ _ _ _ z => z)
  case F =>
    intro w mg fa h XP KX G hmg
    obtain ⟨anamed, fdnamed, Dnamed⟩ : ∃ a fd, Nm.Df _ mg "is_named" K3.snamed ["word", "first"] a fd := by
      refine' Nm.df_mk KX G ?n ?l ?c ?k (fun _ _ _ _ _ _ us hl => match us, hl with | [_, _], _ => rfl)
      (case n => k_is); (case l => k_is); (case c => k_is); (case k => k_is)
    obtain ⟨abig, fdbig, Dbig⟩ : ∃ a fd, Nm.Df _ mg "is_big" K3.sbig ["word"] a fd := by
      refine' Nm.df_mk KX G ?n ?l ?c ?k (fun _ _ _ _ _ _ us hl => match us, hl with | [_], _ => rfl)
      (case n => k_is); (case l => k_is); (case c => k_is); (case k => k_is)
    obtain ⟨asmall, fdsmall, Dsmall⟩ : ∃ a fd, Nm.Df _ mg "is_small" K3.ssmall ["word"] a fd := by
      refine' Nm.df_mk KX G ?n ?l ?c ?k (fun _ _ _ _ _ _ us hl => match us, hl with | [_], _ => rfl)
      (case n => k_is); (case l => k_is); (case c => k_is); (case k => k_is)
    obtain ⟨anumber, fdnumber, Dnumber⟩ : ∃ a fd, Nm.Df _ mg "is_number" K3.snumber ["word"] a fd := by
      refine' Nm.df_mk KX G ?n ?l ?c ?k (fun _ _ _ _ _ _ us hl => match us, hl with | [_], _ => rfl)
      (case n => k_is); (case l => k_is); (case c => k_is); (case k => k_is)
    obtain ⟨awords, fdwords, Dwords⟩ : ∃ a fd, Nm.Df _ mg "words_of" K3.swords ["line"] a fd := by
      refine' Nm.df_mk KX G ?n ?l ?c ?k (fun _ _ _ _ _ _ us hl => match us, hl with | [_], _ => rfl)
      (case n => k_is); (case l => k_is); (case c => k_is); (case k => k_is)
    obtain ⟨apen, fdpen, Dpen⟩ : ∃ a fd, Nm.Df _ mg "_law_pen" K3.spen ["_law_script"] a fd := by
      refine' Nm.df_mk KX G ?n ?l ?c ?k (fun _ _ _ _ _ _ us hl => match us, hl with | [_], _ => rfl)
      (case n => k_is); (case l => k_is); (case c => k_is); (case k => k_is)
    obtain ⟨adraw, fddraw, Ddraw⟩ : ∃ a fd, Nm.Df _ mg "_law_draw" K3.sdraw ["_law_pen_here", "_law_many"] a fd := by
      refine' Nm.df_mk KX G ?n ?l ?c ?k (fun _ _ _ _ _ _ us hl => match us, hl with | [_, _], _ => rfl)
      (case n => k_is); (case l => k_is); (case c => k_is); (case k => k_is)
    obtain ⟨apick, fdpick, Dpick⟩ : ∃ a fd, Nm.Df _ mg "_law_pick" K3.spick ["_law_pen_here", "_law_some"] a fd := by
      refine' Nm.df_mk KX G ?n ?l ?c ?k (fun _ _ _ _ _ _ us hl => match us, hl with | [_, _], _ => rfl)
      (case n => k_is); (case l => k_is); (case c => k_is); (case k => k_is)
    obtain ⟨asigns, fdsigns, Dsigns⟩ : ∃ a fd, Nm.Df _ mg "_law_signs" K3.ssigns [] a fd := by
      refine' Nm.df_mk KX G ?n ?l ?c ?k (fun _ _ _ _ _ _ us hl => match us, hl with | [], _ => rfl)
      (case n => k_is); (case l => k_is); (case c => k_is); (case k => k_is)
    obtain ⟨alwords, fdlwords, Dlwords⟩ : ∃ a fd, Nm.Df _ mg "_law_words" K3.slwords ["_law_line"] a fd := by
      refine' Nm.df_mk KX G ?n ?l ?c ?k (fun _ _ _ _ _ _ us hl => match us, hl with | [_], _ => rfl)
      (case n => k_is); (case l => k_is); (case c => k_is); (case k => k_is)
    obtain ⟨akind, fdkind, Dkind⟩ : ∃ a fd, Nm.Df _ mg "_law_word_kind" K3.skind ["_law_word"] a fd := by
      refine' Nm.df_mk KX G ?n ?l ?c ?k (fun _ _ _ _ _ _ us hl => match us, hl with | [_], _ => rfl)
      (case n => k_is); (case l => k_is); (case c => k_is); (case k => k_is)
    obtain ⟨asome, fdsome, Dsome⟩ : ∃ a fd, Nm.Df _ mg "_law_some_word" K3.ssome ["_law_pen_here"] a fd := by
      refine' Nm.df_mk KX G ?n ?l ?c ?k (fun _ _ _ _ _ _ us hl => match us, hl with | [_], _ => rfl)
      (case n => k_is); (case l => k_is); (case c => k_is); (case k => k_is)
    obtain ⟨aasked, fdasked, Dasked⟩ : ∃ a fd, Nm.Df _ mg "_law_asked" K3.sasked ["_law_word"] a fd := by
      refine' Nm.df_mk KX G ?n ?l ?c ?k (fun _ _ _ _ _ _ us hl => match us, hl with | [_], _ => rfl)
      (case n => k_is); (case l => k_is); (case c => k_is); (case k => k_is)
    obtain ⟨alaw, fdlaw, Dlaw, Blaw⟩ : ∃ a fd, Nm.Df _ mg "law" K3.slaw ["_law_script"] a fd ∧ ∀ (s : Shared) (us : List Value), us.length = (["_law_script"] : List Str).length → BindsTo s fd ⟨us, []⟩ ((["_law_script"] : List Str).zip us) := by
      refine' Nm.df_mkB KX G ?n ?l ?c ?k (fun _ _ _ _ _ _ us hl => match us, hl with | [_], _ => rfl)
      (case n => k_is); (case l => k_is); (case c => k_is); (case k => k_is)
    obtain ⟨tBIG_LETTERS, gBIG_LETTERS⟩ : ∃ t, mg "BIG_LETTERS" = some (.str "ABCDEFGHIJKLMNOPQRSTUVWXYZ" t) := by
      refine' Nm.str_mk KX G ?n
      (case n => k_is)
    obtain ⟨tSMALL_LETTERS, gSMALL_LETTERS⟩ : ∃ t, mg "SMALL_LETTERS" = some (.str "abcdefghijklmnopqrstuvwxyz" t) := by
      refine' Nm.str_mk KX G ?n
      (case n => k_is)
    obtain ⟨tDIGITS, gDIGITS⟩ : ∃ t, mg "DIGITS" = some (.str "0123456789" t) := by
      refine' Nm.str_mk KX G ?n
      (case n => k_is)
    obtain ⟨tLATER, gLATER⟩ : ∃ t, mg "LATER" = some (.str "ABCDEFGHIJKLMNOPQRSTUVWXYZabcdefghijklmnopqrstuvwxyz0123456789_" t) := Nm.loose_mk XP (.head _)
    obtain ⟨rKEPT, gKEPT, qKEPT⟩ : ∃ a, mg "KEPT" = some (.ref a) ∧ ∀ H, L2.SqT _ H a [.str "kind", .str "fun", .str "let", .str "in"] := by
      refine' Nm.tup_mk _ KX G ?e ?l ?z ?r
      (case e => k_is); (case l => k_is); (case z => decide); (case r => exact .cons ⟨_, rfl⟩ (.cons ⟨_, rfl⟩ (.cons ⟨_, rfl⟩ (.cons ⟨_, rfl⟩ .nil))))
    have n_len : mg "len" = none := by
      refine' PySem.W.mg_none_of KX G ?n
      (case n => k_is)
    have n_all : mg "all" = none := by
      refine' PySem.W.mg_none_of KX G ?n
      (case n => k_is)
    have n_enumerate : mg "enumerate" = none := by
      refine' PySem.W.mg_none_of KX G ?n
      (case n => k_is)
    have n_tuple : mg "tuple" = none := by
      refine' PySem.W.mg_none_of KX G ?n
      (case n => k_is)
    have n_list : mg "list" = none := by
      refine' PySem.W.mg_none_of KX G ?n
      (case n => k_is)
    have n_int : mg "int" = none := by
      refine' PySem.W.mg_none_of KX G ?n
      (case n => k_is)
    have n_range : mg "range" = none := by
      refine' PySem.W.mg_none_of KX G ?n
      (case n => k_is)
    have n_isinstance : mg "isinstance" = none := by
      refine' PySem.W.mg_none_of KX G ?n
      (case n => k_is)
    have e : fa = alaw := Value.ref.inj (Option.some.inj (hmg.symm.trans Dlaw.g))
    subst e
    exact ⟨_, fun s v => Blaw s [v] rfl, fun base _ _ => K3.ok_law { anamed := anamed, fdnamed := fdnamed, Dnamed := Dnamed, abig := abig, fdbig := fdbig, Dbig := Dbig, asmall := asmall, fdsmall := fdsmall, Dsmall := Dsmall, anumber := anumber, fdnumber := fdnumber, Dnumber := Dnumber, awords := awords, fdwords := fdwords, Dwords := Dwords, apen := apen, fdpen := fdpen, Dpen := Dpen, adraw := adraw, fddraw := fddraw, Ddraw := Ddraw, apick := apick, fdpick := fdpick, Dpick := Dpick, asigns := asigns, fdsigns := fdsigns, Dsigns := Dsigns, alwords := alwords, fdlwords := fdlwords, Dlwords := Dlwords, akind := akind, fdkind := fdkind, Dkind := Dkind, asome := asome, fdsome := fdsome, Dsome := Dsome, aasked := aasked, fdasked := fdasked, Dasked := Dasked, alaw := fa, fdlaw := fdlaw, Dlaw := Dlaw, t_BIG_LETTERS := tBIG_LETTERS, g_BIG_LETTERS := gBIG_LETTERS, t_SMALL_LETTERS := tSMALL_LETTERS, g_SMALL_LETTERS := gSMALL_LETTERS, t_DIGITS := tDIGITS, g_DIGITS := gDIGITS, t_LATER := tLATER, g_LATER := gLATER, r_KEPT := rKEPT, g_KEPT := gKEPT, q_KEPT := qKEPT, n_len := n_len, n_all := n_all, n_enumerate := n_enumerate, n_tuple := n_tuple, n_list := n_list, n_int := n_int, n_range := n_range, n_isinstance := n_isinstance }⟩


