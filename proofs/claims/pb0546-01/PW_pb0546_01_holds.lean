import PyProof.Rows.All
import Wide.All
import OpenK.AllK
import Wide.FinOn
import PySem.Challenge.RW_pb0546_01
set_option Elab.async false
set_option maxRecDepth 100000
set_option maxHeartbeats 8000000
set_option linter.all false

namespace Pb
section
open PySem PySem.W
open Sem (wp)
/-- what an own exception class must have in its line of bases -/
structure ExcLine (B : String) (bm : List Value) : Prop where
  hasB : bm.contains (.type B) = true
  hasBase : bm.contains (.type "BaseException") = true
  noAttr : bm.contains (.type "AttributeError") = false
  noName : bm.contains (.type "NameError") = false
section
variable {M : Model} {A : Around} {E : Value → Shared → Prop} {h : Heap} {g : Array GenState} {d : Drawn} {t : Nat} {os : OsState}
variable {nm q : Str} {C N : Addr} {bs bm bmB : List Value} {hdct : Bool} {sn : List Str} {sub : List Value} {ab : Bool} {col : Option Bool} {dd : Option Addr} {k0 k1 k2 k3 k5 : Option Value} {B newId initId : String}
theorem ei_check_new (F : ExcBaseFacts B newId initId bmB) (Z : ExcLine B bm) {rest : List Value} {Q : Unit → Shared → Prop} (hC : h.get? C = some (excClassObj nm q C N bs bm hdct sn sub ab col dd k0 k1 k2 k3 k5 newId))
    (hq : Q () ⟨h, g, d, t, os⟩) : wpAny M A (checkBuiltinCall newId ⟨.ref C :: rest, []⟩) Q E ⟨h, g, d, t, os⟩ := by
  have hcont : (Value.ref C :: bm).contains (.type B) = true := by rw [List.contains_cons, Z.hasB, Bool.or_true]
  have hstar := F.noStar
  simp only [checkBuiltinCall, F.newKind, F.newSplit, F.newRow]
  repeat (first | refine wpAny_loadPart_at hC ?_ | (refine wpAny_isSubtype_exc hC ?_; rw [hcont]) | refine wpAny_staticBase_exc hC ?_ | refine wpAny_madeBy_exc hC ?_ | simp only [bne_self_eq_false, Bool.false_eq_true, if_false] | wp_step)
  exact hq
end
section
variable {prog : Program} {w : World} {A : Around} {R : Result → Shared → Prop} {E : Value → Shared → Prop} {h : Heap} {g : Array GenState} {d : Drawn} {t : Nat} {os : OsState}
variable {nm q : Str} {C N : Addr} {bs bm bmB : List Value} {hdct : Bool} {sn : List Str} {sub : List Value} {ab : Bool} {col : Option Bool} {dd : Option Addr} {k0 k1 k2 k3 k5 : Option Value} {B newId initId : String}
theorem ei_new (F : ExcBaseFacts B newId initId bmB) (Z : ExcLine B bm) {rest : List Value} (hC : h.get? C = some (excClassObj nm q C N bs bm hdct sn sub ab col dd k0 k1 k2 k3 k5 newId))
    (hq : R (.ok (.ret (.ref (h.objs.size + 1)))) ⟨(h.push { cls := .type "tuple", data := .seq rest.toArray }).push
      { cls := .ref C, data := .fields #[.ref h.objs.size, .none, .none, .none, .bool false, .none] }, g, d, t, os⟩) (hrest : rest.length ≤ sizeLine := by size_fits) :
    codeAny (model prog w) A (.builtin newId ⟨.ref C :: rest, []⟩) R ⟨h, g, d, t, os⟩ := by
  have hends := F.ends
  have hcB : (Value.ref C :: bm).contains (.type B) = true := by rw [List.contains_cons, Z.hasB, Bool.or_true]
  have hcA : (Value.ref C :: bm).contains (.type "AttributeError") = false := by rw [List.contains_cons, Z.noAttr]; rfl
  have hcN : (Value.ref C :: bm).contains (.type "NameError") = false := by rw [List.contains_cons, Z.noName]; rfl
  refine codeAny_builtinAt F.entry ?_
  unfold Builtin.«BaseException.__new__»
  refine wpAt_bind ?_
  show wpAt _ _ _ (stack >>= _) _ _ _
  refine wpAt_bind (wpAt_stack fun p below => wpAt_of_wpAny ?_)
  wp_walk
  refine wpAt_of_wpAny ?_
  rw [F.owner]
  repeat (first | with_reducible refine wpAny_madeHere_exc F.canon hC ?_ | with_reducible refine wpAny_loadPart_at hC ?_ | (with_reducible refine wpAny_isSubtype_exc hC ?_; first | rw [hcB] | rw [hcA] | rw [hcN]) | wp_step)
  show R _ _
  rw [Heap.size_push]
  exact hq
theorem ei_type_call (F : ExcBaseFacts B newId initId bmB) (Z : ExcLine B bm) {rest : List Value} {fI : Addr} {oI : Obj} {Q : Fin → Shared → Prop}
    (hC : h.get? C = some (excClassObj nm q C N bs bm hdct sn sub ab col dd k0 k1 k2 k3 k5 newId)) (hi : W.Looks (model prog w) h (typeLookup (.ref C) "__init__") (some (.ref fI)))
    (hfI : h.get? fI = some oI) (hfc : oI.cls = .type "function")
    (hq : ∀ h' e, Heap.MadeExcOf h h' e (.ref C) rest →
      wpAny (model prog w) A (call (.ref fI) (.ref e :: rest)) (fun r s' => r = .none ∧ Q (.done (.ret (.ref e))) s') E ⟨h', g, d, t, os⟩) (hrest : rest.length ≤ sizeLine := by size_fits) :
    wpAny (model prog w) A (Builtin.«type.__call__» ⟨.ref C :: rest, []⟩) Q E ⟨h, g, d, t, os⟩ := by
  repeat (first | with_reducible refine wpAny_loadPart_at hC ?_ | with_reducible refine wpAny_madeBy_exc hC ?_ | wp_step)
  refine codeAny_call_builtin_code (Code.quiet_builtin _ F.quiet) (ei_check_new F Z hC ?_)
  refine ei_new F Z hC ?_ hrest
  show wpAny _ _ _ _ _ _
  have hk : ∀ b o, h.get? b = some o → ((h.push { cls := .type "tuple", data := .seq rest.toArray }).push { cls := .ref C, data := .fields #[.ref h.objs.size, .none, .none, .none, .bool false, .none] }).get? b = some o :=
    fun b o e => Heap.get?_push_of_some _ (Heap.get?_push_of_some _ e)
  have hC₁ := hk _ _ hC
  have hfI₁ := hk _ _ hfI
  have hget : ((h.push { cls := .type "tuple", data := .seq rest.toArray }).push
      { cls := .ref C, data := .fields #[.ref h.objs.size, .none, .none, .none, .bool false, .none] }).get? (h.objs.size + 1) = some
      { cls := .ref C, data := .fields #[.ref h.objs.size, .none, .none, .none, .bool false, .none] } := by heap_get
  have hcC : (Value.ref C :: bm).contains (.ref C) = true := by simp
  unfold isInstance
  repeat (first | with_reducible refine wpAny_loadPart_at hget ?_ | (with_reducible refine wpAny_isSubtype_exc hC₁ ?_; rw [hcC]) | wp_step)
  show wpAny _ _ (typeLookup (.ref C) _) _ _ _
  refine hi _ _ _ _ hk ?_
  refine wpAny_holding (wpAny_bind ?_)
  unfold bindSpecial
  refine wpAny_bind (wpAny_typeOf (T := "function") ⟨_, hfI₁, hfc⟩ ?_)
  rw [if_pos (by decide)]
  refine wpAny_pure (wpAny_bind (wpAny_mono (hq _ (h.objs.size + 1) ⟨hk, Heap.get?_none_of_le (Nat.le_succ _), h.objs.size, hget, Heap.get?_none_of_le (Nat.le_refl _), ?_⟩) (fun r s' hr => ?_) fun _ _ x => x))
  · exact Heap.get?_push_of_some _ (Heap.get?_push_at rfl rfl)
  · obtain ⟨rfl, hQ⟩ := hr
    wp_walk
    exact hQ
theorem ei_call (F : ExcBaseFacts B newId initId bmB) (Z : ExcLine B bm) {rest : List Value} {fI : Addr} {oI : Obj} {Q : Value → Shared → Prop}
    (hC : h.get? C = some (excClassObj nm q C N bs bm hdct sn sub ab col dd k0 k1 k2 k3 k5 newId)) (hi : W.Looks (model prog w) h (typeLookup (.ref C) "__init__") (some (.ref fI)))
    (hfI : h.get? fI = some oI) (hfc : oI.cls = .type "function")
    (hq : ∀ h' e, Heap.MadeExcOf h h' e (.ref C) rest →
      wpAny (model prog w) (A.under (.builtin "type.__call__" ⟨.ref C :: rest, []⟩)) (call (.ref fI) (.ref e :: rest)) (fun r s' => r = .none ∧ Q (.ref e) s') E ⟨h', g, d, t, os⟩) (hrest : rest.length ≤ sizeLine := by size_fits) :
    wpAny (model prog w) A (call (.ref C) rest) Q E ⟨h, g, d, t, os⟩ := by
  have f1 := tc_lookup
  have f2 := tc_bind (.ref C)
  have hT : (⟨h, g, d, t, os⟩ : Shared).TypeIs (.ref C) "type" := ⟨_, hC, rfl⟩
  refine wpAny_call (codeAny_of_tree ?_)
  show wpAny _ _ (callAny (.ref C) _) _ _ _
  repeat (any_goals (first | assumption | with_reducible refine wpAny_loadPart_at hC ?_ | wp_step))
  refine ⟨rfl, ?_⟩
  refine codeAny_call_builtin_at (Code.quiet_builtin _ (by decide +kernel)) entry_typeCall (wpAny_check_type_call_sub hC ?_)
  exact ei_type_call (hrest := hrest) F Z hC hi hfI hfc hq
theorem under_tc {C : Addr} {rest : List Value} {dp un : Nat} {gd : Option (List Code)} {cn : Str} {cs : Scope} {L a : Addr} {ccd : Value} {cl : List (Str × Addr)} {outer : List Env} :
    (ktrTop dp un gd cn cs L a ccd cl outer).under (.builtin "type.__call__" ⟨.ref C :: rest, []⟩) = ktrTop (dp + 1) (un + 1) gd cn cs L a ccd cl outer := by
  rfl
end
end
end Pb
open PySem PySem.W PyProof.Rows
namespace Pb
/-- one bit of the plain machine -/
def bN (x : Nat) : Nat := if x % 2 = 1 then x / 2 ^^^ 3988292384 else x / 2
theorem bN_xor (x y : Nat) : bN (x ^^^ y) = bN x ^^^ bN y := by
  have h2 : (x ^^^ y) / 2 = x / 2 ^^^ y / 2 := by
    have := Nat.shiftRight_xor_distrib (a := x) (b := y) (i := 1)
    simpa [Nat.shiftRight_eq_div_pow] using this
  have h1 : (x ^^^ y) % 2 = (x % 2 + y % 2) % 2 := by
    rw [show x ^^^ y = x ^^^ y from rfl]
    have a := Nat.mod_two_eq_zero_or_one x
    have b := Nat.mod_two_eq_zero_or_one y
    have c := Nat.xor_mod_two_pow (a := x) (b := y) (n := 1)
    simp only [Nat.pow_one] at c
    rw [c]
    rcases a with a | a <;> rcases b with b | b <;> rw [a, b] <;> rfl
  unfold bN
  rw [h1, h2]
  have a := Nat.mod_two_eq_zero_or_one x
  have b := Nat.mod_two_eq_zero_or_one y
  rcases a with a | a <;> rcases b with b | b <;> rw [a, b] <;> simp only [Nat.zero_add, Nat.add_zero, Nat.zero_mod, Nat.one_mod, Nat.reduceAdd, Nat.reduceMod, if_true, if_false, Nat.zero_ne_one]
  · rw [Nat.xor_assoc]
  · rw [Nat.xor_assoc, Nat.xor_assoc, Nat.xor_comm (y / 2)]
  · have e : ∀ u v p : Nat, u ^^^ p ^^^ (v ^^^ p) = u ^^^ v := by
      intro u v p
      rw [Nat.xor_assoc, Nat.xor_comm v p, ← Nat.xor_assoc p p v, Nat.xor_self, Nat.zero_xor]
    rw [e]
theorem bN_two (y : Nat) : bN (y * 2) = y := by
  unfold bN
  rw [if_neg (by omega)]
  omega
theorem bN_lt {x : Nat} (h : x < 4294967296) : bN x < 4294967296 := by
  unfold bN
  split
  · exact Nat.xor_lt_two_pow (n := 32) (by omega) (by decide)
  · omega
theorem bN_zero {x : Nat} (h : x < 4294967296) (e : bN x = 0) : x = 0 := by
  unfold bN at e
  split at e
  · have q : x / 2 = 3988292384 := by
      have := congrArg (fun z => z ^^^ 3988292384) e
      simpa [Nat.xor_assoc] using this
    omega
  · omega
/-- k bits -/
def bk : Nat → Nat → Nat
  | 0, x => x
  | k + 1, x => bk k (bN x)
theorem bk_xor : ∀ k x y, bk k (x ^^^ y) = bk k x ^^^ bk k y
  | 0, _, _ => rfl
  | k + 1, x, y => by simp only [bk]; rw [bN_xor, bk_xor k]
theorem bk_up : ∀ k y, bk k (y * 2 ^ k) = y
  | 0, y => by simp [bk]
  | k + 1, y => by
    have e : y * 2 ^ (k + 1) = (y * 2 ^ k) * 2 := by rw [Nat.pow_succ]; rw [Nat.mul_assoc]
    rw [bk, e, bN_two, bk_up k]
theorem bk_lt : ∀ k {x}, x < 4294967296 → bk k x < 4294967296
  | 0, _, h => h
  | k + 1, _, h => bk_lt k (bN_lt h)
theorem bk_zero : ∀ k {x}, x < 4294967296 → bk k x = 0 → x = 0
  | 0, _, _, e => e
  | k + 1, _, h, e => bN_zero h (bk_zero k (bN_lt h) e)
theorem bk_add : ∀ j k x, bk (j + k) x = bk k (bk j x)
  | 0, k, x => by rw [Nat.zero_add]; rfl
  | j + 1, k, x => by
    rw [show j + 1 + k = (j + k) + 1 from by omega]
    simp only [bk]
    rw [bk_add j k]
theorem xor_zero_eq {x y : Nat} (h : x ^^^ y = 0) : x = y := by
  have := congrArg (fun z => z ^^^ y) h
  simpa [Nat.xor_assoc] using this
theorem bk_inj (k : Nat) {x y : Nat} (hx : x < 4294967296) (hy : y < 4294967296) (e : bk k x = bk k y) : x = y := by
  refine xor_zero_eq (bk_zero k (x := x ^^^ y) (Nat.xor_lt_two_pow (n := 32) hx hy) ?_)
  rw [bk_xor, e, Nat.xor_self]
def halfL' : List Nat := [0, 498536548, 997073096, 651767980, 1994146192, 1802195444, 1303535960, 1342533948, 3988292384, 4027552580, 3604390888, 3412177804, 2607071920, 2262029012, 2685067896, 3183342108]
def halfN (j : Nat) : Nat := halfL'.getD j 0
theorem half_bk : ∀ j : Nat, j < 16 → bk 4 j = halfN j := by decide
theorem div_mod_xor (x k : Nat) : x = (x / 2 ^ k * 2 ^ k) ^^^ (x % 2 ^ k) := by
  apply Nat.eq_of_testBit_eq
  intro i
  rw [Nat.testBit_xor, Nat.testBit_mod_two_pow, Nat.testBit_mul_two_pow, Nat.testBit_div_two_pow]
  by_cases h : i < k
  · simp [h, Nat.not_le.mpr h]
  · have h' : k ≤ i := Nat.not_lt.mp h
    simp [h, h', Nat.sub_add_cancel h']
theorem bk4 (x : Nat) : bk 4 x = x / 16 ^^^ halfN (x % 16) := by
  have e := div_mod_xor x 4
  rw [show (2 : Nat) ^ 4 = 16 from rfl] at e
  have := congrArg (bk 4) e
  rw [bk_xor] at this
  rw [this, half_bk _ (Nat.mod_lt _ (by decide))]
  have u := bk_up 4 (x / 16)
  rw [show (2 : Nat) ^ 4 = 16 from rfl] at u
  rw [u]
theorem xor_div (x y k : Nat) : (x ^^^ y) / 2 ^ k = x / 2 ^ k ^^^ y / 2 ^ k := by
  have := Nat.shiftRight_xor_distrib (a := x) (b := y) (i := k)
  simpa [Nat.shiftRight_eq_div_pow] using this
/-- one octet, as the program takes it -/
def stN (s o : Nat) : Nat := (s / 16 ^^^ halfN ((s ^^^ o) % 16)) / 16 ^^^ halfN (((s / 16 ^^^ halfN ((s ^^^ o) % 16)) ^^^ o / 16) % 16)
theorem stN_bk {s o : Nat} (h : o < 256) : stN s o = bk 8 (s ^^^ o) := by
  have d : (s ^^^ o) / 16 = s / 16 ^^^ o / 16 := xor_div s o 4
  have v : s / 16 ^^^ halfN ((s ^^^ o) % 16) ^^^ o / 16 = bk 4 (s ^^^ o) := by
    rw [bk4, d, Nat.xor_assoc, Nat.xor_comm (halfN _), ← Nat.xor_assoc]
  have z : o / 16 / 16 = 0 := by omega
  have q : (s / 16 ^^^ halfN ((s ^^^ o) % 16)) / 16 = (bk 4 (s ^^^ o)) / 16 := by
    have e := xor_div (s / 16 ^^^ halfN ((s ^^^ o) % 16)) (o / 16) 4
    rw [show (2 : Nat) ^ 4 = 16 from rfl, v, z, Nat.xor_zero] at e
    exact e.symm
  unfold stN
  rw [v, q, bk_add 4 4, ← bk4]
def crcN (l : List Nat) : Nat := l.foldl stN 4294967295 ^^^ 4294967295
abbrev Oct (l : List Nat) : Prop := ∀ o ∈ l, o < 256
theorem stN_lt {s o : Nat} (hs : s < 4294967296) (h : o < 256) : stN s o < 4294967296 := by
  rw [stN_bk h]
  exact bk_lt 8 (Nat.xor_lt_two_pow (n := 32) hs (by omega))
theorem fold_lt : ∀ {l : List Nat} {s : Nat}, s < 4294967296 → Oct l → l.foldl stN s < 4294967296
  | [], _, hs, _ => hs
  | o :: l, s, hs, h => fold_lt (l := l) (s := stN s o) (stN_lt hs (h o List.mem_cons_self)) fun _ ho => h _ (List.mem_cons_of_mem _ ho)
theorem crcN_lt {l : List Nat} (h : Oct l) : crcN l < 4294967296 := Nat.xor_lt_two_pow (n := 32) (fold_lt (by decide) h) (by decide)
theorem fold_inj : ∀ {l : List Nat} {s t : Nat}, s < 4294967296 → t < 4294967296 → Oct l → l.foldl stN s = l.foldl stN t → s = t
  | [], _, _, _, _, _, e => e
  | o :: l, s, t, hs, ht, h, e => by
    have ho := h o List.mem_cons_self
    have q := fold_inj (l := l) (stN_lt hs ho) (stN_lt ht ho) (fun _ hp => h _ (List.mem_cons_of_mem _ hp)) e
    rw [stN_bk ho, stN_bk ho] at q
    have r := bk_inj 8 (Nat.xor_lt_two_pow (n := 32) hs (by omega)) (Nat.xor_lt_two_pow (n := 32) ht (by omega)) q
    have := congrArg (fun z => z ^^^ o) r
    simpa [Nat.xor_assoc] using this
/-- one octet changed: another sum -/
theorem crc_bent {a b : List Nat} {o o' : Nat} (ha : Oct a) (hb : Oct b) (ho : o < 256) (ho' : o' < 256) (hne : o ≠ o') : crcN (a ++ o :: b) ≠ crcN (a ++ o' :: b) := by
  intro e
  unfold crcN at e
  have e1 : List.foldl stN 4294967295 (a ++ o :: b) = List.foldl stN 4294967295 (a ++ o' :: b) := by
    have := congrArg (fun z => z ^^^ 4294967295) e
    simpa [Nat.xor_assoc] using this
  rw [List.foldl_append, List.foldl_append, List.foldl_cons, List.foldl_cons] at e1
  have hs : a.foldl stN 4294967295 < 4294967296 := fold_lt (by decide) ha
  have e2 := fold_inj (stN_lt hs ho) (stN_lt hs ho') hb e1
  rw [stN_bk ho, stN_bk ho'] at e2
  have r := bk_inj 8 (Nat.xor_lt_two_pow (n := 32) hs (by omega)) (Nat.xor_lt_two_pow (n := 32) hs (by omega)) e2
  have := congrArg (fun z => a.foldl stN 4294967295 ^^^ z) r
  simp only [← Nat.xor_assoc, Nat.xor_self, Nat.zero_xor] at this
  exact hne this
def sumN (x : Nat) : List Nat := [x % 256, x / 256 % 256, x / 65536 % 256, x / 16777216 % 256]
theorem four_fold (s x : Nat) (hs : s < 4294967296) (hx : x < 4294967296) : (sumN x).foldl stN s = bk 32 (s ^^^ x) := by
  have step : ∀ s x : Nat, stN s (x % 256) = bk 8 (s ^^^ x) ^^^ x / 256 := by
    intro s x
    rw [stN_bk (Nat.mod_lt _ (by decide))]
    have e := div_mod_xor x 8
    rw [show (2 : Nat) ^ 8 = 256 from rfl] at e
    have u := bk_up 8 (x / 256)
    rw [show (2 : Nat) ^ 8 = 256 from rfl] at u
    have e2 : bk 8 (s ^^^ x) = bk 8 (s ^^^ x % 256) ^^^ bk 8 (x / 256 * 256) := by
      rw [← bk_xor]
      congr 1
      conv => lhs; rw [e]
      rw [Nat.xor_comm (x / 256 * 256), Nat.xor_assoc]
    rw [e2, u, Nat.xor_assoc, Nat.xor_self, Nat.xor_zero]
  have step2 : ∀ y x : Nat, stN (y ^^^ x) (x % 256) = bk 8 y ^^^ x / 256 := by
    intro y x
    rw [step, Nat.xor_assoc, Nat.xor_self, Nat.xor_zero]
  unfold sumN
  simp only [List.foldl_cons, List.foldl_nil]
  have d2 : x / 65536 = x / 256 / 256 := (Nat.div_div_eq_div_mul x 256 256).symm
  have d3 : x / 16777216 = x / 256 / 256 / 256 := by rw [Nat.div_div_eq_div_mul, Nat.div_div_eq_div_mul]
  rw [d3, d2, step s x, step2 _ (x / 256), step2 _ (x / 256 / 256), step2 _ (x / 256 / 256 / 256)]
  have z : x / 256 / 256 / 256 / 256 = 0 := by rw [Nat.div_div_eq_div_mul, Nat.div_div_eq_div_mul, Nat.div_div_eq_div_mul]; exact Nat.div_eq_of_lt hx
  rw [z, Nat.xor_zero, ← bk_add, ← bk_add, ← bk_add]
/-- octets with their sum behind them have one sum, whatever they are -/
theorem crc_residue {l : List Nat} (h : Oct l) : crcN (l ++ sumN (crcN l)) = bk 32 4294967295 ^^^ 4294967295 := by
  have hs : l.foldl stN 4294967295 < 4294967296 := fold_lt (by decide) h
  have u : crcN (l ++ sumN (crcN l)) = (sumN (crcN l)).foldl stN (l.foldl stN 4294967295) ^^^ 4294967295 := by
    rw [← List.foldl_append]; rfl
  rw [u, four_fold _ _ hs (crcN_lt h)]
  have e : l.foldl stN 4294967295 ^^^ crcN l = 4294967295 := by
    unfold crcN
    rw [← Nat.xor_assoc, Nat.xor_self, Nat.zero_xor]
  rw [e]
theorem crc_residue_any {l l' : List Nat} (h : Oct l) (h' : Oct l') : crcN (l ++ sumN (crcN l)) = crcN (l' ++ sumN (crcN l')) := by
  rw [crc_residue h, crc_residue h']
theorem stN_three {s t u a b c : Nat} (ha : a < 256) (hb : b < 256) (hc : c < 256) : stN s a ^^^ stN t b ^^^ stN u c = stN (s ^^^ t ^^^ u) (a ^^^ b ^^^ c) := by
  rw [stN_bk ha, stN_bk hb, stN_bk hc, stN_bk (Nat.xor_lt_two_pow (n := 8) (Nat.xor_lt_two_pow (n := 8) ha hb) hc), ← bk_xor, ← bk_xor]
  congr 1
  ac_rfl
theorem fold_three : ∀ (l l' : List Nat) (s t u : Nat), l.length = l'.length → Oct l → Oct l' →
    l.foldl stN s ^^^ l'.foldl stN t ^^^ (List.zipWith (fun a b => a ^^^ b) l l').foldl stN u = (List.replicate l.length 0).foldl stN (s ^^^ t ^^^ u)
  | [], [], _, _, _, _, _, _ => rfl
  | [], _ :: _, _, _, _, e, _, _ => by simp at e
  | _ :: _, [], _, _, _, e, _, _ => by simp at e
  | a :: l, b :: l', s, t, u, e, h, h' => by
    have ha := h a List.mem_cons_self
    have hb := h' b List.mem_cons_self
    rw [List.zipWith_cons_cons, List.foldl_cons, List.foldl_cons, List.foldl_cons, List.length_cons, List.replicate_succ, List.foldl_cons,
      fold_three l l' _ _ _ (by simpa using e) (fun _ p => h _ (List.mem_cons_of_mem _ p)) (fun _ p => h' _ (List.mem_cons_of_mem _ p)), stN_three ha hb (Nat.xor_lt_two_pow (n := 8) ha hb)]
    congr 2
    rw [Nat.xor_self]
/-- the sums of two rows and of both put over one another -/
theorem crc_three {l l' : List Nat} (e : l.length = l'.length) (h : Oct l) (h' : Oct l') :
    crcN l ^^^ crcN l' ^^^ crcN (List.zipWith (fun a b => a ^^^ b) l l') = crcN (List.replicate l.length 0) := by
  have f := fold_three l l' 4294967295 4294967295 4294967295 e h h'
  rw [Nat.xor_self, Nat.zero_xor] at f
  unfold crcN
  rw [← f]
  have g : ∀ a b c m : Nat, a ^^^ m ^^^ (b ^^^ m) ^^^ (c ^^^ m) = a ^^^ b ^^^ c ^^^ m := by
    intro a b c m
    have : a ^^^ m ^^^ (b ^^^ m) = a ^^^ b := by
      rw [Nat.xor_assoc, Nat.xor_comm b m, ← Nat.xor_assoc m m b, Nat.xor_self, Nat.zero_xor]
    rw [this, ← Nat.xor_assoc]
  exact g _ _ _ _
end Pb
namespace Pb
theorem bN_testBit (x i : Nat) : (bN x).testBit i = ((x.testBit (i + 1)) ^^ (x.testBit 0 && Nat.testBit 3988292384 i)) := by
  have hx : x.testBit 0 = decide (x % 2 = 1) := by rw [Nat.testBit_zero]
  have hd : (x / 2).testBit i = x.testBit (i + 1) := by rw [Nat.testBit_div_two]
  unfold bN
  rw [hx]
  by_cases h : x % 2 = 1
  · rw [if_pos h, Nat.testBit_xor, hd]; simp [h]
  · rw [if_neg h, hd]; simp [h]
def b01 (b : Bool) : Int := if b then 1 else 0
def divL : List Int := [1, 0, 0, 0, 0, 0, 1, 0, 0, 1, 1, 0, 0, 0, 0, 0, 1, 0, 0, 0, 1, 1, 1, 0, 1, 1, 0, 1, 1, 0, 1, 1, 1]
theorem div_bit : ∀ i : Nat, i < 32 → divL.getD (i + 1) 0 = b01 (Nat.testBit 3988292384 i) := by decide
theorem poly_hi {i : Nat} (h : 32 ≤ i) : Nat.testBit 3988292384 i = false :=
  Nat.testBit_lt_two_pow (Nat.lt_of_lt_of_le (by decide : 3988292384 < 2 ^ 32) (Nat.pow_le_pow_right (by decide) h))
/-- the machine by single bits, along a row of bits -/
def serS (d : Nat → Bool) : Nat → Nat → Nat
  | 0, s => s
  | k + 1, s => bN (serS d k s ^^^ (d k).toNat)
theorem serS_lt (d : Nat → Bool) {s : Nat} (hs : s < 4294967296) : ∀ k, serS d k s < 4294967296
  | 0 => hs
  | k + 1 => bN_lt (Nat.xor_lt_two_pow (n := 32) (serS_lt d hs k) (by cases d k <;> decide))
theorem serS_add (d : Nat → Bool) (s : Nat) (j : Nat) : ∀ k, serS d (j + k) s = serS (fun i => d (j + i)) k (serS d j s)
  | 0 => rfl
  | k + 1 => by rw [← Nat.add_assoc]; simp only [serS]; rw [serS_add d s j k]
theorem serS_congr {d e : Nat → Bool} {s : Nat} : ∀ {k : Nat}, (∀ i, i < k → d i = e i) → serS d k s = serS e k s
  | 0, _ => rfl
  | k + 1, h => by simp only [serS]; rw [serS_congr (fun i hi => h i (by omega)), h k (by omega)]
theorem serS_bk (o s : Nat) : ∀ k, serS (fun i => o.testBit i) k s = bk k (s ^^^ o % 2 ^ k)
  | 0 => by simp [serS, bk, Nat.mod_one]
  | k + 1 => by
    have u : bk k ((o.testBit k).toNat * 2 ^ k) = (o.testBit k).toNat := bk_up k _
    have e : o % 2 ^ (k + 1) = o % 2 ^ k ^^^ (o.testBit k).toNat * 2 ^ k := by
      apply Nat.eq_of_testBit_eq
      intro i
      rw [Nat.testBit_xor, Nat.testBit_mod_two_pow, Nat.testBit_mod_two_pow, Nat.testBit_mul_two_pow]
      have t : ∀ (b : Bool) (j : Nat), (b.toNat).testBit j = (decide (j = 0) && b) := by
        intro b j
        cases b
        · simp
        · cases j with
          | zero => rfl
          | succ j => simp [Nat.testBit_succ]
      rw [t]
      by_cases h1 : i < k
      · have h2 : i < k + 1 := by omega
        have h3 : ¬ k ≤ i := by omega
        simp [h1, h2, h3]
      · by_cases h2 : i = k
        · subst h2; simp
        · have h3 : ¬ i < k + 1 := by omega
          have h4 : ¬ i - k = 0 := by omega
          simp [h1, h3, h4]
    simp only [serS]
    rw [serS_bk o s k, e, ← Nat.xor_assoc, show k + 1 = k + 1 from rfl, bk_add k 1]
    show _ = bN _
    rw [bk_xor k (s ^^^ o % 2 ^ k), u]
theorem serS_oct {o s : Nat} (h : o < 256) : serS (fun i => o.testBit i) 8 s = stN s o := by
  rw [serS_bk, stN_bk h, Nat.mod_eq_of_lt (by omega)]
/-- the bits of a row of octets, each octet's lowest first -/
def dBit (l : List Nat) (j : Nat) : Bool := (l.getD (j / 8) 0).testBit (j % 8)
theorem serS_octs : ∀ (l : List Nat) (s : Nat), Oct l → serS (dBit l) (8 * l.length) s = l.foldl stN s
  | [], _, _ => rfl
  | o :: l, s, h => by
    have ho := h o List.mem_cons_self
    rw [List.length_cons, show 8 * (l.length + 1) = 8 + 8 * l.length from by omega, serS_add, List.foldl_cons]
    have e1 : serS (dBit (o :: l)) 8 s = stN s o := by
      rw [← serS_oct ho]
      refine serS_congr fun i hi => ?_
      have a : i / 8 = 0 := by omega
      have b : i % 8 = i := by omega
      simp [dBit, a, b]
    have e2 : (fun i => dBit (o :: l) (8 + i)) = dBit l := by
      funext i
      have a : (8 + i) / 8 = i / 8 + 1 := by omega
      have b : (8 + i) % 8 = i % 8 := by omega
      simp [dBit, a, b]
    rw [e1, e2, serS_octs l _ fun _ hp => h _ (List.mem_cons_of_mem _ hp)]
/-- the sum of the bits with their places -/
theorem bit_sum (x : Nat) : ∀ n, ((List.range n).map fun i => b01 (x.testBit i) * 2 ^ i).sum = ((x % 2 ^ n : Nat) : Int)
  | 0 => by simp [Nat.mod_one]
  | n + 1 => by
    rw [List.range_succ, List.map_append, List.sum_append, bit_sum x n]
    simp only [List.map_cons, List.map_nil, List.sum_cons, List.sum_nil, Int.add_zero]
    have e : x % 2 ^ (n + 1) = x % 2 ^ n + (x.testBit n).toNat * 2 ^ n := by
      rw [Nat.mod_pow_succ, Nat.toNat_testBit, Nat.mul_comm]
    rw [e]
    cases x.testBit n <;> simp [b01]
theorem ones_testBit (i : Nat) : Nat.testBit 4294967295 i = decide (i < 32) := by
  have := Nat.testBit_two_pow_sub_one 32 i
  simpa using this
/-- what stands in the row at turn t -/
def RowAt (d : Nat → Bool) (n t : Nat) (bs : List Int) : Prop :=
  bs.length = n + 32 ∧ ∀ j, t ≤ j → j < n + 32 → bs.getD j 0 = b01 ((serS d t 4294967295).testBit (j - t) ^^ d j)
/-- the divisor put over the row at t -/
def layAt (t : Nat) (bs : List Int) (k : Nat) : List Int := (List.range k).foldl (fun bs step => bs.set (t + step) (b01 ((bs.getD (t + step) 0 == 1) ^^ (divL.getD step 0 == 1)))) bs
theorem layAt_succ (t : Nat) (bs : List Int) (k : Nat) : layAt t bs (k + 1) = (layAt t bs k).set (t + k) (b01 (((layAt t bs k).getD (t + k) 0 == 1) ^^ (divL.getD k 0 == 1))) := by
  unfold layAt
  rw [List.range_succ, List.foldl_append]
  rfl
theorem layAt_length (t : Nat) (bs : List Int) : ∀ k, (layAt t bs k).length = bs.length
  | 0 => rfl
  | k + 1 => by rw [layAt_succ, List.length_set, layAt_length t bs k]
theorem layAt_get (t : Nat) (bs : List Int) : ∀ k, t + k ≤ bs.length → ∀ j, (layAt t bs k).getD j 0 = if t ≤ j ∧ j < t + k then b01 ((bs.getD j 0 == 1) ^^ (divL.getD (j - t) 0 == 1)) else bs.getD j 0
  | 0, _, j => by
    rw [if_neg (by omega)]; rfl
  | k + 1, h, j => by
    have ih := layAt_get t bs k (by omega)
    have hl := layAt_length t bs k
    rw [layAt_succ]
    rw [List.getD_eq_getElem?_getD, List.getElem?_set]
    by_cases hj : t + k = j
    · subst hj
      rw [if_pos rfl, if_pos (by rw [hl]; omega)]
      rw [if_pos (by omega), Option.getD_some, ih (t + k), if_neg (by omega)]
      congr 4
      omega
    · rw [if_neg hj, ← List.getD_eq_getElem?_getD, ih j]
      by_cases h2 : t ≤ j ∧ j < t + k
      · rw [if_pos h2, if_pos (by omega)]
      · rw [if_neg h2, if_neg (by omega)]
def divStep (bs : List Int) (t : Nat) : List Int := if bs.getD t 0 = 1 then layAt t bs 33 else bs
theorem b01_one (b : Bool) : (b01 b = 1) ↔ b = true := by cases b <;> simp [b01]
theorem b01_beq (b : Bool) : (b01 b == 1) = b := by cases b <;> rfl
theorem row_step {d : Nat → Bool} {n t : Nat} {bs : List Int} (h : RowAt d n t bs) (ht : t < n) : RowAt d n (t + 1) (divStep bs t) := by
  obtain ⟨hl, hb⟩ := h
  have h0 := hb t (by omega) (by omega)
  rw [Nat.sub_self] at h0
  have hlt := serS_lt d (s := 4294967295) (by decide) t
  refine ⟨by unfold divStep; split <;> simp [layAt_length, hl], fun j hj hj2 => ?_⟩
  have hbj := hb j (by omega) hj2
  have step : (serS d (t + 1) 4294967295).testBit (j - (t + 1)) = ((serS d t 4294967295).testBit (j - t) ^^ (((serS d t 4294967295).testBit 0 ^^ d t) && Nat.testBit 3988292384 (j - (t + 1)))) := by
    show (bN _).testBit _ = _
    rw [bN_testBit, Nat.testBit_xor, Nat.testBit_xor, show j - (t + 1) + 1 = j - t from by omega]
    have t1 : ((d t).toNat).testBit (j - t) = false := by
      have : j - t = (j - t - 1) + 1 := by omega
      rw [this, Nat.testBit_succ]
      cases d t <;> simp
    have t0 : ((d t).toNat).testBit 0 = d t := by cases d t <;> rfl
    rw [t1, t0, Bool.xor_false]
  unfold divStep
  rw [h0]
  by_cases c : ((serS d t 4294967295).testBit 0 ^^ d t) = true
  · rw [if_pos ((b01_one _).mpr c), layAt_get t bs 33 (by omega), step, c, Bool.true_and]
    by_cases hin : j < t + 33
    · rw [if_pos (by omega), hbj, b01_beq]
      have e := div_bit (j - (t + 1)) (by omega)
      rw [show j - (t + 1) + 1 = j - t from by omega] at e
      rw [e, b01_beq]
      congr 1
      cases (serS d t 4294967295).testBit (j - t) <;> cases d j <;> cases Nat.testBit 3988292384 (j - (t + 1)) <;> rfl
    · rw [if_neg (by omega), hbj, poly_hi (by omega), Bool.xor_false]
  · have c' := Bool.eq_false_iff.mpr c
    rw [if_neg (fun q => c ((b01_one _).mp q)), hbj, step, c', Bool.false_and, Bool.xor_false]
theorem row_run {d : Nat → Bool} {n : Nat} {bs : List Int} (h : RowAt d n 0 bs) : ∀ k, k ≤ n → RowAt d n k ((List.range k).foldl divStep bs)
  | 0, _ => h
  | k + 1, hk => by
    rw [List.range_succ, List.foldl_append]
    exact row_step (row_run h k (by omega)) (by omega)
/-- the end of the row -/
theorem row_end {d : Nat → Bool} {n : Nat} {bs : List Int} (hd : ∀ j, n ≤ j → d j = false) (h : RowAt d n n bs) :
    ((List.range 32).map fun i => (1 - bs.getD (n + i) 0) * 2 ^ i).sum = ((serS d n 4294967295 ^^^ 4294967295 : Nat) : Int) := by
  obtain ⟨_, hb⟩ := h
  have hlt := serS_lt d (s := 4294967295) (by decide) n
  have e : (List.range 32).map (fun i => (1 - bs.getD (n + i) 0) * 2 ^ i) = (List.range 32).map fun i => b01 ((serS d n 4294967295 ^^^ 4294967295).testBit i) * 2 ^ i := by
    refine List.map_congr_left fun i hi => ?_
    have hi' := List.mem_range.mp hi
    rw [hb (n + i) (by omega) (by omega), hd (n + i) (by omega), Nat.testBit_xor, ones_testBit, show n + i - n = i from by omega]
    simp only [hi', decide_true, Bool.xor_false]
    congr 1
    cases (serS d n 4294967295).testBit i <;> rfl
  rw [e, bit_sum, Nat.mod_eq_of_lt (Nat.xor_lt_two_pow (n := 32) hlt (by decide))]
end Pb
namespace Pb
noncomputable section
abbrev P0 : Program := PySem.Challenge.rw_pb0546_01.row.toRowW.prog
def envE : Env := { scope := P0.main.scope, locals := mainNs, globals := mainNs, cells := [], code := .ref 13, frame := some 14 }
def cE : Code := .body (behindTheImports P0) envE
abbrev q0 : Pos := ⟨0, 0, 0, 0⟩
abbrev p4 : Pos := ⟨8, 0, 8, 10⟩
abbrev pl : Pos := ⟨172, 0, 189, 15⟩
abbrev stD : Option Stmt := P0.main.body[3]?
def dwArgs : Arguments := match stD with | some (.FunctionDef _ a _ _ _ _ _ _ _ _) => a | _ => default
def dwBody : List Stmt := match stD with | some (.FunctionDef _ _ b _ _ _ _ _ _ _) => b | _ => []
def dwScope : Scope := match stD with | some (.FunctionDef _ _ _ _ _ _ s _ _ _) => s | _ => default
def treeA (P : Params) : BT := (.node (boot_o_0 P) (.node (boot_o_1 P) (.node ⟨.type "dict", none, .dict #[⟨PyData.keyHash P (.ofString "__name__"), .str (.ofString "__name__") 165, .str (.ofString "__main__") 164⟩, ⟨PyData.keyHash P (.ofString "__doc__"), .str (.ofString "__doc__") 166, .none⟩, ⟨PyData.keyHash P (.ofString "__package__"), .str (.ofString "__package__") 167, .none⟩, ⟨PyData.keyHash P (.ofString "__loader__"), .str (.ofString "__loader__") 168, .builtin "__main__.__loader__#opaque"⟩, ⟨PyData.keyHash P (.ofString "__spec__"), .str (.ofString "__spec__") 169, .none⟩, ⟨PyData.keyHash P (.ofString "__annotations__"), .str (.ofString "__annotations__") 170, .ref 6⟩, ⟨PyData.keyHash P (.ofString "__builtins__"), .str (.ofString "__builtins__") 171, .ref 4⟩, ⟨PyData.keyHash P (.ofString "__file__"), .str (.ofString "__file__") 173, .str (.ofString "/claim/cut.py") 172⟩, ⟨PyData.keyHash P (.ofString "__cached__"), .str (.ofString "__cached__") 174, .none⟩] 9, #[]⟩ (.node (boot_o_7 P) .nil .nil) (.node ⟨.type "tuple", none, .seq #[] 0, #[]⟩ .nil .nil)) (.node (boot_o_5 P) (.node (boot_o_9 P) .nil .nil) (.node ⟨.type "code", none, .fields #[.str (.ofString "<module>") 182, .str (.ofString "<module>") 183, .str (.ofString "/claim/cut.py") 184, .int 1 0, .int 0 0, .int 0 0, .int 0 0, .int 0 0, .ref 11, .bool false, .int 181 0, .ref 12, .none, .none, .none, .none, .int 185 0, .int 1 0, .str (.ofString "/claim/cut.py") 186], #[]⟩ .nil .nil))) (.node (boot_o_2 P) (.node (boot_o_4 P) (.node (boot_o_8 P) .nil .nil) (.node ⟨.none, none, .fields #[], #[]⟩ .nil .nil)) (.node (boot_o_6 P) (.node (boot_o_10 P) .nil .nil) (.node ⟨.type "frame", none, .plain, #[some (.ref 13), some (.ref 3), some (.ref 3), none, some (.str (.ofString "__main__") 164), none, some (.ref 0)]⟩ .nil .nil))))
def tree4 (P : Params) : BT := (.node (boot_o_0 P) (.node (boot_o_1 P) (.node ⟨.type "dict", none, .dict #[⟨PyData.keyHash P (.ofString "__name__"), .str (.ofString "__name__") 165, .str (.ofString "switchloom.crc") 187⟩, ⟨PyData.keyHash P (.ofString "__doc__"), .str (.ofString "__doc__") 166, .none⟩, ⟨PyData.keyHash P (.ofString "__package__"), .str (.ofString "__package__") 167, .none⟩, ⟨PyData.keyHash P (.ofString "__loader__"), .str (.ofString "__loader__") 168, .builtin "__main__.__loader__#opaque"⟩, ⟨PyData.keyHash P (.ofString "__spec__"), .str (.ofString "__spec__") 169, .none⟩, ⟨PyData.keyHash P (.ofString "__annotations__"), .str (.ofString "__annotations__") 170, .ref 6⟩, ⟨PyData.keyHash P (.ofString "__builtins__"), .str (.ofString "__builtins__") 171, .ref 4⟩, ⟨PyData.keyHash P (.ofString "__file__"), .str (.ofString "__file__") 173, .str (.ofString "/claim/cut.py") 172⟩, ⟨PyData.keyHash P (.ofString "__cached__"), .str (.ofString "__cached__") 174, .none⟩, ⟨PyData.keyHash P (.ofString "TURNED_POLYNOMIAL"), .str (.ofString "TURNED_POLYNOMIAL") 190, .int 3988292384 189⟩, ⟨PyData.keyHash P (.ofString "ALL_ONES"), .str (.ofString "ALL_ONES") 192, .int 4294967295 191⟩, ⟨PyData.keyHash P (.ofString "divided_word"), .str (.ofString "divided_word") 200, .ref 21⟩, ⟨PyData.keyHash P (.ofString "HALF_TABLE"), .str (.ofString "HALF_TABLE") 844, .ref 109⟩] 13, #[]⟩ (.node (boot_o_7 P) (.node ⟨.type "tuple", none, .seq #[] 0, #[]⟩ (.node ⟨.type "frame", none, .dict #[⟨PyData.keyHash P (.ofString "word"), .str (.ofString "word") 244, .int 498536548 279⟩, ⟨PyData.keyHash P (.ofString "turn"), .str (.ofString "turn") 249, .int 3 273⟩] 2, #[]⟩ (.node ⟨.type "range_iterator", none, .fields #[.int 4 0, .int 0 0, .int 1 0], #[]⟩ .nil .nil) (.node ⟨.type "StopIteration", none, .fields #[.ref 94, .none, .none, .none, .bool false, .none], #[]⟩ .nil .nil)) (.node ⟨.type "range", none, .fields #[.int 0 364, .int 4 363, .int 1 365], #[]⟩ (.node ⟨.type "tuple", none, .seq #[] 0, #[]⟩ .nil .nil) .nil)) (.node ⟨.type "range_iterator", none, .fields #[.int 16 0, .int 0 0, .int 1 0], #[]⟩ (.node ⟨.type "tuple", none, .seq #[] 0, #[]⟩ (.node ⟨.type "frame", none, .dict #[⟨PyData.keyHash P (.ofString "word"), .str (.ofString "word") 561, .int 4027552580 597⟩, ⟨PyData.keyHash P (.ofString "turn"), .str (.ofString "turn") 566, .int 3 590⟩] 2, #[]⟩ .nil .nil) (.node ⟨.type "range_iterator", none, .fields #[.int 4 0, .int 0 0, .int 1 0], #[]⟩ .nil .nil)) (.node ⟨.type "StopIteration", none, .fields #[.ref 54, .none, .none, .none, .bool false, .none], #[]⟩ (.node ⟨.type "range", none, .fields #[.int 0 684, .int 4 683, .int 1 685], #[]⟩ .nil .nil) .nil))) (.node ⟨.type "tuple", none, .seq #[] 0, #[]⟩ (.node ⟨.none, none, .func { name := .ofString "divided_word", qualname := .ofString "divided_word", params := dwArgs, body := .stmts dwBody, scope := dwScope, globals := 0, closure := [], defaults := .none, kwdefaults := .none, doc := .none, pyModule := .none, annotations := none, code := .none, closureTuple := .none, builtins := 0 }, #[]⟩ (.node ⟨.type "StopIteration", none, .fields #[.ref 34, .none, .none, .none, .bool false, .none], #[]⟩ (.node ⟨.type "range", none, .fields #[.int 0 524, .int 4 523, .int 1 525], #[]⟩ .nil .nil) (.node ⟨.type "tuple", none, .seq #[] 0, #[]⟩ .nil .nil)) (.node ⟨.type "frame", none, .dict #[⟨PyData.keyHash P (.ofString "word"), .str (.ofString "word") 401, .int 1802195444 437⟩, ⟨PyData.keyHash P (.ofString "turn"), .str (.ofString "turn") 406, .int 3 431⟩] 2, #[]⟩ (.node ⟨.type "range_iterator", none, .fields #[.int 4 0, .int 0 0, .int 1 0], #[]⟩ .nil .nil) .nil)) (.node ⟨.type "range", none, .fields #[.int 0 208, .int 4 207, .int 1 209], #[]⟩ (.node ⟨.type "range_iterator", none, .fields #[.int 4 0, .int 0 0, .int 1 0], #[]⟩ (.node ⟨.type "StopIteration", none, .fields #[.ref 74, .none, .none, .none, .bool false, .none], #[]⟩ .nil .nil) (.node ⟨.type "StopIteration", none, .fields #[.ref 106, .none, .none, .none, .bool false, .none], #[]⟩ .nil .nil)) (.node ⟨.type "tuple", none, .seq #[] 0, #[]⟩ (.node ⟨.type "frame", none, .dict #[⟨PyData.keyHash P (.ofString "word"), .str (.ofString "word") 722, .int 2262029012 759⟩, ⟨PyData.keyHash P (.ofString "turn"), .str (.ofString "turn") 727, .int 3 752⟩] 2, #[]⟩ .nil .nil) .nil)))) (.node (boot_o_5 P) (.node (boot_o_9 P) (.node ⟨.type "tuple", none, .seq #[.str (.ofString "word") 196, .str (.ofString "turn") 197] 0, #[]⟩ (.node ⟨.type "range_iterator", none, .fields #[.int 4 0, .int 0 0, .int 1 0], #[]⟩ (.node ⟨.type "StopIteration", none, .fields #[.ref 64, .none, .none, .none, .bool false, .none], #[]⟩ .nil .nil) (.node ⟨.type "range", none, .fields #[.int 0 765, .int 4 764, .int 1 766], #[]⟩ .nil .nil)) (.node ⟨.type "tuple", none, .seq #[] 0, #[]⟩ (.node ⟨.type "frame", none, .dict #[⟨PyData.keyHash P (.ofString "word"), .str (.ofString "word") 641, .int 3412177804 678⟩, ⟨PyData.keyHash P (.ofString "turn"), .str (.ofString "turn") 646, .int 3 671⟩] 2, #[]⟩ .nil .nil) .nil)) (.node ⟨.type "dict", none, .dict #[] 2, #[]⟩ (.node ⟨.type "frame", none, .dict #[⟨PyData.keyHash P (.ofString "word"), .str (.ofString "word") 322, .int 651767980 358⟩, ⟨PyData.keyHash P (.ofString "turn"), .str (.ofString "turn") 327, .int 3 352⟩] 2, #[]⟩ (.node ⟨.type "range_iterator", none, .fields #[.int 4 0, .int 0 0, .int 1 0], #[]⟩ .nil .nil) (.node ⟨.type "StopIteration", none, .fields #[.ref 104, .none, .none, .none, .bool false, .none], #[]⟩ .nil .nil)) (.node ⟨.type "range", none, .fields #[.int 0 443, .int 4 442, .int 1 444], #[]⟩ (.node ⟨.type "tuple", none, .seq #[] 0, #[]⟩ .nil .nil) .nil))) (.node ⟨.type "code", none, .fields #[.str (.ofString "<module>") 182, .str (.ofString "<module>") 183, .str (.ofString "/claim/cut.py") 184, .int 1 0, .int 0 0, .int 0 0, .int 0 0, .int 0 0, .ref 11, .bool false, .int 181 0, .ref 12, .none, .none, .none, .none, .int 185 0, .int 1 0, .str (.ofString "/claim/cut.py") 186], #[]⟩ (.node ⟨.type "function", none, .func { name := .ofString "divided_word", qualname := .ofString "divided_word", params := dwArgs, body := .stmts dwBody, scope := dwScope, globals := 3, closure := [], defaults := .none, kwdefaults := .none, doc := .none, pyModule := .str (.ofString "switchloom.crc") 187, annotations := none, code := .ref 20, closureTuple := .none, builtins := 0 }, #[]⟩ (.node ⟨.type "range", none, .fields #[.int 0 285, .int 4 284, .int 1 286], #[]⟩ (.node ⟨.type "tuple", none, .seq #[] 0, #[]⟩ .nil .nil) (.node ⟨.type "frame", none, .dict #[⟨PyData.keyHash P (.ofString "word"), .str (.ofString "word") 804, .int 3183342108 842⟩, ⟨PyData.keyHash P (.ofString "turn"), .str (.ofString "turn") 809, .int 3 835⟩] 2, #[]⟩ .nil .nil)) (.node ⟨.type "range_iterator", none, .fields #[.int 4 0, .int 0 0, .int 1 0], #[]⟩ (.node ⟨.type "StopIteration", none, .fields #[.ref 84, .none, .none, .none, .bool false, .none], #[]⟩ .nil .nil) .nil)) (.node ⟨.type "tuple", none, .seq #[] 0, #[]⟩ (.node ⟨.type "StopIteration", none, .fields #[.ref 44, .none, .none, .none, .bool false, .none], #[]⟩ (.node ⟨.type "range", none, .fields #[.int 0 603, .int 4 602, .int 1 604], #[]⟩ .nil .nil) (.node ⟨.type "tuple", none, .seq #[.int 0 240, .int 498536548 279, .int 997073096 318, .int 651767980 358, .int 1994146192 397, .int 1802195444 437, .int 1303535960 477, .int 1342533948 518, .int 3988292384 557, .int 4027552580 597, .int 3604390888 637, .int 3412177804 678, .int 2607071920 718, .int 2262029012 759, .int 2685067896 800, .int 3183342108 842] 0, #[]⟩ .nil .nil)) (.node ⟨.type "frame", none, .dict #[⟨PyData.keyHash P (.ofString "word"), .str (.ofString "word") 481, .int 1342533948 518⟩, ⟨PyData.keyHash P (.ofString "turn"), .str (.ofString "turn") 486, .int 3 512⟩] 2, #[]⟩ (.node ⟨.type "range_iterator", none, .fields #[.int 4 0, .int 0 0, .int 1 0], #[]⟩ .nil .nil) .nil))))) (.node (boot_o_2 P) (.node (boot_o_4 P) (.node (boot_o_8 P) (.node ⟨.none, none, .fields #[], #[]⟩ (.node ⟨.type "range", none, .fields #[.int 0 246, .int 4 245, .int 1 247], #[]⟩ (.node ⟨.type "tuple", none, .seq #[] 0, #[]⟩ .nil .nil) (.node ⟨.type "frame", none, .dict #[⟨PyData.keyHash P (.ofString "word"), .str (.ofString "word") 763, .int 2685067896 800⟩, ⟨PyData.keyHash P (.ofString "turn"), .str (.ofString "turn") 768, .int 3 793⟩] 2, #[]⟩ .nil .nil)) (.node ⟨.type "range_iterator", none, .fields #[.int 4 0, .int 0 0, .int 1 0], #[]⟩ (.node ⟨.type "StopIteration", none, .fields #[.ref 79, .none, .none, .none, .bool false, .none], #[]⟩ .nil .nil) .nil)) (.node ⟨.type "list", none, .seq #[.int 0 240, .int 498536548 279, .int 997073096 318, .int 651767980 358, .int 1994146192 397, .int 1802195444 437, .int 1303535960 477, .int 1342533948 518, .int 3988292384 557, .int 4027552580 597, .int 3604390888 637, .int 3412177804 678, .int 2607071920 718, .int 2262029012 759, .int 2685067896 800, .int 3183342108 842] 16, #[]⟩ (.node ⟨.type "StopIteration", none, .fields #[.ref 39, .none, .none, .none, .bool false, .none], #[]⟩ (.node ⟨.type "range", none, .fields #[.int 0 563, .int 4 562, .int 1 564], #[]⟩ .nil .nil) (.node ⟨.type "tuple", none, .seq #[] 0, #[]⟩ .nil .nil)) (.node ⟨.type "frame", none, .dict #[⟨PyData.keyHash P (.ofString "word"), .str (.ofString "word") 441, .int 1303535960 477⟩, ⟨PyData.keyHash P (.ofString "turn"), .str (.ofString "turn") 446, .int 3 471⟩] 2, #[]⟩ (.node ⟨.type "range_iterator", none, .fields #[.int 4 0, .int 0 0, .int 1 0], #[]⟩ .nil .nil) .nil))) (.node ⟨.none, none, .fields #[.int 4 0, .int 0 0, .ref 20], #[]⟩ (.node ⟨.type "code", none, .fields #[.str (.ofString "divided_word") 193, .str (.ofString "divided_word") 194, .str (.ofString "/claim/cut.py") 195, .int 4 0, .int 1 0, .int 0 0, .int 0 0, .int 3 0, .ref 15, .bool true, .int 181 0, .ref 16, .none, .ref 17, .ref 18, .ref 19, .int 198 0, .int 4 0, .str (.ofString "/claim/cut.py") 199], #[]⟩ (.node ⟨.type "frame", none, .dict #[⟨PyData.keyHash P (.ofString "word"), .str (.ofString "word") 283, .int 997073096 318⟩, ⟨PyData.keyHash P (.ofString "turn"), .str (.ofString "turn") 288, .int 3 312⟩] 2, #[]⟩ (.node ⟨.type "range_iterator", none, .fields #[.int 4 0, .int 0 0, .int 1 0], #[]⟩ .nil .nil) (.node ⟨.type "StopIteration", none, .fields #[.ref 99, .none, .none, .none, .bool false, .none], #[]⟩ .nil .nil)) (.node ⟨.type "range", none, .fields #[.int 0 403, .int 4 402, .int 1 404], #[]⟩ (.node ⟨.type "tuple", none, .seq #[] 0, #[]⟩ .nil .nil) .nil)) (.node ⟨.type "range_iterator", none, .fields #[.int 4 0, .int 0 0, .int 1 0], #[]⟩ (.node ⟨.type "tuple", none, .seq #[] 0, #[]⟩ (.node ⟨.type "frame", none, .dict #[⟨PyData.keyHash P (.ofString "word"), .str (.ofString "word") 601, .int 3604390888 637⟩, ⟨PyData.keyHash P (.ofString "turn"), .str (.ofString "turn") 606, .int 3 630⟩] 2, #[]⟩ .nil .nil) (.node ⟨.type "list", none, .seq #[.int 0 240, .int 498536548 279, .int 997073096 318, .int 651767980 358, .int 1994146192 397, .int 1802195444 437, .int 1303535960 477, .int 1342533948 518, .int 3988292384 557, .int 4027552580 597, .int 3604390888 637, .int 3412177804 678, .int 2607071920 718, .int 2262029012 759, .int 2685067896 800, .int 3183342108 842] 1, #[]⟩ .nil .nil)) (.node ⟨.type "StopIteration", none, .fields #[.ref 59, .none, .none, .none, .bool false, .none], #[]⟩ (.node ⟨.type "range", none, .fields #[.int 0 724, .int 4 723, .int 1 725], #[]⟩ .nil .nil) .nil)))) (.node (boot_o_6 P) (.node (boot_o_10 P) (.node ⟨.type "tuple", none, .seq #[] 0, #[]⟩ (.node ⟨.type "tuple", none, .seq #[] 0, #[]⟩ (.node ⟨.type "frame", none, .dict #[⟨PyData.keyHash P (.ofString "word"), .str (.ofString "word") 522, .int 3988292384 557⟩, ⟨PyData.keyHash P (.ofString "turn"), .str (.ofString "turn") 527, .int 3 550⟩] 2, #[]⟩ .nil .nil) (.node ⟨.type "range_iterator", none, .fields #[.int 4 0, .int 0 0, .int 1 0], #[]⟩ .nil .nil)) (.node ⟨.type "StopIteration", none, .fields #[.ref 49, .none, .none, .none, .bool false, .none], #[]⟩ (.node ⟨.type "range", none, .fields #[.int 0 643, .int 4 642, .int 1 644], #[]⟩ .nil .nil) .nil)) (.node ⟨.type "frame", none, .dict #[⟨PyData.keyHash P (.ofString "word"), .str (.ofString "word") 206, .int 0 240⟩, ⟨PyData.keyHash P (.ofString "turn"), .str (.ofString "turn") 211, .int 3 234⟩] 2, #[]⟩ (.node ⟨.type "range", none, .fields #[.int 0 324, .int 4 323, .int 1 325], #[]⟩ (.node ⟨.type "tuple", none, .seq #[] 0, #[]⟩ .nil .nil) (.node ⟨.type "tuple", none, .seq #[] 0, #[]⟩ .nil .nil)) (.node ⟨.type "range_iterator", none, .fields #[.int 4 0, .int 0 0, .int 1 0], #[]⟩ (.node ⟨.type "StopIteration", none, .fields #[.ref 89, .none, .none, .none, .bool false, .none], #[]⟩ .nil .nil) .nil))) (.node ⟨.type "frame", none, .plain, #[some (.ref 13), some (.ref 3), some (.ref 3), none, some (.str (.ofString "__main__") 164), none, some (.ref 0)]⟩ (.node ⟨.type "range", none, .fields #[.int 0 202, .int 16 201, .int 1 203], #[]⟩ (.node ⟨.type "range_iterator", none, .fields #[.int 4 0, .int 0 0, .int 1 0], #[]⟩ (.node ⟨.type "StopIteration", none, .fields #[.ref 69, .none, .none, .none, .bool false, .none], #[]⟩ .nil .nil) (.node ⟨.type "range", none, .fields #[.int 0 806, .int 4 805, .int 1 807], #[]⟩ .nil .nil)) (.node ⟨.type "tuple", none, .seq #[] 0, #[]⟩ (.node ⟨.type "frame", none, .dict #[⟨PyData.keyHash P (.ofString "word"), .str (.ofString "word") 682, .int 2607071920 718⟩, ⟨PyData.keyHash P (.ofString "turn"), .str (.ofString "turn") 687, .int 3 711⟩] 2, #[]⟩ .nil .nil) .nil)) (.node ⟨.type "StopIteration", none, .fields #[.ref 29, .none, .none, .none, .bool false, .none], #[]⟩ (.node ⟨.type "frame", none, .dict #[⟨PyData.keyHash P (.ofString "word"), .str (.ofString "word") 362, .int 1994146192 397⟩, ⟨PyData.keyHash P (.ofString "turn"), .str (.ofString "turn") 367, .int 3 391⟩] 2, #[]⟩ (.node ⟨.type "range_iterator", none, .fields #[.int 4 0, .int 0 0, .int 1 0], #[]⟩ .nil .nil) .nil) (.node ⟨.type "range", none, .fields #[.int 0 483, .int 4 482, .int 1 484], #[]⟩ (.node ⟨.type "tuple", none, .seq #[] 0, #[]⟩ .nil .nil) .nil))))))
def stA : List Stmt := P0.main.body.take 5
def stB : List Stmt := P0.main.body.drop 5
abbrev SA (w : World) (os : OsState) : SharedT := ⟨treeA w.params, 15, {}, #[], {}, 187, os⟩
abbrev S4 (w : World) (os : OsState) : SharedT := ⟨tree4 w.params, 110, {}, #[], {}, 845, os⟩
abbrev RunA (w : World) : Prop := ∀ os, segRunT treeTable P0 w 11 (some (.ref 6)) 1 5600 (SA w os) (piecesOf stA envE cE q0 [topFrame q0]) = some (.next, S4 w os, cE, p4)
open PySem.W.Fast in
theorem runA_ff (w : World) : RunA ((w.withFollow "comprehension-iter-twice" false).withFollow "special-get-raises" false) := by
  intro os
  rw [te10110043849684766642, te14364793385576792824]
  kernel_rfl
open PySem.W.Fast in
theorem runA_tf (w : World) : RunA ((w.withFollow "comprehension-iter-twice" true).withFollow "special-get-raises" false) := by
  intro os
  rw [te10110043849684766642, te14364793385576792824]
  kernel_rfl
open PySem.W.Fast in
theorem runA_ft (w : World) : RunA ((w.withFollow "comprehension-iter-twice" false).withFollow "special-get-raises" true) := by
  intro os
  rw [te10110043849684766642, te14364793385576792824]
  kernel_rfl
open PySem.W.Fast in
theorem runA_tt (w : World) : RunA ((w.withFollow "comprehension-iter-twice" true).withFollow "special-get-raises" true) := by
  intro os
  rw [te10110043849684766642, te14364793385576792824]
  kernel_rfl
theorem runA : ∀ w : World, RunA w := byRow2 "special-get-raises"
  (byRow2 (P := fun w => RunA (w.withFollow "special-get-raises" false)) "comprehension-iter-twice" runA_ff runA_tf)
  (byRow2 (P := fun w => RunA (w.withFollow "special-get-raises" true)) "comprehension-iter-twice" runA_ft runA_tt)
open PySem.W.Fast in
theorem open0 : ∀ w : World, (fencedOpening treeTable P0 w 15030).map (fun s => (s.heap, s.gens, s.drawn, s.toks)) = some (boot_heap w.params, #[], {}, 181) := by
  intro w
  unfold fencedOpening
  rw [te10274390034422433532, te14364793385576792824, te1435165496053646825]
  kernel_rfl
theorem size0 : ∀ w : World, ((boot_heap w.params).isNs mainGlobals && (#[] : Array GenState).size == 0, (boot_heap w.params).objs.size, (boot_heap w.params).nsMap mainGlobals "__annotations__") = (true, 11, some (.ref 6)) := by
  intro w
  rw [PySem.W.Fast.te8920871248978507458]
  kernel_rfl
abbrev S0 (w : World) (os : OsState) : Shared := ⟨boot_heap w.params, #[], {}, 181, os⟩
open PySem.W.Fast in
theorem pre0 (w : World) (os : OsState) : topGo treeTable P0 w 11 (some (.ref 6)) 12 (S0 w os) (topStub P0) = some ((SA w os).abs, ⟨denote treeTable cE, cE, q0, [topFrame q0]⟩) := by
  rw [te15667345088766844465, te14364793385576792824, te11892475500146522536]
  kernel_rfl
theorem block0 (w : World) (os : OsState) : segRunT treeTable P0 w 11 (some (.ref 6)) 1 1 (SA w os) (blockOf (behindTheImports P0) envE cE q0 [topFrame q0]) = some (.next, SA w os, cE, q0) := by
  kernel_rfl
theorem fin0 (w : World) (s : Shared) : topRun treeTable P0 w 11 (some (.ref 6)) 3 s (restOf [] envE cE pl [topFrame q0]) = some s := by
  cases s
  kernel_rfl
theorem split0 : behindTheImports P0 = stA ++ (stB ++ []) := by kernel_rfl
end
end Pb
namespace Pb
noncomputable section
def keep0 : List Nat := [1, 2, 3, 4, 5, 6, 8, 9, 10, 12, 13, 14, 15, 16, 17, 19, 20, 21, 22, 23, 24, 25, 26, 27, 28, 29, 30, 31, 32, 33, 35, 36, 39, 40, 41, 42, 43, 44, 45, 46, 47]
def qv : Program := view P0 keep0
abbrev loose0 : List Str := [Str.ofString "HALF_TABLE", Str.ofString "TAG_KINDS", Str.ofString "Frame", Str.ofString "pack_frame", Str.ofString "unpack_frame"]
abbrev lv0 : List (Str × WData) := [(Str.ofString "HALF_TABLE", .tuple [.int 0, .int 498536548, .int 997073096, .int 651767980, .int 1994146192, .int 1802195444, .int 1303535960, .int 1342533948, .int 3988292384, .int 4027552580, .int 3604390888, .int 3412177804, .int 2607071920, .int 2262029012, .int 2685067896, .int 3183342108]),
  (Str.ofString "TAG_KINDS", .tuple [.int 33024, .int 34984])]
abbrev Xt0 (s : Shared) : Bool := xlAt qv lv0 s && recOk (RowW.records PySem.Challenge.rw_pb0546_01.row.toRowW) s
abbrev Looks {α : Type} (Yf : Shared → α) (w : World) (s : Shared) :=
  ((staticsOk (importedModules P0.main.body) (boot_heap w.params) s.heap && namesBound P0 s.heap && gensDone s && laidKept (boot_heap w.params) s.heap), openSeen qv loose0 (importedModules P0.main.body) Xt0 true s, Yf s)
abbrev LookB {α : Type} (Yf : Shared → α) (Ya : World → α) : Prop := ∀ (w : World) (os : OsState),
  (segRunT treeTable P0 w 11 (some (.ref 6)) 1 2600 (S4 w os) (piecesOf stB envE cE p4 [topFrame q0])).map (fun r => (r.1, r.2.2.1, r.2.2.2, Looks Yf w r.2.1.abs)) = some (.next, cE, pl, (true, openGood qv loose0, Ya w))
theorem left_of {α : Type} {Yf : Shared → α} {Ya : World → α} (h : LookB Yf Ya) : LeftO P0 qv loose0 Xt0 Yf Ya 15030 := by
  intro w
  obtain ⟨⟨hp, gs, d, k, os⟩, e, e'⟩ := Option.map_eq_some_iff.mp (open0 w)
  obtain ⟨rfl, rfl, rfl, rfl⟩ : hp = boot_heap w.params ∧ gs = #[] ∧ d = {} ∧ k = 181 := by
    have := e'
    simp only [Prod.mk.injEq] at this
    exact this
  obtain ⟨z1, z2, z3⟩ : _ ∧ _ ∧ _ := by simpa only [Prod.mk.injEq] using size0 w
  obtain ⟨⟨f, S', c, p'⟩, hr, hl⟩ := Option.map_eq_some_iff.mp (h w os)
  have h1 : f = .next := congrArg (fun x => x.1) hl
  have h2 : c = cE := congrArg (fun x => x.2.1) hl
  have h3 : p' = pl := congrArg (fun x => x.2.2.1) hl
  have l1 : (staticsOk (importedModules P0.main.body) (boot_heap w.params) S'.abs.heap && namesBound P0 S'.abs.heap && gensDone S'.abs && laidKept (boot_heap w.params) S'.abs.heap) = true := congrArg (fun x => x.2.2.2.1) hl
  have l2 : openSeen qv loose0 (importedModules P0.main.body) Xt0 true S'.abs = openGood qv loose0 := congrArg (fun x => x.2.2.2.2.1) hl
  have l3 : Yf S'.abs = Ya w := congrArg (fun x => x.2.2.2.2.2) hl
  clear hl
  subst h1 h2 h3
  have run : topRun treeTable P0 w 11 (some (.ref 6)) (12 + (1 + (5600 + (2600 + 3)))) (S0 w os) (topStub P0) = some S'.abs := by
    refine go_top (pre0 w os) (piece_block (segRun_of (block0 w os)) ?_)
    rw [split0]
    exact piece_app (segRun_of (runA w os)) (piece_app (segRun_of hr) (fin0 w _))
  have r := topRun_mono 6814 _ _ _ _ run
  have t : topFrom treeTable P0 w 15030 ⟨boot_heap w.params, #[], {}, 181, os⟩ = some S'.abs := by
    unfold topFrom
    dsimp only
    rw [z1, z2, z3]
    have r' : topRun treeTable P0 w 11 (some (.ref 6)) 15030 ⟨boot_heap w.params, #[], {}, 181, os⟩ (topStub P0) = some S'.abs := r
    dsimp only
    rw [r']
    show (match staticsOk (importedModules P0.main.body) (boot_heap w.params) S'.abs.heap && namesBound P0 S'.abs.heap && gensDone S'.abs && laidKept (boot_heap w.params) S'.abs.heap with | true => _ | false => _) = _
    rw [l1]
  unfold openEnds
  rw [e]
  show (topFrom treeTable P0 w 15030 _).map _ = _
  rw [t]
  exact congrArg some (Prod.ext l2 l3)
end
end Pb
namespace Pb
theorem wellSaid0 : OpenLaw.wellSaid PySem.Challenge.rw_pb0546_01 = true := by
  rw [PySem.W.Fast.te9446332074065402090]
  kernel_rfl
local macro_rules | `(tactic| o_law) => `(tactic| refine holds_law wellSaid0 fun said => ?_)
open PySem.W.Fast in
local macro_rules | `(tactic| o_head $H) => `(tactic| (
  refine holds_open (q := qv) (loose := loose0) (Xt := Xt0) (XP := XL qv lv0) (Yf := Hook.obs $H) (Ya := Hook.val $H) (YP := Hook.says $H) (N := 15030)
    (left_of (by intro w os; delta Looks; rw [te10110043849684766642, te14364793385576792824, te4187177175401517315, te5923862056798008813]; kernel_rfl))
    (Hook.of $H) (Hook.keeps $H) (fun s e => xl_of s (Bool.and_eq_true_iff.mp e).1) XL.keeps (by rfl) (by rfl) (by rfl) (fun s e => recFacts_of (Bool.and_eq_true_iff.mp e).2) (by rfl) (by first | assumption | decide +kernel) (by decide +kernel) ⟨rfl, rfl, rfl, rfl, rfl, by decide +kernel⟩ ?hw ?hc))
open_top hd for PySem.Challenge.rw_pb0546_01
end Pb
namespace Pb
local macro_rules | `(tactic| walk_at $s:str) => `(tactic| k_extra $s)
abbrev Led := List (Addr × Obj)
/-- what a call of the def at f does: from the ledger `news` to a value and a ledger that R admits; nothing is raised -/
def Con (w : World) (mean : ExcName → Option Value) (mg mb : Str → Option Value) (d u : Nat) (f : Addr) (vs : List Value) (news : Led) (R : Value → Led → Prop) : Prop :=
  ∀ (dp un : Nat) (gd : Option (List Code)) (cn : Str) (cs : Scope) (a : Addr) (ccd : Value) (cl : List (Str × Addr)) (outer : List Env) (A₀ : Around) (base h₀ : Heap) (L : Addr) (m : Str → Option Value) (s : Shared) (Q E : Value → Shared → Prop),
    Below A₀ base outer h₀ → Fr h₀ L s.heap m → (hd.heap_1 w.params).In h₀ → News h₀ L s.heap news → Top qv (looseW qv loose0) mean mg mb h₀ → cs.kind = .function → dp + d < recursionLimit → un + u < cLine →
    (∀ (r : Value) (n' : Led) (h' : Heap) (tk' : Nat), R r n' → Fr h₀ L h' m → News h₀ L h' n' → Q r { s with heap := h', toks := tk' }) →
      wpAny (model P0 w) (ktrTop dp un gd cn cs L a ccd cl outer) (call (.ref f) vs) Q E s
theorem Con.use {w : World} {mean : ExcName → Option Value} {mg mb : Str → Option Value} {d u : Nat} {f : Addr} {vs : List Value} {news : Led} {R : Value → Led → Prop} (C : Con w mean mg mb d u f vs news R)
    {dp un : Nat} {gd : Option (List Code)} {cn : Str} {cs : Scope} {a : Addr} {ccd : Value} {cl : List (Str × Addr)} {outer : List Env} {A₀ : Around} {base h₀ : Heap} {L : Addr} {m : Str → Option Value} {s : Shared} {Q E : Value → Shared → Prop}
    (B : Below A₀ base outer h₀) (F : Fr h₀ L s.heap m) (X : (hd.heap_1 w.params).In h₀) (N : News h₀ L s.heap news) (T : Top qv (looseW qv loose0) mean mg mb h₀) (hk : cs.kind = .function) (hd' : dp + d < recursionLimit) (hu : un + u < cLine)
    (k : ∀ (r : Value) (n' : Led) (h' : Heap) (tk' : Nat), R r n' → Fr h₀ L h' m → News h₀ L h' n' → Q r { s with heap := h', toks := tk' }) :
      wpAny (model P0 w) (ktrTop dp un gd cn cs L a ccd cl outer) (call (.ref f) vs) Q E s := C _ _ _ _ _ _ _ _ _ _ _ _ _ _ _ _ _ B F X N T hk hd' hu k
theorem con_ret {h₀ h' : Heap} {L : Addr} {m : Str → Option Value} {s : Shared} {Q : Value → Shared → Prop} {R : Value → Led → Prop} {tk' : Nat}
    (k : ∀ (r : Value) (n' : Led) (h' : Heap) (tk' : Nat), R r n' → Fr h₀ L h' m → News h₀ L h' n' → Q r { s with heap := h', toks := tk' }) {r : Value} {n' : Led} (hr : R r n') (F : Fr h₀ L h' m) (N : News h₀ L h' n') : Q r { s with heap := h', toks := tk' } := k r n' h' tk' hr F N
theorem news_of {h₀ h : Heap} {L : Addr} {news led : Led} (N : News h₀ L h news) (hs : ∀ p ∈ led, p ∈ news) : News h₀ L h led := fun p hp => N p (hs p hp)
theorem fill0 : (fun (_ : OpenLaw) (_ : Params → Frag) => True) PySem.Challenge.rw_pb0546_01 hd.heap_1 := by
  k_fill
  trivial
def halfL : List Int := [0, 498536548, 997073096, 651767980, 1994146192, 1802195444, 1303535960, 1342533948, 3988292384, 4027552580, 3604390888, 3412177804, 2607071920, 2262029012, 2685067896, 3183342108]
def halfV : List Value := [.int 0 240, .int 498536548 279, .int 997073096 318, .int 651767980 358, .int 1994146192 397, .int 1802195444 437, .int 1303535960 477, .int 1342533948 518, .int 3988292384 557, .int 4027552580 597, .int 3604390888 637, .int 3412177804 678, .int 2607071920 718, .int 2262029012 759, .int 2685067896 800, .int 3183342108 842]
def half (i : Int) : Int := halfL.getD i.toNat 0
theorem half_at : ∀ j : Nat, j < 16 → ∃ t, halfV[j]? = some (.int (halfL.getD j 0) t)
  | 0, _ => ⟨_, rfl⟩
  | 1, _ => ⟨_, rfl⟩
  | 2, _ => ⟨_, rfl⟩
  | 3, _ => ⟨_, rfl⟩
  | 4, _ => ⟨_, rfl⟩
  | 5, _ => ⟨_, rfl⟩
  | 6, _ => ⟨_, rfl⟩
  | 7, _ => ⟨_, rfl⟩
  | 8, _ => ⟨_, rfl⟩
  | 9, _ => ⟨_, rfl⟩
  | 10, _ => ⟨_, rfl⟩
  | 11, _ => ⟨_, rfl⟩
  | 12, _ => ⟨_, rfl⟩
  | 13, _ => ⟨_, rfl⟩
  | 14, _ => ⟨_, rfl⟩
  | 15, _ => ⟨_, rfl⟩
  | n + 16, h => absurd h (by omega)
theorem half_item {w : World} {A : Around} {E : Value → Shared → Prop} {s : Shared} {h₀ : Heap} {L : Addr} {m : Str → Option Value} {value slice : Expr} {i : Int} {u : Tok} {n : Nat} {Q : Value → Shared → Prop}
    (F : Fr h₀ L s.heap m) (X : (hd.heap_1 w.params).In h₀) (hl : (hd.heap_1 w.params).lookup 109 = some ⟨.type "tuple", none, .seq halfV.toArray n, #[]⟩)
    (h : ∀ t, Q (.int (half (Builtin.bitAnd i 15)) t) s)
    (hs : subscripted slice false (.ref 109) (.int (Builtin.bitAnd i 15) u) = operate [.ref 109, .int (Builtin.bitAnd i 15) u] (getItem (.ref 109) (.int (Builtin.bitAnd i 15) u))) :
    wpAny (model P0 w) A (subscriptTail value slice (.ref 109) (.int (Builtin.bitAnd i 15) u)) Q E s := by
  have e := bitAnd_m4 i
  have h0 : 0 ≤ Builtin.bitAnd i 15 := by omega
  have h1 : Builtin.bitAnd i 15 < 16 := by omega
  obtain ⟨t, ht⟩ := half_at (Builtin.bitAnd i 15).toNat (by omega)
  refine topTup_K (j := (Builtin.bitAnd i 15).toNat) F X hl (by omega) (by omega) ?_ ht (h t) hs
  exact seqIndex_at h0 (by show _ < ((16 : Nat) : Int); omega)
def stepI (word o : Int) : Int :=
  let v := Builtin.bitXor (word.fdiv (2 ^ (4 : Int).toNat)) (half (Builtin.bitAnd (Builtin.bitXor word o) 15))
  Builtin.bitXor (v.fdiv (2 ^ (4 : Int).toNat)) (half (Builtin.bitAnd (Builtin.bitXor v (o.fdiv (2 ^ (4 : Int).toNat))) 15))
def crcL (l : List Int) : Int := Builtin.bitXor (l.foldl stepI 4294967295) 4294967295
def crcI (b : Array UInt8) : Int := crcL (KBw.bInts b)
theorem crc_turn {pre : List Int} {word n : Int} (h : word = pre.foldl stepI 4294967295) : stepI word n = (pre ++ [n]).foldl stepI 4294967295 := by
  rw [List.foldl_append, ← h]; rfl
theorem crc_fin {b : Array UInt8} {x : Int} {tk : Tok} (h : x = (List.map (fun c => (c.toNat : Int)) b.toList).foldl stepI 4294967295) : Value.int (Builtin.bitXor x 4294967295) tk = .int (crcI b) tk := by
  subst h; rfl
theorem crc_con (w : World) (mean : ExcName → Option Value) (mg mb : Str → Option Value) (news : Led) (b : Array UInt8) (t : Tok) :
    Con w mean mg mb 2 16 116 [.bytes b t] news (fun r n' => n' = news ∧ ∃ tk, r = .int (crcI b) tk) := by
  k_with_none
  k_with "subscriptTail" => (k_here; (with_reducible show wpAny _ _ (subscriptTail _ _ (Value.ref 109) (Value.int (Builtin.bitAnd _ 15) _)) _ _ _); k_dflt (refine' half_item ?q1F ?q1X ?q1l ?_ ?q1hs; (case q1F => k_asm); (case q1X => k_asm); (case q1l => k_is); (case q1hs => with_unfolding_all rfl)); intro _)
  unfold Con
  intro dp un gd cn cs a ccd cl outer A₀ base h₀ L m s Q E B F X N T hk hd' hu hret
  refine wpAny_call ?_
  k_dflt cell_enter
  (k_with "state" => first | exact crc_turn (by assumption) | rfl)
  (k_with "pyIter bytes" => k_state (fun pre word => word = pre.foldl stepI 4294967295) "word")
  k_steps
  all_goals (exact con_ret hret ⟨rfl, _, crc_fin (by assumption)⟩ (by k_asm) (by k_asm))
local macro_rules | `(tactic| k_enter) => `(tactic| first | (refine' code_def ?k1 ?k2 ?k3 ?k4 ?k5 ?kA ?kF ?kK ?k6 ?k7 ?k8 ?k9 ?kB ?_ ?c2 ?c3 ?c4 ?c5; (case kA => exact rfl); (case kF => exact rfl); (case kK => first | exact rfl | assumption); (case k1 => k_asm); (case k2 => k_asm); (case k3 => k_asm); (case k4 => k_asm); (case k5 => k_asm); (case k6 => k_is); (case k7 => k_is); (case k8 => ktr_room); (case k9 => first | exact BindsTo.of_eq rfl | exact binds_K (by k_in) rfl (by k_is) rfl rfl rfl); (case c5 => decide); (case kB => exact locs rfl); (case c2 => exact rfl); (case c3 => exact rfl); (case c4 => exact rfl); k_whole; intro g' L' h' FG' F' N' B' X' T'; (try dsimp only); (try k_lift B'); (try k_fold)))
theorem leN {a b : Nat} (h : a ≤ b) : a ≤ b := h
theorem lt_off {d c : Addr} {l : Led} (h : ∀ p ∈ l, p.1 < d) (hc : d ≤ c) : ∀ p ∈ l, p.1 ≠ c := fun p hp e => by have := h p hp; rw [e] at this; exact absurd (Nat.lt_of_lt_of_le this hc) (Nat.lt_irrefl _)
theorem allLt_lt {d : Addr} {l : Led} (h : AllLt d l) : ∀ p ∈ l, p.1 < d := by
  induction l with
  | nil => intro p hp; cases hp
  | cons q r ih =>
    intro p hp
    rcases List.mem_cons.mp hp with e | hp
    · rw [e]; exact h.1
    · exact ih h.2 p hp
local macro_rules | `(tactic| k_all) => `(tactic| first
  | exact lt_off (by with_reducible assumption) (by refine leN ?_; (try dsimp only); omega)
  | exact lt_off (allLt_lt (by with_reducible assumption)) (by refine leN ?_; (try dsimp only); omega)
  | exact lt_off (allLt_lt (And.right (by with_reducible assumption))) (by refine leN ?_; (try dsimp only); omega)
  | exact lt_off (allLt_lt (And.right (And.right (by with_reducible assumption)))) (by refine leN ?_; (try dsimp only); omega))
theorem and255_lo (x : Int) : 0 ≤ Builtin.bitAnd x 255 := by rw [bitAnd_m8]; omega
theorem and255_hi (x : Int) : Builtin.bitAnd x 255 < 256 := by rw [bitAnd_m8]; omega
local macro_rules | `(tactic| kba_bound) => `(tactic| ((try dsimp only); first | exact and255_lo _ | exact and255_hi _))
local macro_rules | `(tactic| kbe_bound) => `(tactic| ((try dsimp only); first | exact and255_lo _ | exact and255_hi _))
def fsumI (x : Int) : Array UInt8 := byteArr (List.map (fun k' => Builtin.bitAnd (x.fdiv (2 ^ (8 * k').toNat)) 255) (rangeKs 0 ((4 : Int) - 0).toNat))
theorem fsum_con (w : World) (mean : ExcName → Option Value) (mg mb : Str → Option Value) (news : Led) (b : Array UInt8) (t : Tok) :
    Con w mean mg mb 4 32 121 [.bytes b t] news (fun r n' => n' = news ∧ ∃ tk, r = .bytes (fsumI (crcI b)) tk) := by
  k_with_none
  k_with "call ref" => (k_here; (with_reducible show wpAny _ _ (PySem.call (Value.ref 116) [Value.bytes _ _]) _ _ _); k_dflt (refine' Con.use (crc_con _ _ _ _ _ _ _) ?q2k1 ?q2k2 ?q2k3 ?q2k4 ?q2k5 ?q2k6 ?q2k7 ?q2k8 ?_; (case q2k1 => k_asm); (case q2k2 => k_asm); (case q2k3 => k_asm); (case q2k4 => k_asm); (case q2k5 => k_asm); (case q2k6 => first | exact rfl | assumption); (case q2k7 => ktr_room); (case q2k8 => ktr_units)); intro r9 n9 h9 tk9 hr9 F9 N9; obtain ⟨e9, tk8, e8⟩ := hr9; subst e9; subst e8; (try dsimp only); (try k_fold))
  unfold Con
  intro dp un gd cn cs a ccd cl outer A₀ base h₀ L m s Q E B F X N T hk hd' hu hret
  refine wpAny_call ?_
  k_dflt (first | (refine' code_def ?k1 ?k2 ?k3 ?k4 ?k5 ?kA ?kF ?kK ?k6 ?k7 ?k8 ?k9 ?kB ?_ ?c2 ?c3 ?c4 ?c5; (case kA => exact rfl); (case kF => exact rfl); (case kK => first | exact rfl | assumption); (case k1 => k_asm); (case k2 => k_asm); (case k3 => k_asm); (case k4 => k_asm); (case k5 => k_asm); (case k6 => k_is); (case k7 => k_is); (case k8 => ktr_room); (case k9 => first | exact BindsTo.of_eq rfl | exact binds_K (by k_in) rfl (by k_is) rfl rfl rfl); (case c5 => decide); (case kB => exact locs rfl); (case c2 => exact rfl); (case c3 => exact rfl); (case c4 => exact rfl); k_whole; intro g' L' h' FG' F' N' B' X' T'; (try dsimp only); (try k_lift B'); (try k_fold)) | (refine' code_defC ?k1 ?k2 ?k3 ?k4 ?k5 ?kA ?kF ?kK ?k6 ?k7 ?k8 ?k9 ?kB ?kD ?_ ?c2 ?c3 ?c4; (case kA => exact rfl); (case kF => exact rfl); (case kK => first | exact rfl | assumption); (case k1 => k_asm); (case k2 => k_asm); (case k3 => k_asm); (case k4 => k_asm); (case k5 => k_asm); (case k6 => k_is); (case k7 => k_is); (case k8 => ktr_room); (case k9 => first | exact BindsTo.of_eq rfl | exact binds_K (by k_in) rfl (by k_is) rfl rfl rfl); (case kB => exact rfl); (case kD => decide +kernel); (case c2 => exact rfl); (case c3 => exact rfl); (case c4 => exact rfl); k_whole; intro g' L' h' tk' cells' FG' F' N' Y' B' X' T' l1; (try k_lt l1); k_cells Y'; (try simp only [List.cons_append, List.nil_append] at N'); (try dsimp only); (try k_lift B'); (try k_fold)))
  k_steps
  all_goals (exact con_ret hret ⟨rfl, _, rfl⟩ (by k_asm) (news_of (by k_asm) (by intro p hp; first | exact hp | exact .tail _ hp | exact .tail _ (.tail _ hp))))
local macro_rules | `(tactic| k_all) => `(tactic| first
  | with_reducible assumption
  | exact lt_off (by with_reducible assumption) (by refine leN ?_; (try dsimp only); omega)
  | exact lt_off (allLt_lt (by with_reducible assumption)) (by refine leN ?_; (try dsimp only); omega)
  | exact lt_off (allLt_lt (And.right (by with_reducible assumption))) (by refine leN ?_; (try dsimp only); omega)
  | exact lt_off (allLt_lt (And.right (And.right (by with_reducible assumption)))) (by refine leN ?_; (try dsimp only); omega))
abbrev L2 (x : Int) (tx : Tok) (y : Int) (ty : Tok) (n : Nat) : Obj := { cls := .type "list", data := .seq #[.int x tx, .int y ty] n }
theorem ints2 (x : Int) (tx : Tok) (y : Int) (ty : Tok) : IntsAre [.int x tx, .int y ty] [x, y] := .cons x tx (.cons y ty .nil)
theorem fm_lo (x : Int) {m : Int} (h : 0 < m) : 0 ≤ x.fmod m := Int.fmod_nonneg_of_pos _ h
theorem fm_hi (x : Int) {m : Int} (h : 0 < m) : x.fmod m < m := Int.fmod_lt_of_pos _ h
theorem take_mul (x y z : Int) : PySem.IntMulOk (([x, y].set (Int.toNat 1) (z.fmod 2147483647)).getD (Int.toNat 1) 0) (([x, y].set (Int.toNat 1) (z.fmod 2147483647)).getD (Int.toNat 1) 0) := by
  have a := fm_lo z (m := 2147483647) (by decide)
  have b := fm_hi z (m := 2147483647) (by decide)
  show PySem.IntMulOk (z.fmod 2147483647) (z.fmod 2147483647)
  exact PySem.IntMulOk.of_left (PySem.intBits_le_64 (by omega) (by omega))
theorem take_con (w : World) (mean : ExcName → Option Value) (mg mb : Str → Option Value) (news : Led) (src : Addr) (x y : Int) (tx ty : Tok) (n : Nat) (top : Int) (tt : Tok)
    (h0 : 0 < top) (hy0 : 0 ≤ y) (hy1 : y < 2147483647) (hoff : ∀ p ∈ news, p.1 ≠ src) :
    Con w mean mg mb 110 16 324 [.ref src, .int top tt] ((src, L2 x tx y ty n) :: news) (fun r n' => ∃ d tk x' y' tx' ty' k, r = .int d tk ∧ 0 ≤ d ∧ d < top ∧ 0 ≤ y' ∧ y' < 2147483647 ∧ n' = (src, L2 x' tx' y' ty' k) :: news) := by
  k_with_none
  k_with "call ref" => (k_here; (with_reducible show wpAny _ _ (PySem.call (Value.ref 116) [Value.bytes _ _]) _ _ _); k_dflt (refine' Con.use (crc_con _ _ _ _ _ _ _) ?q3k1 ?q3k2 ?q3k3 ?q3k4 ?q3k5 ?q3k6 ?q3k7 ?q3k8 ?_; (case q3k1 => k_asm); (case q3k2 => k_asm); (case q3k3 => k_asm); (case q3k4 => k_asm); (case q3k5 => k_asm); (case q3k6 => first | exact rfl | assumption); (case q3k7 => ktr_room); (case q3k8 => ktr_units)); intro r9 n9 h9 tk9 hr9 F9 N9; obtain ⟨e9, tk8, e8⟩ := hr9; subst e9; subst e8; (try dsimp only); (try k_fold))
  k_with "call ref" => (k_here; (with_reducible show wpAny _ _ (PySem.call (Value.ref 121) [Value.bytes _ _]) _ _ _); k_dflt (refine' Con.use (fsum_con _ _ _ _ _ _ _) ?q4k1 ?q4k2 ?q4k3 ?q4k4 ?q4k5 ?q4k6 ?q4k7 ?q4k8 ?_; (case q4k1 => k_asm); (case q4k2 => k_asm); (case q4k3 => k_asm); (case q4k4 => k_asm); (case q4k5 => k_asm); (case q4k6 => first | exact rfl | assumption); (case q4k7 => ktr_room); (case q4k8 => ktr_units)); intro r9 n9 h9 tk9 hr9 F9 N9; obtain ⟨e9, tk8, e8⟩ := hr9; subst e9; subst e8; (try dsimp only); (try k_fold))
  k_with "binaryOp FloorDiv int int" => (k_here; (refine floordiv_int (by omega) ?_ (.inr (PySem.PylongRoom.of (PySem.Heap.NoLimit.keeps (Top.nolimit (by assumption)) (Fr.keep (by assumption))) (by show _ + 100 < _; ktr_room)))))
  k_with "binaryOp Mult int int" => (k_here; (refine mul_int ?_ (take_mul _ _ _)))
  unfold Con
  intro dp un gd cn cs a ccd cl outer A₀ base h₀ L m s Q E B F X N T hk hd' hu hret
  have hI := ints2 x tx y ty
  refine wpAny_call ?_
  k_dflt (first | (refine' code_def ?k1 ?k2 ?k3 ?k4 ?k5 ?kA ?kF ?kK ?k6 ?k7 ?k8 ?k9 ?kB ?_ ?c2 ?c3 ?c4 ?c5; (case kA => exact rfl); (case kF => exact rfl); (case kK => first | exact rfl | assumption); (case k1 => k_asm); (case k2 => k_asm); (case k3 => k_asm); (case k4 => k_asm); (case k5 => k_asm); (case k6 => k_is); (case k7 => k_is); (case k8 => ktr_room); (case k9 => first | exact BindsTo.of_eq rfl | exact binds_K (by k_in) rfl (by k_is) rfl rfl rfl); (case c5 => decide); (case kB => exact locs rfl); (case c2 => exact rfl); (case c3 => exact rfl); (case c4 => exact rfl); k_whole; intro g' L' h' FG' F' N' B' X' T'; (try dsimp only); (try k_lift B'); (try k_fold)) | (refine' code_defC ?k1 ?k2 ?k3 ?k4 ?k5 ?kA ?kF ?kK ?k6 ?k7 ?k8 ?k9 ?kB ?kD ?_ ?c2 ?c3 ?c4; (case kA => exact rfl); (case kF => exact rfl); (case kK => first | exact rfl | assumption); (case k1 => k_asm); (case k2 => k_asm); (case k3 => k_asm); (case k4 => k_asm); (case k5 => k_asm); (case k6 => k_is); (case k7 => k_is); (case k8 => ktr_room); (case k9 => first | exact BindsTo.of_eq rfl | exact binds_K (by k_in) rfl (by k_is) rfl rfl rfl); (case kB => exact rfl); (case kD => decide +kernel); (case c2 => exact rfl); (case c3 => exact rfl); (case c4 => exact rfl); k_whole; intro g' L' h' tk' cells' FG' F' N' Y' B' X' T' l1; (try k_lt l1); k_cells Y'; (try simp only [List.cons_append, List.nil_append] at N'); (try dsimp only); (try k_lift B'); (try k_fold)))
  k_steps
  · refine con_ret hret ⟨_, _, _, _, _, _, _, rfl, ?_, ?_, ?_, ?_, rfl⟩ (by k_asm) (by k_asm)
    · exact fm_lo _ h0
    · exact fm_hi _ h0
    · exact hy0
    · exact hy1
  · refine con_ret hret ⟨_, _, _, _, _, _, _, rfl, ?_, ?_, ?_, ?_, rfl⟩ (by k_asm) (by k_asm)
    · exact fm_lo _ h0
    · exact fm_hi _ h0
    · exact fm_lo _ (by decide)
    · exact fm_hi _ (by decide)
theorem ne_all {a b : Addr} {o : Obj} {l : Led} (h : a ≠ b) (hl : ∀ p ∈ l, p.1 ≠ b) : ∀ p ∈ (a, o) :: l, p.1 ≠ b := fun p hp => by
  rcases List.mem_cons.mp hp with e | hp
  · rw [e]; exact h
  · exact hl p hp
theorem getD_in {ns : List Int} (hin : ∀ v ∈ ns, 0 ≤ v ∧ v < 256) (j : Nat) : 0 ≤ ns.getD j 0 ∧ ns.getD j 0 < 256 := by
  rw [List.getD_eq_getElem?_getD]
  cases h : ns[j]? with
  | none => exact ⟨by decide, by decide⟩
  | some v => exact hin v (List.mem_of_getElem? h)
theorem one_con (w : World) (mean : ExcName → Option Value) (mg mb : Str → Option Value) (news : Led) (src D : Addr) (x y : Int) (tx ty : Tok) (n : Nat) (vs : List Value) (ns : List Int) (k : Nat)
    (hy0 : 0 ≤ y) (hy1 : y < 2147483647) (hDs : D ≠ src) (hoff : ∀ p ∈ news, p.1 ≠ src) (hi : IntsAre vs ns) (hlen : ns.length = 5) (hin : ∀ v ∈ ns, 0 ≤ v ∧ v < 256) :
    Con w mean mg mb 120 32 331 [.ref src, .ref D] ((src, L2 x tx y ty n) :: (D, { cls := .type "list", data := .seq vs.toArray k }) :: news) (fun r n' => ∃ v tk x' y' tx' ty' n2, r = .int v tk ∧ 0 ≤ v ∧ v < 256 ∧ 0 ≤ y' ∧ y' < 2147483647 ∧
      n' = (src, L2 x' tx' y' ty' n2) :: (D, { cls := .type "list", data := .seq vs.toArray k }) :: news) := by
  k_with_none
  k_with "call ref" => (k_here; (with_reducible show wpAny _ _ (PySem.call (Value.ref 116) [Value.bytes _ _]) _ _ _); k_dflt (refine' Con.use (crc_con _ _ _ _ _ _ _) ?q7k1 ?q7k2 ?q7k3 ?q7k4 ?q7k5 ?q7k6 ?q7k7 ?q7k8 ?_; (case q7k1 => k_asm); (case q7k2 => k_asm); (case q7k3 => k_asm); (case q7k4 => k_asm); (case q7k5 => k_asm); (case q7k6 => first | exact rfl | assumption); (case q7k7 => ktr_room); (case q7k8 => ktr_units)); intro r9 n9 h9 tk9 hr9 F9 N9; obtain ⟨e9, tk8, e8⟩ := hr9; subst e9; subst e8; (try dsimp only); (try k_fold))
  k_with "call ref" => (k_here; (with_reducible show wpAny _ _ (PySem.call (Value.ref 121) [Value.bytes _ _]) _ _ _); k_dflt (refine' Con.use (fsum_con _ _ _ _ _ _ _) ?q8k1 ?q8k2 ?q8k3 ?q8k4 ?q8k5 ?q8k6 ?q8k7 ?q8k8 ?_; (case q8k1 => k_asm); (case q8k2 => k_asm); (case q8k3 => k_asm); (case q8k4 => k_asm); (case q8k5 => k_asm); (case q8k6 => first | exact rfl | assumption); (case q8k7 => ktr_room); (case q8k8 => ktr_units)); intro r9 n9 h9 tk9 hr9 F9 N9; obtain ⟨e9, tk8, e8⟩ := hr9; subst e9; subst e8; (try dsimp only); (try k_fold))
  k_with "binaryOp FloorDiv int int" => (k_here; (refine floordiv_int (by omega) ?_ (.inr (PySem.PylongRoom.of (PySem.Heap.NoLimit.keeps (Top.nolimit (by assumption)) (Fr.keep (by assumption))) (by show _ + 100 < _; ktr_room)))))
  k_with "call ref" => (k_here; (with_reducible show wpAny _ _ (PySem.call (Value.ref 324) [Value.ref _, Value.int _ _]) _ _ _); k_dflt (refine' Con.use (take_con _ _ _ _ _ _ _ _ _ _ _ _ _ ?q10c1 ?q10c2 ?q10c3 ?q10c4) ?q10k1 ?q10k2 ?q10k3 ?q10k4 ?q10k5 ?q10k6 ?q10k7 ?q10k8 ?_; (case q10k1 => k_asm); (case q10k2 => k_asm); (case q10k3 => k_asm); (case q10k4 => k_asm); (case q10k5 => k_asm); (case q10k6 => first | exact rfl | assumption); (case q10k7 => ktr_room); (case q10k8 => ktr_units); (case q10c1 => first | decide | omega); (case q10c2 => assumption); (case q10c3 => assumption); (case q10c4 => k_all)); intro r9 n9 h9 tk9 hr9 F9 N9; obtain ⟨d9, tk8, x9, y9, tx9, ty9, k9, e9, dlo9, dhi9, ylo9, yhi9, e8⟩ := hr9; subst e9; subst e8; (try dsimp only); (try k_fold))
  unfold Con
  intro dp un gd cn cs a ccd cl outer A₀ base h₀ L m s Q E B F X N T hk hd' hu hret
  have hoff' := ne_all (o := { cls := .type "list", data := .seq vs.toArray k }) hDs hoff
  refine wpAny_call ?_
  k_dflt (first | (refine' code_def ?k1 ?k2 ?k3 ?k4 ?k5 ?kA ?kF ?kK ?k6 ?k7 ?k8 ?k9 ?kB ?_ ?c2 ?c3 ?c4 ?c5; (case kA => exact rfl); (case kF => exact rfl); (case kK => first | exact rfl | assumption); (case k1 => k_asm); (case k2 => k_asm); (case k3 => k_asm); (case k4 => k_asm); (case k5 => k_asm); (case k6 => k_is); (case k7 => k_is); (case k8 => ktr_room); (case k9 => first | exact BindsTo.of_eq rfl | exact binds_K (by k_in) rfl (by k_is) rfl rfl rfl); (case c5 => decide); (case kB => exact locs rfl); (case c2 => exact rfl); (case c3 => exact rfl); (case c4 => exact rfl); k_whole; intro g' L' h' FG' F' N' B' X' T'; (try dsimp only); (try k_lift B'); (try k_fold)) | (refine' code_defC ?k1 ?k2 ?k3 ?k4 ?k5 ?kA ?kF ?kK ?k6 ?k7 ?k8 ?k9 ?kB ?kD ?_ ?c2 ?c3 ?c4; (case kA => exact rfl); (case kF => exact rfl); (case kK => first | exact rfl | assumption); (case k1 => k_asm); (case k2 => k_asm); (case k3 => k_asm); (case k4 => k_asm); (case k5 => k_asm); (case k6 => k_is); (case k7 => k_is); (case k8 => ktr_room); (case k9 => first | exact BindsTo.of_eq rfl | exact binds_K (by k_in) rfl (by k_is) rfl rfl rfl); (case kB => exact rfl); (case kD => decide +kernel); (case c2 => exact rfl); (case c3 => exact rfl); (case c4 => exact rfl); k_whole; intro g' L' h' tk' cells' FG' F' N' Y' B' X' T' l1; (try k_lt l1); k_cells Y'; (try simp only [List.cons_append, List.nil_append] at N'); (try dsimp only); (try k_lift B'); (try k_fold)))
  k_steps
  exact con_ret hret ⟨_, _, _, _, _, _, _, rfl, (getD_in hin _).1, (getD_in hin _).2, by assumption, by assumption, rfl⟩ (by k_asm) (by k_asm)
theorem take_at {w : World} {mean : ExcName → Option Value} {mg mb : Str → Option Value} {led : Led} {g : Obj → Led} {src : Addr} {x y : Int} {tx ty : Tok} {n : Nat} {top : Int} {tt : Tok} (U : UpdF src (L2 x tx y ty n) led g)
    (h0 : 0 < top) (hy0 : 0 ≤ y) (hy1 : y < 2147483647) :
    Con w mean mg mb 110 16 324 [.ref src, .int top tt] led (fun r n' => ∃ d tk x' y' tx' ty' k, r = .int d tk ∧ 0 ≤ d ∧ d < top ∧ 0 ≤ y' ∧ y' < 2147483647 ∧ n' = g (L2 x' tx' y' ty' k)) := by
  obtain ⟨own, rest, rfl, hg, h1, h2⟩ := U.split
  intro dp un gd cn cs a ccd cl outer A₀ base h₀ L m s Q E B F X N T hk hd' hu hret
  refine take_con w mean mg mb (own ++ rest) src x y tx ty n top tt h0 hy0 hy1 (fun p hp => (List.mem_append.mp hp).elim (h1 p) (h2 p)) dp un gd cn cs a ccd cl outer A₀ base h₀ L m s Q E B F X (news_of N fun p hp => ?_) T hk hd' hu fun r n' h' tk' hR F' N' => ?_
  · rcases List.mem_cons.mp hp with rfl | hp
    · simp
    · rcases List.mem_append.mp hp with hp | hp <;> simp [hp]
  · obtain ⟨d, tk, x', y', tx', ty', k, e, a1, a2, a3, a4, rfl⟩ := hR
    refine hret r (g (L2 x' tx' y' ty' k)) h' tk' ⟨d, tk, x', y', tx', ty', k, e, a1, a2, a3, a4, rfl⟩ F' (news_of N' fun p hp => ?_)
    rw [hg] at hp
    rcases List.mem_append.mp hp with hp | hp
    · simp [hp]
    · rcases List.mem_cons.mp hp with rfl | hp
      · simp
      · simp [hp]
theorem one_at {w : World} {mean : ExcName → Option Value} {mg mb : Str → Option Value} {led : Led} {g : Obj → Led} {src D : Addr} {x y : Int} {tx ty : Tok} {n : Nat} {vs : List Value} {ns : List Int} {k : Nat} (U : UpdF src (L2 x tx y ty n) led g) (hm : (D, ({ cls := .type "list", data := .seq vs.toArray k } : Obj)) ∈ led) (hDs : D ≠ src)
    (hy0 : 0 ≤ y) (hy1 : y < 2147483647) (hi : IntsAre vs ns) (hlen : ns.length = 5) (hin : ∀ v ∈ ns, 0 ≤ v ∧ v < 256) :
    Con w mean mg mb 120 32 331 [.ref src, .ref D] led (fun r n' => ∃ v tk x' y' tx' ty' n2, r = .int v tk ∧ 0 ≤ v ∧ v < 256 ∧ 0 ≤ y' ∧ y' < 2147483647 ∧ n' = g (L2 x' tx' y' ty' n2)) := by
  obtain ⟨own, rest, rfl, hg, h1, h2⟩ := U.split
  intro dp un gd cn cs a ccd cl outer A₀ base h₀ L m s Q E B F X N T hk hd' hu hret
  refine one_con w mean mg mb (own ++ rest) src D x y tx ty n vs ns k hy0 hy1 hDs (fun p hp => (List.mem_append.mp hp).elim (h1 p) (h2 p)) hi hlen hin dp un gd cn cs a ccd cl outer A₀ base h₀ L m s Q E B F X (news_of N fun p hp => ?_) T hk hd' hu fun r n' h' tk' hR F' N' => ?_
  · rcases List.mem_cons.mp hp with rfl | hp
    · simp
    · rcases List.mem_cons.mp hp with rfl | hp
      · exact hm
      · rcases List.mem_append.mp hp with hp | hp <;> simp [hp]
  · obtain ⟨v, tk, x', y', tx', ty', n2, e, a1, a2, a3, a4, rfl⟩ := hR
    refine hret r (g (L2 x' tx' y' ty' n2)) h' tk' ⟨v, tk, x', y', tx', ty', n2, e, a1, a2, a3, a4, rfl⟩ F' (news_of N' fun p hp => ?_)
    rw [hg] at hp
    rcases List.mem_append.mp hp with hp | hp
    · simp [hp]
    · rcases List.mem_cons.mp hp with rfl | hp
      · simp
      · simp [hp]
theorem five_in {d : Int} (h0 : 0 ≤ d) (h1 : d < 256) : ∀ v ∈ [0, 1, 255, 128, d], 0 ≤ v ∧ v < 256 := by
  intro v hv
  simp only [List.mem_cons, List.not_mem_nil, or_false] at hv
  omega
open PyProof.Rows.LCg in
theorem compRest_inv {prog : Program} {w : World} {A : Around} {h₀ : Heap} {L : Addr} {m : Str → Option Value} {env : Env} {elt : Expr} {x : Str} {scope : Scope} {cl : List (Str × Addr)} {s : Shared} {S : Led → Prop} {P : Nat → Value → Prop} {Fin : List Value → Led → Prop} {n : Nat}
    (J : Led → Prop) (Y : Value → Prop)
    (el : ∀ i ys news v I oI C oC D m₂ h tk (E' : Value → Shared → Prop), i < n → J news → ys.length = i → P i v → NsObj oC m₂ → m₂ x = some v → Fr h₀ L h m → News h₀ L h ((I, oI) :: (C, oC) :: (D, lst ys) :: news) → Off3 I C D news → ((@Ne Nat I C) ∧ (@Ne Nat I D) ∧ (@Ne Nat C D)) →
      wpAny (model prog w) A (eval elt (compEnvC scope cl C env)) (CompEnd h₀ L m { s with heap := h, toks := tk } I oI C oC D (lst ys) S (fun y news' => J news' ∧ Y y)) E' { s with heap := h, toks := tk })
    (fin : ∀ ys news', J news' → (∀ y ∈ ys, Y y) → ys.length = n → Fin ys news') :
    ∀ k i ys news, i + k = n → J news → (∀ y ∈ ys, Y y) → ys.length = i → CompRest prog w A h₀ L m env elt x scope cl s S P Fin k i ys news := by
  intro k
  induction k with
  | zero =>
    intro i ys news hn hJ hY hl
    exact CompRest.zero (fin ys news hJ hY (by omega))
  | succ k ih =>
    intro i ys news hn hJ hY hl
    refine CompRest.succ fun v I oI C oC D m₂ h tk E' hP hN hx F N off ne => ?_
    refine wpAny_mono (el i ys news v I oI C oC D m₂ h tk E' (by omega) hJ hl hP hN hx F N off ne) (fun y s₂ he => ?_) fun _ _ e => e
    obtain ⟨h', tk', news', e, F', N', off', hS, hJ', hY'⟩ := he
    refine ⟨h', tk', news', e, F', N', off', hS, ih (i + 1) (ys ++ [y]) news' (by omega) hJ' (fun z hz => ?_) (by simp [hl])⟩
    rcases List.mem_append.mp hz with hz | hz
    · exact hY z hz
    · rw [List.mem_singleton.mp hz]; exact hY'
def OctJ (c : Addr) (o : Obj) (src : Addr) (rest nw : Led) : Prop := ∃ x tx y ty k, 0 ≤ y ∧ y < 2147483647 ∧ nw = (c, o) :: (src, L2 x tx y ty k) :: rest
def OctY (v : Value) : Prop := ∃ i t, v = .int i t ∧ 0 ≤ i ∧ i < 256
theorem oct_ints : ∀ ys : List Value, (∀ y ∈ ys, OctY y) → ∃ ns, IntsAre ys ns ∧ KBa.In ns := by
  intro ys
  induction ys with
  | nil => intro _; exact ⟨[], .nil, fun n hn => nomatch hn⟩
  | cons v r ih =>
    intro h
    obtain ⟨i, t, rfl, h0, h1⟩ := h v List.mem_cons_self
    obtain ⟨ns, hi, hin⟩ := ih fun y hy => h y (List.mem_cons_of_mem _ hy)
    refine ⟨i :: ns, .cons i t hi, fun n hn => ?_⟩
    rcases List.mem_cons.mp hn with rfl | hn
    · exact ⟨h0, h1⟩
    · exact hin n hn
open PyProof.Rows.LCg in
theorem off_other {I C D c src : Addr} {o o' p p' : Obj} {rest : Led} (h : Off3 I C D ((c, o) :: (src, p) :: rest)) : Off3 I C D ((c, o') :: (src, p') :: rest) := h
open PyProof.Rows.LCg in
theorem octs_end {h₀ : Heap} {L : Addr} {m : Str → Option Value} {s₁ : Shared} {I C D c src : Addr} {oI oC oD o p : Obj} {rest all : Led} {h' : Heap} {tk : Nat} {x y i : Int} {tx ty t : Tok} {k : Nat}
    (F : Fr h₀ L h' m) (N : News h₀ L h' all) (sub : ∀ q ∈ (I, oI) :: (C, oC) :: (D, oD) :: (c, o) :: (src, L2 x tx y ty k) :: rest, q ∈ all) (off : Off3 I C D ((c, o) :: (src, p) :: rest)) (hy0 : 0 ≤ y) (hy1 : y < 2147483647) (hi0 : 0 ≤ i) (hi1 : i < 256) :
    CompEnd h₀ L m s₁ I oI C oC D oD (fun _ => True) (fun y news' => OctJ c o src rest news' ∧ OctY y) (.int i t) { s₁ with heap := h', toks := tk } :=
  CompEnd.intro F N ((c, o) :: (src, L2 x tx y ty k) :: rest) sub (off_other off) True.intro ⟨⟨x, tx, y, ty, k, hy0, hy1, rfl⟩, ⟨i, t, rfl, hi0, hi1⟩⟩
open PyProof.Rows.LCg in
theorem octs_src {prog : Program} {w : World} {A : Around} {h₀ : Heap} {L : Addr} {m : Str → Option Value} {env : Env} {elt : Expr} {xn : Str} {scope : Scope} {cl : List (Str × Addr)} {Fin : Shared → List Value → Led → Prop} {s₁ : Shared} {r c src : Addr} {o : Obj} {rest : Led} {b : Int} {t u v tx ty : Tok} {x y : Int} {k : Nat}
    (hh : A.handled = none) (F : Fr h₀ L s₁.heap m) (N : News h₀ L s₁.heap ((c, o) :: (src, L2 x tx y ty k) :: rest)) (hr : IsRange s₁.heap r 0 b 1 t u v) (hb0 : 0 ≤ b) (hb1 : b < 13) (hy0 : 0 ≤ y) (hy1 : y < 2147483647)
    (el : ∀ ys x tx y ty k v I oI C oC D m₂ g h tk (E' : Value → Shared → Prop), 0 ≤ y → y < 2147483647 → NsObj oC m₂ → m₂ xn = some v → Fr h₀ L h m → News h₀ L h ((I, oI) :: (C, oC) :: (D, lst ys) :: (c, o) :: (src, L2 x tx y ty k) :: rest) → Off3 I C D ((c, o) :: (src, L2 x tx y ty k) :: rest) → ((@Ne Nat I C) ∧ (@Ne Nat I D) ∧ (@Ne Nat C D)) →
      wpAny (model prog w) A (eval elt (compEnvC scope cl C env)) (CompEnd h₀ L m { { s₁ with heap := g } with heap := h, toks := tk } I oI C oC D (lst ys) (fun _ => True) (fun y news' => OctJ c o src rest news' ∧ OctY y)) E' { { s₁ with heap := g } with heap := h, toks := tk })
    (fin : ∀ g ys ns x tx y ty k, 0 ≤ y → y < 2147483647 → IntsAre ys ns → KBa.In ns → ns.length = b.toNat → Fin { s₁ with heap := g } ys ((c, o) :: (src, L2 x tx y ty k) :: rest)) : CompSrc prog w A h₀ L m env elt xn scope cl Fin (.ref r) s₁ := by
  refine CompSrc.range (n := (b - 0).toNat) hh F N hr (small_one (by omega) (by omega) (by omega) (by omega)) (rangeSize_nat _ _) (by rw [PySem.sizeLine_eq]; omega) fun g => ?_
  refine compRest_inv (OctJ c o src rest) OctY (fun i ys news v I oI C oC D m₂ h tk E' hi hJ hl hP hN hx F' N' off ne => ?_) (fun ys news' hJ hY hl => ?_) (b - 0).toNat 0 [] _ (Nat.zero_add _) ⟨x, tx, y, ty, k, hy0, hy1, rfl⟩ (fun y hy => nomatch hy) rfl
  · obtain ⟨x, tx, y, ty, k, a1, a2, rfl⟩ := hJ
    exact el ys x tx y ty k v I oI C oC D m₂ g h tk E' a1 a2 hN hx F' N' off ne
  · obtain ⟨x, tx, y, ty, k, a1, a2, rfl⟩ := hJ
    obtain ⟨ns, hi, hin⟩ := oct_ints ys hY
    exact fin g ys ns x tx y ty k a1 a2 hi hin (by have := hi.length; omega)
theorem octs_con (w : World) (mean : ExcName → Option Value) (mg mb : Str → Option Value) (news : Led) (src : Addr) (x y : Int) (tx ty : Tok) (n : Nat) (many : Int) (tm : Tok)
    (hy0 : 0 ≤ y) (hy1 : y < 2147483647) (hm0 : 0 ≤ many) (hm1 : many < 13) (hoff : ∀ p ∈ news, p.1 ≠ src) :
    Con w mean mg mb 140 48 346 [.ref src, .int many tm] ((src, L2 x tx y ty n) :: news) (fun r n' => ∃ b tk x' y' tx' ty' n2, r = .bytes b tk ∧ b.size = many.toNat ∧ 0 ≤ y' ∧ y' < 2147483647 ∧
      n' = (src, L2 x' tx' y' ty' n2) :: news) := by
  k_with_none
  k_with "call ref" => (k_here; (with_reducible show wpAny _ _ (PySem.call (Value.ref 116) [Value.bytes _ _]) _ _ _); k_dflt (refine' Con.use (crc_con _ _ _ _ _ _ _) ?q11k1 ?q11k2 ?q11k3 ?q11k4 ?q11k5 ?q11k6 ?q11k7 ?q11k8 ?_; (case q11k1 => k_asm); (case q11k2 => k_asm); (case q11k3 => k_asm); (case q11k4 => k_asm); (case q11k5 => k_asm); (case q11k6 => first | exact rfl | assumption); (case q11k7 => ktr_room); (case q11k8 => ktr_units)); intro r9 n9 h9 tk9 hr9 F9 N9; obtain ⟨e9, tk8, e8⟩ := hr9; subst e9; subst e8; (try dsimp only); (try k_fold))
  k_with "call ref" => (k_here; (with_reducible show wpAny _ _ (PySem.call (Value.ref 121) [Value.bytes _ _]) _ _ _); k_dflt (refine' Con.use (fsum_con _ _ _ _ _ _ _) ?q12k1 ?q12k2 ?q12k3 ?q12k4 ?q12k5 ?q12k6 ?q12k7 ?q12k8 ?_; (case q12k1 => k_asm); (case q12k2 => k_asm); (case q12k3 => k_asm); (case q12k4 => k_asm); (case q12k5 => k_asm); (case q12k6 => first | exact rfl | assumption); (case q12k7 => ktr_room); (case q12k8 => ktr_units)); intro r9 n9 h9 tk9 hr9 F9 N9; obtain ⟨e9, tk8, e8⟩ := hr9; subst e9; subst e8; (try dsimp only); (try k_fold))
  k_with "binaryOp FloorDiv int int" => (k_here; (refine floordiv_int (by omega) ?_ (.inr (PySem.PylongRoom.of (PySem.Heap.NoLimit.keeps (Top.nolimit (by assumption)) (Fr.keep (by assumption))) (by show _ + 100 < _; ktr_room)))))
  k_with "call ref" => (k_here; (with_reducible show wpAny _ _ (PySem.call (Value.ref 324) [Value.ref _, Value.int _ _]) _ _ _); k_dflt (refine' Con.use (take_at ?q14cU ?q14c1 ?q14c2 ?q14c3) ?q14k1 ?q14k2 ?q14k3 ?q14k4 ?q14k5 ?q14k6 ?q14k7 ?q14k8 ?_; (case q14k1 => k_asm); (case q14k2 => k_asm); (case q14k3 => k_asm); (case q14k4 => k_asm); (case q14k5 => k_asm); (case q14k6 => first | exact rfl | assumption); (case q14k7 => ktr_room); (case q14k8 => ktr_units); (case q14cU => k_updF); (case q14c1 => first | decide | omega); (case q14c2 => assumption); (case q14c3 => assumption)); intro r9 n9 h9 tk9 hr9 F9 N9; obtain ⟨d9, tk8, x9, y9, tx9, ty9, k9, e9, dlo9, dhi9, ylo9, yhi9, e8⟩ := hr9; subst e9; subst e8; (try dsimp only at N9); (try dsimp only); (try k_sweep); (try k_fold))
  k_with "call ref" => (k_here; (with_reducible show wpAny _ _ (PySem.call (Value.ref 331) [Value.ref _, Value.ref _]) _ _ _); k_dflt (refine' Con.use (one_at ?q15cU ?q15cm ?q15cne ?q15c2 ?q15c3 ?q15ci ?q15cl ?q15cn) ?q15k1 ?q15k2 ?q15k3 ?q15k4 ?q15k5 ?q15k6 ?q15k7 ?q15k8 ?_; (case q15k1 => k_asm); (case q15k2 => k_asm); (case q15k3 => k_asm); (case q15k4 => k_asm); (case q15k5 => k_asm); (case q15k6 => first | exact rfl | assumption); (case q15k7 => ktr_room); (case q15k8 => ktr_units); (case q15cU => k_updF); (case q15cm => k_mem); (case q15cne => k_ne); (case q15c2 => assumption); (case q15c3 => assumption); (case q15ci => l_ints); (case q15cl => rfl); (case q15cn => (refine five_in ?_ ?_ <;> assumption))); intro r9 n9 h9 tk9 hr9 F9 N9; obtain ⟨v9, tk8, x9, y9, tx9, ty9, k9, e9, vlo9, vhi9, ylo9, yhi9, e8⟩ := hr9; subst e9; subst e8; (try dsimp only at N9); (try dsimp only); (try k_sweep); (try k_fold))
  k_with "CompSrc" => (k_here; k_dflt (refine' octs_src ?q16k1 ?q16k2 ?q16k3 ?q16k4 ?q16k5 ?q16k6 ?q16k7 ?q16k8 ?_ ?_; (case q16k1 => rfl); (case q16k2 => k_asm); (case q16k3 => k_asm); (case q16k4 => assumption); (case q16k5 => omega); (case q16k6 => omega); (case q16k7 => assumption); (case q16k8 => assumption)); (focus (intro ys' x' tx' y' ty' k' v' I' oI' C' oC' D' m' g' h' tk' E' hy0' hy1' hC' hx' F' N' off' ne'; (have off2' := off'); (try simp only [LCg.Off3, and_true] at off2'); (try k_fold))))
  k_with "CompEnd" => (refine' octs_end ?q17oF ?q17oN ?q17oS ?q17oO ?q17o1 ?q17o2 ?q17o3 ?q17o4; (case q17oF => assumption); (case q17oN => assumption); (case q17oS => kcf_all); (case q17oO => with_reducible assumption); (case q17o1 => assumption); (case q17o2 => assumption); (case q17o3 => assumption); (case q17o4 => assumption))
  unfold Con
  intro dp un gd cn cs a ccd cl outer A₀ base h₀ L m s Q E B F X N T hk hd' hu hret
  refine wpAny_call ?_
  k_dflt (first | (refine' code_def ?k1 ?k2 ?k3 ?k4 ?k5 ?kA ?kF ?kK ?k6 ?k7 ?k8 ?k9 ?kB ?_ ?c2 ?c3 ?c4 ?c5; (case kA => exact rfl); (case kF => exact rfl); (case kK => first | exact rfl | assumption); (case k1 => k_asm); (case k2 => k_asm); (case k3 => k_asm); (case k4 => k_asm); (case k5 => k_asm); (case k6 => k_is); (case k7 => k_is); (case k8 => ktr_room); (case k9 => first | exact BindsTo.of_eq rfl | exact binds_K (by k_in) rfl (by k_is) rfl rfl rfl); (case c5 => decide); (case kB => exact locs rfl); (case c2 => exact rfl); (case c3 => exact rfl); (case c4 => exact rfl); k_whole; intro g' L' h' FG' F' N' B' X' T'; (try dsimp only); (try k_lift B'); (try k_fold)) | (refine' code_defC ?k1 ?k2 ?k3 ?k4 ?k5 ?kA ?kF ?kK ?k6 ?k7 ?k8 ?k9 ?kB ?kD ?_ ?c2 ?c3 ?c4; (case kA => exact rfl); (case kF => exact rfl); (case kK => first | exact rfl | assumption); (case k1 => k_asm); (case k2 => k_asm); (case k3 => k_asm); (case k4 => k_asm); (case k5 => k_asm); (case k6 => k_is); (case k7 => k_is); (case k8 => ktr_room); (case k9 => first | exact BindsTo.of_eq rfl | exact binds_K (by k_in) rfl (by k_is) rfl rfl rfl); (case kB => exact rfl); (case kD => decide +kernel); (case c2 => exact rfl); (case c3 => exact rfl); (case c4 => exact rfl); k_whole; intro g' L' h' tk' cells' FG' F' N' Y' B' X' T' l1; (try k_lt l1); k_cells Y'; (try simp only [List.cons_append, List.nil_append] at N'); (try dsimp only); (try k_lift B'); (try k_fold)))
  k_steps
  refine' con_ret hret (n' := (src, L2 _ _ _ _ _) :: news) ⟨_, _, _, _, _, _, _, rfl, ?g1, ?g2, ?g3, rfl⟩ ?gF (news_of ?gN ?gS)
  (case gF => assumption)
  (case gN => assumption)
  (case gS => kcf_all)
  (case g2 => assumption)
  (case g3 => assumption)
  (case g1 => rw [byteArr_size]; assumption)
/-- as Con, with a word about the heap that the outermost frame began with -/
def ConB (w : World) (mean : ExcName → Option Value) (mg mb : Str → Option Value) (H : Heap → Prop) (d u : Nat) (f : Addr) (vs : List Value) (news : Led) (R : Value → Led → Prop) : Prop :=
  ∀ (dp un : Nat) (gd : Option (List Code)) (cn : Str) (cs : Scope) (a : Addr) (ccd : Value) (cl : List (Str × Addr)) (outer : List Env) (A₀ : Around) (base h₀ : Heap) (L : Addr) (m : Str → Option Value) (s : Shared) (Q E : Value → Shared → Prop),
    Below A₀ base outer h₀ → Fr h₀ L s.heap m → (hd.heap_1 w.params).In h₀ → News h₀ L s.heap news → Top qv (looseW qv loose0) mean mg mb h₀ → cs.kind = .function → dp + d < recursionLimit → un + u < cLine → H base →
    (∀ (r : Value) (n' : Led) (h' : Heap) (tk' : Nat), R r n' → Fr h₀ L h' m → News h₀ L h' n' → Q r { s with heap := h', toks := tk' }) →
      wpAny (model P0 w) (ktrTop dp un gd cn cs L a ccd cl outer) (call (.ref f) vs) Q E s
theorem ConB.use {w : World} {mean : ExcName → Option Value} {mg mb : Str → Option Value} {H : Heap → Prop} {d u : Nat} {f : Addr} {vs : List Value} {news : Led} {R : Value → Led → Prop} (C : ConB w mean mg mb H d u f vs news R)
    {dp un : Nat} {gd : Option (List Code)} {cn : Str} {cs : Scope} {a : Addr} {ccd : Value} {cl : List (Str × Addr)} {outer : List Env} {A₀ : Around} {base h₀ : Heap} {L : Addr} {m : Str → Option Value} {s : Shared} {Q E : Value → Shared → Prop}
    (B : Below A₀ base outer h₀) (F : Fr h₀ L s.heap m) (X : (hd.heap_1 w.params).In h₀) (N : News h₀ L s.heap news) (T : Top qv (looseW qv loose0) mean mg mb h₀) (hk : cs.kind = .function) (hd' : dp + d < recursionLimit) (hu : un + u < cLine) (hH : H base)
    (k : ∀ (r : Value) (n' : Led) (h' : Heap) (tk' : Nat), R r n' → Fr h₀ L h' m → News h₀ L h' n' → Q r { s with heap := h', toks := tk' }) :
      wpAny (model P0 w) (ktrTop dp un gd cn cs L a ccd cl outer) (call (.ref f) vs) Q E s := C _ _ _ _ _ _ _ _ _ _ _ _ _ _ _ _ _ B F X N T hk hd' hu hH k
theorem pool_con (w : World) (mean : ExcName → Option Value) (mg mb : Str → Option Value) (news : Led) (l : Addr) (vs : List Value) (ns : List Int) (k : Int) (tk₀ : Tok) (hi : IntsAre vs ns) (hfit : ns.length < 2 ^ 62) (hk0 : 0 ≤ k) (hk1 : k < 2) :
    ConB w mean mg mb (fun base => base.IsList l vs.toArray) 120 16 317 [.ref l, .int k tk₀] news (fun r n' => ∃ a x y tx ty e, r = .ref a ∧ 0 ≤ y ∧ y < 2147483647 ∧ (∀ p ∈ news, p.1 ≠ a) ∧ n' = (a, L2 x tx y ty e) :: news) := by
  k_with_none
  k_with "call ref" => (k_here; (with_reducible show wpAny _ _ (PySem.call (Value.ref 116) [Value.bytes _ _]) _ _ _); k_dflt (refine' Con.use (crc_con _ _ _ _ _ _ _) ?q18k1 ?q18k2 ?q18k3 ?q18k4 ?q18k5 ?q18k6 ?q18k7 ?q18k8 ?_; (case q18k1 => k_asm); (case q18k2 => k_asm); (case q18k3 => k_asm); (case q18k4 => k_asm); (case q18k5 => k_asm); (case q18k6 => first | exact rfl | assumption); (case q18k7 => ktr_room); (case q18k8 => ktr_units)); intro r9 n9 h9 tk9 hr9 F9 N9; obtain ⟨e9, tk8, e8⟩ := hr9; subst e9; subst e8; (try dsimp only); (try k_fold))
  k_with "call ref" => (k_here; (with_reducible show wpAny _ _ (PySem.call (Value.ref 121) [Value.bytes _ _]) _ _ _); k_dflt (refine' Con.use (fsum_con _ _ _ _ _ _ _) ?q19k1 ?q19k2 ?q19k3 ?q19k4 ?q19k5 ?q19k6 ?q19k7 ?q19k8 ?_; (case q19k1 => k_asm); (case q19k2 => k_asm); (case q19k3 => k_asm); (case q19k4 => k_asm); (case q19k5 => k_asm); (case q19k6 => first | exact rfl | assumption); (case q19k7 => ktr_room); (case q19k8 => ktr_units)); intro r9 n9 h9 tk9 hr9 F9 N9; obtain ⟨e9, tk8, e8⟩ := hr9; subst e9; subst e8; (try dsimp only); (try k_fold))
  k_with "binaryOp FloorDiv int int" => (k_here; (refine floordiv_int (by omega) ?_ (.inr (PySem.PylongRoom.of (PySem.Heap.NoLimit.keeps (Top.nolimit (by assumption)) (Fr.keep (by assumption))) (by show _ + 100 < _; ktr_room)))))
  unfold ConB
  intro dp un gd cn cs a ccd cl outer A₀ base h₀ L m s Q E B F X N T hk hd' hu hl hret
  refine wpAny_call ?_
  k_dflt (first | (refine' code_def ?k1 ?k2 ?k3 ?k4 ?k5 ?kA ?kF ?kK ?k6 ?k7 ?k8 ?k9 ?kB ?_ ?c2 ?c3 ?c4 ?c5; (case kA => exact rfl); (case kF => exact rfl); (case kK => first | exact rfl | assumption); (case k1 => k_asm); (case k2 => k_asm); (case k3 => k_asm); (case k4 => k_asm); (case k5 => k_asm); (case k6 => k_is); (case k7 => k_is); (case k8 => ktr_room); (case k9 => first | exact BindsTo.of_eq rfl | exact binds_K (by k_in) rfl (by k_is) rfl rfl rfl); (case c5 => decide); (case kB => exact locs rfl); (case c2 => exact rfl); (case c3 => exact rfl); (case c4 => exact rfl); k_whole; intro g' L' h' FG' F' N' B' X' T'; (try dsimp only); (try k_lift B'); (try k_fold)) | (refine' code_defC ?k1 ?k2 ?k3 ?k4 ?k5 ?kA ?kF ?kK ?k6 ?k7 ?k8 ?k9 ?kB ?kD ?_ ?c2 ?c3 ?c4; (case kA => exact rfl); (case kF => exact rfl); (case kK => first | exact rfl | assumption); (case k1 => k_asm); (case k2 => k_asm); (case k3 => k_asm); (case k4 => k_asm); (case k5 => k_asm); (case k6 => k_is); (case k7 => k_is); (case k8 => ktr_room); (case k9 => first | exact BindsTo.of_eq rfl | exact binds_K (by k_in) rfl (by k_is) rfl rfl rfl); (case kB => exact rfl); (case kD => decide +kernel); (case c2 => exact rfl); (case c3 => exact rfl); (case c4 => exact rfl); k_whole; intro g' L' h' tk' cells' FG' F' N' Y' B' X' T' l1; (try k_lt l1); k_cells Y'; (try simp only [List.cons_append, List.nil_append] at N'); (try dsimp only); (try k_lift B'); (try k_fold)))
  k_steps
  all_goals (
    refine' con_ret hret (n' := (_, L2 _ _ _ _ _) :: news) ⟨_, _, _, _, _, _, rfl, ?g1, ?g2, ?g3, rfl⟩ ?gF ?gN
    (case gF => assumption)
    (case gN => assumption)
    (case g1 => exact fm_lo _ (by decide))
    (case g2 => exact fm_hi _ (by decide))
    (case g3 => k_all))
open PySem.Spec PySem.Calls PyProof.Rows.LCg
/-- what a block's iterable must tell, whatever it is: how its iterator is made, what it hands out -/
def WSrc (prog : Program) (w : World) (A : Around) (h₀ : Heap) (L : Addr) (m : Str → Option Value) (env : Env) (elt : Expr) (x : Str) (scope : Scope) (cl : List (Str × Addr)) (Fin : Shared → List Value → Led → Prop) (xv : Value) (s₁ : Shared) : Prop :=
  ∃ (io : Obj) (n : Nat) (P : Nat → Value → Prop) (St : Nat → Heap → Prop) (news : Led), A.handled = none ∧ Fr h₀ L s₁.heap m ∧ News h₀ L s₁.heap news ∧ io.isFreed = false ∧
    (∀ (Q E : Value → Shared → Prop), Q (.ref s₁.heap.objs.size) { s₁ with heap := s₁.heap.push io } → wpAny (model prog w) A (pyIter xv) Q E s₁) ∧
    Walks prog w A s₁.heap.objs.size [s₁.heap.objs.size] [s₁.heap.objs.size] n P St ∧ (∀ i h, St i h → ∃ o, h.get? s₁.heap.objs.size = some o) ∧
    (∀ i h h' o, St i h → h.get? s₁.heap.objs.size = some o → h'.get? s₁.heap.objs.size = some o → St i h') ∧ St 0 (s₁.heap.push io) ∧ n ≤ sizeLine ∧
    ∀ s₂ : Shared, (∃ h, s₂ = { s₁ with heap := h }) → CompRest prog w A h₀ L m env elt x scope cl s₂ (fun _ => True) P (Fin s₂) n 0 [] news
section
variable {prog : Program} {w : World} {A : Around} {E : Value → Shared → Prop} {s : Shared} {h₀ : Heap} {L : Addr} {m : Str → Option Value} {env : Env}
theorem ListComp_W {elt iter : Expr} {x : Str} {px : Pos} {scope : Scope} {cl : List (Str × Addr)} {pos : Pos} {Q : Value → Shared → Prop} (F₀ : Fr h₀ L s.heap m)
    (hclos : closureFor scope env = pure cl) (hcell : ∀ y ∈ scope.names, y.2 ≠ .cell) (hkind : scope.kind = .function)
    (hnames : ∀ y ∈ scope.names, y.2 = .local → scope.names.lookup y.1 = some .local) (hx : scope.names.lookup x = some .local)
    (h : wpAny (model prog w) A (eval iter env) (WSrc prog w A h₀ L m env elt x scope cl (fun s₂ => FinE h₀ L m s₂ Q)) E s)
    (hs : ∀ x, foldedSetIterable iter env x = pure x) :
    wpAny (model prog w) A (eval (.ListComp elt [⟨.Name x px, iter, [], 0⟩] scope pos) env) Q E s := by
  rw [eval_ListComp]
  refine wpAny_comprehension_free (use := none) rfl hs hclos hkind hnames (wpAny_mono h (fun xv s₁ h₁ => ?_) fun _ _ e => e)
  obtain ⟨io, n, P, St, news, hh, F, N, hfree, hit, W, hIo, hSt, hst, hsz, R⟩ := h₁
  refine hit _ _ ?_
  have up : ∀ b o, s₁.heap.get? b = some o → (s₁.heap.push io).get? b = some o := fun b o e => Heap.get?_push_of_some _ e
  refine block_U W hsz hIo (fun i h h' o nw a b c _ _ _ => hSt i h h' o a b c) hcell hkind hx hst (fun b hb => ?_) (F.keeps up) (N.grown up) (Nat.ne_of_lt F.ns.lt) (next_is_new F) (fun p hp => Nat.ne_of_lt (Heap.lt_size (N p hp).1)) trivial (R _ ⟨_, rfl⟩) ?_
  · rw [List.mem_singleton.mp hb]
    show s₁.heap.objs.size < (s₁.heap.push _).objs.size
    rw [Heap.size_push]; exact Nat.lt_succ_self _
  · intro D C h tk m' ys news' F' N' o1 hn hC₀ hD₀ hCL hDL hCD offC fin
    refine ⟨m', hn, fun h'' hs'' => fin D h'' tk (F'.change hs'' hCL hC₀) (fun p hp => ?_) o1⟩
    refine ⟨hs''.extBut _ _ ?_ (N' p hp).1, (N' p hp).2⟩
    rcases List.mem_cons.mp hp with rfl | hp
    · exact Ne.symm hCD
    · exact offC p hp
theorem wsrc_range {elt : Expr} {x : Str} {scope : Scope} {cl : List (Str × Addr)} {Fin : Shared → List Value → Led → Prop} {r : Addr} {a b c : Int} {t u v : Tok} {n : Nat} {news : Led} {s₁ : Shared}
    (hh : A.handled = none) (F : Fr h₀ L s₁.heap m) (N : News h₀ L s₁.heap news) (hr : IsRange s₁.heap r a b c t u v) (hsm : Builtin.Range.small a b c = true) (hn : Builtin.Range.rangeSize a b c = ((n : Nat) : Int)) (hsz : n ≤ sizeLine)
    (h : ∀ g, CompRest prog w A h₀ L m env elt x scope cl { s₁ with heap := g } (fun _ => True) (fun i v => ∃ t, v = .int (a + (i : Int) * c) t) (Fin { s₁ with heap := g }) n 0 [] news) :
    WSrc prog w A h₀ L m env elt x scope cl Fin (.ref r) s₁ := by
  refine ⟨_, n, _, _, news, hh, F, N, rfl, fun Q E hQ => wpAny_pyIter_range hr hsm hQ, Walks.range hh s₁.heap.objs.size a c n, fun i h st => ⟨_, st⟩, fun i h h' o st e e' => ?_, ?_, hsz, fun s₂ ⟨g, e⟩ => e ▸ h g⟩
  · have st' : h.get? s₁.heap.objs.size = some _ := st
    show h'.get? s₁.heap.objs.size = some _
    rw [e', ← e]; exact st'
  · show IsRangeIter _ _ _ _ _
    rw [hn]
    simpa using Heap.get?_push_size _ rfl
theorem wsrc_bytes {elt : Expr} {x : Str} {scope : Scope} {cl : List (Str × Addr)} {Fin : Shared → List Value → Led → Prop} {b : Array UInt8} {t : Tok} {news : Led} {s₁ : Shared}
    (hh : A.handled = none) (F : Fr h₀ L s₁.heap m) (N : News h₀ L s₁.heap news) (hsz : b.size ≤ sizeLine)
    (h : ∀ g, CompRest prog w A h₀ L m env elt x scope cl { s₁ with heap := g } (fun _ => True) (fun i v => ∃ c u, b[i]? = some c ∧ v = .int (c.toNat : Int) u) (Fin { s₁ with heap := g }) b.size 0 [] news) :
    WSrc prog w A h₀ L m env elt x scope cl Fin (.bytes b t) s₁ := by
  refine ⟨_, b.size, _, _, news, hh, F, N, rfl, fun Q E hQ => KBw.pyIter_bytes hQ, KBw.walks hh s₁.heap.objs.size b t, fun i h st => let ⟨o, e, _⟩ := st; ⟨o, e⟩, fun i h h' o st e e' => ?_, ⟨_, Heap.get?_push_size _ rfl, rfl, rfl⟩, hsz, fun s₂ ⟨g, e⟩ => e ▸ h g⟩
  obtain ⟨o', q, r⟩ := st
  rw [e] at q
  cases q
  exact ⟨o, e', r⟩
def downKs (n : Nat) : List Int := (List.range n).map fun (i : Nat) => ((n : Int) - 1) + (i : Int) * (-1)
theorem kcf_down {elt : Expr} {x : Str} {scope : Scope} {cl : List (Str × Addr)} {S : Led → Prop} {Fin : List Value → Led → Prop} {news : Led} {n : Nat} (g : Int → Int)
    (turn : ∀ k t I oI C oC D m₂ ys h tk (E' : Value → Shared → Prop), 0 ≤ k → k < (n : Int) → NsObj oC m₂ → m₂ x = some (.int k t) → Fr h₀ L h m → News h₀ L h ((I, oI) :: (C, oC) :: (D, lst ys) :: news) → Off3 I C D news → ((@Ne Nat I C) ∧ (@Ne Nat I D) ∧ (@Ne Nat C D)) → KPfMark →
      wpAny (model prog w) A (eval elt (compEnvC scope cl C env)) (CompEnd h₀ L m { s with heap := h, toks := tk } I oI C oC D (lst ys) S (fun y news' => KCfEl news (g k) y news')) E' { s with heap := h, toks := tk })
    (fin : KPfDone (∀ ys, IntsAre ys ((downKs n).map g) → Fin ys news)) : CompRest prog w A h₀ L m env elt x scope cl s S (fun i v => ∃ t, v = .int (((n : Int) - 1) + (i : Int) * (-1)) t) Fin n 0 [] news :=
  kcf_rest (ks := downKs n) g (by simp [downKs]) (fun i v hi hv => by
    obtain ⟨t, e⟩ := hv
    exact ⟨_, t, by simp [downKs, hi], e⟩)
    (fun k t I oI C oC D m₂ ys h tk E' hk hC hx F N off ne mk => by
      obtain ⟨i, hi, e⟩ := List.mem_map.mp hk
      have hi' := List.mem_range.mp hi
      exact turn k t I oI C oC D m₂ ys h tk E' (by omega) (by omega) hC hx F N off ne mk) fin
end
theorem lt_shl16 {x : Int} (h : x < 65536) : x < 1 * 2 ^ ((8 * 2 : Int)).toNat := h
theorem lt_shl48 {x : Int} (h : x < 281474976710656) : x < 1 * 2 ^ ((8 * 6 : Int)).toNat := h
def pnI (n : Nat) (x : Int) : Array UInt8 := byteArr (List.map (fun k' => Builtin.bitAnd (x.fdiv (2 ^ (8 * k').toNat)) 255) (downKs n))
section
local macro_rules | `(tactic| kba_size) => `(tactic| exact Nat.le_of_ble_eq_true rfl)
theorem put2_con (w : World) (mean : ExcName → Option Value) (mg mb : Str → Option Value) (news : Led) (x : Int) (t t2 : Tok) (h0 : 0 ≤ x) (h1 : x < 65536) :
    Con w mean mg mb 4 32 170 [.int x t, .int 2 t2] news (fun r n' => n' = news ∧ ∃ tk, r = .bytes (pnI 2 x) tk) := by
  k_with_none
  k_with "call ref" => (k_here; (with_reducible show wpAny _ _ (PySem.call (Value.ref 116) [Value.bytes _ _]) _ _ _); k_dflt (refine' Con.use (crc_con _ _ _ _ _ _ _) ?q21k1 ?q21k2 ?q21k3 ?q21k4 ?q21k5 ?q21k6 ?q21k7 ?q21k8 ?_; (case q21k1 => k_asm); (case q21k2 => k_asm); (case q21k3 => k_asm); (case q21k4 => k_asm); (case q21k5 => k_asm); (case q21k6 => first | exact rfl | assumption); (case q21k7 => ktr_room); (case q21k8 => ktr_units)); intro r9 n9 h9 tk9 hr9 F9 N9; obtain ⟨e9, tk8, e8⟩ := hr9; subst e9; subst e8; (try dsimp only); (try k_fold))
  k_with "call ref" => (k_here; (with_reducible show wpAny _ _ (PySem.call (Value.ref 121) [Value.bytes _ _]) _ _ _); k_dflt (refine' Con.use (fsum_con _ _ _ _ _ _ _) ?q22k1 ?q22k2 ?q22k3 ?q22k4 ?q22k5 ?q22k6 ?q22k7 ?q22k8 ?_; (case q22k1 => k_asm); (case q22k2 => k_asm); (case q22k3 => k_asm); (case q22k4 => k_asm); (case q22k5 => k_asm); (case q22k6 => first | exact rfl | assumption); (case q22k7 => ktr_room); (case q22k8 => ktr_units)); intro r9 n9 h9 tk9 hr9 F9 N9; obtain ⟨e9, tk8, e8⟩ := hr9; subst e9; subst e8; (try dsimp only); (try k_fold))
  k_with "binaryOp FloorDiv int int" => (k_here; (refine floordiv_int (by omega) ?_ (.inr (PySem.PylongRoom.of (PySem.Heap.NoLimit.keeps (Top.nolimit (by assumption)) (Fr.keep (by assumption))) (by show _ + 100 < _; ktr_room)))))
  k_with "ite" => first | (refine ite_pos (decide_eq_true (lt_shl16 (by assumption))) ?_) | (refine ite_pos (decide_eq_true (lt_shl48 (by assumption))) ?_)
  k_with "eval ListComp" => (k_here; k_dflt (refine ListComp_W (F₀ := by k_asm) (by with_unfolding_all rfl) (by decide) (by rfl) (by decide) (by rfl) ?_ (by intro _; with_unfolding_all rfl)))
  k_with "WSrc" => (k_here; k_dflt (refine' wsrc_range (n := 2) ?q26k1 ?q26k2 ?q26k3 ?q26k4 ?q26k5 ?q26k6 ?q26k7 ?_; (case q26k1 => rfl); (case q26k2 => k_asm); (case q26k3 => k_asm); (case q26k4 => assumption); (case q26k5 => decide); (case q26k6 => rfl); (case q26k7 => exact Nat.le_of_ble_eq_true rfl)); intro g'; k_dflt (refine' kcf_down _ (fun k' t' I' oI' C' oC' D' m' ys' h' tk' E' hlo' hhi' hC' hx' F' N' off' ne' hMark' => ?_) ?_); (all_goals (try (simp only [LCg.Off3, and_true] at off'))); kcf_last)
  k_with "WSrc" => (k_here; k_dflt (refine' wsrc_range (n := 6) ?q27k1 ?q27k2 ?q27k3 ?q27k4 ?q27k5 ?q27k6 ?q27k7 ?_; (case q27k1 => rfl); (case q27k2 => k_asm); (case q27k3 => k_asm); (case q27k4 => assumption); (case q27k5 => decide); (case q27k6 => rfl); (case q27k7 => exact Nat.le_of_ble_eq_true rfl)); intro g'; k_dflt (refine' kcf_down _ (fun k' t' I' oI' C' oC' D' m' ys' h' tk' E' hlo' hhi' hC' hx' F' N' off' ne' hMark' => ?_) ?_); (all_goals (try (simp only [LCg.Off3, and_true] at off'))); kcf_last)
  unfold Con
  intro dp un gd cn cs a ccd cl outer A₀ base h₀ L m s Q E B F X N T hk hd' hu hret
  refine wpAny_call ?_
  k_dflt (first | (refine' code_def ?k1 ?k2 ?k3 ?k4 ?k5 ?kA ?kF ?kK ?k6 ?k7 ?k8 ?k9 ?kB ?_ ?c2 ?c3 ?c4 ?c5; (case kA => exact rfl); (case kF => exact rfl); (case kK => first | exact rfl | assumption); (case k1 => k_asm); (case k2 => k_asm); (case k3 => k_asm); (case k4 => k_asm); (case k5 => k_asm); (case k6 => k_is); (case k7 => k_is); (case k8 => ktr_room); (case k9 => first | exact BindsTo.of_eq rfl | exact binds_K (by k_in) rfl (by k_is) rfl rfl rfl); (case c5 => decide); (case kB => exact locs rfl); (case c2 => exact rfl); (case c3 => exact rfl); (case c4 => exact rfl); k_whole; intro g' L' h' FG' F' N' B' X' T'; (try dsimp only); (try k_lift B'); (try k_fold)) | (refine' code_defC ?k1 ?k2 ?k3 ?k4 ?k5 ?kA ?kF ?kK ?k6 ?k7 ?k8 ?k9 ?kB ?kD ?_ ?c2 ?c3 ?c4; (case kA => exact rfl); (case kF => exact rfl); (case kK => first | exact rfl | assumption); (case k1 => k_asm); (case k2 => k_asm); (case k3 => k_asm); (case k4 => k_asm); (case k5 => k_asm); (case k6 => k_is); (case k7 => k_is); (case k8 => ktr_room); (case k9 => first | exact BindsTo.of_eq rfl | exact binds_K (by k_in) rfl (by k_is) rfl rfl rfl); (case kB => exact rfl); (case kD => decide +kernel); (case c2 => exact rfl); (case c3 => exact rfl); (case c4 => exact rfl); k_whole; intro g' L' h' tk' cells' FG' F' N' Y' B' X' T' l1; (try k_lt l1); k_cells Y'; (try simp only [List.cons_append, List.nil_append] at N'); (try dsimp only); (try k_lift B'); (try k_fold)))
  k_steps
  refine' con_ret hret (n' := news) ⟨rfl, _, rfl⟩ ?gF (news_of ?gN ?gS)
  (case gF => assumption)
  (case gN => assumption)
  (case gS => kcf_all)
theorem put6_con (w : World) (mean : ExcName → Option Value) (mg mb : Str → Option Value) (news : Led) (x : Int) (t t2 : Tok) (h0 : 0 ≤ x) (h1 : x < 281474976710656) :
    Con w mean mg mb 4 32 170 [.int x t, .int 6 t2] news (fun r n' => n' = news ∧ ∃ tk, r = .bytes (pnI 6 x) tk) := by
  k_with_none
  k_with "call ref" => (k_here; (with_reducible show wpAny _ _ (PySem.call (Value.ref 116) [Value.bytes _ _]) _ _ _); k_dflt (refine' Con.use (crc_con _ _ _ _ _ _ _) ?q21k1 ?q21k2 ?q21k3 ?q21k4 ?q21k5 ?q21k6 ?q21k7 ?q21k8 ?_; (case q21k1 => k_asm); (case q21k2 => k_asm); (case q21k3 => k_asm); (case q21k4 => k_asm); (case q21k5 => k_asm); (case q21k6 => first | exact rfl | assumption); (case q21k7 => ktr_room); (case q21k8 => ktr_units)); intro r9 n9 h9 tk9 hr9 F9 N9; obtain ⟨e9, tk8, e8⟩ := hr9; subst e9; subst e8; (try dsimp only); (try k_fold))
  k_with "call ref" => (k_here; (with_reducible show wpAny _ _ (PySem.call (Value.ref 121) [Value.bytes _ _]) _ _ _); k_dflt (refine' Con.use (fsum_con _ _ _ _ _ _ _) ?q22k1 ?q22k2 ?q22k3 ?q22k4 ?q22k5 ?q22k6 ?q22k7 ?q22k8 ?_; (case q22k1 => k_asm); (case q22k2 => k_asm); (case q22k3 => k_asm); (case q22k4 => k_asm); (case q22k5 => k_asm); (case q22k6 => first | exact rfl | assumption); (case q22k7 => ktr_room); (case q22k8 => ktr_units)); intro r9 n9 h9 tk9 hr9 F9 N9; obtain ⟨e9, tk8, e8⟩ := hr9; subst e9; subst e8; (try dsimp only); (try k_fold))
  k_with "binaryOp FloorDiv int int" => (k_here; (refine floordiv_int (by omega) ?_ (.inr (PySem.PylongRoom.of (PySem.Heap.NoLimit.keeps (Top.nolimit (by assumption)) (Fr.keep (by assumption))) (by show _ + 100 < _; ktr_room)))))
  k_with "ite" => first | (refine ite_pos (decide_eq_true (lt_shl16 (by assumption))) ?_) | (refine ite_pos (decide_eq_true (lt_shl48 (by assumption))) ?_)
  k_with "eval ListComp" => (k_here; k_dflt (refine ListComp_W (F₀ := by k_asm) (by with_unfolding_all rfl) (by decide) (by rfl) (by decide) (by rfl) ?_ (by intro _; with_unfolding_all rfl)))
  k_with "WSrc" => (k_here; k_dflt (refine' wsrc_range (n := 2) ?q26k1 ?q26k2 ?q26k3 ?q26k4 ?q26k5 ?q26k6 ?q26k7 ?_; (case q26k1 => rfl); (case q26k2 => k_asm); (case q26k3 => k_asm); (case q26k4 => assumption); (case q26k5 => decide); (case q26k6 => rfl); (case q26k7 => exact Nat.le_of_ble_eq_true rfl)); intro g'; k_dflt (refine' kcf_down _ (fun k' t' I' oI' C' oC' D' m' ys' h' tk' E' hlo' hhi' hC' hx' F' N' off' ne' hMark' => ?_) ?_); (all_goals (try (simp only [LCg.Off3, and_true] at off'))); kcf_last)
  k_with "WSrc" => (k_here; k_dflt (refine' wsrc_range (n := 6) ?q27k1 ?q27k2 ?q27k3 ?q27k4 ?q27k5 ?q27k6 ?q27k7 ?_; (case q27k1 => rfl); (case q27k2 => k_asm); (case q27k3 => k_asm); (case q27k4 => assumption); (case q27k5 => decide); (case q27k6 => rfl); (case q27k7 => exact Nat.le_of_ble_eq_true rfl)); intro g'; k_dflt (refine' kcf_down _ (fun k' t' I' oI' C' oC' D' m' ys' h' tk' E' hlo' hhi' hC' hx' F' N' off' ne' hMark' => ?_) ?_); (all_goals (try (simp only [LCg.Off3, and_true] at off'))); kcf_last)
  unfold Con
  intro dp un gd cn cs a ccd cl outer A₀ base h₀ L m s Q E B F X N T hk hd' hu hret
  refine wpAny_call ?_
  k_dflt (first | (refine' code_def ?k1 ?k2 ?k3 ?k4 ?k5 ?kA ?kF ?kK ?k6 ?k7 ?k8 ?k9 ?kB ?_ ?c2 ?c3 ?c4 ?c5; (case kA => exact rfl); (case kF => exact rfl); (case kK => first | exact rfl | assumption); (case k1 => k_asm); (case k2 => k_asm); (case k3 => k_asm); (case k4 => k_asm); (case k5 => k_asm); (case k6 => k_is); (case k7 => k_is); (case k8 => ktr_room); (case k9 => first | exact BindsTo.of_eq rfl | exact binds_K (by k_in) rfl (by k_is) rfl rfl rfl); (case c5 => decide); (case kB => exact locs rfl); (case c2 => exact rfl); (case c3 => exact rfl); (case c4 => exact rfl); k_whole; intro g' L' h' FG' F' N' B' X' T'; (try dsimp only); (try k_lift B'); (try k_fold)) | (refine' code_defC ?k1 ?k2 ?k3 ?k4 ?k5 ?kA ?kF ?kK ?k6 ?k7 ?k8 ?k9 ?kB ?kD ?_ ?c2 ?c3 ?c4; (case kA => exact rfl); (case kF => exact rfl); (case kK => first | exact rfl | assumption); (case k1 => k_asm); (case k2 => k_asm); (case k3 => k_asm); (case k4 => k_asm); (case k5 => k_asm); (case k6 => k_is); (case k7 => k_is); (case k8 => ktr_room); (case k9 => first | exact BindsTo.of_eq rfl | exact binds_K (by k_in) rfl (by k_is) rfl rfl rfl); (case kB => exact rfl); (case kD => decide +kernel); (case c2 => exact rfl); (case c3 => exact rfl); (case c4 => exact rfl); k_whole; intro g' L' h' tk' cells' FG' F' N' Y' B' X' T' l1; (try k_lt l1); k_cells Y'; (try simp only [List.cons_append, List.nil_append] at N'); (try dsimp only); (try k_lift B'); (try k_fold)))
  k_steps
  refine' con_ret hret (n' := news) ⟨rfl, _, rfl⟩ ?gF (news_of ?gN ?gS)
  (case gF => assumption)
  (case gN => assumption)
  (case gS => kcf_all)
end
theorem put16_con (w : World) (mean : ExcName → Option Value) (mg mb : Str → Option Value) (news : Led) (x : Int) (t : Tok) (h0 : 0 ≤ x) (h1 : x < 65536) :
    Con w mean mg mb 8 48 184 [.int x t] news (fun r n' => n' = news ∧ ∃ tk, r = .bytes (pnI 2 x) tk) := by
  k_with_none
  k_with "call ref" => (k_here; (with_reducible show wpAny _ _ (PySem.call (Value.ref 116) [Value.bytes _ _]) _ _ _); k_dflt (refine' Con.use (crc_con _ _ _ _ _ _ _) ?q21k1 ?q21k2 ?q21k3 ?q21k4 ?q21k5 ?q21k6 ?q21k7 ?q21k8 ?_; (case q21k1 => k_asm); (case q21k2 => k_asm); (case q21k3 => k_asm); (case q21k4 => k_asm); (case q21k5 => k_asm); (case q21k6 => first | exact rfl | assumption); (case q21k7 => ktr_room); (case q21k8 => ktr_units)); intro r9 n9 h9 tk9 hr9 F9 N9; obtain ⟨e9, tk8, e8⟩ := hr9; subst e9; subst e8; (try dsimp only); (try k_fold))
  k_with "call ref" => (k_here; (with_reducible show wpAny _ _ (PySem.call (Value.ref 121) [Value.bytes _ _]) _ _ _); k_dflt (refine' Con.use (fsum_con _ _ _ _ _ _ _) ?q22k1 ?q22k2 ?q22k3 ?q22k4 ?q22k5 ?q22k6 ?q22k7 ?q22k8 ?_; (case q22k1 => k_asm); (case q22k2 => k_asm); (case q22k3 => k_asm); (case q22k4 => k_asm); (case q22k5 => k_asm); (case q22k6 => first | exact rfl | assumption); (case q22k7 => ktr_room); (case q22k8 => ktr_units)); intro r9 n9 h9 tk9 hr9 F9 N9; obtain ⟨e9, tk8, e8⟩ := hr9; subst e9; subst e8; (try dsimp only); (try k_fold))
  k_with "binaryOp FloorDiv int int" => (k_here; (refine floordiv_int (by omega) ?_ (.inr (PySem.PylongRoom.of (PySem.Heap.NoLimit.keeps (Top.nolimit (by assumption)) (Fr.keep (by assumption))) (by show _ + 100 < _; ktr_room)))))
  k_with "call ref" => (k_here; (with_reducible show wpAny _ _ (PySem.call (Value.ref 170) [Value.int _ _, Value.int 2 _]) _ _ _); k_dflt (refine' Con.use (put2_con _ _ _ _ _ _ _ _ ?q28c1 ?q28c2) ?q28k1 ?q28k2 ?q28k3 ?q28k4 ?q28k5 ?q28k6 ?q28k7 ?q28k8 ?_; (case q28k1 => k_asm); (case q28k2 => k_asm); (case q28k3 => k_asm); (case q28k4 => k_asm); (case q28k5 => k_asm); (case q28k6 => first | exact rfl | assumption); (case q28k7 => ktr_room); (case q28k8 => ktr_units); (case q28c1 => first | assumption | decide | omega); (case q28c2 => first | assumption | decide | omega)); intro r9 n9 h9 tk9 hr9 F9 N9; obtain ⟨e9, tk8, e8⟩ := hr9; subst e9; subst e8; (try dsimp only); (try k_sweep); (try k_fold))
  k_with "call ref" => (k_here; (with_reducible show wpAny _ _ (PySem.call (Value.ref 170) [Value.int _ _, Value.int 6 _]) _ _ _); k_dflt (refine' Con.use (put6_con _ _ _ _ _ _ _ _ ?q29c1 ?q29c2) ?q29k1 ?q29k2 ?q29k3 ?q29k4 ?q29k5 ?q29k6 ?q29k7 ?q29k8 ?_; (case q29k1 => k_asm); (case q29k2 => k_asm); (case q29k3 => k_asm); (case q29k4 => k_asm); (case q29k5 => k_asm); (case q29k6 => first | exact rfl | assumption); (case q29k7 => ktr_room); (case q29k8 => ktr_units); (case q29c1 => first | assumption | decide | omega); (case q29c2 => first | assumption | decide | omega)); intro r9 n9 h9 tk9 hr9 F9 N9; obtain ⟨e9, tk8, e8⟩ := hr9; subst e9; subst e8; (try dsimp only); (try k_sweep); (try k_fold))
  unfold Con
  intro dp un gd cn cs a ccd cl outer A₀ base h₀ L m s Q E B F X N T hk hd' hu hret
  refine wpAny_call ?_
  k_dflt (first | (refine' code_def ?k1 ?k2 ?k3 ?k4 ?k5 ?kA ?kF ?kK ?k6 ?k7 ?k8 ?k9 ?kB ?_ ?c2 ?c3 ?c4 ?c5; (case kA => exact rfl); (case kF => exact rfl); (case kK => first | exact rfl | assumption); (case k1 => k_asm); (case k2 => k_asm); (case k3 => k_asm); (case k4 => k_asm); (case k5 => k_asm); (case k6 => k_is); (case k7 => k_is); (case k8 => ktr_room); (case k9 => first | exact BindsTo.of_eq rfl | exact binds_K (by k_in) rfl (by k_is) rfl rfl rfl); (case c5 => decide); (case kB => exact locs rfl); (case c2 => exact rfl); (case c3 => exact rfl); (case c4 => exact rfl); k_whole; intro g' L' h' FG' F' N' B' X' T'; (try dsimp only); (try k_lift B'); (try k_fold)) | (refine' code_defC ?k1 ?k2 ?k3 ?k4 ?k5 ?kA ?kF ?kK ?k6 ?k7 ?k8 ?k9 ?kB ?kD ?_ ?c2 ?c3 ?c4; (case kA => exact rfl); (case kF => exact rfl); (case kK => first | exact rfl | assumption); (case k1 => k_asm); (case k2 => k_asm); (case k3 => k_asm); (case k4 => k_asm); (case k5 => k_asm); (case k6 => k_is); (case k7 => k_is); (case k8 => ktr_room); (case k9 => first | exact BindsTo.of_eq rfl | exact binds_K (by k_in) rfl (by k_is) rfl rfl rfl); (case kB => exact rfl); (case kD => decide +kernel); (case c2 => exact rfl); (case c3 => exact rfl); (case c4 => exact rfl); k_whole; intro g' L' h' tk' cells' FG' F' N' Y' B' X' T' l1; (try k_lt l1); k_cells Y'; (try simp only [List.cons_append, List.nil_append] at N'); (try dsimp only); (try k_lift B'); (try k_fold)))
  k_steps
  exact con_ret hret ⟨rfl, _, rfl⟩ (by k_asm) (by k_asm)
theorem put48_con (w : World) (mean : ExcName → Option Value) (mg mb : Str → Option Value) (news : Led) (x : Int) (t : Tok) (h0 : 0 ≤ x) (h1 : x < 281474976710656) :
    Con w mean mg mb 8 48 191 [.int x t] news (fun r n' => n' = news ∧ ∃ tk, r = .bytes (pnI 6 x) tk) := by
  k_with_none
  k_with "call ref" => (k_here; (with_reducible show wpAny _ _ (PySem.call (Value.ref 116) [Value.bytes _ _]) _ _ _); k_dflt (refine' Con.use (crc_con _ _ _ _ _ _ _) ?q21k1 ?q21k2 ?q21k3 ?q21k4 ?q21k5 ?q21k6 ?q21k7 ?q21k8 ?_; (case q21k1 => k_asm); (case q21k2 => k_asm); (case q21k3 => k_asm); (case q21k4 => k_asm); (case q21k5 => k_asm); (case q21k6 => first | exact rfl | assumption); (case q21k7 => ktr_room); (case q21k8 => ktr_units)); intro r9 n9 h9 tk9 hr9 F9 N9; obtain ⟨e9, tk8, e8⟩ := hr9; subst e9; subst e8; (try dsimp only); (try k_fold))
  k_with "call ref" => (k_here; (with_reducible show wpAny _ _ (PySem.call (Value.ref 121) [Value.bytes _ _]) _ _ _); k_dflt (refine' Con.use (fsum_con _ _ _ _ _ _ _) ?q22k1 ?q22k2 ?q22k3 ?q22k4 ?q22k5 ?q22k6 ?q22k7 ?q22k8 ?_; (case q22k1 => k_asm); (case q22k2 => k_asm); (case q22k3 => k_asm); (case q22k4 => k_asm); (case q22k5 => k_asm); (case q22k6 => first | exact rfl | assumption); (case q22k7 => ktr_room); (case q22k8 => ktr_units)); intro r9 n9 h9 tk9 hr9 F9 N9; obtain ⟨e9, tk8, e8⟩ := hr9; subst e9; subst e8; (try dsimp only); (try k_fold))
  k_with "binaryOp FloorDiv int int" => (k_here; (refine floordiv_int (by omega) ?_ (.inr (PySem.PylongRoom.of (PySem.Heap.NoLimit.keeps (Top.nolimit (by assumption)) (Fr.keep (by assumption))) (by show _ + 100 < _; ktr_room)))))
  k_with "call ref" => (k_here; (with_reducible show wpAny _ _ (PySem.call (Value.ref 170) [Value.int _ _, Value.int 2 _]) _ _ _); k_dflt (refine' Con.use (put2_con _ _ _ _ _ _ _ _ ?q28c1 ?q28c2) ?q28k1 ?q28k2 ?q28k3 ?q28k4 ?q28k5 ?q28k6 ?q28k7 ?q28k8 ?_; (case q28k1 => k_asm); (case q28k2 => k_asm); (case q28k3 => k_asm); (case q28k4 => k_asm); (case q28k5 => k_asm); (case q28k6 => first | exact rfl | assumption); (case q28k7 => ktr_room); (case q28k8 => ktr_units); (case q28c1 => first | assumption | decide | omega); (case q28c2 => first | assumption | decide | omega)); intro r9 n9 h9 tk9 hr9 F9 N9; obtain ⟨e9, tk8, e8⟩ := hr9; subst e9; subst e8; (try dsimp only); (try k_sweep); (try k_fold))
  k_with "call ref" => (k_here; (with_reducible show wpAny _ _ (PySem.call (Value.ref 170) [Value.int _ _, Value.int 6 _]) _ _ _); k_dflt (refine' Con.use (put6_con _ _ _ _ _ _ _ _ ?q29c1 ?q29c2) ?q29k1 ?q29k2 ?q29k3 ?q29k4 ?q29k5 ?q29k6 ?q29k7 ?q29k8 ?_; (case q29k1 => k_asm); (case q29k2 => k_asm); (case q29k3 => k_asm); (case q29k4 => k_asm); (case q29k5 => k_asm); (case q29k6 => first | exact rfl | assumption); (case q29k7 => ktr_room); (case q29k8 => ktr_units); (case q29c1 => first | assumption | decide | omega); (case q29c2 => first | assumption | decide | omega)); intro r9 n9 h9 tk9 hr9 F9 N9; obtain ⟨e9, tk8, e8⟩ := hr9; subst e9; subst e8; (try dsimp only); (try k_sweep); (try k_fold))
  unfold Con
  intro dp un gd cn cs a ccd cl outer A₀ base h₀ L m s Q E B F X N T hk hd' hu hret
  refine wpAny_call ?_
  k_dflt (first | (refine' code_def ?k1 ?k2 ?k3 ?k4 ?k5 ?kA ?kF ?kK ?k6 ?k7 ?k8 ?k9 ?kB ?_ ?c2 ?c3 ?c4 ?c5; (case kA => exact rfl); (case kF => exact rfl); (case kK => first | exact rfl | assumption); (case k1 => k_asm); (case k2 => k_asm); (case k3 => k_asm); (case k4 => k_asm); (case k5 => k_asm); (case k6 => k_is); (case k7 => k_is); (case k8 => ktr_room); (case k9 => first | exact BindsTo.of_eq rfl | exact binds_K (by k_in) rfl (by k_is) rfl rfl rfl); (case c5 => decide); (case kB => exact locs rfl); (case c2 => exact rfl); (case c3 => exact rfl); (case c4 => exact rfl); k_whole; intro g' L' h' FG' F' N' B' X' T'; (try dsimp only); (try k_lift B'); (try k_fold)) | (refine' code_defC ?k1 ?k2 ?k3 ?k4 ?k5 ?kA ?kF ?kK ?k6 ?k7 ?k8 ?k9 ?kB ?kD ?_ ?c2 ?c3 ?c4; (case kA => exact rfl); (case kF => exact rfl); (case kK => first | exact rfl | assumption); (case k1 => k_asm); (case k2 => k_asm); (case k3 => k_asm); (case k4 => k_asm); (case k5 => k_asm); (case k6 => k_is); (case k7 => k_is); (case k8 => ktr_room); (case k9 => first | exact BindsTo.of_eq rfl | exact binds_K (by k_in) rfl (by k_is) rfl rfl rfl); (case kB => exact rfl); (case kD => decide +kernel); (case c2 => exact rfl); (case c3 => exact rfl); (case c4 => exact rfl); k_whole; intro g' L' h' tk' cells' FG' F' N' Y' B' X' T' l1; (try k_lt l1); k_cells Y'; (try simp only [List.cons_append, List.nil_append] at N'); (try dsimp only); (try k_lift B'); (try k_fold)))
  k_steps
  exact con_ret hret ⟨rfl, _, rfl⟩ (by k_asm) (by k_asm)
open PySem.Spec PySem.Calls
section
variable {prog : Program} {w : World} {A : Around} {E : Value → Shared → Prop} {s : Shared} {env : Env} {h₀ : Heap} {x : Str} {body : List Stmt} {Q : Flow → Shared → Prop} {b : Array UInt8} {tb : Tok} {ks : List Int} {m₀ : Str → Option Value} {news : Led}
theorem map_at {m₁ : Str → Option Value} {x y : Str} {v u : Value} (hy : m₁ y = some u) : (fun z => if z = x then some v else m₁ z) = fun z => if z = x then some v else if z = y then some u else m₁ z := by
  funext z
  by_cases h1 : z = x
  · simp [h1]
  · simp only [if_neg h1]
    by_cases h2 : z = y
    · subst h2; simp [hy]
    · simp only [if_neg h2]
theorem map_at0 {m₁ : Str → Option Value} {y : Str} {u : Value} (hy : m₁ y = some u) : m₁ = fun z => if z = y then some u else m₁ z := by
  funext z
  by_cases h2 : z = y
  · subst h2; simp [hy]
  · simp only [if_neg h2]
/-- a loop over bytes by an invariant -/
theorem iterBytes_inv (J : List Int → (Str → Option Value) → Led → Prop)
    (hk : KBw.bInts b = ks) (hh : A.handled = none) (F : Fr h₀ env.locals s.heap m₀) (N : News h₀ env.locals s.heap news) (hj : J [] m₀ news)
    (turn : ∀ pre post k t m₁ nx h tk own, ks = pre ++ k :: post → 0 ≤ k → k < 256 → OwnOff own (news.map (·.1)) → J pre m₁ nx → Fr h₀ env.locals h (fun z => if z = x then some (.int k t) else m₁ z) → News h₀ env.locals h (nx ++ own) →
      wpAny (model prog w) A (execs body env) (InvPostN h₀ env.locals (J (pre ++ [k])) own (news.map (·.1)) { s with heap := h, toks := tk } Q) E { s with heap := h, toks := tk })
    (done : ∀ m₁ nx h tk, J ks m₁ nx → Fr h₀ env.locals h m₁ → News h₀ env.locals h nx → Q .next { s with heap := h, toks := tk }) :
    wpAny (model prog w) A (pyIter (.bytes b tb)) (fun it s₂ => LoopAtV prog w A h₀ env x body Q E it s₂) E s := by
  subst hk
  refine KBw.pyIter_bytes ?_
  have W := KBw.walks (prog := prog) (w := w) hh s.heap.objs.size b tb
  refine loop_invN (fun i m nx => J ((KBw.bInts b).take i) m nx) W ?_ ?_ ?_ ?_ ⟨_, Heap.get?_push_size _ rfl, rfl, rfl⟩ (F.push _) (fun p hp => ⟨Heap.get?_push_of_some _ (N p hp).1, (N p hp).2⟩) (by simpa using hj) ?_ ?_
  · intro hm
    exact absurd F.ns.lt ((List.mem_singleton.mp hm) ▸ Nat.lt_irrefl _)
  · intro b' hb
    rw [List.mem_singleton.mp hb]
    exact next_is_new F
  · intro p hp hI
    exact absurd (Heap.lt_size (N p hp).1) ((List.mem_singleton.mp hI) ▸ Nat.lt_irrefl _)
  · intro p hp hI
    exact absurd (Heap.lt_size (N p hp).1) ((List.mem_singleton.mp hI) ▸ Nat.lt_irrefl _)
  · rintro i v m₁ nx h tk own hi ⟨c, u, hc, rfl⟩ _ hoff hJ F₁ N₁
    have hn' := KBw.ints_get hc
    have hs : (KBw.bInts b).take (i + 1) = (KBw.bInts b).take i ++ [(c.toNat : Int)] := by simp [List.take_add_one, hn']
    have e : KBw.bInts b = (KBw.bInts b).take i ++ (c.toNat : Int) :: (KBw.bInts b).drop (i + 1) := by
      have ht := List.take_append_drop (i + 1) (KBw.bInts b)
      rw [hs, List.append_assoc] at ht
      exact ht.symm
    have hb := KBw.ints_in (List.mem_of_getElem? hn')
    rw [hs]
    exact turn _ _ (c.toNat : Int) u m₁ nx h tk own e hb.1 hb.2 hoff hJ F₁ N₁
  · rintro m₁ nx h tk hJ F₁ N₁
    have h8 : b.size = (KBw.bInts b).length := (KBw.ints_length b).symm
    rw [h8, List.take_length] at hJ
    exact done m₁ nx h tk hJ F₁ N₁
/-- a loop over bytes that turns one int; of the frame nothing else is kept -/
theorem iterBytes_one {y : Str} {c₀ : Int} {tc : Tok} (g : Int → Int → Int) (ok : List Int → Int → Prop)
    (hk : KBw.bInts b = ks) (hh : A.handled = none) (F : Fr h₀ env.locals s.heap m₀) (N : News h₀ env.locals s.heap news) (hy : m₀ y = some (.int c₀ tc)) (hok : ok [] c₀)
    (hstep : ∀ pre a k, ok pre a → 0 ≤ k → k < 256 → ok (pre ++ [k]) (g a k))
    (turn : ∀ k t a ta (m₁ : Str → Option Value) pre h tk own, 0 ≤ k → k < 256 → ok pre a → pre.length < ks.length → OwnOff own (news.map (·.1)) → Fr h₀ env.locals h (fun z => if z = x then some (.int k t) else if z = y then some (.int a ta) else m₁ z) → News h₀ env.locals h (news ++ own) →
      wpAny (model prog w) A (execs body env) (InvPostN h₀ env.locals (fun m' nx => nx = news ∧ ∃ t', m' y = some (.int (g a k) t')) own (news.map (·.1)) { s with heap := h, toks := tk } Q) E { s with heap := h, toks := tk })
    (done : ∀ (m₁ : Str → Option Value) t h tk, ok ks (ks.foldl g c₀) → Fr h₀ env.locals h (fun z => if z = y then some (.int (ks.foldl g c₀) t) else m₁ z) → News h₀ env.locals h news → Q .next { s with heap := h, toks := tk }) :
    wpAny (model prog w) A (pyIter (.bytes b tb)) (fun it s₂ => LoopAtV prog w A h₀ env x body Q E it s₂) E s := by
  refine iterBytes_inv (fun pre m nx => nx = news ∧ ∃ a t, a = pre.foldl g c₀ ∧ m y = some (.int a t) ∧ ok pre a) hk hh F N ⟨rfl, c₀, tc, rfl, hy, hok⟩ ?_ ?_
  · rintro pre post k t m₁ nx h tk own e h0 h1 hoff ⟨rfl, a, ta, ea, ha, hok'⟩ F₁ N₁
    rw [map_at ha] at F₁
    refine wpAny_mono (turn k t a ta m₁ pre h tk own h0 h1 hok' (by rw [e, List.length_append, List.length_cons]; omega) hoff F₁ N₁) (fun f s₂ p => ?_) fun _ _ e => e
    have up : InvEndN h₀ env.locals (fun m' nx' => nx' = nx ∧ ∃ t', m' y = some (.int (g a k) t')) own (nx.map (·.1)) { s with heap := h, toks := tk } s₂ → InvEndN h₀ env.locals (fun m nx' => nx' = nx ∧ ∃ a t, a = (pre ++ [k]).foldl g c₀ ∧ m y = some (.int a t) ∧ ok (pre ++ [k]) a) own (nx.map (·.1)) { s with heap := h, toks := tk } s₂ := by
      rintro ⟨h', tk', m', news', nx', e, F', N', a1, a2, a3, ⟨b1, t', b2⟩⟩
      exact ⟨h', tk', m', news', nx', e, F', N', a1, a2, a3, b1, g a k, t', by rw [List.foldl_append, ← ea]; rfl, b2, hstep pre a k hok' h0 h1⟩
    cases f with
    | ret v => exact p
    | brk => exact p
    | next => exact up p
    | cont => exact up p
  · rintro m₁ nx h tk ⟨rfl, a, t, rfl, ha, hok'⟩ F₁ N₁
    rw [map_at0 ha] at F₁
    exact done m₁ t h tk hok' F₁ N₁
end
def gstep (f o : Int) : Int := Builtin.bitOr (f * 2 ^ (8 : Int).toNat) o
theorem nat_and_low (a b : Nat) (h : b < 2 ^ 8) : 2 ^ 8 * a &&& b = 0 := by
  apply Nat.eq_of_testBit_eq
  intro i
  rw [Nat.testBit_and, Nat.testBit_two_pow_mul, Nat.zero_testBit]
  by_cases hi : i ≥ 8
  · have : b < 2 ^ i := Nat.lt_of_lt_of_le h (Nat.pow_le_pow_right (by decide) hi)
    rw [Nat.testBit_lt_two_pow this, Bool.and_false]
  · simp [hi]
theorem gstep_eq {f o : Int} (hf : 0 ≤ f) (h0 : 0 ≤ o) (h1 : o < 256) : gstep f o = f * 256 + o := by
  unfold gstep
  rw [bitOr_and, bitAnd_pp (by show 0 ≤ f * 256; omega) h0]
  have e : (f * 2 ^ (8 : Int).toNat).toNat = 2 ^ 8 * f.toNat := by show (f * 256).toNat = 256 * f.toNat; omega
  rw [e, nat_and_low _ _ (by omega)]
  show f * 256 + o - 0 = _
  omega
def GetJ (pre : List Int) (f : Int) : Prop := f = pre.foldl gstep 0 ∧ 0 ≤ f ∧ f < ((256 ^ pre.length : Nat) : Int)
theorem get_start : GetJ [] 0 := ⟨rfl, by decide, by decide⟩
theorem get_turn {pre : List Int} {f o : Int} (h : GetJ pre f) (h0 : 0 ≤ o) (h1 : o < 256) : GetJ (pre ++ [o]) (gstep f o) := by
  obtain ⟨e, a, b⟩ := h
  refine ⟨by rw [List.foldl_append, ← e]; rfl, ?_, ?_⟩
  · rw [gstep_eq a h0 h1]; omega
  · rw [gstep_eq a h0 h1, List.length_append, List.length_singleton, Nat.pow_succ]
    omega
theorem get_bits {pre ks : List Int} {a : Int} {i j : Nat} (h : GetJ pre a) (hlt : pre.length < (List.take i (List.drop j ks)).length) (hn : ks.length ≤ 100) : (Builtin.Int.intBits a : Int) + 8 ≤ 2 ^ 27 := by
  obtain ⟨_, h0, h1⟩ := h
  have hl : pre.length ≤ 100 := by rw [List.length_take, List.length_drop] at hlt; omega
  have e : 256 ^ pre.length ≤ 256 ^ 100 := Nat.pow_le_pow_right (by decide) hl
  have e2 : (256 : Nat) ^ 100 = 2 ^ 800 := by decide +kernel
  rw [e2] at e
  have b : Builtin.Int.intBits a ≤ 800 := PySem.intBits_le_iff.mpr (by omega)
  omega
section
def gnV (ks : List Int) (a n : Int) : Int := List.foldl gstep 0 (List.take (clipAt ks.length (a + n) - clipAt ks.length a) (List.drop (clipAt ks.length a) ks))
theorem getn_con (w : World) (mean : ExcName → Option Value) (mg mb : Str → Option Value) (news : Led) (b : Array UInt8) (ks : List Int) (a₀ n₀ : Int) (t t1 t2 : Tok) (hks : KBw.bInts b = ks) (hlen : ks.length = 60) (ha : 0 ≤ a₀) (hn : 0 ≤ n₀) (han : a₀ + n₀ ≤ 60) :
    Con w mean mg mb 4 32 177 [.bytes b t, .int a₀ t1, .int n₀ t2] news (fun r n' => n' = news ∧ ∃ tk, r = .int (gnV ks a₀ n₀) tk) := by
  k_with_none
  k_with "call ref" => (k_here; (with_reducible show wpAny _ _ (PySem.call (Value.ref 116) [Value.bytes _ _]) _ _ _); k_dflt (refine' Con.use (crc_con _ _ _ _ _ _ _) ?q30k1 ?q30k2 ?q30k3 ?q30k4 ?q30k5 ?q30k6 ?q30k7 ?q30k8 ?_; (case q30k1 => k_asm); (case q30k2 => k_asm); (case q30k3 => k_asm); (case q30k4 => k_asm); (case q30k5 => k_asm); (case q30k6 => first | exact rfl | assumption); (case q30k7 => ktr_room); (case q30k8 => ktr_units)); intro r9 n9 h9 tk9 hr9 F9 N9; obtain ⟨e9, tk8, e8⟩ := hr9; subst e9; subst e8; (try dsimp only); (try k_fold))
  k_with "call ref" => (k_here; (with_reducible show wpAny _ _ (PySem.call (Value.ref 121) [Value.bytes _ _]) _ _ _); k_dflt (refine' Con.use (fsum_con _ _ _ _ _ _ _) ?q31k1 ?q31k2 ?q31k3 ?q31k4 ?q31k5 ?q31k6 ?q31k7 ?q31k8 ?_; (case q31k1 => k_asm); (case q31k2 => k_asm); (case q31k3 => k_asm); (case q31k4 => k_asm); (case q31k5 => k_asm); (case q31k6 => first | exact rfl | assumption); (case q31k7 => ktr_room); (case q31k8 => ktr_units)); intro r9 n9 h9 tk9 hr9 F9 N9; obtain ⟨e9, tk8, e8⟩ := hr9; subst e9; subst e8; (try dsimp only); (try k_fold))
  k_with "binaryOp FloorDiv int int" => (k_here; (refine floordiv_int (by omega) ?_ (.inr (PySem.PylongRoom.of (PySem.Heap.NoLimit.keeps (Top.nolimit (by assumption)) (Fr.keep (by assumption))) (by show _ + 100 < _; ktr_room)))))
  k_with "exec For" => (k_here; (rename Fr _ _ _ _ => lF'); (with_unfolding_all refine' For_invVF lF' ?q33k1 ?q33k2 ?_; (case q33k1 => exact rfl); (case q33k2 => exact rfl); k_whole))
  k_with "binaryOp LShift int int" => (k_here; k_dflt (refine lshift_int (by decide) (get_bits (by assumption) (by assumption) (by omega)) ?_))
  k_with "pyIter bytes" => (k_here; (with_reducible show wpAny _ _ (pyIter (Value.bytes _ _)) (fun it s₂ => LoopAtV _ _ _ _ _ _ _ _ _ it s₂) _ _); k_dflt (refine' iterBytes_one (y := Str.ofString "found") gstep GetJ ?q35hk ?q35hh ?q35F ?q35N ?q35hy ?q35ok (fun _ _ _ h a b => get_turn h a b) (fun k' t' a' ta' m' pre' h' tk' own' h0' h1' hok' hlt' hoff' F' N' => ?_) (fun m' t' h' tk' hok' F' N' => ?_); (case q35hk => kba_ints2); (case q35hh => rfl); (case q35F => k_asm); (case q35N => k_asm); (case q35hy => rfl); (case q35ok => exact get_start)); (all_goals (try k_fold)))
  k_with "InvEndN" => (refine InvEndN.intro (by assumption) (by assumption) ⟨rfl, _, rfl⟩ (by rfl) (by kcf_all) (by kcf_all))
  unfold Con
  intro dp un gd cn cs a ccd cl outer A₀ base h₀ L m s Q E B F X N T hk hd' hu hret
  refine wpAny_call ?_
  k_dflt (first | (refine' code_def ?k1 ?k2 ?k3 ?k4 ?k5 ?kA ?kF ?kK ?k6 ?k7 ?k8 ?k9 ?kB ?_ ?c2 ?c3 ?c4 ?c5; (case kA => exact rfl); (case kF => exact rfl); (case kK => first | exact rfl | assumption); (case k1 => k_asm); (case k2 => k_asm); (case k3 => k_asm); (case k4 => k_asm); (case k5 => k_asm); (case k6 => k_is); (case k7 => k_is); (case k8 => ktr_room); (case k9 => first | exact BindsTo.of_eq rfl | exact binds_K (by k_in) rfl (by k_is) rfl rfl rfl); (case c5 => decide); (case kB => exact locs rfl); (case c2 => exact rfl); (case c3 => exact rfl); (case c4 => exact rfl); k_whole; intro g' L' h' FG' F' N' B' X' T'; (try dsimp only); (try k_lift B'); (try k_fold)) | (refine' code_defC ?k1 ?k2 ?k3 ?k4 ?k5 ?kA ?kF ?kK ?k6 ?k7 ?k8 ?k9 ?kB ?kD ?_ ?c2 ?c3 ?c4; (case kA => exact rfl); (case kF => exact rfl); (case kK => first | exact rfl | assumption); (case k1 => k_asm); (case k2 => k_asm); (case k3 => k_asm); (case k4 => k_asm); (case k5 => k_asm); (case k6 => k_is); (case k7 => k_is); (case k8 => ktr_room); (case k9 => first | exact BindsTo.of_eq rfl | exact binds_K (by k_in) rfl (by k_is) rfl rfl rfl); (case kB => exact rfl); (case kD => decide +kernel); (case c2 => exact rfl); (case c3 => exact rfl); (case c4 => exact rfl); k_whole; intro g' L' h' tk' cells' FG' F' N' Y' B' X' T' l1; (try k_lt l1); k_cells Y'; (try simp only [List.cons_append, List.nil_append] at N'); (try dsimp only); (try k_lift B'); (try k_fold)))
  k_steps
  exact con_ret hret ⟨rfl, _, rfl⟩ (by k_asm) (by k_asm)
end
theorem get16_con (w : World) (mean : ExcName → Option Value) (mg mb : Str → Option Value) (news : Led) (b : Array UInt8) (ks : List Int) (a₀ : Int) (t t1 : Tok) (hks : KBw.bInts b = ks) (hlen : ks.length = 60) (ha : 0 ≤ a₀) (han : a₀ + 2 ≤ 60) :
    Con w mean mg mb 8 48 198 [.bytes b t, .int a₀ t1] news (fun r n' => n' = news ∧ ∃ tk, r = .int (gnV ks a₀ 2) tk) := by
  k_with_none
  k_with "call ref" => (k_here; (with_reducible show wpAny _ _ (PySem.call (Value.ref 116) [Value.bytes _ _]) _ _ _); k_dflt (refine' Con.use (crc_con _ _ _ _ _ _ _) ?q37k1 ?q37k2 ?q37k3 ?q37k4 ?q37k5 ?q37k6 ?q37k7 ?q37k8 ?_; (case q37k1 => k_asm); (case q37k2 => k_asm); (case q37k3 => k_asm); (case q37k4 => k_asm); (case q37k5 => k_asm); (case q37k6 => first | exact rfl | assumption); (case q37k7 => ktr_room); (case q37k8 => ktr_units)); intro r9 n9 h9 tk9 hr9 F9 N9; obtain ⟨e9, tk8, e8⟩ := hr9; subst e9; subst e8; (try dsimp only); (try k_fold))
  k_with "call ref" => (k_here; (with_reducible show wpAny _ _ (PySem.call (Value.ref 121) [Value.bytes _ _]) _ _ _); k_dflt (refine' Con.use (fsum_con _ _ _ _ _ _ _) ?q38k1 ?q38k2 ?q38k3 ?q38k4 ?q38k5 ?q38k6 ?q38k7 ?q38k8 ?_; (case q38k1 => k_asm); (case q38k2 => k_asm); (case q38k3 => k_asm); (case q38k4 => k_asm); (case q38k5 => k_asm); (case q38k6 => first | exact rfl | assumption); (case q38k7 => ktr_room); (case q38k8 => ktr_units)); intro r9 n9 h9 tk9 hr9 F9 N9; obtain ⟨e9, tk8, e8⟩ := hr9; subst e9; subst e8; (try dsimp only); (try k_fold))
  k_with "binaryOp FloorDiv int int" => (k_here; (refine floordiv_int (by omega) ?_ (.inr (PySem.PylongRoom.of (PySem.Heap.NoLimit.keeps (Top.nolimit (by assumption)) (Fr.keep (by assumption))) (by show _ + 100 < _; ktr_room)))))
  k_with "call ref" => (k_here; (with_reducible show wpAny _ _ (PySem.call (Value.ref 177) [Value.bytes _ _, Value.int _ _, Value.int _ _]) _ _ _); k_dflt (refine' Con.use (getn_con _ _ _ _ _ _ _ _ _ _ _ _ ?q40c1 ?q40c2 ?q40c3 ?q40c4 ?q40c5) ?q40k1 ?q40k2 ?q40k3 ?q40k4 ?q40k5 ?q40k6 ?q40k7 ?q40k8 ?_; (case q40k1 => k_asm); (case q40k2 => k_asm); (case q40k3 => k_asm); (case q40k4 => k_asm); (case q40k5 => k_asm); (case q40k6 => first | exact rfl | assumption); (case q40k7 => ktr_room); (case q40k8 => ktr_units); (case q40c1 => kba_ints); (case q40c2 => first | assumption | omega); (case q40c3 => first | assumption | decide | omega); (case q40c4 => first | assumption | decide | omega); (case q40c5 => first | assumption | decide | omega)); intro r9 n9 h9 tk9 hr9 F9 N9; obtain ⟨e9, tk8, e8⟩ := hr9; subst e9; subst e8; (try dsimp only); (try k_sweep); (try k_fold))
  unfold Con
  intro dp un gd cn cs a ccd cl outer A₀ base h₀ L m s Q E B F X N T hk hd' hu hret
  refine wpAny_call ?_
  k_dflt (first | (refine' code_def ?k1 ?k2 ?k3 ?k4 ?k5 ?kA ?kF ?kK ?k6 ?k7 ?k8 ?k9 ?kB ?_ ?c2 ?c3 ?c4 ?c5; (case kA => exact rfl); (case kF => exact rfl); (case kK => first | exact rfl | assumption); (case k1 => k_asm); (case k2 => k_asm); (case k3 => k_asm); (case k4 => k_asm); (case k5 => k_asm); (case k6 => k_is); (case k7 => k_is); (case k8 => ktr_room); (case k9 => first | exact BindsTo.of_eq rfl | exact binds_K (by k_in) rfl (by k_is) rfl rfl rfl); (case c5 => decide); (case kB => exact locs rfl); (case c2 => exact rfl); (case c3 => exact rfl); (case c4 => exact rfl); k_whole; intro g' L' h' FG' F' N' B' X' T'; (try dsimp only); (try k_lift B'); (try k_fold)) | (refine' code_defC ?k1 ?k2 ?k3 ?k4 ?k5 ?kA ?kF ?kK ?k6 ?k7 ?k8 ?k9 ?kB ?kD ?_ ?c2 ?c3 ?c4; (case kA => exact rfl); (case kF => exact rfl); (case kK => first | exact rfl | assumption); (case k1 => k_asm); (case k2 => k_asm); (case k3 => k_asm); (case k4 => k_asm); (case k5 => k_asm); (case k6 => k_is); (case k7 => k_is); (case k8 => ktr_room); (case k9 => first | exact BindsTo.of_eq rfl | exact binds_K (by k_in) rfl (by k_is) rfl rfl rfl); (case kB => exact rfl); (case kD => decide +kernel); (case c2 => exact rfl); (case c3 => exact rfl); (case c4 => exact rfl); k_whole; intro g' L' h' tk' cells' FG' F' N' Y' B' X' T' l1; (try k_lt l1); k_cells Y'; (try simp only [List.cons_append, List.nil_append] at N'); (try dsimp only); (try k_lift B'); (try k_fold)))
  k_steps
  exact con_ret hret ⟨rfl, _, rfl⟩ (by k_asm) (by k_asm)
theorem get48_con (w : World) (mean : ExcName → Option Value) (mg mb : Str → Option Value) (news : Led) (b : Array UInt8) (ks : List Int) (a₀ : Int) (t t1 : Tok) (hks : KBw.bInts b = ks) (hlen : ks.length = 60) (ha : 0 ≤ a₀) (han : a₀ + 6 ≤ 60) :
    Con w mean mg mb 8 48 205 [.bytes b t, .int a₀ t1] news (fun r n' => n' = news ∧ ∃ tk, r = .int (gnV ks a₀ 6) tk) := by
  k_with_none
  k_with "call ref" => (k_here; (with_reducible show wpAny _ _ (PySem.call (Value.ref 116) [Value.bytes _ _]) _ _ _); k_dflt (refine' Con.use (crc_con _ _ _ _ _ _ _) ?q37k1 ?q37k2 ?q37k3 ?q37k4 ?q37k5 ?q37k6 ?q37k7 ?q37k8 ?_; (case q37k1 => k_asm); (case q37k2 => k_asm); (case q37k3 => k_asm); (case q37k4 => k_asm); (case q37k5 => k_asm); (case q37k6 => first | exact rfl | assumption); (case q37k7 => ktr_room); (case q37k8 => ktr_units)); intro r9 n9 h9 tk9 hr9 F9 N9; obtain ⟨e9, tk8, e8⟩ := hr9; subst e9; subst e8; (try dsimp only); (try k_fold))
  k_with "call ref" => (k_here; (with_reducible show wpAny _ _ (PySem.call (Value.ref 121) [Value.bytes _ _]) _ _ _); k_dflt (refine' Con.use (fsum_con _ _ _ _ _ _ _) ?q38k1 ?q38k2 ?q38k3 ?q38k4 ?q38k5 ?q38k6 ?q38k7 ?q38k8 ?_; (case q38k1 => k_asm); (case q38k2 => k_asm); (case q38k3 => k_asm); (case q38k4 => k_asm); (case q38k5 => k_asm); (case q38k6 => first | exact rfl | assumption); (case q38k7 => ktr_room); (case q38k8 => ktr_units)); intro r9 n9 h9 tk9 hr9 F9 N9; obtain ⟨e9, tk8, e8⟩ := hr9; subst e9; subst e8; (try dsimp only); (try k_fold))
  k_with "binaryOp FloorDiv int int" => (k_here; (refine floordiv_int (by omega) ?_ (.inr (PySem.PylongRoom.of (PySem.Heap.NoLimit.keeps (Top.nolimit (by assumption)) (Fr.keep (by assumption))) (by show _ + 100 < _; ktr_room)))))
  k_with "call ref" => (k_here; (with_reducible show wpAny _ _ (PySem.call (Value.ref 177) [Value.bytes _ _, Value.int _ _, Value.int _ _]) _ _ _); k_dflt (refine' Con.use (getn_con _ _ _ _ _ _ _ _ _ _ _ _ ?q40c1 ?q40c2 ?q40c3 ?q40c4 ?q40c5) ?q40k1 ?q40k2 ?q40k3 ?q40k4 ?q40k5 ?q40k6 ?q40k7 ?q40k8 ?_; (case q40k1 => k_asm); (case q40k2 => k_asm); (case q40k3 => k_asm); (case q40k4 => k_asm); (case q40k5 => k_asm); (case q40k6 => first | exact rfl | assumption); (case q40k7 => ktr_room); (case q40k8 => ktr_units); (case q40c1 => kba_ints); (case q40c2 => first | assumption | omega); (case q40c3 => first | assumption | decide | omega); (case q40c4 => first | assumption | decide | omega); (case q40c5 => first | assumption | decide | omega)); intro r9 n9 h9 tk9 hr9 F9 N9; obtain ⟨e9, tk8, e8⟩ := hr9; subst e9; subst e8; (try dsimp only); (try k_sweep); (try k_fold))
  unfold Con
  intro dp un gd cn cs a ccd cl outer A₀ base h₀ L m s Q E B F X N T hk hd' hu hret
  refine wpAny_call ?_
  k_dflt (first | (refine' code_def ?k1 ?k2 ?k3 ?k4 ?k5 ?kA ?kF ?kK ?k6 ?k7 ?k8 ?k9 ?kB ?_ ?c2 ?c3 ?c4 ?c5; (case kA => exact rfl); (case kF => exact rfl); (case kK => first | exact rfl | assumption); (case k1 => k_asm); (case k2 => k_asm); (case k3 => k_asm); (case k4 => k_asm); (case k5 => k_asm); (case k6 => k_is); (case k7 => k_is); (case k8 => ktr_room); (case k9 => first | exact BindsTo.of_eq rfl | exact binds_K (by k_in) rfl (by k_is) rfl rfl rfl); (case c5 => decide); (case kB => exact locs rfl); (case c2 => exact rfl); (case c3 => exact rfl); (case c4 => exact rfl); k_whole; intro g' L' h' FG' F' N' B' X' T'; (try dsimp only); (try k_lift B'); (try k_fold)) | (refine' code_defC ?k1 ?k2 ?k3 ?k4 ?k5 ?kA ?kF ?kK ?k6 ?k7 ?k8 ?k9 ?kB ?kD ?_ ?c2 ?c3 ?c4; (case kA => exact rfl); (case kF => exact rfl); (case kK => first | exact rfl | assumption); (case k1 => k_asm); (case k2 => k_asm); (case k3 => k_asm); (case k4 => k_asm); (case k5 => k_asm); (case k6 => k_is); (case k7 => k_is); (case k8 => ktr_room); (case k9 => first | exact BindsTo.of_eq rfl | exact binds_K (by k_in) rfl (by k_is) rfl rfl rfl); (case kB => exact rfl); (case kD => decide +kernel); (case c2 => exact rfl); (case c3 => exact rfl); (case c4 => exact rfl); k_whole; intro g' L' h' tk' cells' FG' F' N' Y' B' X' T' l1; (try k_lt l1); k_cells Y'; (try simp only [List.cons_append, List.nil_append] at N'); (try dsimp only); (try k_lift B'); (try k_fold)))
  k_steps
  exact con_ret hret ⟨rfl, _, rfl⟩ (by k_asm) (by k_asm)
def kindV : List Value := [.int 33024 974, .int 34984 976]
theorem kind_not {w : World} {A : Around} {E : Value → Shared → Prop} {s : Shared} {h₀ : Heap} {L : Addr} {m : Str → Option Value} {x : Int} {u : Tok} {n : Nat} {Q : Value → Shared → Prop}
    (F : Fr h₀ L s.heap m) (X : (hd.heap_1 w.params).In h₀) (hl : (hd.heap_1 w.params).lookup 206 = some ⟨.type "tuple", none, .seq kindV.toArray n, #[]⟩) (hx : x = 2048) (h : Q (.bool false) s) :
    wpAny (model P0 w) A (compareOp .In (.int x u) (.ref 206)) Q E s := by
  subst hx
  exact in_tuple_ints (ns := [33024, 34984]) (tupK (X.keeps F.keep) hl) (.cons _ _ (.cons _ _ .nil)) h
theorem tags_con (w : World) (mean : ExcName → Option Value) (mg mb : Str → Option Value) (news : Led) (b : Array UInt8) (ks : List Int) (t t1 : Tok) (hks : KBw.bInts b = ks) (hlen : ks.length = 60) (hkind : gnV ks 12 2 = 2048) :
    Con w mean mg mb 20 80 302 [.bytes b t, .int 12 t1] news (fun r n' => ∃ a c t2, r = .ref a ∧ n' = (a, { cls := .type "tuple", data := .seq #[.ref c, .int 12 t2] 0 }) :: (c, { cls := .type "tuple", data := .seq #[] 0 }) :: news) := by
  k_with_none
  k_with "call ref" => (k_here; (with_reducible show wpAny _ _ (PySem.call (Value.ref 116) [Value.bytes _ _]) _ _ _); k_dflt (refine' Con.use (crc_con _ _ _ _ _ _ _) ?q37k1 ?q37k2 ?q37k3 ?q37k4 ?q37k5 ?q37k6 ?q37k7 ?q37k8 ?_; (case q37k1 => k_asm); (case q37k2 => k_asm); (case q37k3 => k_asm); (case q37k4 => k_asm); (case q37k5 => k_asm); (case q37k6 => first | exact rfl | assumption); (case q37k7 => ktr_room); (case q37k8 => ktr_units)); intro r9 n9 h9 tk9 hr9 F9 N9; obtain ⟨e9, tk8, e8⟩ := hr9; subst e9; subst e8; (try dsimp only); (try k_fold))
  k_with "call ref" => (k_here; (with_reducible show wpAny _ _ (PySem.call (Value.ref 121) [Value.bytes _ _]) _ _ _); k_dflt (refine' Con.use (fsum_con _ _ _ _ _ _ _) ?q38k1 ?q38k2 ?q38k3 ?q38k4 ?q38k5 ?q38k6 ?q38k7 ?q38k8 ?_; (case q38k1 => k_asm); (case q38k2 => k_asm); (case q38k3 => k_asm); (case q38k4 => k_asm); (case q38k5 => k_asm); (case q38k6 => first | exact rfl | assumption); (case q38k7 => ktr_room); (case q38k8 => ktr_units)); intro r9 n9 h9 tk9 hr9 F9 N9; obtain ⟨e9, tk8, e8⟩ := hr9; subst e9; subst e8; (try dsimp only); (try k_fold))
  k_with "binaryOp FloorDiv int int" => (k_here; (refine floordiv_int (by omega) ?_ (.inr (PySem.PylongRoom.of (PySem.Heap.NoLimit.keeps (Top.nolimit (by assumption)) (Fr.keep (by assumption))) (by show _ + 100 < _; ktr_room)))))
  k_with "call ref" => (k_here; (with_reducible show wpAny _ _ (PySem.call (Value.ref 177) [Value.bytes _ _, Value.int _ _, Value.int _ _]) _ _ _); k_dflt (refine' Con.use (getn_con _ _ _ _ _ _ _ _ _ _ _ _ ?q40c1 ?q40c2 ?q40c3 ?q40c4 ?q40c5) ?q40k1 ?q40k2 ?q40k3 ?q40k4 ?q40k5 ?q40k6 ?q40k7 ?q40k8 ?_; (case q40k1 => k_asm); (case q40k2 => k_asm); (case q40k3 => k_asm); (case q40k4 => k_asm); (case q40k5 => k_asm); (case q40k6 => first | exact rfl | assumption); (case q40k7 => ktr_room); (case q40k8 => ktr_units); (case q40c1 => kba_ints); (case q40c2 => first | assumption | omega); (case q40c3 => first | assumption | decide | omega); (case q40c4 => first | assumption | decide | omega); (case q40c5 => first | assumption | decide | omega)); intro r9 n9 h9 tk9 hr9 F9 N9; obtain ⟨e9, tk8, e8⟩ := hr9; subst e9; subst e8; (try dsimp only); (try k_sweep); (try k_fold))
  k_with "call ref" => (k_here; (with_reducible show wpAny _ _ (PySem.call (Value.ref 198) [Value.bytes _ _, Value.int _ _]) _ _ _); k_dflt (refine' Con.use (get16_con _ _ _ _ _ _ _ _ _ _ ?q41c1 ?q41c2 ?q41c3 ?q41c4) ?q41k1 ?q41k2 ?q41k3 ?q41k4 ?q41k5 ?q41k6 ?q41k7 ?q41k8 ?_; (case q41k1 => k_asm); (case q41k2 => k_asm); (case q41k3 => k_asm); (case q41k4 => k_asm); (case q41k5 => k_asm); (case q41k6 => first | exact rfl | assumption); (case q41k7 => ktr_room); (case q41k8 => ktr_units); (case q41c1 => kba_ints); (case q41c2 => first | assumption | omega); (case q41c3 => first | assumption | decide | omega); (case q41c4 => first | assumption | decide | omega)); intro r9 n9 h9 tk9 hr9 F9 N9; obtain ⟨e9, tk8, e8⟩ := hr9; subst e9; subst e8; (try dsimp only); (try k_sweep); (try k_fold))
  k_with "call ref" => (k_here; (with_reducible show wpAny _ _ (PySem.call (Value.ref 205) [Value.bytes _ _, Value.int _ _]) _ _ _); k_dflt (refine' Con.use (get48_con _ _ _ _ _ _ _ _ _ _ ?q42c1 ?q42c2 ?q42c3 ?q42c4) ?q42k1 ?q42k2 ?q42k3 ?q42k4 ?q42k5 ?q42k6 ?q42k7 ?q42k8 ?_; (case q42k1 => k_asm); (case q42k2 => k_asm); (case q42k3 => k_asm); (case q42k4 => k_asm); (case q42k5 => k_asm); (case q42k6 => first | exact rfl | assumption); (case q42k7 => ktr_room); (case q42k8 => ktr_units); (case q42c1 => kba_ints); (case q42c2 => first | assumption | omega); (case q42c3 => first | assumption | decide | omega); (case q42c4 => first | assumption | decide | omega)); intro r9 n9 h9 tk9 hr9 F9 N9; obtain ⟨e9, tk8, e8⟩ := hr9; subst e9; subst e8; (try dsimp only); (try k_sweep); (try k_fold))
  k_with "compareOp In int ref" => (k_here; (with_reducible show wpAny _ _ (compareOp CmpOp.In (Value.int _ _) (Value.ref 206)) _ _ _); k_dflt (refine' kind_not ?q43F ?q43X ?q43l ?q43q ?_; (case q43F => k_asm); (case q43X => k_asm); (case q43l => k_is); (case q43q => first | assumption | rfl)))
  unfold Con
  intro dp un gd cn cs a ccd cl outer A₀ base h₀ L m s Q E B F X N T hk hd' hu hret
  refine wpAny_call ?_
  k_dflt (first | (refine' code_def ?k1 ?k2 ?k3 ?k4 ?k5 ?kA ?kF ?kK ?k6 ?k7 ?k8 ?k9 ?kB ?_ ?c2 ?c3 ?c4 ?c5; (case kA => exact rfl); (case kF => exact rfl); (case kK => first | exact rfl | assumption); (case k1 => k_asm); (case k2 => k_asm); (case k3 => k_asm); (case k4 => k_asm); (case k5 => k_asm); (case k6 => k_is); (case k7 => k_is); (case k8 => ktr_room); (case k9 => first | exact BindsTo.of_eq rfl | exact binds_K (by k_in) rfl (by k_is) rfl rfl rfl); (case c5 => decide); (case kB => exact locs rfl); (case c2 => exact rfl); (case c3 => exact rfl); (case c4 => exact rfl); k_whole; intro g' L' h' FG' F' N' B' X' T'; (try dsimp only); (try k_lift B'); (try k_fold)) | (refine' code_defC ?k1 ?k2 ?k3 ?k4 ?k5 ?kA ?kF ?kK ?k6 ?k7 ?k8 ?k9 ?kB ?kD ?_ ?c2 ?c3 ?c4; (case kA => exact rfl); (case kF => exact rfl); (case kK => first | exact rfl | assumption); (case k1 => k_asm); (case k2 => k_asm); (case k3 => k_asm); (case k4 => k_asm); (case k5 => k_asm); (case k6 => k_is); (case k7 => k_is); (case k8 => ktr_room); (case k9 => first | exact BindsTo.of_eq rfl | exact binds_K (by k_in) rfl (by k_is) rfl rfl rfl); (case kB => exact rfl); (case kD => decide +kernel); (case c2 => exact rfl); (case c3 => exact rfl); (case c4 => exact rfl); k_whole; intro g' L' h' tk' cells' FG' F' N' Y' B' X' T' l1; (try k_lt l1); k_cells Y'; (try simp only [List.cons_append, List.nil_append] at N'); (try dsimp only); (try k_lift B'); (try k_fold)))
  k_steps
  refine' con_ret hret (n' := (_, { cls := .type "tuple", data := .seq #[.ref _, .int 12 _] 0 }) :: (_, { cls := .type "tuple", data := .seq #[] 0 }) :: news) ⟨_, _, _, rfl, rfl⟩ ?gF (news_of ?gN ?gS)
  (case gF => assumption)
  (case gN => assumption)
  (case gS => kcf_all)
open PySem PySem.W PyProof.Rows
theorem bs_has_bytes : typeLookup (.type "bytes") "__bytes__" = pure (some (.builtin "bytes.__bytes__")) := by rw [typeLookup_type, builtinLookup_eq_fast]; kernel_rfl!
theorem int_no_bytes : typeLookup (.type "int") "__bytes__" = pure none := by rw [typeLookup_type, builtinLookup_eq_fast]; kernel_rfl!
theorem int_has_index : typeLookup (.type "int") "__index__" = pure (some (.builtin "int.__index__")) := by rw [typeLookup_type, builtinLookup_eq_fast]; kernel_rfl!
section
variable {prog : Program} {w : World} {A : Around} {E : Value → Shared → Prop} {s : Shared}
theorem bn_bytes {b : Array UInt8} {t : Tok} {Q : Value → Shared → Prop} (hQ : Q (.bytes b t) s) :
    codeAny (model prog w) A (.call (.builtin "bytes.__new__") ⟨[.type "bytes", .bytes b t], []⟩) (wants Q E) s := by
  refine codeAny_of_tree ?_
  show wpAny _ A.in1 (do checkBuiltinCall "bytes.__new__" ⟨[.type "bytes", .bytes b t], []⟩; again (.builtin "bytes.__new__" ⟨[.type "bytes", .bytes b t], []⟩)) _ _ s
  refine wpAny_bind (wpAny_of_eq (F.bm_newCall _) (wpAny_pure ⟨plainId_quiet F.bm_plain _, codeAny_builtin F.bm_entry ?_⟩))
  rw [Around.under_plainId F.bm_plain _]
  have hT : s.TypeIs (.bytes b t) "bytes" := PySem.W.typeIs_bytes s b t
  unfold Builtin.«bytes.__new__»
  refine wpAny_bind (wpAny_of_eq (a := true) rfl ?_)
  refine bm_if_false rfl ?_
  refine wpAny_bind (wpAny_of_eq F.bm_sub ?_)
  refine bm_if_false rfl ?_
  refine wpAny_bind (wpAny_of_eq (F.bm_bind _) ?_)
  refine wpAny_bind (wpAny_of_eq (a := ()) rfl ?_)
  refine wpAny_bind (wpAny_of_eq (a := ()) rfl ?_)
  refine bm_if_false rfl ?_
  refine wpAny_bind (wpAny_specialOf hT bs_has_bytes ?_)
  refine wpAny_bind (wpAny_rule ?_)
  refine wpAny_bind (wpAny_typeOf hT ?_)
  refine bm_if_true (by decide) ?_
  show wpAny _ _ (if (Value.type "bytes" == Value.type "bytes") = true then _ else _) _ _ _
  refine bm_if_true (by decide) ?_
  first
    | exact wpAny_pure hQ
    | exact wpAny_bind (wpAny_pure (wpAny_pure hQ))
theorem call_bytes_bytes {b : Array UInt8} {t : Tok} {Q : Value → Shared → Prop} (hQ : Q (.bytes b t) s) : wpAny (model prog w) A (call (.type "bytes") [.bytes b t]) Q E s := by
  refine callType_codes (Q₁ := fun obj s₁ => s₁.TypeIs obj "bytes" ∧ Q obj s₁) F.bm_called (F.bm_typeCall _) F.entry_object_init
    (bn_bytes ⟨PySem.W.typeIs_bytes _ _ _, hQ⟩) fun obj s₁ h₁ => ?_
  exact ⟨h₁.1, F.args_object_init_2 obj _, object_init_meets F.bm_called.init.lookup F.bm_called.made (by decide) prog w A.in1 _ s₁ ⟨h₁.1, rfl, h₁.2⟩⟩
theorem bn_int {n : Int} {t : Tok} {Q : Value → Shared → Prop} (h0 : 0 ≤ n) (h1 : n ≤ 1000000) (hQ : Q (.bytes (Array.replicate n.toNat 0) s.toks) { s with toks := s.toks + 1 }) :
    codeAny (model prog w) A (.call (.builtin "bytes.__new__") ⟨[.type "bytes", .int n t], []⟩) (wants Q E) s := by
  refine codeAny_of_tree ?_
  show wpAny _ A.in1 (do checkBuiltinCall "bytes.__new__" ⟨[.type "bytes", .int n t], []⟩; again (.builtin "bytes.__new__" ⟨[.type "bytes", .int n t], []⟩)) _ _ s
  refine wpAny_bind (wpAny_of_eq (F.bm_newCall _) (wpAny_pure ⟨plainId_quiet F.bm_plain _, codeAny_builtin F.bm_entry ?_⟩))
  rw [Around.under_plainId F.bm_plain _]
  have hT : s.TypeIs (.int n t) "int" := rfl
  unfold Builtin.«bytes.__new__»
  refine wpAny_bind (wpAny_of_eq (a := true) rfl ?_)
  refine bm_if_false rfl ?_
  refine wpAny_bind (wpAny_of_eq F.bm_sub ?_)
  refine bm_if_false rfl ?_
  refine wpAny_bind (wpAny_of_eq (F.bm_bind _) ?_)
  refine wpAny_bind (wpAny_of_eq (a := ()) rfl ?_)
  refine wpAny_bind (wpAny_of_eq (a := ()) rfl ?_)
  refine bm_if_false rfl ?_
  refine wpAny_bind (wpAny_specialOf hT int_no_bytes ?_)
  refine wpAny_bind (wpAny_of_eq (a := false) rfl ?_)
  refine bm_if_false rfl ?_
  refine wpAny_bind (wpAny_specialOf hT int_has_index ?_)
  refine bm_if_false rfl ?_
  try (refine wpAny_bind (wpAny_of_eq (a := ()) rfl ?_))
  refine wpAny_bind (wpAny_attempt (wpAny_of_eq (rfl : asIndex (.int n t) = pure n) ?_))
  dsimp only
  have hb : (!Builtin.Bytes.fitsIndex n) = false := by
    simp only [Builtin.Bytes.fitsIndex, Bool.not_eq_false', Bool.and_eq_true, decide_eq_true_eq]; omega
  have hz : n.toNat ≤ sizeLine := Nat.le_trans (m := 1000000) (by omega) (by decide)
  refine bm_if_false hb ?_
  rw [if_neg (by omega : ¬ n < 0)]
  try rw [if_neg (by omega : ¬ n > 2 ^ 63 - 34)]
  refine bm_if_false (by simp only [Builtin.Bytes.tooLong, decide_eq_false_iff_not]; omega) ?_
  refine wpAny_bind (wpAny_rule ?_)
  refine wpAny_bind (wpAny_mkBytes ?_ (by rw [Array.size_replicate]; exact hz))
  show wpAny _ _ (if (Value.type "bytes" == Value.type "bytes") = true then _ else _) _ _ _
  refine bm_if_true (by decide) ?_
  first
    | exact wpAny_pure hQ
    | exact wpAny_bind (wpAny_pure (wpAny_pure hQ))
theorem call_bytes_int {n : Int} {t : Tok} {Q : Value → Shared → Prop} (h0 : 0 ≤ n) (h1 : n ≤ 1000000) (hQ : Q (.bytes (Array.replicate n.toNat 0) s.toks) { s with toks := s.toks + 1 }) : wpAny (model prog w) A (call (.type "bytes") [.int n t]) Q E s := by
  refine callType_codes (Q₁ := fun obj s₁ => s₁.TypeIs obj "bytes" ∧ Q obj s₁) F.bm_called (F.bm_typeCall _) F.entry_object_init
    (bn_int h0 h1 ⟨PySem.W.typeIs_bytes _ _ _, hQ⟩) fun obj s₁ h₁ => ?_
  exact ⟨h₁.1, F.args_object_init_2 obj _, object_init_meets F.bm_called.init.lookup F.bm_called.made (by decide) prog w A.in1 _ s₁ ⟨h₁.1, rfl, h₁.2⟩⟩
end
open PySem PySem.W PyProof.Rows
def exObj (t : Addr) (d : Option Addr) : Obj := { cls := .ref 151, dict := d, data := .fields #[.ref t, .none, .none, .none, .bool false, .none] }
section
variable {prog : Program} {w : World} {A : Around} {E : Value → Shared → Prop} {h₀ : Heap} {L : Addr} {m : Str → Option Value} {news : List (Addr × Obj)} {s : Shared}
variable {nm q : Str} {N151 : Addr} {bs bm bmB : List Value} {hdct : Bool} {sn : List Str} {sub : List Value} {ab : Bool} {col : Option Bool} {dd : Option Addr} {k0 k1 k2 k3 k5 : Option Value} {newId initId : String}
theorem ei_check_init {h : Heap} {g : Array GenState} {d : Drawn} {t : Nat} {os : OsState} {B newId initId : String} {C N : Addr} (F : ExcBaseFacts B newId initId bmB) (Z : ExcLine B bm) {M : Model} {e : Addr} {oe : Obj} {rest : List Value} {Q : Unit → Shared → Prop}
    (hC : h.get? C = some (excClassObj nm q C N bs bm hdct sn sub ab col dd k0 k1 k2 k3 k5 newId)) (he : h.get? e = some oe) (hcls : oe.cls = .ref C) (hq : Q () ⟨h, g, d, t, os⟩) :
    wpAny M A (checkBuiltinCall initId ⟨.ref e :: rest, []⟩) Q E ⟨h, g, d, t, os⟩ := by
  have hcB : (Value.ref C :: bm).contains (.type B) = true := by rw [List.contains_cons, Z.hasB, Bool.or_true]
  have hshort := F.noStar
  simp only [checkBuiltinCall, F.initKind, F.initSplit, F.initRow]
  repeat (first | (with_reducible refine wpAny_loadPart_at he ?_; rw [hcls]) | with_reducible refine wpAny_loadPart_at hC ?_ | (with_reducible refine wpAny_isSubtype_exc hC ?_; rw [hcB]) | wp_step)
  refine wpAny_onRaise ?_
  rw [show ∀ (a b : String) (n : Nat), Bind.check ⟨.positional, "*", B, .self, [⟨"args", .varPos, false⟩]⟩ a b n (List.map (fun x => x.fst) ({ pos := Value.ref e :: rest } : Args).kw) = pure () from
    fun a b n => check_star_args _ _ _ _ _ _]
  exact wpAny_pure hq
theorem ei_init_call {B newId initId : String} (FB : ExcBaseFacts B newId initId bmB) (Z : ExcLine B bm) {e t0 : Addr} {v : Value} {vs : Array Value} {Q : Value → Shared → Prop}
    (hC : s.heap.get? 151 = some (excClassObj nm q 151 N151 bs bm hdct sn sub ab col dd k0 k1 k2 k3 k5 newId)) (F : Fr h₀ L s.heap m) (N : News h₀ L s.heap ((e, exObj t0 none) :: news)) (hne : ∀ p ∈ news, p.1 ≠ e)
    (ht : s.heap.get? t0 = some { cls := .type "tuple", data := .seq vs })
    (h : ∀ t1 h', Fr h₀ L h' m → News h₀ L h' ((e, exObj t1 none) :: news) → Q .none { s with heap := h' }) :
    wpAny (model prog w) A (call (.builtin initId) [.ref e, v]) Q E s := by
  have he := (N (e, exObj t0 none) (.head _)).1
  have h₁ : e ≠ s.heap.objs.size := Nat.ne_of_lt (Heap.lt_size he)
  have F1 := F.push { cls := .type "tuple", data := .seq #[v] }
  have N1 := News.pushKeep N { cls := .type "tuple", data := .seq #[v] }
  obtain ⟨U1, U2⟩ := news_upd (pre := []) (f := Obj.mapFields fun x => x.setIfInBounds 0 (Value.ref s.heap.objs.size)) F1 N1 (fun _ x => nomatch x) hne rfl (by rfl)
  obtain ⟨hp, g, dr, tk, os⟩ := s
  refine wpAny_call (codeAny_call_builtin FB.init.plain FB.initEntry (ei_check_init FB Z hC he rfl ?_))
  unfold Builtin.«BaseException.__init__»
  wp_walk
  exact h _ _ U1 U2
end
section
variable {prog : Program} {w : World} {A : Around} {E : Value → Shared → Prop} {h : Heap} {g : Array GenState} {d : Drawn} {t : Nat} {os : OsState}
variable {nm q : Str} {C D N x : Addr} {bs : List Value} {sn : List Str} {sub : List Value} {ab : Bool} {col : Option Bool} {dd : Option Addr} {k0 k1 k2 k3 k5 : Option Value} {newId : String}
  {name : Str} {v : Value}
abbrev exTail (D : Addr) : List Value := [.ref D, .type "Exception", .type "BaseException", .type "object"]
theorem ei_check_sa {M : Model} {o : Obj} {nameV : Value} {Q : Unit → Shared → Prop}
    (hC : h.get? C = some (excClassObj nm q C N bs (exTail D) true sn sub ab col dd k0 k1 k2 k3 k5 newId)) (hx : h.get? x = some o) (hc : o.cls = .ref C) (hq : Q () ⟨h, g, d, t, os⟩) :
    wpAny M A (checkBuiltinCall "object.__setattr__" ⟨[.ref x, nameV, v], []⟩) Q E ⟨h, g, d, t, os⟩ := by
  have SF := PySem.F.store_Exception
  have hcB : (Value.ref C :: exTail D).contains (.type "object") = true := by simp [exTail]
  have ha := SF.args (.ref x) nameV v
  simp only [checkBuiltinCall, SF.kind, SF.split]
  refine wpAny_bind ?_
  unfold isInstance
  repeat (first | (with_reducible refine wpAny_loadPart_at hx ?_; rw [hc]) | (with_reducible refine wpAny_isSubtype_exc hC ?_; rw [hcB]) | wp_step)
  exact hq
open Builtin Builtin.ObjectAttr in
theorem ei_store_entry {tk : Tok} {o : Obj} {Q : Fin → Shared → Prop}
    (hC : h.get? C = some (excClassObj nm q C N bs (exTail D) true sn sub ab col dd k0 k1 k2 k3 k5 newId)) (hl : PySem.W.Looks (model prog w) h (typeLookup (.ref C) name) none)
    (hx : h.get? x = some o) (hc : o.cls = .ref C) (hnc : ∀ c, o.data ≠ .cls c) (hdn : o.dict = none)
    (hq : ∀ h' tk' d1, h'.get? x = some { o with dict := some d1 } → (∀ b ob, b ≠ x → h.get? b = some ob → h'.get? b = some ob) → Q (.done (.ret .none)) ⟨h', g, d, tk', os⟩) :
    wpAny (model prog w) A (Builtin.«object.__setattr__» ⟨[.ref x, .str name tk, v], []⟩) Q E ⟨h, g, d, t, os⟩ := by
  unfold PySem.W.Looks at hl
  have SF := PySem.F.store_Exception
  have hpass := SF.passes (.ref x)
  unfold Builtin.«object.__setattr__»
  repeat (first | rw [refuse_eq] | (rw [refuseLoop_ref, refuseLoop_ref, hpass]) | (with_reducible refine wpAny_loadPart_at hx ?_; rw [hc]) | with_reducible refine wpAny_mroOf_exc hC ?_ | (with_reducible refine hl _ _ _ _ (fun _ _ e => e) ?_) | wp_step)
  rw [hdn, if_neg (by simp [typeHasDict])]
  split
  · rename_i hcd
    cases hcd
  split
  · rename_i c hcd
    exact absurd hcd (hnc c)
  · have hx₁ : (h.push { cls := .type "dict", data := .dict #[] }).get? x = some o := Heap.get?_push_of_some _ hx
    have hxs : x ≠ h.objs.size := Nat.ne_of_lt (Heap.lt_size hx)
    refine wpAny_bind (wpAny_alloc' ?_)
    refine wpAny_bind (wpAny_update' hx₁ ?_)
    refine wpAny_pure ?_
    have hgd : ((h.push { cls := .type "dict", data := .dict #[] }).update x fun o => { cls := o.cls, dict := some h.objs.size, data := o.data, slots := o.slots }).get? h.objs.size
        = some { cls := .type "dict", data := .dict #[] } :=
      (Heap.get?_update_ne _ _ _ _ hxs.symm).trans (Heap.get?_push_at rfl rfl)
    have hnd : ((h.push { cls := .type "dict", data := .dict #[] }).update x fun o => { cls := o.cls, dict := some h.objs.size, data := o.data, slots := o.slots }).Ns h.objs.size (fun _ => none) :=
      ⟨_, #[], _, hgd, rfl, fun e he => absurd he (by simp), fun _ => rfl⟩
    show wpAny _ _ (storeInDict h.objs.size (.str name tk) name v) _ _ _
    unfold storeInDict newKeyGuard
    refine wpAny_bind (wpAny_pure (wpAny_bind (wpAny_nsSet1 (Heap.Ns1.of_empty hnd) fun h' hn' hs => ?_)))
    obtain ⟨oD, esD, epD, hoD, hdD, hcD⟩ := hn'.count (Within.cons name v Within.nil)
    refine wpAny_bind (wpAny_lookBehind hoD (by rw [hdD]; exact pastItsLine_dict (Nat.le_trans hcD (by rw [List.length_cons, List.length_nil, sizeLine_eq]; omega))) ?_)
    wp_walk
    refine hq h' _ h.objs.size ?_ (fun b ob hbx hb => ?_)
    · refine (hs.2 x hxs).trans (Heap.get?_update_self _ hx₁ ?_)
      have hfr := (Heap.get?_some_iff.mp hx).2
      obtain ⟨oc, od, odt, osl⟩ := o
      cases odt <;> first | rfl | exact hfr
    · exact (hs.2 b (Nat.ne_of_lt (Heap.lt_size hb))).trans ((Heap.get?_update_ne _ _ _ _ hbx).trans (Heap.get?_push_of_some _ hb))
theorem ei_store {o : Obj} {Q : Unit → Shared → Prop}
    (hC : h.get? C = some (excClassObj nm q C N bs (exTail D) true sn sub ab col dd k0 k1 k2 k3 k5 newId)) (hl : PySem.W.Looks (model prog w) h (typeLookup (.ref C) name) none)
    (hsa : PySem.W.Looks (model prog w) h (typeLookup (.ref C) "__setattr__") (some (.builtin "object.__setattr__")))
    (hx : h.get? x = some o) (hc : o.cls = .ref C) (hnc : ∀ c, o.data ≠ .cls c) (hdn : o.dict = none)
    (hq : ∀ h' tk' d1, h'.get? x = some { o with dict := some d1 } → (∀ b ob, b ≠ x → h.get? b = some ob → h'.get? b = some ob) → Q () ⟨h', g, d, tk', os⟩) :
    wpAny (model prog w) A (setAttr (.ref x) name v) Q E ⟨h, g, d, t, os⟩ := by
  have hl' := hl
  unfold PySem.W.Looks at hl hsa
  have SF := PySem.F.store_Exception
  have f3 := SF.slot.bind (.ref x)
  unfold setAttr callSpecial? specialOf
  repeat (any_goals (first | assumption | (with_reducible refine wpAny_loadPart_at hx ?_; rw [hc]) | (with_reducible refine hsa _ _ _ _ (fun _ _ e => e) ?_) | wp_step))
  refine codeAny_call_builtin SF.slot.plain SF.entry (ei_check_sa hC hx hc (ei_store_entry hC hl' hx hc hnc hdn fun h' tk' d1 a b => ?_))
  wp_walk
  exact hq h' tk' d1 a b
end
def c151 : Obj := excClassObj (Str.ofString "FormError") (Str.ofString "FormError") 151 150 [.ref 138] (exTail 138) true [] [] false none none (some (.ref 142)) none (some (.str (Str.ofString "FormError") 891)) (some (.str (Str.ofString "FormError") 899)) (some (.bool true)) "Exception.__new__"
theorem look151 (w : World) : (hd.heap_1 w.params).lookup 151 = some c151 := by k_is
theorem init151 (w : World) : findIn (hd.heap_1 w.params) (.ref 151) "__init__" = some (some (.ref 135)) := by k_is
theorem set151 (w : World) : findIn (hd.heap_1 w.params) (.ref 151) "__setattr__" = some (some (.builtin "object.__setattr__")) := by k_is
theorem msg151 (w : World) : findIn (hd.heap_1 w.params) (.ref 151) "message" = some none := by k_is
theorem line151 : ExcLine "Exception" (exTail 138) := ⟨by decide, by decide, by decide, by decide⟩
theorem meta_Exc : typeOf (.type "Exception") = pure (.type "type") := by kernel_rfl
def tupObj (vs : Array Value) : Obj := { cls := .type "tuple", data := .seq vs }
theorem ex_keeps {h₀ h h' : Heap} {L e : Addr} {m : Str → Option Value} {o o' : Obj} {news : Led} (F : Fr h₀ L h m) (N : News h₀ L h ((e, o) :: news)) (hne : ∀ p ∈ news, p.1 ≠ e) (hx : h'.get? e = some o') (hk : ∀ b ob, b ≠ e → h.get? b = some ob → h'.get? b = some ob) :
    Fr h₀ L h' m ∧ News h₀ L h' ((e, o') :: news) := by
  have D := N (e, o) (.head _)
  obtain ⟨oL, a1, a2, hL, a3⟩ := F.ns
  refine ⟨⟨⟨oL, a1, a2, hk _ _ (Ne.symm D.2.1) hL, a3⟩, fun b x q => hk _ _ (fun z => ?_) (F.keep b x q), F.above⟩, fun p hp => ?_⟩
  · have := D.2.2; rw [← z, q] at this; cases this
  · rcases List.mem_cons.mp hp with rfl | hp
    · exact ⟨hx, D.2⟩
    · exact ⟨hk _ _ (hne p hp) (N p (.tail _ hp)).1, (N p (.tail _ hp)).2⟩
theorem init_form (w : World) (mean : ExcName → Option Value) (mg mb : Str → Option Value) (news : Led) (e t0 : Addr) (vs : Array Value) (b : Str) (t : Tok)
    (dp un : Nat) (gd : Option (List Code)) (cn : Str) (cs : Scope) (a : Addr) (ccd : Value) (cl : List (Str × Addr)) (outer : List Env) (A₀ : Around) (base h₀ : Heap) (L : Addr) (m : Str → Option Value) (s : Shared) (Q E : Value → Shared → Prop)
    (B : Below A₀ base outer h₀) (F : Fr h₀ L s.heap m) (X : (hd.heap_1 w.params).In h₀) (N : News h₀ L s.heap ((e, exObj t0 none) :: (t0, tupObj vs) :: news)) (hne : ∀ p ∈ (t0, tupObj vs) :: news, p.1 ≠ e) (T : Top qv (looseW qv loose0) mean mg mb h₀) (hk : cs.kind = .function) (hd' : dp + 2 < recursionLimit) (hu : un + 16 < cLine)
    (hret : ∀ (t1 d1 : Addr) (h' : Heap) (tk' : Nat), Fr h₀ L h' m → News h₀ L h' ((e, exObj t1 (some d1)) :: news) → Q .none { s with heap := h', toks := tk' }) :
      wpAny (model P0 w) (ktrTop dp un gd cn cs L a ccd cl outer) (call (.ref 135) [.ref e, .str b t]) Q E s := by
  k_with_none
  k_with "call ref" => (k_here; (with_reducible show wpAny _ _ (PySem.call (Value.ref 116) [Value.bytes _ _]) _ _ _); k_dflt (refine' Con.use (crc_con _ _ _ _ _ _ _) ?q44k1 ?q44k2 ?q44k3 ?q44k4 ?q44k5 ?q44k6 ?q44k7 ?q44k8 ?_; (case q44k1 => k_asm); (case q44k2 => k_asm); (case q44k3 => k_asm); (case q44k4 => k_asm); (case q44k5 => k_asm); (case q44k6 => first | exact rfl | assumption); (case q44k7 => ktr_room); (case q44k8 => ktr_units)); intro r9 n9 h9 tk9 hr9 F9 N9; obtain ⟨e9, tk8, e8⟩ := hr9; ((replace e9 := Eq.symm e9); subst e9); ((replace e8 := Eq.symm e8); subst e8); (try dsimp only); (try k_fold))
  k_with "call ref" => (k_here; (with_reducible show wpAny _ _ (PySem.call (Value.ref 121) [Value.bytes _ _]) _ _ _); k_dflt (refine' Con.use (fsum_con _ _ _ _ _ _ _) ?q45k1 ?q45k2 ?q45k3 ?q45k4 ?q45k5 ?q45k6 ?q45k7 ?q45k8 ?_; (case q45k1 => k_asm); (case q45k2 => k_asm); (case q45k3 => k_asm); (case q45k4 => k_asm); (case q45k5 => k_asm); (case q45k6 => first | exact rfl | assumption); (case q45k7 => ktr_room); (case q45k8 => ktr_units)); intro r9 n9 h9 tk9 hr9 F9 N9; obtain ⟨e9, tk8, e8⟩ := hr9; ((replace e9 := Eq.symm e9); subst e9); ((replace e8 := Eq.symm e8); subst e8); (try dsimp only); (try k_fold))
  k_with "binaryOp FloorDiv int int" => (k_here; (refine floordiv_int (by omega) ?_ (.inr (PySem.PylongRoom.of (PySem.Heap.NoLimit.keeps (Top.nolimit (by assumption)) (Fr.keep (by assumption))) (by show _ + 100 < _; ktr_room)))))
  k_with "getMethod type:Exception" => (k_here; refine' method_type ?q47F ?q47X ?q47m (by decide +kernel) ?q47e ?q47h ?_; (case q47F => k_asm); (case q47X => k_asm); (case q47m => exact meta_Exc); (case q47e => k_dflt k_is); (case q47h => k_handed))
  refine wpAny_call ?_
  k_dflt (first | (refine' code_def ?k1 ?k2 ?k3 ?k4 ?k5 ?kA ?kF ?kK ?k6 ?k7 ?k8 ?k9 ?kB ?_ ?c2 ?c3 ?c4 ?c5; (case kA => exact rfl); (case kF => exact rfl); (case kK => first | exact rfl | assumption); (case k1 => k_asm); (case k2 => k_asm); (case k3 => k_asm); (case k4 => k_asm); (case k5 => k_asm); (case k6 => k_is); (case k7 => k_is); (case k8 => ktr_room); (case k9 => first | exact BindsTo.of_eq rfl | exact binds_K (by k_in) rfl (by k_is) rfl rfl rfl); (case c5 => decide); (case kB => exact locs rfl); (case c2 => exact rfl); (case c3 => exact rfl); (case c4 => exact rfl); k_whole; intro g' L' h' FG' F' N' B' X' T'; (try dsimp only); (try k_lift B'); (try k_fold)) | (refine' code_defC ?k1 ?k2 ?k3 ?k4 ?k5 ?kA ?kF ?kK ?k6 ?k7 ?k8 ?k9 ?kB ?kD ?_ ?c2 ?c3 ?c4; (case kA => exact rfl); (case kF => exact rfl); (case kK => first | exact rfl | assumption); (case k1 => k_asm); (case k2 => k_asm); (case k3 => k_asm); (case k4 => k_asm); (case k5 => k_asm); (case k6 => k_is); (case k7 => k_is); (case k8 => ktr_room); (case k9 => first | exact BindsTo.of_eq rfl | exact binds_K (by k_in) rfl (by k_is) rfl rfl rfl); (case kB => exact rfl); (case kD => decide +kernel); (case c2 => exact rfl); (case c3 => exact rfl); (case c4 => exact rfl); k_whole; intro g' L' h' tk' cells' FG' F' N' Y' B' X' T' l1; (try k_lt l1); k_cells Y'; (try simp only [List.cons_append, List.nil_append] at N'); (try dsimp only); (try k_lift B'); (try k_fold)))
  k_steps
  with_reducible rename Fr _ _ _ _ => F'
  with_reducible rename News _ _ _ _ => N'
  with_reducible rename Frag.In _ _ => X'
  refine ei_init_call PySem.F.excBase_Exception line151 (F'.keep _ _ (X' _ _ (look151 w))) F' N' hne (N' (t0, tupObj vs) (.tail _ (.head _))).1 ?_
  intro t1 h1 F1 N1
  clear F' N'
  k_steps
  have XX := X'.keeps F1.keep
  refine ei_store (F1.keep _ _ (X' _ _ (look151 w))) (looks_findIn XX (msg151 w)) (looks_findIn XX (set151 w)) (N1 (e, exObj t1 none) (.head _)).1 rfl (fun _ q => by cases q) rfl ?_
  intro h2 tk2 d1 hx2 hk2
  obtain ⟨F2, N2⟩ := ex_keeps F1 N1 hne hx2 hk2
  clear F1 N1 XX
  k_steps
  have N3 : News h₀ L h2 ((e, exObj t1 (some d1)) :: (t0, tupObj vs) :: news) := by assumption
  refine hret t1 d1 _ _ (by assumption) (news_of N3 fun p hp => ?_)
  rcases List.mem_cons.mp hp with rfl | hp
  · exact .head _
  · exact .tail _ (.tail _ hp)
def RaisableF (E : Value → Shared → Prop) (v : Value) (s₁ : Shared) : Prop :=
  ∃ e t d, v = .ref e ∧ s₁.heap.get? 151 = some c151 ∧ s₁.heap.get? e = some (exObj t (some d)) ∧ E (.ref e) s₁
theorem raise_made {M : Model} {A : Around} {E : Value → Shared → Prop} {s : Shared} {env : Env} {x : Sem Value} {Q : Flow → Shared → Prop} (hh : A.handled = none)
    (h : wpAny M A x (RaisableF E) E s) : wpAny M A (raiseStmt env (some x) none) Q E s := by
  have hcB : (Value.ref 151 :: exTail 138).contains (.type "BaseException") = true := by decide
  unfold raiseStmt
  refine wpAny_bind (wpAny_mono h (fun v s₁ h₁ => ?_) fun _ _ x => x)
  obtain ⟨e, t, dd, rfl, hC, he, hE⟩ := h₁
  obtain ⟨hp, g, d, tk, os⟩ := s₁
  unfold c151 at hC
  unfold exObj at he
  repeat (first | with_reducible refine wpAny_loadPart_at he ?_ | with_reducible refine wpAny_loadPart_at hC ?_ | (with_reducible refine wpAny_isSubtype_exc hC ?_; rw [hcB]) | wp_step)
  exact wpAny_raiseNew_none hh hE
theorem Raise_form {M : Model} {A : Around} {E : Value → Shared → Prop} {s : Shared} {env : Env} {e : Expr} {pos : Pos} {Q : Flow → Shared → Prop} (hh : A.handled = none)
    (h : wpAny M A (eval e env) (RaisableF E) E s) : wpAny M A (exec (.Raise (some e) none pos) env) Q E s := by
  show wpAny M A (do standAt pos; raiseStmt env (some (do let v ← eval e env; standAt pos; pure v)) none) Q E s
  refine wpAny_bind (wpAny_standAt ?_)
  exact raise_made hh (wpAny_bind (wpAny_mono h (fun v s₁ h₁ => wpAny_bind (wpAny_standAt (wpAny_pure h₁))) fun _ _ x => x))
theorem call_form (w : World) (mean : ExcName → Option Value) (mg mb : Str → Option Value) (news : Led) (b : Str) (t : Tok)
    (dp un : Nat) (gd : Option (List Code)) (cn : Str) (cs : Scope) (a : Addr) (ccd : Value) (cl : List (Str × Addr)) (outer : List Env) (A₀ : Around) (base h₀ : Heap) (L : Addr) (m : Str → Option Value) (s : Shared) (E : Value → Shared → Prop)
    (B : Below A₀ base outer h₀) (F : Fr h₀ L s.heap m) (X : (hd.heap_1 w.params).In h₀) (N : News h₀ L s.heap news) (T : Top qv (looseW qv loose0) mean mg mb h₀) (hk : cs.kind = .function) (hd' : dp + 3 < recursionLimit) (hu : un + 17 < cLine)
    (hret : ∀ (e t1 d1 : Addr) (h' : Heap) (tk' : Nat), Fr h₀ L h' m → News h₀ L h' ((e, exObj t1 (some d1)) :: news) → (∀ p ∈ news, p.1 ≠ e) → E (.ref e) { s with heap := h', toks := tk' }) :
      wpAny (model P0 w) (ktrTop dp un gd cn cs L a ccd cl outer) (call (.ref 151) [.str b t]) (RaisableF E) E s := by
  obtain ⟨oI, hI, hIc⟩ : ∃ o, s.heap.get? 135 = some o ∧ o.cls = .type "function" := by
    have q : typeIn (hd.heap_1 w.params) (.ref 135) = some (.type "function") := by k_is
    unfold typeIn at q
    obtain ⟨o, ho, hc⟩ := Option.map_eq_some_iff.mp q
    exact ⟨o, F.keep _ _ (X _ _ ho), hc⟩
  obtain ⟨hp, g, dr, tk, os⟩ := s
  have hC : hp.get? 151 = some c151 := F.keep _ _ (X _ _ (look151 w))
  refine ei_call PySem.F.excBase_Exception line151 hC (looks_findIn (X.keeps F.keep) (init151 w)) hI hIc fun h' e hm => ?_
  rw [under_tc]
  obtain ⟨hkeep, hnew, t0, he, ht0, ht⟩ := hm
  have Ls := F.ns
  have hen : h₀.get? e = none := by
    cases q : h₀.get? e with
    | none => rfl
    | some o => have := F.keep _ _ q; rw [hnew] at this; cases this
  have htn : h₀.get? t0 = none := by
    cases q : h₀.get? t0 with
    | none => rfl
    | some o => have := F.keep _ _ q; rw [ht0] at this; cases this
  have F1 : Fr h₀ L h' m := F.keeps hkeep
  obtain ⟨oL, a1, a2, hL, a3⟩ := F.ns
  have N1 : News h₀ L h' ((e, exObj t0 none) :: (t0, tupObj #[.str b t]) :: news) := fun p hp => by
    rcases List.mem_cons.mp hp with rfl | hp
    · exact ⟨he, (fun z => by have z' : e = L := z; rw [← z', hnew] at hL; cases hL), hen⟩
    rcases List.mem_cons.mp hp with rfl | hp
    · exact ⟨ht, (fun z => by have z' : t0 = L := z; rw [← z', ht0] at hL; cases hL), htn⟩
    · exact ⟨hkeep _ _ (N p hp).1, (N p hp).2⟩
  have hne : ∀ p ∈ (t0, tupObj #[.str b t]) :: news, p.1 ≠ e := fun p hp => by
    rcases List.mem_cons.mp hp with rfl | hp
    · intro z; have z' : t0 = e := z; rw [← z', ht] at he; cases he
    · intro z; rw [← z] at hnew; rw [(N p hp).1] at hnew; cases hnew
  refine init_form w mean mg mb news e t0 _ b t (dp + 1) (un + 1) gd cn cs a ccd cl outer A₀ base h₀ L m _ _ _ B F1 X N1 hne T hk (by omega) (by omega) ?_
  intro t1 d1 h2 tk2 F2 N2
  exact ⟨rfl, e, t1, d1, rfl, F2.keep _ _ (X _ _ (look151 w)), (N2 _ (.head _)).1, hret e t1 d1 h2 tk2 F2 N2 fun p hp => hne p (.tail _ hp)⟩
open PySem PySem.W PyProof.Rows
section
variable {M : Model} {A : Around} {E : Value → Shared → Prop} {s' : Shared} {base g : Heap} {outer : List Env} {L a e t1 d1 : Addr} {m : Str → Option Value} {name : Str} {scope : Scope} {cd : Value} {Q : Unit → Shared → Prop} {news : List (Addr × Obj)}
/-- an own exception with a dict of its own leaves the frame that raised it -/
theorem leave_form (K : Below A base outer g) (F : Fr g L s'.heap m) (N : News g L s'.heap ((e, exObj t1 (some d1)) :: news)) (hne : ∀ p ∈ news, p.1 ≠ e)
    (hQ : ∀ h', RaisedSN base g outer e (.ref 151) news h' → RaisedN base outer e (.ref 151) news h' → g.UpToSlots h' → Q () { s' with heap := h' }) (hk : scope.kind = .function := by rfl) :
    wpAny M (A.deeper (envOf name scope L a cd)) (leaving (envOf name scope L a cd) (.ref e)) Q E s' := by
  have K' := K.push (name := name) (a := a) (cd := cd) F hk
  have he := N (e, exObj t1 (some d1)) (.head _)
  have hin : ∀ env ∈ (envOf name scope L a cd :: outer), ∀ b, env.frame = some b → b ∈ e :: (envOf name scope L a cd :: outer).filterMap (·.frame) := fun env he b hb => .tail _ (List.mem_filterMap.mpr ⟨env, he, hb⟩)
  have hbe : base.get? e = none := fresh_of_stays K.stays he.2.2
  have st : base.StaysIn (hideAll s'.heap (e :: (envOf name scope L a cd :: outer).filterMap (·.frame))) := fun b o q => hideAll_get _ (K'.stays b o q) fun hm => by
    rcases List.mem_cons.mp hm with z | hm
    · rw [z, hbe] at q; cases q
    · rw [(K'.frames.mem hm).1] at q; cases q
  have sg : ∀ b o, g.get? b = some o → b ∉ outer.filterMap (·.frame) → (hideAll s'.heap (e :: (envOf name scope L a cd :: outer).filterMap (·.frame))).get? b = some o := fun b o q nm => hideAll_get _ (F.keep b o q) fun hm => by
    rcases List.mem_cons.mp hm with z | hm
    · rw [z, he.2.2] at q; cases q
    rcases kts_mem hm with z | z
    · rw [z, kts_self F] at q; cases q
    · exact nm z
  have hl : ∀ q ∈ news, (hideAll s'.heap (e :: (envOf name scope L a cd :: outer).filterMap (·.frame))).get? q.1 = some q.2 ∧ g.get? q.1 = none ∧ base.get? q.1 = none := fun q hq => by
    refine ⟨hideAll_get _ (N q (.tail _ hq)).1 fun hm => ?_, (N q (.tail _ hq)).2.2, fresh_of_stays K.stays (N q (.tail _ hq)).2.2⟩
    rcases List.mem_cons.mp hm with z | hm
    · exact hne q hq z
    obtain ⟨env, he, hf⟩ := List.mem_filterMap.mp hm
    rcases List.mem_cons.mp he with rfl | he
    · exact (N q (.tail _ hq)).2.1 (Option.some.inj hf).symm
    · obtain ⟨o, ho, _⟩ := (K.frames.mem (List.mem_filterMap.mpr ⟨env, he, hf⟩)).2
      rw [(N q (.tail _ hq)).2.2] at ho; cases ho
  have hen : (hideAll s'.heap (e :: (envOf name scope L a cd :: outer).filterMap (·.frame))).get? e = none := hideAll_none _ (.head _)
  refine wpAny_leaving_firstW (a0 := .ref t1) K'.stack (funFrames_hide K'.frames hin) rfl he.1 (fun b o hb => of_hideAll _ hb) hen rfl rfl rfl fun h' hL => ?_
  obtain ⟨k1, ⟨_, _, k2⟩, k3, k4⟩ := hL
  have R : RaisedSN base g outer e (.ref 151) news h' := ⟨_, .ref t1, st, sg, hl, k1, hen, k2, k3⟩
  exact hQ h' R R.toN ((Heap.UpToSlots.of_keeps F.keep).trans k4)
end
section
variable {prog : Program} {w : World} {A₀ : Around} {E : Value → Shared → Prop} {s' : Shared} {base g g₀ G : Heap} {outer : List Env} {L a e : Addr} {m : Str → Option Value} {name : Str} {scope : Scope} {cd : Value}
  {n : Str} {b₀ : Stmt} {suite : List Stmt} {pos np : Pos} {rest : List ExceptHandler} {Q : Flow → Shared → Prop} {news : List (Addr × Obj)}
  {p : Program} {loose : List Str} {mean : ExcName → Option Value} {mg mb : Str → Option Value} {x : Str}
/-- and is taken by `except FormError` in a def that a def called -/
theorem caught_form (R : RaisedSN base G (envOf name scope L a cd :: outer) e (.ref 151) news s'.heap) (F : Fr g L G m) (K : Below A₀ base outer g) (hsm : G.UpToSlots s'.heap) (XB : (hd.heap_1 w.params).In base) (TB : Top p loose mean mg mb base)
    (D : KtsDicts (outer.filterMap (·.frame)) g) (T0 : KtsTurn (outer.filterMap (·.frame)) g₀ g) (ex : nsIn (hd.heap_1 w.params) mainGlobals x = some (some (.ref 151)))
    (k : ∀ h' g', KtsTurn (outer.filterMap (·.frame)) g₀ g' → Fr g' L h' m → News g' L h' news → Below A₀ base outer g' → (hd.heap_1 w.params).In g' → Top p loose mean mg mb g' → KtsDicts (outer.filterMap (·.frame)) g' →
      wpAny (model prog w) ((A₀.deeper (envOf name scope L a cd)).mark (some (.ref e))) (execs (b₀ :: suite) (envOf name scope L a cd)) Q E { s' with heap := h' })
    (hk : scope.kind = .function := by rfl) (hx : (envOf name scope L a cd).kindOf x = some .globalImplicit := by rfl) (hdb : (x == ("__debug__" : Str)) = false := by decide)
    (hE : PassesOwnAt (model prog w) ((A₀.deeper (envOf name scope L a cd)).mark (some (.ref e))) (A₀.deeper (envOf name scope L a cd)) (envOf name scope L a cd) E := by passes_own) :
    wpAny (model prog w) (A₀.deeper (envOf name scope L a cd)) (noteFrame (.ref e) (envOf name scope L a cd))
      (fun _ s₂ => wpAny (model prog w) (A₀.deeper (envOf name scope L a cd)) (setFlight (.ref e) none) (fun _ s₃ =>
        wpAny (model prog w) (A₀.deeper (envOf name scope L a cd)) (handleBy (.ref e) (envOf name scope L a cd) (.ExceptHandler (some (.Name x np)) none (b₀ :: suite) pos :: rest)) Q E s₃) E s₂) E s' := by
  obtain ⟨B, a0, hB, hBG, hl, hfl⟩ := R
  have hL : B.get? L = none := by
    obtain ⟨_, ⟨L', _, hf, hn', _⟩, _⟩ := hfl.2.2.1
    obtain rfl : L = L' := Option.some.inj hf
    exact hn'
  refine wpAny_looks_onW (Around.frames_deeper K.stack) rfl hfl fun h₄ hheld₄ hsm₄ => ?_
  refine wpAny_landsW hheld₄ fun h₅ hheld hsm₅' => ?_
  have hsm₅ := hsm₄.trans hsm₅'
  obtain ⟨g₅, T₅, F₅, K₅⟩ := kts_ground K F hBG hheld.1 (hsm.trans hsm₅)
  have X₅ : (hd.heap_1 w.params).In g₅ := XB.keeps K₅.stays
  have P₅ : TopRead p loose mg mb g₅ := topRead_of (TB.keeps K₅.stays)
  obtain ⟨ob, hob, hobc⟩ := hheld.there
  refine wpAny_handleBy_cons (codeAny_handlers_test (name_K F₅ X₅ P₅ ex ?_ hk hx hdb)) (by intro q; cases q)
  have hC : h₅.get? 151 = some c151 := F₅.keep _ _ (X₅ _ _ (look151 w))
  refine wpAny_excMatches_sub_self hC hob hobc (by decide) (codeAny_handlers_suite ?_)
  refine lands_againW hheld fun h₆ hfl₆ hsm₆ => ?_
  obtain ⟨g₆, T₆, F₆, K₆⟩ := kts_ground K F hBG hfl₆.1 ((hsm.trans hsm₅).trans hsm₆)
  have Nl : News g₆ L h₆ news := fun q hq => ⟨hfl₆.1 _ _ (hl q hq).1, (fun z => by have := (hl q hq).1; rw [z, hL] at this; cases this), T₆.none_ _ (kts_none F.keep (hl q hq).2.1)⟩
  exact wpAny_passesOwnAt hE (k h₆ g₆ (T0.trans T₆) F₆ Nl K₆ (XB.keeps K₆.stays) (TB.keeps K₆.stays) (D.turn T₆))
end
/-- a contract like Con, for a def that catches: the ground of the caller may turn -/
def ConS (w : World) (mean : ExcName → Option Value) (mg mb : Str → Option Value) (d u : Nat) (f : Addr) (vs : List Value) (news : Led) (R : Value → Led → Prop) : Prop :=
  ∀ (dp un : Nat) (gd : Option (List Code)) (cn : Str) (cs : Scope) (a : Addr) (ccd : Value) (outer : List Env) (A₀ : Around) (base h₀ : Heap) (L : Addr) (m : Str → Option Value) (s : Shared) (Q E : Value → Shared → Prop),
    Below A₀ base outer h₀ → Fr h₀ L s.heap m → (hd.heap_1 w.params).In h₀ → News h₀ L s.heap news → Top qv (looseW qv loose0) mean mg mb h₀ → (hd.heap_1 w.params).In base → Top qv (looseW qv loose0) mean mg mb base → KtsDicts (outer.filterMap (·.frame)) h₀ →
    cs.kind = .function → dp + d < recursionLimit → un + u < cLine →
    (∀ (r : Value) (n' : Led) (h' h₁ : Heap) (tk' : Nat), R r n' → KtsTurn (outer.filterMap (·.frame)) h₀ h₁ → Fr h₁ L h' m → News h₁ L h' n' → Below A₀ base outer h₁ → (hd.heap_1 w.params).In h₁ → Top qv (looseW qv loose0) mean mg mb h₁ → KtsDicts (outer.filterMap (·.frame)) h₁ →
      Q r { s with heap := h', toks := tk' }) →
      wpAny (model P0 w) (ktrTop dp un gd cn cs L a ccd [] outer) (call (.ref f) vs) Q E s
def heldOf (b : Array UInt8) (ks : List Int) : Array UInt8 := KBy.picked b none (some (↑ks.length - 4))
def SumKind (b : Array UInt8) (ks : List Int) : Prop :=
  ((fsumI (crcI (heldOf b ks))).toList != (KBy.picked b (some ↑(min (clipAt ks.length (↑ks.length - 4)) ks.length)) none).toList) = false → gnV (List.take (clipAt ks.length (↑ks.length - 4)) ks) 12 2 = 2048
theorem SumKind.kind {b : Array UInt8} {ks : List Int} (h : SumKind b ks) (e : ((fsumI (crcI (heldOf b ks))).toList != (KBy.picked b (some ↑(min (clipAt ks.length (↑ks.length - 4)) ks.length)) none).toList) = false) : gnV (List.take (clipAt ks.length (↑ks.length - 4)) ks) 12 2 = 2048 := h e
theorem take60 {ks : List Int} (h : ks.length = 64) : (List.take (clipAt ks.length (↑ks.length - 4)) ks).length = 60 := by
  rw [List.length_take, h]; decide
theorem isread_con (w : World) (mean : ExcName → Option Value) (mg mb : Str → Option Value) (news : Led) (b : Array UInt8) (ks : List Int) (t : Tok) (hks : KBw.bInts b = ks) (hlen : ks.length = 64) (hkind : SumKind b ks) :
    ConS w mean mg mb 40 160 353 [.bytes b t] news (fun r n' => ∃ c : Bool, r = .bool c ∧ c = !((fsumI (crcI (heldOf b ks))).toList != (KBy.picked b (some ↑(min (clipAt ks.length (↑ks.length - 4)) ks.length)) none).toList) ∧ n' = news) := by
  k_with_none
  k_with "call ref" => (k_here; (with_reducible show wpAny _ _ (PySem.call (Value.ref 116) [Value.bytes _ _]) _ _ _); k_dflt (refine' Con.use (crc_con _ _ _ _ _ _ _) ?q48k1 ?q48k2 ?q48k3 ?q48k4 ?q48k5 ?q48k6 ?q48k7 ?q48k8 ?_; (case q48k1 => k_asm); (case q48k2 => k_asm); (case q48k3 => k_asm); (case q48k4 => k_asm); (case q48k5 => k_asm); (case q48k6 => first | exact rfl | assumption); (case q48k7 => ktr_room); (case q48k8 => ktr_units)); intro r9 n9 h9 tk9 hr9 F9 N9; obtain ⟨e9, tk8, e8⟩ := hr9; ((replace e9 := Eq.symm e9); subst e9); ((replace e8 := Eq.symm e8); subst e8); (try dsimp only); (try k_fold))
  k_with "call ref" => (k_here; (with_reducible show wpAny _ _ (PySem.call (Value.ref 121) [Value.bytes _ _]) _ _ _); k_dflt (refine' Con.use (fsum_con _ _ _ _ _ _ _) ?q49k1 ?q49k2 ?q49k3 ?q49k4 ?q49k5 ?q49k6 ?q49k7 ?q49k8 ?_; (case q49k1 => k_asm); (case q49k2 => k_asm); (case q49k3 => k_asm); (case q49k4 => k_asm); (case q49k5 => k_asm); (case q49k6 => first | exact rfl | assumption); (case q49k7 => ktr_room); (case q49k8 => ktr_units)); intro r9 n9 h9 tk9 hr9 F9 N9; obtain ⟨e9, tk8, e8⟩ := hr9; ((replace e9 := Eq.symm e9); subst e9); ((replace e8 := Eq.symm e8); subst e8); (try dsimp only); (try k_fold))
  k_with "binaryOp FloorDiv int int" => (k_here; (refine floordiv_int (by omega) ?_ (.inr (PySem.PylongRoom.of (PySem.Heap.NoLimit.keeps (Top.nolimit (by assumption)) (Fr.keep (by assumption))) (by show _ + 100 < _; ktr_room)))))
  k_with "call ref" => (k_here; (with_reducible show wpAny _ _ (PySem.call (Value.ref 198) [Value.bytes _ _, Value.int _ _]) _ _ _); k_dflt (refine' Con.use (get16_con _ _ _ _ _ _ _ _ _ _ ?q51c1 ?q51c2 ?q51c3 ?q51c4) ?q51k1 ?q51k2 ?q51k3 ?q51k4 ?q51k5 ?q51k6 ?q51k7 ?q51k8 ?_; (case q51k1 => k_asm); (case q51k2 => k_asm); (case q51k3 => k_asm); (case q51k4 => k_asm); (case q51k5 => k_asm); (case q51k6 => first | exact rfl | assumption); (case q51k7 => ktr_room); (case q51k8 => ktr_units); (case q51c1 => kba_ints); (case q51c2 => k_dflt (first | assumption | omega | exact take60 (by assumption))); (case q51c3 => first | assumption | decide | omega); (case q51c4 => first | assumption | decide | omega)); intro r9 n9 h9 tk9 hr9 F9 N9; obtain ⟨e9, tk8, e8⟩ := hr9; ((replace e9 := Eq.symm e9); subst e9); ((replace e8 := Eq.symm e8); subst e8); (try dsimp only); (k_dflt (have q16 := SumKind.kind (by assumption) (by assumption); try rw [q16])); (try k_sweep); (try k_fold))
  k_with "call ref" => (k_here; (with_reducible show wpAny _ _ (PySem.call (Value.ref 205) [Value.bytes _ _, Value.int _ _]) _ _ _); k_dflt (refine' Con.use (get48_con _ _ _ _ _ _ _ _ _ _ ?q52c1 ?q52c2 ?q52c3 ?q52c4) ?q52k1 ?q52k2 ?q52k3 ?q52k4 ?q52k5 ?q52k6 ?q52k7 ?q52k8 ?_; (case q52k1 => k_asm); (case q52k2 => k_asm); (case q52k3 => k_asm); (case q52k4 => k_asm); (case q52k5 => k_asm); (case q52k6 => first | exact rfl | assumption); (case q52k7 => ktr_room); (case q52k8 => ktr_units); (case q52c1 => kba_ints); (case q52c2 => k_dflt (first | assumption | omega | exact take60 (by assumption))); (case q52c3 => first | assumption | decide | omega); (case q52c4 => first | assumption | decide | omega)); intro r9 n9 h9 tk9 hr9 F9 N9; obtain ⟨e9, tk8, e8⟩ := hr9; ((replace e9 := Eq.symm e9); subst e9); ((replace e8 := Eq.symm e8); subst e8); (try dsimp only); (try k_sweep); (try k_fold))
  k_with "call ref" => (k_here; (with_reducible show wpAny _ _ (PySem.call (Value.ref 302) [Value.bytes _ _, Value.int 12 _]) _ _ _); k_dflt (refine' Con.use (tags_con _ _ _ _ _ _ _ _ _ ?q53c1 ?q53c2 ?q53c3) ?q53k1 ?q53k2 ?q53k3 ?q53k4 ?q53k5 ?q53k6 ?q53k7 ?q53k8 ?_; (case q53k1 => k_asm); (case q53k2 => k_asm); (case q53k3 => k_asm); (case q53k4 => k_asm); (case q53k5 => k_asm); (case q53k6 => first | exact rfl | assumption); (case q53k7 => ktr_room); (case q53k8 => ktr_units); (case q53c1 => kba_ints); (case q53c2 => k_dflt (exact take60 (by assumption))); (case q53c3 => k_dflt (exact SumKind.kind (by assumption) (by assumption)))); intro r9 n9 h9 tk9 hr9 F9 N9; obtain ⟨a9, c9, t9, e9, e8⟩ := hr9; ((replace e9 := Eq.symm e9); subst e9); ((replace e8 := Eq.symm e8); subst e8); (try dsimp only); (try k_sweep); (try k_fold))
  k_with "call type:bytes" => (k_here; (with_reducible show wpAny _ _ (PySem.call (Value.type "bytes") [Value.bytes _ _]) _ _ _); k_dflt (refine call_bytes_bytes ?_))
  k_with "call type:bytes" => (k_here; (with_reducible show wpAny _ _ (PySem.call (Value.type "bytes") [Value.int _ _]) _ _ _); k_dflt (refine call_bytes_int (by kba_ints) (by kba_ints) ?_); (try dsimp only); (try k_sweep); (try k_fold))
  k_with "exec Raise some none" => (k_here; k_dflt (refine Raise_form (by first | exact rfl | assumption) ?_))
  k_with "call ref" => (k_here; (with_reducible show wpAny _ _ (PySem.call (Value.ref 151) [Value.str _ _]) _ _ _); k_dflt (refine' call_form _ _ _ _ _ _ _ _ _ _ _ _ _ _ _ _ _ _ _ _ _ _ _ ?q57k1 ?q57k2 ?q57k3 ?q57k4 ?q57k5 ?q57k6 ?q57k7 ?q57k8 ?_; (case q57k1 => k_asm); (case q57k2 => k_asm); (case q57k3 => k_asm); (case q57k4 => k_asm); (case q57k5 => k_asm); (case q57k6 => first | exact rfl | assumption); (case q57k7 => ktr_room); (case q57k8 => ktr_units)); intro e9 t9 d9 h9 tk9 F9 N9 H9; (try dsimp only))
  k_with "leaving ref" => (k_here; k_dflt (refine' leave_form ?q58k1 ?q58k2 ?q58k3 ?q58k4 ?_; (case q58k3 => k_asm); (case q58k1 => k_asm); (case q58k2 => k_asm); (case q58k4 => assumption)); intro h' S' R' U'; (try dsimp only at S' R' U' ⊢))
  k_with "noteFrame ref" => (k_here; k_dflt (refine' caught_form ?q59R ?q59F ?q59K ?q59U ?q59XB ?q59TB ?q59D ?q59T0 ?q59ex ?_; (case q59R => assumption); (case q59F => assumption); (case q59K => assumption); (case q59U => assumption); (case q59XB => assumption); (case q59TB => assumption); (case q59D => assumption); (case q59T0 => first | assumption | exact KtsTurn.refl); (case q59ex => k_is)); intro h' g' T' F' N' K' X' P' D'; (try k_lift K'); (try k_sweep))
  k_with "call type:tuple" => (k_here; (with_reducible show wpAny _ _ (PySem.call (Value.type "tuple") [Value.ref _]) _ _ _); k_dflt (refine' call_tuple_same ?q60k1 ?_; (case q60k1 => exact News.isTup (by k_asm) (by k_mem))))
  unfold ConS
  intro dp un gd cn cs a ccd outer A₀ base h₀ L m s Q E B F X N T XB TB D hk hd' hu hret
  refine wpAny_call ?_
  k_dflt (refine' code_defS ?k1 ?k2 ?k3 ?k4 ?k5 ?XB ?TB ?D ?T0 ?kA ?k6 ?k7 ?k8 ?k9 ?kB ?_ ?cK ?c2 ?c3 ?c4 ?c5; (case kA => exact rfl); (case k2 => k_asm); (case k1 => k_asm); (case XB => assumption); (case TB => assumption); (case D => assumption); (case T0 => first | assumption | exact KtsTurn.refl); (case k3 => k_asm); (case k4 => k_asm); (case k5 => k_asm); (case k6 => k_is); (case k7 => k_is); (case k8 => ktr_room); (case k9 => first | exact binds_K (by k_in) rfl (by k_is) rfl rfl rfl | exact BindsTo.of_eq rfl); (case kB => exact locs rfl); (case cK => first | exact rfl | assumption); (case c2 => exact rfl); (case c3 => exact rfl); (case c4 => exact rfl); (case c5 => decide); k_whole; intro g' L' h' FG' F' N' B' X' T' D'; (try dsimp only); (try k_lift B'); (try k_fold))
  k_steps
  · refine' hret _ news _ _ _ ⟨_, rfl, ?ge, rfl⟩ ?gT ?gF (news_of ?gN ?gS) ?gB ?gX ?gP ?gD
    case gF => assumption
    case gN => assumption
    case gT => first | assumption | exact KtsTurn.refl
    case gB => assumption
    case gX => assumption
    case gP => assumption
    case gD => assumption
    case gS => exact fun p hp => hp
    case ge => exact (congrArg not (by assumption)).symm
  · refine' hret _ news _ _ _ ⟨_, rfl, ?ge, rfl⟩ ?gT ?gF (news_of ?gN ?gS) ?gB ?gX ?gP ?gD
    case gF => assumption
    case gN => assumption
    case gT => first | assumption | exact KtsTurn.refl
    case gB => assumption
    case gX => assumption
    case gP => assumption
    case gD => assumption
    case gS => kcf_all
    case ge => exact (congrArg not (by assumption)).symm
open PySem PySem.W PyProof.Rows
theorem slot_join : Slot "bytes" "join" "bytes.join" :=
  .of (owner := "bytes") (n := "join") (by rw [typeLookup_type, builtinLookup_eq_fast]; kernel_rfl) (by decide +kernel) (by decide +kernel) (by decide +kernel)
    (by first | exact .inl (by decide +kernel) | exact .inr (by decide +kernel)) (by rw [isSubtype_type]; kernel_rfl)
theorem type_join : typeOf (.builtin "bytes.join") = pure (.type "method_descriptor") := by show builtinType _ = _; rw [builtinType_eq_fast]; kernel_rfl
theorem entry_join : entryFor table "bytes.join" = some Builtin.«bytes.join» := entryFor_of_tree (by kernel_rfl)
theorem args_join (a b : Value) : argsOk "bytes.join" ⟨[a, b], []⟩ := by unfold argsOk; kernel_rfl
section
variable {prog : Program} {w : World} {A : Around} {E : Value → Shared → Prop} {s : Shared}
theorem method_join {M : Model} {b : Array UInt8} {t : Tok} {pl : Sem Bool} {Q : Value × List Value → Shared → Prop} (h : Q (.builtin "bytes.join", [.bytes b t]) s) : wpAny M A (getMethod (.bytes b t) "join" pl) Q E s := by
  exact KBd.method_of (.bytes b t) (PySem.W.typeIs_bytes _ _ _) slot_join type_join KBd.noRef h
theorem call_join_nil {t : Tok} {l : Addr} {Q : Value → Shared → Prop} (hl : s.heap.IsList l #[]) (h : ∀ k k', Q (.bytes #[] k) { s with toks := k' }) :
    wpAny (model prog w) A (call (.builtin "bytes.join") [.bytes #[] t, .ref l]) Q E s := by
  have hT : s.TypeIs (.ref l) "list" := hl.typeIs
  obtain ⟨⟨oc, od, dt, sl⟩, hol, hoc, nl, hod⟩ := id hl
  dsimp only at hoc hod
  subst hoc hod
  refine wpAny_call (codeAny_call_builtin slot_join.plain entry_join (slot_join.check _ _ _ _ _ _ _ _ (PySem.W.typeIs_bytes _ _ _) (args_join _ _) ?_))
  obtain ⟨hp, g, d, tk, os⟩ := s
  unfold Builtin.«bytes.join» Builtin.Bytes.joinM
  refine wpAny_bind (wpAny_of_eq (a := ((.bytes #[] t : Value), (.ref l : Value))) (by kernel_rfl) ?_)
  dsimp only
  repeat (any_goals (first | (with_reducible refine wpAny_loadPart_at hol ?_) | wp_step))
  refine wpAny_of_eq (a := ((#[] : Array (Array UInt8)), ([] : List (Value × Option Value)))) (by first | kernel_rfl | with_unfolding_all rfl) ?_
  dsimp only
  repeat (any_goals (first | (with_reducible refine wpAny_loadPart_at hol ?_) | wp_step))
  exact h _ _
end
open PySem PySem.W PyProof.Rows PySem.Spec PySem.Calls PyProof.Rows.LCg
section
variable {prog : Program} {w : World} {A : Around} {E : Value → Shared → Prop} {s : Shared} {h₀ : Heap} {L : Addr} {m : Str → Option Value} {env : Env}
/-- what a comprehension over an empty tuple of the ledger gives: an empty list -/
def NilSrc (A : Around) (h₀ : Heap) (L : Addr) (m : Str → Option Value) (Q : Value → Shared → Prop) (xv : Value) (s₁ : Shared) : Prop :=
  ∃ ax n news, A.handled = none ∧ xv = .ref ax ∧ Fr h₀ L s₁.heap m ∧ News h₀ L s₁.heap news ∧ (ax, ({ cls := .type "tuple", data := .seq #[] n } : Obj)) ∈ news ∧ ∀ g, FinE h₀ L m { s₁ with heap := g } Q [] news
theorem ListComp_T0 {elt iter : Expr} {x : Str} {px : Pos} {scope : Scope} {cl : List (Str × Addr)} {pos : Pos} {Q : Value → Shared → Prop} (F₀ : Fr h₀ L s.heap m)
    (hclos : closureFor scope env = pure cl) (hcell : ∀ y ∈ scope.names, y.2 ≠ .cell) (hkind : scope.kind = .function)
    (hnames : ∀ y ∈ scope.names, y.2 = .local → scope.names.lookup y.1 = some .local) (hx : scope.names.lookup x = some .local)
    (h : wpAny (model prog w) A (eval iter env) (NilSrc A h₀ L m Q) E s)
    (hs : ∀ x, foldedSetIterable iter env x = pure x) :
    wpAny (model prog w) A (eval (.ListComp elt [⟨.Name x px, iter, [], 0⟩] scope pos) env) Q E s := by
  rw [eval_ListComp]
  refine wpAny_comprehension_free (use := none) rfl hs hclos hkind hnames (wpAny_mono h (fun xv s₁ h₁ => ?_) fun _ _ e => e)
  obtain ⟨ax, n, news, hh, rfl, F, N, hm, R⟩ := h₁
  have hax := (N _ hm).1
  have hT : s₁.heap.IsTuple ax #[] := ⟨_, hax, rfl, n, rfl⟩
  refine wpAny_pyIter_tuple hT ?_
  have up : ∀ b o, s₁.heap.get? b = some o → (s₁.heap.push { cls := .type "tuple_iterator", data := .fields #[.ref ax, .int 0 0] }).get? b = some o := fun b o e => Heap.get?_push_of_some _ e
  have hne : ax ≠ s₁.heap.objs.size := Nat.ne_of_lt (Heap.lt_size hax)
  have hsz := Heap.size_push s₁.heap { cls := .type "tuple_iterator", data := .fields #[.ref ax, .int 0 0] }
  refine block_U (S := fun nw => (ax, ({ cls := .type "tuple", data := .seq #[] n } : Obj)) ∈ nw) (Fin := FinE h₀ L m { s₁ with heap := s₁.heap.push { cls := .type "tuple_iterator", data := .fields #[.ref ax, .int 0 0] } } Q)
    (Walks.tuple hh s₁.heap.objs.size ax hne #[]) (Nat.zero_le _) (fun i h st => let ⟨⟨o, e, _⟩, _⟩ := st; ⟨o, e⟩)
    (fun i h h' o nw st e e' _ N' hS => ⟨?_, ⟨_, (N' _ hS).1, rfl, n, rfl⟩⟩) hcell hkind hx ⟨⟨_, Heap.get?_push_size _ rfl, rfl, rfl⟩, ⟨_, up _ _ hax, rfl, n, rfl⟩⟩ (fun b hb => ?_) (F.keeps up) (N.grown up) (Nat.ne_of_lt F.ns.lt) (next_is_new F)
    (fun p hp => Nat.ne_of_lt (Heap.lt_size (N p hp).1)) hm (R _) ?_
  · obtain ⟨⟨o', q, r⟩, _⟩ := st
    rw [e] at q
    cases q
    exact ⟨o, e', r⟩
  · show b < (s₁.heap.push _).objs.size
    rw [hsz]
    rcases List.mem_cons.mp hb with rfl | hb
    · exact Nat.lt_succ_self _
    · rw [List.mem_singleton.mp hb]
      exact Nat.lt_succ_of_lt (Heap.lt_size hax)
  · intro D C h tk m' ys news' F' N' o1 hn hC₀ hD₀ hCL hDL hCD offC fin
    refine ⟨m', hn, fun h'' hs'' => fin D h'' tk (F'.change hs'' hCL hC₀) (fun p hp => ?_) o1⟩
    refine ⟨hs''.extBut _ _ ?_ (N' p hp).1, (N' p hp).2⟩
    rcases List.mem_cons.mp hp with rfl | hp
    · exact Ne.symm hCD
    · exact offC p hp
end
open PySem PySem.W PyProof.Rows PySem.Spec PySem.Calls PyProof.Rows.LCg
theorem compTurn_two0 (elt t1 iter1 t2 iter2 : Expr) (scope : Scope) (pos : Pos) (it acc : Value) (env : Env) :
    compTurn (.ListComp elt [⟨t1, iter1, [], 0⟩, ⟨t2, iter2, [], 0⟩] scope pos) 0 it acc env = (standAt iter1.pos >>= fun _ => pyNext it >>= fun r => match r with
      | none => pure (.done .next)
      | some v => letOwnedTupleGo t1 it v >>= fun _ => assign t1 env v >>= fun _ => eval iter2 env >>= fun x => standAt iter2.pos >>= fun _ => foldedSetIterable iter2 env x >>= fun x => holding [x] (pyIter x) >>= fun j =>
        runOwn (.compStart (.ListComp elt [⟨t1, iter1, [], 0⟩, ⟨t2, iter2, [], 0⟩] scope pos) 1 j acc env) env >>= fun _ => again (.compLoop (.ListComp elt [⟨t1, iter1, [], 0⟩, ⟨t2, iter2, [], 0⟩] scope pos) 0 it acc env)) := by rfl
theorem compTurn_two1 (elt t1 iter1 t2 iter2 : Expr) (scope : Scope) (pos : Pos) (it acc : Value) (env : Env) :
    compTurn (.ListComp elt [⟨t1, iter1, [], 0⟩, ⟨t2, iter2, [], 0⟩] scope pos) 1 it acc env = (standAt iter2.pos >>= fun _ => pyNext it >>= fun r => match r with
      | none => pure (.done .next)
      | some v => letOwnedTupleGo t2 it v >>= fun _ => assign t2 env v >>= fun _ => (eval elt env >>= fun x => call (.builtin "list.append") [acc, x] >>= fun _ => pure ()) >>= fun _ =>
        again (.compLoop (.ListComp elt [⟨t1, iter1, [], 0⟩, ⟨t2, iter2, [], 0⟩] scope pos) 1 it acc env)) := by rfl
section
variable {prog : Program} {w : World} {A : Around} {R : Result → Shared → Prop} {s : Shared}
theorem codeAny_two1 {elt t1 iter1 t2 iter2 : Expr} {scope : Scope} {pos : Pos} {it acc : Value} {env : Env} (I : Nat → Shared → Prop)
    (turn : ∀ n s, I n s → wpAny (model prog w) A (pyNext it) (fun r s₁ => match r with
      | none => R (.ok .next) s₁
      | some v => wpAny (model prog w) A (assign t2 env v) (fun _ s₂ => wpAny (model prog w) A (eval elt env) (fun x s₃ =>
          wpAny (model prog w) A (call (.builtin "list.append") [acc, x]) (fun _ s₄ => ∃ m, m < n ∧ I m s₄) (notedBy (model prog w) A env fun e s' => R (.error e) s') s₃)
          (notedBy (model prog w) A env fun e s' => R (.error e) s') s₂) (notedBy (model prog w) A env fun e s' => R (.error e) s') s₁) (notedBy (model prog w) A env fun e s' => R (.error e) s') s)
    (n : Nat) (h : I n s) (ht : ∀ v, letOwnedTupleGo t2 it v = pure () := by intro _; rfl) :
    codeAny (model prog w) A (.compLoop (.ListComp elt [⟨t1, iter1, [], 0⟩, ⟨t2, iter2, [], 0⟩] scope pos) 1 it acc env) R s := by
  refine codeAny_loop rfl I (fun n s hI => ?_) n h
  show wpAny _ _ ((compTurn (.ListComp elt [⟨t1, iter1, [], 0⟩, ⟨t2, iter2, [], 0⟩] scope pos) 1 it acc env).onRaise (fun x => do noteFrame x env; theTreesLotGoes x)) _ _ s
  refine wpAny_noted ?_
  rw [compTurn_two1]
  refine wpAny_bind (wpAny_standAt (wpAny_bind (wpAny_mono (turn n s hI) (fun r s₁ h₁ => ?_) fun _ _ h' => h')))
  cases r with
  | none => exact wpAny_pure h₁
  | some v =>
    refine wpAny_bind (wpAny_of_eq (ht v) ?_)
    exact wpAny_bind (wpAny_mono h₁ (fun _ s₂ h₂ => wpAny_bind (wpAny_bind (wpAny_mono h₂ (fun x s₃ h₃ => wpAny_bind (wpAny_mono h₃
      (fun _ s₄ h₄ => wpAny_pure (wpAny_pure ⟨rfl, h₄⟩)) fun _ _ h' => h')) fun _ _ h' => h'))) fun _ _ h' => h')
theorem codeAny_two0 {elt t1 iter1 t2 iter2 : Expr} {scope : Scope} {pos : Pos} {it acc : Value} {env : Env} (I : Nat → Shared → Prop)
    (turn : ∀ n s, I n s → wpAny (model prog w) A (pyNext it) (fun r s₁ => match r with
      | none => R (.ok .next) s₁
      | some v => wpAny (model prog w) A (assign t1 env v) (fun _ s₂ => wpAny (model prog w) A (eval iter2 env) (fun x s₃ => wpAny (model prog w) A (pyIter x) (fun j s₄ =>
          codeAny (model prog w) A (.compStart (.ListComp elt [⟨t1, iter1, [], 0⟩, ⟨t2, iter2, [], 0⟩] scope pos) 1 j acc env) (fun r s₅ => match r with | .ok _ => ∃ m, m < n ∧ I m s₅ | .error _ => False) s₄)
          (notedBy (model prog w) A env fun e s' => R (.error e) s') s₃)
          (notedBy (model prog w) A env fun e s' => R (.error e) s') s₂) (notedBy (model prog w) A env fun e s' => R (.error e) s') s₁) (notedBy (model prog w) A env fun e s' => R (.error e) s') s)
    (n : Nat) (h : I n s) (ht : ∀ v, letOwnedTupleGo t1 it v = pure () := by intro _; rfl) (hf : ∀ x, foldedSetIterable iter2 env x = pure x) :
    codeAny (model prog w) A (.compLoop (.ListComp elt [⟨t1, iter1, [], 0⟩, ⟨t2, iter2, [], 0⟩] scope pos) 0 it acc env) R s := by
  refine codeAny_loop rfl I (fun n s hI => ?_) n h
  show wpAny _ _ ((compTurn (.ListComp elt [⟨t1, iter1, [], 0⟩, ⟨t2, iter2, [], 0⟩] scope pos) 0 it acc env).onRaise (fun x => do noteFrame x env; theTreesLotGoes x)) _ _ s
  refine wpAny_noted ?_
  rw [compTurn_two0]
  refine wpAny_bind (wpAny_standAt (wpAny_bind (wpAny_mono (turn n s hI) (fun r s₁ h₁ => ?_) fun _ _ h' => h')))
  cases r with
  | none => exact wpAny_pure h₁
  | some v =>
    refine wpAny_bind (wpAny_of_eq (ht v) ?_)
    refine wpAny_bind (wpAny_mono h₁ (fun _ s₂ h₂ => ?_) fun _ _ h' => h')
    refine wpAny_bind (wpAny_mono h₂ (fun x s₃ h₃ => ?_) fun _ _ h' => h')
    refine wpAny_bind (wpAny_standAt (wpAny_bind (wpAny_of_eq (hf x) ?_)))
    refine wpAny_bind (wpAny_holding (wpAny_mono h₃ (fun j s₄ h₄ => ?_) fun _ _ h' => h'))
    refine wpAny_bind ?_
    unfold runOwn
    refine wpAny_onRaise (wpAny_run (codeAny_mono h₄ fun r s₅ hr => ?_))
    cases r with
    | ok f => exact wpAny_pure ⟨rfl, hr⟩
    | error e => exact hr.elim
theorem codeAny_start1 {elt t1 iter1 t2 iter2 : Expr} {scope : Scope} {pos : Pos} {it acc : Value} {env : Env}
    (h0 : codeAny (model prog w) A (.compLoop (.ListComp elt [⟨t1, iter1, [], 0⟩, ⟨t2, iter2, [], 0⟩] scope pos) 1 it acc env) R s)
    (h : wpAny (model prog w) A (pyIter it) (fun it' s' => codeAny (model prog w) A (.compLoop (.ListComp elt [⟨t1, iter1, [], 0⟩, ⟨t2, iter2, [], 0⟩] scope pos) 1 it' acc env) R s')
      (notedBy (model prog w) A env fun x s' => R (.error x) s') s) :
    codeAny (model prog w) A (.compStart (.ListComp elt [⟨t1, iter1, [], 0⟩, ⟨t2, iter2, [], 0⟩] scope pos) 1 it acc env) R s := by
  refine codeAny_of_tree ?_
  show wpAny _ _ ((compStart (.ListComp elt [⟨t1, iter1, [], 0⟩, ⟨t2, iter2, [], 0⟩] scope pos) 1 it acc env).onRaise (fun x => do noteFrame x env; standAt theWindowsPlace)) _ _ s
  refine wpAny_notedAt ?_
  unfold compStart
  show wpAny _ _ (ask >>= _) _ _ s
  refine wpAny_bind (wpAny_askSetting (wpAny_ite ?_))
  split
  · first
      | exact wpAny_bind (wpAny_pure (wpAny_pure (And.intro rfl h0)))
      | exact wpAny_pure (And.intro rfl h0)
  · first
      | exact wpAny_bind (wpAny_rule (wpAny_bind (wpAny_standAt (wpAny_bind (wpAny_mono h (fun it' s' h' => wpAny_pure (And.intro rfl h')) fun _ _ x => x)))))
      | (refine wpAny_bind (wpAny_rule ?_); show wpAny _ _ (standAt iter2.pos >>= _) _ _ s; exact wpAny_bind (wpAny_standAt (wpAny_bind (wpAny_mono h (fun it' s' h' => wpAny_pure (And.intro rfl h')) fun _ _ x => x))))
end
/-- what the inner iterable must give: range(8), all else as it stood -/
def Range8 (h₀ : Heap) (L : Addr) (m : Str → Option Value) (s₁ : Shared) (led : Led) (xv : Value) (s₂ : Shared) : Prop :=
  ∃ r t u v h' tk, xv = .ref r ∧ s₂ = { s₁ with heap := h', toks := tk } ∧ IsRange h' r 0 8 1 t u v ∧ Fr h₀ L h' m ∧ News h₀ L h' led
theorem Range8.intro {h₀ h' : Heap} {L r : Addr} {m : Str → Option Value} {s₁ : Shared} {led all : Led} {t u v : Tok} {tk : Nat} (hr : IsRange h' r 0 8 1 t u v) (F : Fr h₀ L h' m) (N : News h₀ L h' all) (sub : ∀ p ∈ led, p ∈ all) :
    Range8 h₀ L m s₁ led (.ref r) { s₁ with heap := h', toks := tk } := ⟨r, t, u, v, h', tk, rfl, rfl, hr, F, fun p hp => N p (sub p hp)⟩
section
variable {prog : Program} {w : World} {A : Around} {E : Value → Shared → Prop} {s : Shared} {h₀ : Heap} {L : Addr} {m : Str → Option Value} {env : Env}
theorem two_inner {elt iter1 iter2 : Expr} {x y : Str} {px py : Pos} {scope : Scope} {cl : List (Str × Addr)} {pos : Pos} {I J C D : Addr} {oI : Obj} {v : Value} {g : Int → Int} {ys : List Value} {news : Led} {m' : Str → Option Value} {R : Result → Shared → Prop}
    (hh : A.handled = none) (hkind : scope.kind = .function) (hy : scope.names.lookup y = some .local) (hxy : ¬ x = y) (hsz : ys.length + 8 ≤ sizeLine)
    (F : Fr h₀ L s.heap m) (hn : s.heap.Ns C m') (hx : m' x = some v) (N : News h₀ L s.heap ((I, oI) :: (D, lst ys) :: news)) (hJ : IsRangeIter s.heap J 0 8 1)
    (hJL : L ≠ J) (hJ₀ : h₀.get? J = none) (hC₀ : h₀.get? C = none) (hCL : C ≠ L) (hD₀ : h₀.get? D = none) (hDL : D ≠ L) (off : Off3 J C D ((I, oI) :: news)) (ne : J ≠ C ∧ J ≠ D ∧ C ≠ D)
    (turn : ∀ k t oJ oC m₂ zs h tk (E' : Value → Shared → Prop), 0 ≤ k → k < 8 → NsObj oC m₂ → m₂ x = some v → m₂ y = some (.int k t) → Fr h₀ L h m → News h₀ L h ((J, oJ) :: (C, oC) :: (D, lst zs) :: (I, oI) :: news) →
      wpAny (model prog w) A (eval elt (compEnvC scope cl C env)) (CompEnd h₀ L m { s with heap := h, toks := tk } J oJ C oC D (lst zs) (fun _ => True) (fun yv news' => KCfEl ((I, oI) :: news) (g k) yv news')) E' { s with heap := h, toks := tk })
    (hR : ∀ h' tk m'' zs, Fr h₀ L h' m → h'.Ns C m'' → News h₀ L h' ((I, oI) :: (D, lst (ys ++ zs)) :: news) → IntsAre zs ((rangeKs 0 8).map g) → R (.ok .next) { s with heap := h', toks := tk }) :
    codeAny (model prog w) A (.compStart (.ListComp elt [⟨.Name x px, iter1, [], 0⟩, ⟨.Name y py, iter2, [], 0⟩] scope pos) 1 (.ref J) (.ref D) (compEnvC scope cl C env)) R s := by
  have W := range_walks (prog := prog) (w := w) (I := J) hh 0 8
  have off3 := off.mem
  have hst : ∀ (h : Heap) (i : Nat), IsRangeIter h J (0 + (i : Nat) * 1) (((8 : Nat) : Int) - (i : Nat)) 1 → ∀ h' : Heap, (∀ o, h.get? J = some o → h'.get? J = some o) → IsRangeIter h' J (0 + (i : Nat) * 1) (((8 : Nat) : Int) - (i : Nat)) 1 := fun h i st h' k => k _ st
  have loop : codeAny (model prog w) A (.compLoop (.ListComp elt [⟨.Name x px, iter1, [], 0⟩, ⟨.Name y py, iter2, [], 0⟩] scope pos) 1 (.ref J) (.ref D) (compEnvC scope cl C env)) R s := by
    refine codeAny_two1
      (fun k s' => ∃ h' tk i zs m'', s' = { s with heap := h', toks := tk } ∧ i ≤ 8 ∧ k = 9 - i ∧ IntsAre zs (((rangeKs 0 8).take i).map g) ∧ IsRangeIter h' J (0 + (i : Nat) * 1) (((8 : Nat) : Int) - (i : Nat)) 1 ∧ Fr h₀ L h' m ∧ h'.Ns C m'' ∧ m'' x = some v ∧ News h₀ L h' ((I, oI) :: (D, lst (ys ++ zs)) :: news)) ?_ 9
      ⟨s.heap, s.toks, 0, [], m', rfl, Nat.zero_le _, rfl, .nil, hJ, F, hn, hx, by simpa using N⟩
    rintro k s' ⟨h', tk, i, zs, m'', rfl, hi, rfl, hzs, hst', F', hn', hx', N'⟩
    by_cases hlt : i < 8
    · refine W.item i _ _ _ hlt hst' fun v' h₂ tk₂ hPv hst₂ hk₂ => ?_
      obtain ⟨t, rfl⟩ := hPv
      have hk₂' : ∀ b o, b ≠ J → h'.get? b = some o → h₂.get? b = some o := fun b o hb e => hk₂ b o (by simpa using hb) e
      refine wpAny_assign_Name (wpAny_storeName_local (lookup_relabel_local hy) (hn'.at' fun o e => hk₂' _ o (Ne.symm ne.1) e) (fun h₃ hn₃ hs₃ => ?_) (by simp [compEnvC, relabel, hkind]))
      have up : ∀ b o, b ≠ J → b ≠ C → h'.get? b = some o → h₃.get? b = some o := fun b o h1 h2 e => hs₃.extBut b o h2 (hk₂' b o h1 e)
      have hst₃ : IsRangeIter h₃ J (0 + ((i + 1 : Nat) : Nat) * 1) (((8 : Nat) : Int) - ((i + 1 : Nat) : Nat)) 1 := hs₃.extBut _ _ ne.1 hst₂
      obtain ⟨oC, heC, hoC⟩ := ns_obj hn₃
      have F₃ : Fr h₀ L h₃ m := (fr_but F' hk₂ hJL hJ₀).change hs₃ hCL hC₀
      have N₃ : News h₀ L h₃ ((J, _) :: (C, oC) :: (D, lst (ys ++ zs)) :: (I, oI) :: news) := fun p hp => by
        rcases List.mem_cons.mp hp with rfl | hp
        · exact ⟨hst₃, Ne.symm hJL, hJ₀⟩
        rcases List.mem_cons.mp hp with rfl | hp
        · exact ⟨heC, hCL, hC₀⟩
        rcases List.mem_cons.mp hp with rfl | hp
        · have z := N' (D, lst (ys ++ zs)) (.tail _ (.head _))
          exact ⟨up _ _ (Ne.symm ne.2.1) (Ne.symm ne.2.2) z.1, z.2⟩
        · have z : p ∈ (I, oI) :: (D, lst (ys ++ zs)) :: news := by
            rcases List.mem_cons.mp hp with rfl | hp
            · exact .head _
            · exact .tail _ (.tail _ hp)
          have q := off3 p hp
          exact ⟨up _ _ q.1 q.2.1 (N' p z).1, (N' p z).2⟩
      have e0 : ((0 : Int) + (i : Int)) = ((0 : Int) + (i : Nat) * 1) := by omega
      refine wpAny_mono (turn ((0 : Int) + (i : Int)) t _ oC _ (ys ++ zs) h₃ _ _ (by omega) (by omega) hoC (by simp [hxy, hx']) (by simp) F₃ N₃) (fun yv s₄ h₄ => ?_) fun _ _ e => e
      obtain ⟨h₄, tk₄, news₄, rfl, F₄, N₄, off₄, _, rfl, t₄, rfl⟩ := h₄
      have zJ := (N₄ (J, _) (.head _)).1
      have zC := (N₄ (C, oC) (.tail _ (.head _))).1
      have zD := (N₄ (D, lst (ys ++ zs)) (.tail _ (.tail _ (.head _)))).1
      have hl := hzs.length
      have hl2 : zs.length = i := by
        rw [hl, List.length_map, List.length_take, rangeKs_length]; omega
      refine append_at (hsz := by show (ys ++ zs).toArray.size ≤ sizeLine; rw [List.size_toArray, List.length_append]; omega) zD fun h₅ hs₅ hD₅ => ?_
      refine ⟨9 - (i + 1), by omega, h₅, tk₄, i + 1, zs ++ [.int (g ((0 : Int) + (i : Int))) t₄], _, rfl, hlt, rfl, ?_, hs₅.extBut _ _ ne.2.1 zJ, F₄.change hs₅ hDL hD₀, (hoC.ns zC).sameBut hs₅ ne.2.2, by simp [hxy, hx'], fun p hp => ?_⟩
      · have hk : (rangeKs 0 8)[i]? = some ((0 : Int) + (i : Int)) := by simp [rangeKs, hlt]
        rw [List.take_add_one, hk]
        simpa using IntsAre.append hzs (.cons (g ((0 : Int) + (i : Int))) t₄ .nil)
      · rcases List.mem_cons.mp hp with rfl | hp
        · have z := N₄ (I, oI) (.tail _ (.tail _ (.tail _ (.head _))))
          exact ⟨hs₅.extBut _ _ (off3 (I, oI) (.head _)).2.2 z.1, z.2⟩
        rcases List.mem_cons.mp hp with rfl | hp
        · rw [← List.append_assoc]
          exact ⟨hD₅.trans (congrArg some (lst_snoc (ys ++ zs) _)), hDL, hD₀⟩
        · have z := N₄ p (.tail _ (.tail _ (.tail _ (.tail _ hp))))
          exact ⟨hs₅.extBut _ _ (off3 p (.tail _ hp)).2.2 z.1, z.2⟩
    · obtain rfl : i = 8 := Nat.le_antisymm hi (Nat.not_lt.mp hlt)
      refine W.done _ _ _ hst' fun h₂ tk₂ hk₂ => ?_
      have hk₂' : ∀ b o, b ≠ J → h'.get? b = some o → h₂.get? b = some o := fun b o hb e => hk₂ b o (by simpa using hb) e
      refine hR h₂ tk₂ m'' zs (fr_but F' hk₂ hJL hJ₀) (hn'.at' fun o e => hk₂' _ o (Ne.symm ne.1) e) (fun p hp => ?_) ?_
      · refine ⟨hk₂' _ _ ?_ (N' p hp).1, (N' p hp).2⟩
        rcases List.mem_cons.mp hp with rfl | hp
        · exact (off3 (I, oI) (.head _)).1
        rcases List.mem_cons.mp hp with rfl | hp
        · exact Ne.symm ne.2.1
        · exact (off3 p (.tail _ hp)).1
      · have e : (rangeKs 0 8).take 8 = rangeKs 0 8 := List.take_of_length_le (by rw [rangeKs_length]; exact Nat.le_refl _)
        rw [e] at hzs; exact hzs
  exact codeAny_start1 loop (W.self 0 _ _ _ hJ loop)
def TwoSrc (prog : Program) (w : World) (A : Around) (h₀ : Heap) (L : Addr) (m : Str → Option Value) (env : Env) (elt iter2 : Expr) (x y : Str) (scope : Scope) (cl : List (Str × Addr)) (Q : Value → Shared → Prop) (xv : Value) (s₁ : Shared) : Prop :=
  ∃ (b : Array UInt8) (t : Tok) (news : Led) (g : Int → Int → Int), xv = .bytes b t ∧ A.handled = none ∧ Fr h₀ L s₁.heap m ∧ News h₀ L s₁.heap news ∧ 8 * b.size + 16 ≤ sizeLine ∧
    (∀ k u I oI C oC D m₂ zs h tk (E' : Value → Shared → Prop), NsObj oC m₂ → m₂ x = some (.int k u) → Fr h₀ L h m → News h₀ L h ((I, oI) :: (C, oC) :: (D, lst zs) :: news) → Off3 I C D news → ((@Ne Nat I C) ∧ (@Ne Nat I D) ∧ (@Ne Nat C D)) →
      wpAny (model prog w) A (eval iter2 (compEnvC scope cl C env)) (Range8 h₀ L m { s₁ with heap := h, toks := tk } ((I, oI) :: (C, oC) :: (D, lst zs) :: news)) E' { s₁ with heap := h, toks := tk }) ∧
    (∀ k u q t J oJ I oI C oC D m₂ zs h tk (E' : Value → Shared → Prop), 0 ≤ k → k < 256 → 0 ≤ q → q < 8 → NsObj oC m₂ → m₂ x = some (.int k u) → m₂ y = some (.int q t) → Fr h₀ L h m → News h₀ L h ((J, oJ) :: (C, oC) :: (D, lst zs) :: (I, oI) :: news) → Off3 J C D ((I, oI) :: news) → ((@Ne Nat J C) ∧ (@Ne Nat J D) ∧ (@Ne Nat C D)) →
      wpAny (model prog w) A (eval elt (compEnvC scope cl C env)) (CompEnd h₀ L m { s₁ with heap := h, toks := tk } J oJ C oC D (lst zs) (fun _ => True) (fun yv news' => KCfEl ((I, oI) :: news) (g k q) yv news')) E' { s₁ with heap := h, toks := tk }) ∧
    (∀ ys, IntsAre ys ((KBw.bInts b).flatMap fun k => (rangeKs 0 8).map (g k)) → FinE h₀ L m s₁ Q ys news)
theorem block_2 {elt iter1 iter2 : Expr} {x y : Str} {px py : Pos} {scope : Scope} {cl : List (Str × Addr)} {pos : Pos} {s₂ : Shared} {I : Addr} {n : Nat} {ks : List Int} {P : Nat → Value → Prop} {St : Nat → Heap → Prop} {news : Led} {g : Int → Int → Int}
    {RR : Value → Addr → Result → Shared → Prop}
    (W : Walks prog w A I [I] [I] n P St) (hh : A.handled = none) (hP : ∀ i v, i < n → P i v → ∃ k u, ks[i]? = some k ∧ 0 ≤ k ∧ k < 256 ∧ v = .int k u) (hks : ks.length = n) (hsz : 8 * n + 16 ≤ sizeLine) (hIo : ∀ i h, St i h → ∃ o, h.get? I = some o)
    (hSt : ∀ i h h' o, St i h → h.get? I = some o → h'.get? I = some o → St i h')
    (hcell : ∀ y ∈ scope.names, y.2 ≠ .cell) (hkind : scope.kind = .function) (hx : scope.names.lookup x = some .local) (hy : scope.names.lookup y = some .local) (hxy : ¬ x = y) (hst : St 0 s₂.heap) (hIlt : I < s₂.heap.objs.size)
    (F : Fr h₀ L s₂.heap m) (N : News h₀ L s₂.heap news) (hIL : L ≠ I) (hI₀ : h₀.get? I = none) (off : ∀ p ∈ news, p.1 ≠ I) (hs2 : ∀ (C : Addr) x, foldedSetIterable iter2 (compEnvC scope cl C env) x = pure x)
    (rng : ∀ k u I oI C oC D m₂ zs h tk (E' : Value → Shared → Prop), NsObj oC m₂ → m₂ x = some (.int k u) → Fr h₀ L h m → News h₀ L h ((I, oI) :: (C, oC) :: (D, lst zs) :: news) → Off3 I C D news → ((@Ne Nat I C) ∧ (@Ne Nat I D) ∧ (@Ne Nat C D)) →
      wpAny (model prog w) A (eval iter2 (compEnvC scope cl C env)) (Range8 h₀ L m { s₂ with heap := h, toks := tk } ((I, oI) :: (C, oC) :: (D, lst zs) :: news)) E' { s₂ with heap := h, toks := tk })
    (trn : ∀ k u q t J oJ I oI C oC D m₂ zs h tk (E' : Value → Shared → Prop), 0 ≤ k → k < 256 → 0 ≤ q → q < 8 → NsObj oC m₂ → m₂ x = some (.int k u) → m₂ y = some (.int q t) → Fr h₀ L h m → News h₀ L h ((J, oJ) :: (C, oC) :: (D, lst zs) :: (I, oI) :: news) → Off3 J C D ((I, oI) :: news) → ((@Ne Nat J C) ∧ (@Ne Nat J D) ∧ (@Ne Nat C D)) →
      wpAny (model prog w) A (eval elt (compEnvC scope cl C env)) (CompEnd h₀ L m { s₂ with heap := h, toks := tk } J oJ C oC D (lst zs) (fun _ => True) (fun yv news' => KCfEl ((I, oI) :: news) (g k q) yv news')) E' { s₂ with heap := h, toks := tk })
    (hRR : ∀ D C h tk m' ys, Fr h₀ L h m → News h₀ L h ((D, lst ys) :: news) → Off1 D news → h.Ns C m' → h₀.get? C = none → h₀.get? D = none → C ≠ L → D ≠ L → C ≠ D → (∀ p ∈ news, p.1 ≠ C) → IntsAre ys (ks.flatMap fun k => (rangeKs 0 8).map (g k)) → RR (.ref D) C (.ok .next) { s₂ with heap := h, toks := tk }) :
    wpAny (model prog w) A (newList []) (fun acc s₃ => wpAny (model prog w) A (newFunctionEnv scope env.globals cl [] env.qual none .none (some env)) (fun cenv s₄ =>
      codeAny (model prog w) A (.compStart (.ListComp elt [⟨.Name x px, iter1, [], 0⟩, ⟨.Name y py, iter2, [], 0⟩] scope pos) 0 (.ref I) acc { cenv with scope := relabel scope env }) (RR acc cenv.locals) s₄) E s₃) E s₂ := by
  refine wpAny_newObj_type (wpAny_newFunctionEnv hcell (by intro y hy; simp at hy) (fun h₁ hns₁ hsb₁ => ?_) hkind)
  dsimp only at hns₁ hsb₁ ⊢
  generalize hH2 : s₂.heap.push { cls := .type "list", dict := none, data := .seq ([] : List Value).toArray } = H2 at hns₁ hsb₁ ⊢
  have hC : H2.objs.size = s₂.heap.objs.size + 1 := by rw [← hH2, Heap.size_push]
  have hDC : s₂.heap.objs.size ≠ H2.objs.size := by rw [hC]; exact Nat.ne_of_lt (Nat.lt_succ_self _)
  have below : ∀ b, b < s₂.heap.objs.size → b ≠ H2.objs.size ∧ b ≠ s₂.heap.objs.size := fun b hb => ⟨by rw [hC]; exact Nat.ne_of_lt (Nat.lt_succ_of_lt hb), Nat.ne_of_lt hb⟩
  have old : ∀ b o, s₂.heap.get? b = some o → h₁.get? b = some o := fun b o e => hsb₁.extBut b o (below b (Heap.lt_size e)).1 (Heap.get?_push_of_some _ (hH2 ▸ Heap.get?_push_of_some _ e))
  have hacc : h₁.get? s₂.heap.objs.size = some (lst []) := hsb₁.extBut _ _ hDC (Heap.get?_push_of_some _ (hH2 ▸ Heap.get?_push_size _ rfl))
  have hst₁ : St 0 h₁ := W.frame _ _ _ hst fun b _ o e => old b o e
  have fresh : ∀ a, s₂.heap.objs.size ≤ a → s₂.heap.get? a = none := fun a ha => by
    cases e : s₂.heap.get? a with
    | none => rfl
    | some o' => exact absurd (Heap.lt_size e) (Nat.not_lt.mpr ha)
  have fresh₀ : ∀ a, s₂.heap.objs.size ≤ a → h₀.get? a = none := fun a ha => by
    cases e : h₀.get? a with
    | none => rfl
    | some o' => have := F.keep a o' e; rw [fresh a ha] at this; cases this
  have hD₀ : h₀.get? s₂.heap.objs.size = none := fresh₀ _ (Nat.le_refl _)
  have hC₀ : h₀.get? H2.objs.size = none := fresh₀ _ (by rw [hC]; exact Nat.le_succ _)
  have hLlt : L < s₂.heap.objs.size := F.ns.lt
  have hDL : s₂.heap.objs.size ≠ L := Ne.symm (below L hLlt).2
  have hCL : H2.objs.size ≠ L := Ne.symm (below L hLlt).1
  have hCI : I ≠ H2.objs.size := (below I hIlt).1
  have hDI : I ≠ s₂.heap.objs.size := (below I hIlt).2
  have off₀ : Off3 I H2.objs.size s₂.heap.objs.size news := Off3.of fun p hp => ⟨off p hp, (below _ (Heap.lt_size (N p hp).1)).1, (below _ (Heap.lt_size (N p hp).1)).2⟩
  have off3 := off₀.mem
  have loop : ∀ s₃ : Shared, s₃ = { s₂ with heap := h₁, toks := s₂.toks + ([] : List (Str × Value)).length } →
      codeAny (model prog w) A (.compLoop (.ListComp elt [⟨.Name x px, iter1, [], 0⟩, ⟨.Name y py, iter2, [], 0⟩] scope pos) 0 (.ref I) (.ref s₂.heap.objs.size) (compEnvC scope cl H2.objs.size env))
        (RR (.ref s₂.heap.objs.size) H2.objs.size) s₃ := by
    rintro s₃ rfl
    refine codeAny_two0
      (fun k s' => ∃ h' tk i ys m', s' = { s₂ with heap := h', toks := tk } ∧ i ≤ n ∧ k = n + 1 - i ∧ ys.length = 8 * i ∧ IntsAre ys ((ks.take i).flatMap fun k => (rangeKs 0 8).map (g k)) ∧ St i h' ∧ Fr h₀ L h' m ∧ h'.Ns H2.objs.size m' ∧ News h₀ L h' ((s₂.heap.objs.size, lst ys) :: news)) ?_ (n + 1)
      ⟨h₁, _, 0, [], _, rfl, Nat.zero_le _, rfl, rfl, by simpa using IntsAre.nil, hst₁, F.keeps old, hns₁, fun p hp => ?_⟩ (hf := hs2 _)
    · rintro k s' ⟨h', tk, i, ys, m', rfl, hi, rfl, hyl, hys, hst', F', hn', N'⟩
      by_cases hlt : i < n
      · refine W.item i _ _ _ hlt hst' fun v h₂ tk₂ hPv hst₂ hk₂ => ?_
        obtain ⟨k, u, hk, hk0, hk1, rfl⟩ := hP i v hlt hPv
        refine wpAny_assign_Name (wpAny_storeName_local (lookup_relabel_local hx) (hn'.at' fun o e => hk₂ _ o (by simpa using Ne.symm hCI) e) (fun h₃ hn₃ hs₃ => ?_) (by simp [compEnvC, relabel, hkind]))
        have hst₃ : St (i + 1) h₃ := W.frame _ _ _ hst₂ fun b hb o e => hs₃.extBut b o (by rw [List.mem_singleton.mp hb]; exact hCI) e
        obtain ⟨oI, heI⟩ := hIo _ _ hst₃
        obtain ⟨oC, heC, hoC⟩ := ns_obj hn₃
        have F₃ : Fr h₀ L h₃ m := (fr_but F' hk₂ hIL hI₀).change hs₃ hCL hC₀
        have N₂ : News h₀ L h₂ ((s₂.heap.objs.size, lst ys) :: news) := news_but N' hk₂ fun p hp => by
          rcases List.mem_cons.mp hp with rfl | hp
          · exact Ne.symm hDI
          · exact (off3 p hp).1
        have N₃ : News h₀ L h₃ ((I, oI) :: (H2.objs.size, oC) :: (s₂.heap.objs.size, lst ys) :: news) := fun p hp => by
          rcases List.mem_cons.mp hp with rfl | hp
          · exact ⟨heI, Ne.symm hIL, hI₀⟩
          · rcases List.mem_cons.mp hp with rfl | hp
            · exact ⟨heC, hCL, hC₀⟩
            · have z := N₂ p hp
              refine ⟨hs₃.extBut _ _ ?_ z.1, z.2⟩
              rcases List.mem_cons.mp hp with rfl | hp
              · exact hDC
              · exact (off3 p hp).2.1
        refine wpAny_mono (rng k u I oI H2.objs.size oC s₂.heap.objs.size _ ys h₃ _ _ hoC (by simp) F₃ N₃ off₀ ⟨hCI, hDI, Ne.symm hDC⟩) (fun xv s₄ h₄ => ?_) fun _ _ e => e
        obtain ⟨r, t1, t2, t3, h₄, tk₄, rfl, rfl, hr, F₄, N₄⟩ := h₄
        refine wpAny_pyIter_range hr (by decide) ?_
        have hJne : ∀ b o, h₄.get? b = some o → b ≠ h₄.objs.size := fun b o e => Nat.ne_of_lt (Heap.lt_size e)
        have zI := (N₄ (I, oI) (.head _)).1
        have zC := (N₄ (H2.objs.size, oC) (.tail _ (.head _))).1
        have zD := (N₄ (s₂.heap.objs.size, lst ys) (.tail _ (.tail _ (.head _)))).1
        refine two_inner (g := g k) (m' := _) (x := x) (y := y) (v := .int k u) (oI := oI) (I := I) (ys := ys) (news := news) hh hkind hy hxy (by rw [hyl]; omega) (F₄.push _) ((hoC.ns zC).push _) (by simp) (fun p hp => ?_) (Heap.get?_push_size _ rfl) (Nat.ne_of_lt F₄.ns.lt) (next_is_new F₄) hC₀ hCL hD₀ hDL
          (Off3.of fun p hp => ⟨?_, ?_, ?_⟩) ⟨Ne.symm (hJne _ _ zC), Ne.symm (hJne _ _ zD), Ne.symm hDC⟩ (fun q t oJ oC m₂ zs h tk E' q0 q1 a1 a2 a3 a4 a5 => ?_) (fun h'' tk'' m'' zs F'' hn'' N'' hzs => ?_)
        · have z : p ∈ (I, oI) :: (H2.objs.size, oC) :: (s₂.heap.objs.size, lst ys) :: news := by
            rcases List.mem_cons.mp hp with rfl | hp
            · exact .head _
            · exact .tail _ (.tail _ hp)
          exact ⟨Heap.get?_push_of_some _ (N₄ p z).1, (N₄ p z).2⟩
        · rcases List.mem_cons.mp hp with rfl | hp
          · exact hJne _ _ zI
          · exact hJne _ _ (N₄ p (.tail _ (.tail _ (.tail _ hp)))).1
        · rcases List.mem_cons.mp hp with rfl | hp
          · exact hCI
          · exact (off3 p hp).2.1
        · rcases List.mem_cons.mp hp with rfl | hp
          · exact hDI
          · exact (off3 p hp).2.2
        · refine trn k u q t _ oJ I oI _ oC _ m₂ zs h tk E' hk0 hk1 q0 q1 a1 a2 a3 a4 a5 (Off3.of fun p hp => ⟨?_, ?_, ?_⟩) ⟨Ne.symm (hJne _ _ zC), Ne.symm (hJne _ _ zD), Ne.symm hDC⟩
          · rcases List.mem_cons.mp hp with rfl | hp
            · exact hJne _ _ zI
            · exact hJne _ _ (N₄ p (.tail _ (.tail _ (.tail _ hp)))).1
          · rcases List.mem_cons.mp hp with rfl | hp
            · exact hCI
            · exact (off3 p hp).2.1
          · rcases List.mem_cons.mp hp with rfl | hp
            · exact hDI
            · exact (off3 p hp).2.2
        · have hzl : zs.length = 8 := by rw [hzs.length, List.length_map, rangeKs_length]
          refine ⟨n + 1 - (i + 1), by omega, h'', tk'', i + 1, ys ++ zs, m'', rfl, hlt, rfl, by rw [List.length_append, hyl, hzl]; omega, ?_, hSt _ _ _ _ hst₃ heI (N'' (I, oI) (.head _)).1, F'', hn'', fun p hp => N'' p (.tail _ hp)⟩
          rw [List.take_add_one, hk]
          simpa using IntsAre.append hys hzs
      · obtain rfl : i = n := Nat.le_antisymm hi (Nat.not_lt.mp hlt)
        refine W.done _ _ _ hst' fun h₂ tk₂ hk₂ => ?_
        rw [List.take_of_length_le (Nat.le_of_eq hks)] at hys
        exact hRR _ _ h₂ tk₂ _ ys (fr_but F' hk₂ hIL hI₀) (news_but N' hk₂ fun p hp => by
          rcases List.mem_cons.mp hp with rfl | hp
          · exact Ne.symm hDI
          · exact (off3 p hp).1) off₀.one (hn'.at' fun o e => hk₂ _ o (by simpa using Ne.symm hCI) e) hC₀ hD₀ hCL hDL (Ne.symm hDC) (fun p hp => (off3 p hp).2.1) hys
    · rcases List.mem_cons.mp hp with rfl | hp
      · exact ⟨hacc, hDL, hD₀⟩
      · exact ⟨old _ _ (N p hp).1, (N p hp).2⟩
  exact codeAny_compStart_list (loop _ rfl) (W.self 0 _ _ _ hst₁ (loop _ rfl))
theorem ListComp_two {elt iter1 iter2 : Expr} {x y : Str} {px py : Pos} {scope : Scope} {cl : List (Str × Addr)} {pos : Pos} {Q : Value → Shared → Prop} (F₀ : Fr h₀ L s.heap m)
    (hclos : closureFor scope env = pure cl) (hcell : ∀ y ∈ scope.names, y.2 ≠ .cell) (hkind : scope.kind = .function)
    (hnames : ∀ y ∈ scope.names, y.2 = .local → scope.names.lookup y.1 = some .local) (hx : scope.names.lookup x = some .local) (hy : scope.names.lookup y = some .local) (hxy : ¬ x = y)
    (h : wpAny (model prog w) A (eval iter1 env) (TwoSrc prog w A h₀ L m env elt iter2 x y scope cl Q) E s)
    (hs : ∀ x, foldedSetIterable iter1 env x = pure x) (hs2 : ∀ (C : Addr) x, foldedSetIterable iter2 (compEnvC scope cl C env) x = pure x) :
    wpAny (model prog w) A (eval (.ListComp elt [⟨.Name x px, iter1, [], 0⟩, ⟨.Name y py, iter2, [], 0⟩] scope pos) env) Q E s := by
  rw [eval_ListComp]
  refine wpAny_comprehension_free (use := none) rfl hs hclos hkind hnames (wpAny_mono h (fun xv s₁ h₁ => ?_) fun _ _ e => e)
  obtain ⟨b, t, news, g, rfl, hh, F, N, hsz, rng, trn, fin⟩ := h₁
  refine KBw.pyIter_bytes ?_
  refine block_2 (ks := KBw.bInts b) (news := news) (KBw.walks hh s₁.heap.objs.size b t) hh (fun i v hi hP => ?_) (KBw.ints_length b) hsz (fun i h st => let ⟨o, e, _⟩ := st; ⟨o, e⟩) (fun i h h' o st e e' => ?_) hcell hkind hx hy hxy ⟨_, Heap.get?_push_size _ rfl, rfl, rfl⟩
    (by show s₁.heap.objs.size < (s₁.heap.push _).objs.size; rw [Heap.size_push]; exact Nat.lt_succ_self _) (F.push _) (N.grown fun _ _ e => Heap.get?_push_of_some _ e) (Nat.ne_of_lt F.ns.lt) (next_is_new F) (fun p hp => Nat.ne_of_lt (Heap.lt_size (N p hp).1)) hs2 rng trn ?_
  · obtain ⟨c, u, hc, rfl⟩ := hP
    have hn := KBw.ints_get hc
    have hb := KBw.ints_in (List.mem_of_getElem? hn)
    exact ⟨_, u, hn, hb.1, hb.2, rfl⟩
  · obtain ⟨o', q, r⟩ := st
    rw [e] at q
    cases q
    exact ⟨o, e', r⟩
  · intro D C h tk m' ys F' N' o1 hn hC₀ hD₀ hCL hDL hCD offC hys
    refine ⟨m', hn, fun h'' hs'' => fin ys hys D h'' tk (F'.change hs'' hCL hC₀) (fun p hp => ?_) o1⟩
    refine ⟨hs''.extBut _ _ ?_ (N' p hp).1, (N' p hp).2⟩
    rcases List.mem_cons.mp hp with rfl | hp
    · exact Ne.symm hCD
    · exact offC p hp
end
open PySem PySem.W PySem.Calls PyProof.Rows PyProof.V PySem.Spec
open Builtin in
theorem meets_rev (b : Array UInt8) (hb : b.size = 4) (t tu : Tok) (a : Addr) :
    Meets («bytes.__getitem__» ⟨[.bytes b t, .ref a], []⟩) (fun _ R s => s.heap.IsSliceOf a .none .none (.int (-1) tu) ∧ ∀ t' k, R (.ok (.ret (.bytes (Bytes.sliced b 3 (-1) (-1)) t'))) { s with toks := k }) := by
  refine .of_wp fun prog w A R s hS => ?_
  obtain ⟨⟨o, ho, hc, hd⟩, h⟩ := hS
  have hT : s.TypeIs (.ref a) "slice" := ⟨o, ho, hc⟩
  show wpAny _ _ (Bytes.payload (.bytes b t) >>= fun r => _) _ _ s
  refine wpAny_bind (wpAny_of_eq (a := b) rfl ?_)
  show wpAny _ _ (Bytes.subscript? (.ref a) >>= fun r => _) _ _ s
  refine wpAny_bind ?_
  unfold Bytes.subscript?
  refine wpAny_bind (wpAny_specialOf hT slice_no_index (wpAny_pure ?_))
  refine wpAny_bind (wpAny_typeOf hT ?_)
  show wpAny _ _ (Bytes.sliceParts (.ref a) >>= fun r => _) _ _ s
  refine wpAny_bind ?_
  unfold Bytes.sliceParts
  refine wpAny_bind (wpAny_field (x := .int (-1) tu) ho hd rfl ?_)
  kby_int
  refine wpAny_ite (KBy.ite_no (show ¬ ((rawInt (-1) == rawInt 0) = true) from by decide) ?_)
  refine wpAny_bind (wpAny_field (x := .none) ho hd rfl ?_)
  have go : wpAny (model prog w) A.in1 (sliceIndices (rawPart none) (rawPart none) (rawPart (some (-1))) b.size) (fun r s' => r = sliceBounds none none (some (-1)) b.size ∧ s' = s) (fun _ _ => False) s :=
    wpAny_of_eq (sliceIndices_raw none none (some (-1)) b.size (fun e => nomatch e)) ⟨rfl, rfl⟩
  kby_none
  refine wpAny_bind (wpAny_field (x := .none) ho hd rfl ?_)
  kby_none
  refine wpAny_pure ?_
  refine wpAny_bind (wpAny_mono go (fun r s' hr => ?_) fun _ _ e => e.elim)
  obtain ⟨hr1, hr2⟩ := hr
  subst hr1 hr2
  have e3 : sliceBounds none none (some (-1)) b.size = (3, -1, -1) := by rw [hb]; decide
  rw [e3]
  refine wpAny_ite (KBy.ite_no (by simp) ?_)
  refine wpAny_bind (wpAny_mkBytes (wpAny_pure ⟨_, rfl, h _ _⟩) ?_)
  have : (Bytes.sliced b 3 (-1) (-1)).size ≤ 4 := by
    unfold Bytes.sliced
    rw [List.size_toArray]
    exact Nat.le_trans (List.length_filterMap_le _ _) (by decide)
  exact Nat.le_trans this (by rw [sizeLine_eq]; decide)
theorem ints_rev {b : Array UInt8} {ks : List Int} (hk : KBw.bInts b = ks) (hl : ks.length = 4) : KBw.bInts (Builtin.Bytes.sliced b 3 (-1) (-1)) = ks.reverse := by
  subst hk
  rw [KBw.ints_length] at hl
  obtain ⟨l⟩ := b
  match l, hl with
  | [x0, x1, x2, x3], _ => rfl
section
variable {w : World} {A : Around} {E : Value → Shared → Prop} {s : Shared} {value slice : PySem.Expr} {b : Array UInt8} {t : Tok} {h₀ : Heap} {L : Addr} {m : PySem.Str → Option Value} {news : Led} {l u : Value} {lo hi : Option Int} {Q : Value → Shared → Prop} {ks : List Int} {i : Int}
theorem rev_op {tu : Tok} (hF : Fr h₀ L s.heap m) (hN : News h₀ L s.heap news) (hk : KBw.bInts b = ks) (hl : ks.length = 4)
    (h : ∀ d h' t' k, Fr h₀ L h' m → News h₀ L h' news → KBw.bInts d = ks.reverse → Q (.bytes d t') { s with heap := h', toks := k })
    (hs : subscripted slice false (.bytes b t) (.ref s.heap.objs.size) = operate [.ref s.heap.objs.size, .bytes b t] (getItem (.bytes b t) (.ref s.heap.objs.size)) := by with_unfolding_all rfl)
    (ht : ∀ r, letTemporaryGo value (.bytes b t) r = pure () := by intro _; with_unfolding_all rfl) :
    wpAny (model P0 w) A (subscriptTail value slice (.bytes b t) (.ref s.heap.objs.size)) Q E { s with heap := s.heap.push { cls := .type "slice", data := .fields #[.none, .none, .int (-1) tu] } } :=
  tail_of_ItemOn ⟨"bytes", _, FB.slot_bytes_getitem.lookup, typeIs_bytes _ _ _, getItem_meets (typeIs_bytes _ _ _) (by decide) FB.slot_bytes_getitem FB.entry_bytes_getitem (FB.args_bytes_getitem_2 _ _) (meets_rev b (by rw [← KBw.ints_length, hk, hl]) t tu _)
    ⟨Heap.IsSliceOf.new _ _ _ _, fun t' k => h _ _ t' k (hF.push _) (News.pushKeep hN _) (ints_rev hk hl)⟩⟩ hs ht
theorem slice_op (hF : Fr h₀ L s.heap m) (hN : News h₀ L s.heap news) (hk : KBw.bInts b = ks) (hl : IsPart l lo) (hu : IsPart u hi) (hz : ks.length ≤ 16777216)
    (h : ∀ d h' t' k, Fr h₀ L h' m → News h₀ L h' news → KBw.bInts d = (ks.drop (lo.elim 0 (clipAt ks.length))).take (hi.elim ks.length (clipAt ks.length) - lo.elim 0 (clipAt ks.length)) → Q (.bytes d t') { s with heap := h', toks := k })
    (hs : subscripted slice false (.bytes b t) (.ref s.heap.objs.size) = operate [.ref s.heap.objs.size, .bytes b t] (getItem (.bytes b t) (.ref s.heap.objs.size)) := by with_unfolding_all rfl)
    (ht : ∀ r, letTemporaryGo value (.bytes b t) r = pure () := by intro _; with_unfolding_all rfl) :
    wpAny (model P0 w) A (subscriptTail value slice (.bytes b t) (.ref s.heap.objs.size)) Q E { s with heap := s.heap.push { cls := .type "slice", data := .fields #[l, u, .none] } } :=
  KBc.slice_K hF hN hk hl hu hz (fun h' t' k F N e => h _ h' t' k F N e) hs ht
end
theorem lt40 {d : Int} (h : d < 2 ^ (40 : Int).toNat) : d < 281474976710656 := Int.lt_trans h (by decide)
/-- the octets of a number -/
def pnL (n : Nat) (x : Int) : List Int := List.map (fun k' => Builtin.bitAnd (x.fdiv (2 ^ (8 * k').toNat)) 255) (downKs n)
theorem pn_ints (n : Nat) (x : Int) : KBw.bInts (pnI n x) = pnL n x := KBa.ints_make (fun v hv => by
  obtain ⟨k, _, rfl⟩ := List.mem_map.mp hv
  exact ⟨and255_lo _, and255_hi _⟩)
theorem pn_len (n : Nat) (x : Int) : (pnL n x).length = n := by simp [pnL, downKs]
def fsumL (x : Int) : List Int := List.map (fun k' => Builtin.bitAnd (x.fdiv (2 ^ (8 * k').toNat)) 255) (rangeKs 0 ((4 : Int) - 0).toNat)
theorem fsum_ints (x : Int) : KBw.bInts (fsumI x) = fsumL x := KBa.ints_make (fun v hv => by
  obtain ⟨k, _, rfl⟩ := List.mem_map.mp hv
  exact ⟨and255_lo _, and255_hi _⟩)
theorem fsum_len (x : Int) : (fsumL x).length = 4 := by simp [fsumL, rangeKs]
theorem nil_ints : KBw.bInts #[] = [] := rfl
theorem rep_ints (n : Nat) : KBw.bInts (Array.replicate n 0) = List.replicate n 0 := by simp [KBw.bInts]
theorem add_op {w : World} {A : Around} {E : Value → Shared → Prop} {s : Shared} {b c : Array UInt8} {t u : Tok} {ks ls : List Int} {Q : Value → Shared → Prop} (hb : KBw.bInts b = ks) (hc : KBw.bInts c = ls) (hsz : ks.length + ls.length ≤ 16777216)
    (h : ∀ d t' k, KBw.bInts d = ks ++ ls → Q (.bytes d t') { s with toks := k }) : wpAny (model P0 w) A (binaryOp .Add (.bytes b t) (.bytes c u)) Q E s :=
  KBa.add_K hb hc hsz fun t' k e => h (b ++ c) t' k e
theorem len_op {w : World} {A : Around} {E : Value → Shared → Prop} {s : Shared} {b : Array UInt8} {t : Tok} {ks : List Int} {Q : Value → Shared → Prop} (hb : KBw.bInts b = ks) (hsz : ks.length ≤ 16777216)
    (h : ∀ (n : Int) t' k, n = (ks.length : Int) → Q (.int n t') { s with toks := k }) : wpAny (model P0 w) A (call (.builtin "len") [.bytes b t]) Q E s :=
  KBw.len_K hb (Nat.le_trans hsz (by decide)) (h _ _ _ rfl)
local macro_rules | `(tactic| kba_ints) => `(tactic| first | exact pn_ints _ _ | exact fsum_ints _ | exact nil_ints | exact rep_ints _)
local macro_rules | `(tactic| kba_size) => `(tactic| ((simp only [List.length_append, pn_len, fsum_len, List.length_nil, List.length_replicate]); omega))
abbrev frD (w : World) (k1 k2 k3 k4 k5 : Tok) (d : Int) (td : Tok) (sv : Int) (ts : Tok) (D : Addr) (kv : Int) (tv : Tok) (b : Array UInt8) (tb : Tok) : Obj :=
  dictOf [⟨PyData.keyHash w.params (Str.ofString "target"), .str (Str.ofString "target") k1, .int d td⟩, ⟨PyData.keyHash w.params (Str.ofString "source"), .str (Str.ofString "source") k2, .int sv ts⟩,
    ⟨PyData.keyHash w.params (Str.ofString "tags"), .str (Str.ofString "tags") k3, .ref D⟩, ⟨PyData.keyHash w.params (Str.ofString "kind"), .str (Str.ofString "kind") k4, .int kv tv⟩, ⟨PyData.keyHash w.params (Str.ofString "payload"), .str (Str.ofString "payload") k5, .bytes b tb⟩] 5
theorem pack_fin {e o : Array UInt8} {n : Int} {ks P : List Int} {c : Int} (h1 : n = ((6 + 6 + 0 + 2 + ks.length : Nat) : Int)) (hl : ks.length ≤ 12) (h2 : KBw.bInts o = P ++ List.replicate (if 60 - n > 0 then 60 - n else 0).toNat 0)
    (h3 : KBw.bInts e = P ++ List.replicate (if 60 - n > 0 then 60 - n else 0).toNat 0 ++ fsumL c) : KBw.bInts o = P ++ List.replicate (46 - ks.length) 0 ∧ KBw.bInts e = KBw.bInts o ++ fsumL c := by
  have e1 : (if 60 - n > 0 then 60 - n else 0).toNat = 46 - ks.length := by
    rw [if_pos (by omega)]; omega
  rw [e1] at h2 h3
  exact ⟨h2, by rw [h3, h2]⟩
theorem pack_con (w : World) (mean : ExcName → Option Value) (mg mb : Str → Option Value) (news : Led) (x dx D : Addr) (k1 k2 k3 k4 k5 td ts tv tb : Tok) (d : Int) (b : Array UInt8) (ks : List Int)
    (hd0 : 0 ≤ d) (hd1 : d < 281474976710656) (hks : KBw.bInts b = ks) (hlen : ks.length ≤ 12) :
    Con w mean mg mb 40 160 288 [.ref x] ((x, instObj 264 dx) :: (dx, frD w k1 k2 k3 k4 k5 d td 5 ts D 2048 tv b tb) :: (D, { cls := .type "tuple", data := .seq #[] 0 }) :: news)
      (fun r n' => n' = (x, instObj 264 dx) :: (dx, frD w k1 k2 k3 k4 k5 d td 5 ts D 2048 tv b tb) :: (D, { cls := .type "tuple", data := .seq #[] 0 }) :: news ∧ ∃ e o tk, r = .bytes e tk ∧ KBw.bInts o = pnL 6 d ++ pnL 6 5 ++ [] ++ pnL 2 2048 ++ ks ++ List.replicate (46 - ks.length) 0 ∧ KBw.bInts e = KBw.bInts o ++ fsumL (crcI o)) := by
  k_with_none
  k_with "call ref" => (k_here; (with_reducible show wpAny _ _ (PySem.call (Value.ref 116) [Value.bytes _ _]) _ _ _); k_dflt (refine' Con.use (crc_con _ _ _ _ _ _ _) ?q61k1 ?q61k2 ?q61k3 ?q61k4 ?q61k5 ?q61k6 ?q61k7 ?q61k8 ?_; (case q61k1 => k_asm); (case q61k2 => k_asm); (case q61k3 => k_asm); (case q61k4 => k_asm); (case q61k5 => k_asm); (case q61k6 => first | exact rfl | assumption); (case q61k7 => ktr_room); (case q61k8 => ktr_units)); intro r9 n9 h9 tk9 hr9 F9 N9; obtain ⟨e9, tk8, e8⟩ := hr9; ((replace e9 := Eq.symm e9); subst e9); ((replace e8 := Eq.symm e8); subst e8); (try dsimp only); (try k_fold))
  k_with "call ref" => (k_here; (with_reducible show wpAny _ _ (PySem.call (Value.ref 121) [Value.bytes _ _]) _ _ _); k_dflt (refine' Con.use (fsum_con _ _ _ _ _ _ _) ?q62k1 ?q62k2 ?q62k3 ?q62k4 ?q62k5 ?q62k6 ?q62k7 ?q62k8 ?_; (case q62k1 => k_asm); (case q62k2 => k_asm); (case q62k3 => k_asm); (case q62k4 => k_asm); (case q62k5 => k_asm); (case q62k6 => first | exact rfl | assumption); (case q62k7 => ktr_room); (case q62k8 => ktr_units)); intro r9 n9 h9 tk9 hr9 F9 N9; obtain ⟨e9, tk8, e8⟩ := hr9; ((replace e9 := Eq.symm e9); subst e9); ((replace e8 := Eq.symm e8); subst e8); (try dsimp only); (try k_fold))
  k_with "binaryOp FloorDiv int int" => (k_here; (refine floordiv_int (by omega) ?_ (.inr (PySem.PylongRoom.of (PySem.Heap.NoLimit.keeps (Top.nolimit (by assumption)) (Fr.keep (by assumption))) (by show _ + 100 < _; ktr_room)))))
  k_with "compareOp In int ref" => (k_here; (with_reducible show wpAny _ _ (compareOp CmpOp.In (Value.int _ _) (Value.ref 206)) _ _ _); k_dflt (refine' kind_not ?q64F ?q64X ?q64l ?q64q ?_; (case q64F => k_asm); (case q64X => k_asm); (case q64l => k_is); (case q64q => first | assumption | rfl)))
  k_with "call ref" => (k_here; (with_reducible show wpAny _ _ (PySem.call (Value.ref 324) [Value.ref _, Value.int _ _]) _ _ _); k_dflt (refine' Con.use (take_at ?q65cU ?q65c1 ?q65c2 ?q65c3) ?q65k1 ?q65k2 ?q65k3 ?q65k4 ?q65k5 ?q65k6 ?q65k7 ?q65k8 ?_; (case q65k1 => k_asm); (case q65k2 => k_asm); (case q65k3 => k_asm); (case q65k4 => k_asm); (case q65k5 => k_asm); (case q65k6 => first | exact rfl | assumption); (case q65k7 => ktr_room); (case q65k8 => ktr_units); (case q65cU => k_updF); (case q65c1 => first | decide | omega); (case q65c2 => assumption); (case q65c3 => assumption)); intro r9 n9 h9 tk9 hr9 F9 N9; obtain ⟨d9, tk8, x9, y9, tx9, ty9, k9, e9, dlo9, dhi9, ylo9, yhi9, e8⟩ := hr9; subst e9; subst e8; (try dsimp only at N9); (try dsimp only); (try k_sweep); (try k_fold))
  k_with "call ref" => (k_here; (with_reducible show wpAny _ _ (PySem.call (Value.ref 331) [Value.ref _, Value.ref _]) _ _ _); k_dflt (refine' Con.use (one_at ?q66cU ?q66cm ?q66cne ?q66c2 ?q66c3 ?q66ci ?q66cl ?q66cn) ?q66k1 ?q66k2 ?q66k3 ?q66k4 ?q66k5 ?q66k6 ?q66k7 ?q66k8 ?_; (case q66k1 => k_asm); (case q66k2 => k_asm); (case q66k3 => k_asm); (case q66k4 => k_asm); (case q66k5 => k_asm); (case q66k6 => first | exact rfl | assumption); (case q66k7 => ktr_room); (case q66k8 => ktr_units); (case q66cU => k_updF); (case q66cm => k_mem); (case q66cne => k_ne); (case q66c2 => assumption); (case q66c3 => assumption); (case q66ci => l_ints); (case q66cl => rfl); (case q66cn => (refine five_in ?_ ?_ <;> assumption))); intro r9 n9 h9 tk9 hr9 F9 N9; obtain ⟨v9, tk8, x9, y9, tx9, ty9, k9, e9, vlo9, vhi9, ylo9, yhi9, e8⟩ := hr9; subst e9; subst e8; (try dsimp only at N9); (try dsimp only); (try k_sweep); (try k_fold))
  k_with "call ref" => (k_here; (with_reducible show wpAny _ _ (PySem.call (Value.ref 184) [Value.int _ _]) _ _ _); k_dflt (refine' Con.use (put16_con _ _ _ _ _ _ _ ?q67c1 ?q67c2) ?q67k1 ?q67k2 ?q67k3 ?q67k4 ?q67k5 ?q67k6 ?q67k7 ?q67k8 ?_; (case q67k1 => k_asm); (case q67k2 => k_asm); (case q67k3 => k_asm); (case q67k4 => k_asm); (case q67k5 => k_asm); (case q67k6 => first | exact rfl | assumption); (case q67k7 => ktr_room); (case q67k8 => ktr_units); (case q67c1 => first | assumption | decide | omega); (case q67c2 => k_dflt (first | assumption | decide | omega | exact lt40 (by assumption)))); intro r9 n9 h9 tk9 hr9 F9 N9; obtain ⟨e9, tk8, e8⟩ := hr9; ((replace e9 := Eq.symm e9); subst e9); ((replace e8 := Eq.symm e8); subst e8); (try dsimp only); (try k_sweep); (try k_fold))
  k_with "call ref" => (k_here; (with_reducible show wpAny _ _ (PySem.call (Value.ref 191) [Value.int _ _]) _ _ _); k_dflt (refine' Con.use (put48_con _ _ _ _ _ _ _ ?q68c1 ?q68c2) ?q68k1 ?q68k2 ?q68k3 ?q68k4 ?q68k5 ?q68k6 ?q68k7 ?q68k8 ?_; (case q68k1 => k_asm); (case q68k2 => k_asm); (case q68k3 => k_asm); (case q68k4 => k_asm); (case q68k5 => k_asm); (case q68k6 => first | exact rfl | assumption); (case q68k7 => ktr_room); (case q68k8 => ktr_units); (case q68c1 => first | assumption | decide | omega); (case q68c2 => k_dflt (first | assumption | decide | omega | exact lt40 (by assumption)))); intro r9 n9 h9 tk9 hr9 F9 N9; obtain ⟨e9, tk8, e8⟩ := hr9; ((replace e9 := Eq.symm e9); subst e9); ((replace e8 := Eq.symm e8); subst e8); (try dsimp only); (try k_sweep); (try k_fold))
  k_with "call type:tuple" => (k_here; (with_reducible show wpAny _ _ (PySem.call (Value.type "tuple") [Value.ref _]) _ _ _); k_dflt (refine' call_tuple_same ?q69k1 ?_; (case q69k1 => exact News.isTup (by k_asm) (by k_mem))))
  k_with "call type:bytes" => (k_here; (with_reducible show wpAny _ _ (PySem.call (Value.type "bytes") [Value.bytes _ _]) _ _ _); k_dflt (refine call_bytes_bytes ?_))
  k_with "call type:bytes" => (k_here; (with_reducible show wpAny _ _ (PySem.call (Value.type "bytes") [Value.int _ _]) _ _ _); k_dflt (refine call_bytes_int (by kba_ints) (by kba_ints) ?_); (try dsimp only); (try k_sweep); (try k_fold))
  k_with "getMethod bytes" => (k_here; k_dflt (refine method_join ?_))
  k_with "call builtin:bytes.join" => (k_here; k_dflt (refine' call_join_nil ?q73k1 ?_; (case q73k1 => exact News.isList (by k_asm) (by k_mem))); intro _ _; (try dsimp only); (try k_sweep); (try k_fold))
  k_with "eval ListComp" => (k_here; k_dflt (refine ListComp_T0 (by k_asm) (by rfl) (by decide) (by rfl) (by decide) (by rfl) ?_ (by intro _; with_unfolding_all rfl)))
  k_with "NilSrc" => (k_dflt (refine' ⟨_, _, _, ?q75hh, rfl, ?q75F, ?q75N, ?q75m, ?_⟩; (case q75hh => first | exact rfl | assumption); (case q75F => k_asm); (case q75N => k_asm); (case q75m => k_mem)); intro _ D9 h9 tk9 F9 N9 o9; (try dsimp only); (try k_sweep); (try k_fold))
  k_with "binaryOp Add bytes bytes" => (k_here; (with_reducible show wpAny _ _ (binaryOp Operator.Add (Value.bytes _ _) (Value.bytes _ _)) _ _ _); k_dflt (refine add_op (by kba_ints) (by kba_ints) (by kba_size) ?_); intro d9 t9 k9 q9; (try dsimp only); (try k_fold))
  k_with "call builtin:len" => (k_here; (with_reducible show wpAny _ _ (call (Value.builtin "len") [Value.bytes _ _]) _ _ _); k_dflt (refine len_op (by kba_ints) (by kba_size) ?_); intro n9 t9 k9 q9; (try simp only [List.length_append, pn_len, fsum_len, List.length_nil, List.length_replicate] at q9); (try dsimp only); (try k_fold))
  k_with "call type:bytes" => (k_here; (with_reducible show wpAny _ _ (PySem.call (Value.type "bytes") [Value.int _ _]) _ _ _); k_dflt (refine call_bytes_int (by omega) (by omega) ?_); (try dsimp only); (try k_sweep); (try k_fold))
  unfold Con
  intro dp un gd cn cs a ccd cl outer A₀ base h₀ L m s Q E B F X N T hk hd' hu hret
  refine wpAny_call ?_
  k_dflt (first | (refine' code_def ?k1 ?k2 ?k3 ?k4 ?k5 ?kA ?kF ?kK ?k6 ?k7 ?k8 ?k9 ?kB ?_ ?c2 ?c3 ?c4 ?c5; (case kA => exact rfl); (case kF => exact rfl); (case kK => first | exact rfl | assumption); (case k1 => k_asm); (case k2 => k_asm); (case k3 => k_asm); (case k4 => k_asm); (case k5 => k_asm); (case k6 => k_is); (case k7 => k_is); (case k8 => ktr_room); (case k9 => first | exact BindsTo.of_eq rfl | exact binds_K (by k_in) rfl (by k_is) rfl rfl rfl); (case c5 => decide); (case kB => exact locs rfl); (case c2 => exact rfl); (case c3 => exact rfl); (case c4 => exact rfl); k_whole; intro g' L' h' FG' F' N' B' X' T'; (try dsimp only); (try k_lift B'); (try k_fold)) | (refine' code_defC ?k1 ?k2 ?k3 ?k4 ?k5 ?kA ?kF ?kK ?k6 ?k7 ?k8 ?k9 ?kB ?kD ?_ ?c2 ?c3 ?c4; (case kA => exact rfl); (case kF => exact rfl); (case kK => first | exact rfl | assumption); (case k1 => k_asm); (case k2 => k_asm); (case k3 => k_asm); (case k4 => k_asm); (case k5 => k_asm); (case k6 => k_is); (case k7 => k_is); (case k8 => ktr_room); (case k9 => first | exact BindsTo.of_eq rfl | exact binds_K (by k_in) rfl (by k_is) rfl rfl rfl); (case kB => exact rfl); (case kD => decide +kernel); (case c2 => exact rfl); (case c3 => exact rfl); (case c4 => exact rfl); k_whole; intro g' L' h' tk' cells' FG' F' N' Y' B' X' T' l1; (try k_lt l1); k_cells Y'; (try simp only [List.cons_append, List.nil_append] at N'); (try dsimp only); (try k_lift B'); (try k_fold)))
  k_steps
  exact con_ret hret ⟨rfl, _, _, _, rfl, pack_fin (by assumption) hlen (by assumption) (by assumption)⟩ (by k_asm) (news_of (by k_asm) (by kcf_all))
theorem nat_xor_and : ∀ (n a b : Nat), a ≤ n → (a ^^^ b) + 2 * (a &&& b) = a + b := by
  intro n
  induction n with
  | zero =>
    intro a b h
    have e : a = 0 := by omega
    rw [e, Nat.zero_xor, Nat.zero_and]; omega
  | succ n ih =>
    intro a b h
    by_cases h0 : a = 0
    · rw [h0, Nat.zero_xor, Nat.zero_and]; omega
    have q := ih (a / 2) (b / 2) (by omega)
    have x1 : (a ^^^ b) / 2 = a / 2 ^^^ b / 2 := xor_div a b 1
    have x2 : (a &&& b) / 2 = a / 2 &&& b / 2 := by
      have := Nat.shiftRight_and_distrib (a := a) (b := b) (i := 1)
      simpa [Nat.shiftRight_eq_div_pow] using this
    have y1 : (a ^^^ b) % 2 = (a % 2 + b % 2) % 2 := by
      have u := Nat.mod_two_eq_zero_or_one a
      have v := Nat.mod_two_eq_zero_or_one b
      have c := Nat.xor_mod_two_pow (a := a) (b := b) (n := 1)
      simp only [Nat.pow_one] at c
      rw [c]
      rcases u with u | u <;> rcases v with v | v <;> rw [u, v] <;> rfl
    have y2 : (a &&& b) % 2 = (a % 2) * (b % 2) := by
      have u := Nat.mod_two_eq_zero_or_one a
      have v := Nat.mod_two_eq_zero_or_one b
      have c := Nat.and_mod_two_pow (a := a) (b := b) (n := 1)
      simp only [Nat.pow_one] at c
      rw [c]
      rcases u with u | u <;> rcases v with v | v <;> rw [u, v] <;> rfl
    have u := Nat.mod_two_eq_zero_or_one a
    have v := Nat.mod_two_eq_zero_or_one b
    have z1 := Nat.div_add_mod (a ^^^ b) 2
    have z2 := Nat.div_add_mod (a &&& b) 2
    have z3 := Nat.div_add_mod a 2
    have z4 := Nat.div_add_mod b 2
    rw [x1, y1] at z1
    rw [x2, y2] at z2
    rcases u with u | u <;> rcases v with v | v <;> rw [u, v] at z1 z2 <;> rw [u] at z3 <;> rw [v] at z4 <;> omega
theorem bx_nat (a b : Nat) : Builtin.bitXor (a : Int) (b : Int) = ((a ^^^ b : Nat) : Int) := by
  rw [bitXor_and, bitAnd_pp (by omega) (by omega)]
  have := nat_xor_and a a b (Nat.le_refl _)
  simp only [Int.toNat_natCast]
  omega
theorem fd_nat (s : Nat) (k : Nat) : ((s : Int)).fdiv (2 ^ k) = ((s / 2 ^ k : Nat) : Int) := by
  have e : ((2 : Int) ^ k) = ((2 ^ k : Nat) : Int) := by push_cast; rfl
  rw [e, Int.fdiv_eq_ediv_of_nonneg _ (Int.natCast_nonneg _)]
  exact (Int.natCast_ediv s (2 ^ k)).symm
theorem half_nat (j : Nat) (h : j < 16) : half (j : Int) = (halfN j : Int) := by
  unfold half halfN
  rw [Int.toNat_natCast]
  exact (by decide : ∀ j : Nat, j < 16 → halfL.getD j 0 = ((halfL'.getD j 0 : Nat) : Int)) j h
theorem step_nat {s o : Nat} : stepI (s : Int) (o : Int) = ((stN s o : Nat) : Int) := by
  have f4 : ∀ x : Nat, ((x : Int)).fdiv (2 ^ (4 : Int).toNat) = ((x / 16 : Nat) : Int) := fun x => fd_nat x 4
  have hm : ∀ x : Nat, half (Builtin.bitAnd (x : Int) 15) = ((halfN (x % 16) : Nat) : Int) := by
    intro x
    rw [bitAnd_m4]
    have : ((x : Int) % 16) = ((x % 16 : Nat) : Int) := by omega
    rw [this, half_nat _ (Nat.mod_lt _ (by decide))]
  unfold stepI stN
  simp only [f4, bx_nat, hm]
theorem fold_nat : ∀ (l : List Nat) (s : Nat), (l.map fun (o : Nat) => (o : Int)).foldl stepI (s : Int) = ((l.foldl stN s : Nat) : Int)
  | [], _ => rfl
  | o :: l, s => by
    rw [List.map_cons, List.foldl_cons, List.foldl_cons, step_nat, fold_nat l]
theorem crc_nat (l : List Nat) : crcL (l.map fun (o : Nat) => (o : Int)) = ((crcN l : Nat) : Int) := by
  unfold crcL crcN
  have e := fold_nat l 4294967295
  have e2 : ((4294967295 : Nat) : Int) = 4294967295 := rfl
  rw [e2] at e
  rw [e]
  exact bx_nat _ 4294967295
theorem fsum_nat (x : Nat) : fsumL (x : Int) = (sumN x).map fun (o : Nat) => (o : Int) := by
  have f : ∀ k : Nat, Builtin.bitAnd ((x : Int).fdiv (2 ^ k)) 255 = ((x / 2 ^ k % 256 : Nat) : Int) := by
    intro k
    rw [fd_nat, bitAnd_m8]; omega
  show [Builtin.bitAnd ((x : Int).fdiv (2 ^ 0)) 255, Builtin.bitAnd ((x : Int).fdiv (2 ^ 8)) 255, Builtin.bitAnd ((x : Int).fdiv (2 ^ 16)) 255, Builtin.bitAnd ((x : Int).fdiv (2 ^ 24)) 255] = _
  rw [f, f, f, f]
  simp [sumN]
theorem nat_of {ns : List Int} (h : KBa.In ns) : ∃ l : List Nat, Oct l ∧ ns = l.map fun (o : Nat) => (o : Int) := by
  refine ⟨ns.map Int.toNat, fun o ho => ?_, ?_⟩
  · obtain ⟨n, hn, rfl⟩ := List.mem_map.mp ho
    have := h n hn
    omega
  · rw [List.map_map]
    have : ∀ n ∈ ns, ((fun (o : Nat) => (o : Int)) ∘ Int.toNat) n = n := fun n hn => by
      have := h n hn
      show ((n.toNat : Nat) : Int) = n
      omega
    exact ((List.map_congr_left this).trans (List.map_id _)).symm
theorem crcI_L (b : Array UInt8) : crcI b = crcL (KBw.bInts b) := rfl
theorem bInts_in (b : Array UInt8) : KBa.In (KBw.bInts b) := fun _ h => KBw.ints_in h
theorem sum_inj {x y : Nat} (hx : x < 4294967296) (hy : y < 4294967296) (e : sumN x = sumN y) : x = y := by
  unfold sumN at e
  simp only [List.cons.injEq, and_true] at e
  omega
/-- a row of 64 octets is read: its last four are the sum of the others -/
def rdL (ks : List Int) : Bool := decide (fsumL (crcL (ks.take 60)) = ks.drop 60)
theorem rd_app {a b : List Int} (hl : a.length = 60) : rdL (a ++ b) = decide (fsumL (crcL a) = b) := by
  unfold rdL
  rw [List.take_append_of_le_length (by omega), List.drop_append_of_le_length (by omega), List.take_of_length_le (by omega), List.drop_of_length_le (by omega), List.nil_append]
theorem rd_whole {os : List Int} (hl : os.length = 60) : rdL (os ++ fsumL (crcL os)) = true := by
  rw [rd_app hl, decide_eq_true_eq]
/-- one octet changed: not read -/
theorem rd_bent {os p q : List Int} {o o' : Int} (hl : os.length = 60) (hin : KBa.In os) (hw : os ++ fsumL (crcL os) = p ++ o :: q) (hne : o ≠ o') (h0 : 0 ≤ o') (h1 : o' < 256) : rdL (p ++ o' :: q) = false := by
  rcases List.append_eq_append_iff.mp hw with ⟨r, rfl, hr⟩ | ⟨r, hr, hq⟩
  · rw [List.append_assoc, rd_app hl, decide_eq_false_iff_not, hr]
    intro e
    have := List.append_cancel_left e
    simp only [List.cons.injEq, and_true] at this
    exact hne this
  · cases r with
    | nil =>
      rw [List.append_nil] at hr
      subst hr
      rw [List.nil_append] at hq
      rw [rd_app hl, decide_eq_false_iff_not, ← hq]
      intro e
      simp only [List.cons.injEq, and_true] at e
      exact hne e
    | cons x r =>
      simp only [List.cons_append, List.cons.injEq] at hq
      obtain ⟨rfl, rfl⟩ := hq
      have e1 : p ++ o' :: (r ++ fsumL (crcL os)) = (p ++ o' :: r) ++ fsumL (crcL os) := by simp
      rw [e1, rd_app (by rw [hr] at hl; simpa using hl), decide_eq_false_iff_not]
      intro e
      have hpin : KBa.In (p ++ o :: r) := by rw [← hr]; exact hin
      obtain ⟨pl, hpl, rfl⟩ := nat_of (ns := p) fun n hn => hpin n (List.mem_append_left _ hn)
      obtain ⟨rl, hrl, rfl⟩ := nat_of (ns := r) fun n hn => hpin n (List.mem_append_right _ (List.mem_cons_of_mem _ hn))
      have ho := hpin o (List.mem_append_right _ List.mem_cons_self)
      obtain ⟨a, rfl⟩ : ∃ a : Nat, o = (a : Int) := ⟨o.toNat, by omega⟩
      obtain ⟨b, rfl⟩ : ∃ b : Nat, o' = (b : Int) := ⟨o'.toNat, by omega⟩
      have m1 : ∀ c : Nat, (pl.map fun (o : Nat) => (o : Int)) ++ (c : Int) :: (rl.map fun (o : Nat) => (o : Int)) = (pl ++ c :: rl).map fun (o : Nat) => (o : Int) := by intro c; simp
      rw [hr, m1, m1, crc_nat, crc_nat, fsum_nat, fsum_nat] at e
      have oct : ∀ c : Nat, c < 256 → Oct (pl ++ c :: rl) := fun c hc n hn => by
        rcases List.mem_append.mp hn with hn | hn
        · exact hpl n hn
        · rcases List.mem_cons.mp hn with rfl | hn
          · exact hc
          · exact hrl n hn
      have inj : ∀ {l l' : List Nat}, (l.map fun (o : Nat) => (o : Int)) = (l'.map fun (o : Nat) => (o : Int)) → l = l' := by
        intro l l' h
        have := congrArg (List.map Int.toNat) h
        simpa [List.map_map, Function.comp_def] using this
      have e2 := sum_inj (crcN_lt (oct b (by omega))) (crcN_lt (oct a (by omega))) (inj e)
      exact crc_bent hpl hrl (by omega) (by omega) (by omega) e2.symm
theorem ints_ne {a b : Array UInt8} : (a.toList != b.toList) = !decide (KBw.bInts a = KBw.bInts b) := by
  have inj : KBw.bInts a = KBw.bInts b ↔ a.toList = b.toList := by
    constructor
    · intro h
      unfold KBw.bInts at h
      refine List.map_inj_right (f := fun c : UInt8 => (c.toNat : Int)) ?_ |>.mp h
      intro x y e
      have e' : (x.toNat : Int) = (y.toNat : Int) := e
      exact UInt8.toNat_inj.mp (by omega)
    · intro h
      unfold KBw.bInts
      rw [h]
  by_cases h : a.toList = b.toList
  · have h2 := inj.mpr h
    simp [h, h2]
  · have h2 : ¬ KBw.bInts a = KBw.bInts b := fun e => h (inj.mp e)
    simp [h, h2]
theorem held_ints {b : Array UInt8} {ks : List Int} (hks : KBw.bInts b = ks) (hlen : ks.length = 64) : KBw.bInts (heldOf b ks) = ks.take 60 := by
  unfold heldOf
  rw [KBc.ints_picked hks, hlen]
  rfl
theorem last_ints {b : Array UInt8} {ks : List Int} (hks : KBw.bInts b = ks) (hlen : ks.length = 64) : KBw.bInts (KBy.picked b (some ↑(min (clipAt ks.length (↑ks.length - 4)) ks.length)) none) = ks.drop 60 := by
  rw [KBc.ints_picked hks, hlen]
  show List.take 4 (List.drop 60 ks) = _
  exact List.take_of_length_le (by rw [List.length_drop, hlen]; exact Nat.le_refl _)
theorem read_ne {b : Array UInt8} {ks : List Int} (hks : KBw.bInts b = ks) (hlen : ks.length = 64) :
    ((fsumI (crcI (heldOf b ks))).toList != (KBy.picked b (some ↑(min (clipAt ks.length (↑ks.length - 4)) ks.length)) none).toList) = !rdL ks := by
  rw [ints_ne, fsum_ints, last_ints hks hlen, crcI_L, held_ints hks hlen]
  rfl
theorem sumkind_of {b : Array UInt8} {ks : List Int} (hks : KBw.bInts b = ks) (hlen : ks.length = 64) (h : rdL ks = true → gnV (ks.take 60) 12 2 = 2048) : SumKind b ks := by
  intro e
  rw [read_ne hks hlen] at e
  have e2 : (List.take (clipAt ks.length (↑ks.length - 4)) ks) = ks.take 60 := by rw [hlen]; rfl
  rw [e2]
  exact h (by simpa using e)
theorem isread2 (w : World) (mean : ExcName → Option Value) (mg mb : Str → Option Value) (news : Led) (b : Array UInt8) (ks : List Int) (t : Tok) (hks : KBw.bInts b = ks) (hlen : ks.length = 64) (hkind : rdL ks = true → gnV (ks.take 60) 12 2 = 2048) :
    ConS w mean mg mb 40 160 353 [.bytes b t] news (fun r n' => r = .bool (rdL ks) ∧ n' = news) := by
  intro dp un gd cn cs a ccd outer A₀ base h₀ L m s Q E B F X N T XB TB D hk hd' hu hret
  refine isread_con w mean mg mb news b ks t hks hlen (sumkind_of hks hlen hkind) dp un gd cn cs a ccd outer A₀ base h₀ L m s Q E B F X N T XB TB D hk hd' hu fun r n' h' h₁ tk' hR => hret r n' h' h₁ tk' ?_
  obtain ⟨c, rfl, hc, rfl⟩ := hR
  rw [read_ne hks hlen, Bool.not_not] at hc
  exact ⟨by rw [hc], rfl⟩
/-- what pack_frame gives -/
def PackOk (wl : List Int) : Prop := ∃ os, os.length = 60 ∧ KBa.In os ∧ gnV os 12 2 = 2048 ∧ wl = os ++ fsumL (crcL os)
theorem PackOk.len {wl : List Int} (h : PackOk wl) : wl.length = 64 := by
  obtain ⟨os, hl, _, _, rfl⟩ := h
  rw [List.length_append, hl, fsum_len]
theorem PackOk.rd {wl : List Int} (h : PackOk wl) : rdL wl = true := by
  obtain ⟨os, hl, _, _, rfl⟩ := h
  exact rd_whole hl
theorem PackOk.kind {wl : List Int} (h : PackOk wl) : gnV (wl.take 60) 12 2 = 2048 := by
  obtain ⟨os, hl, _, hk, rfl⟩ := h
  rw [List.take_append_of_le_length (by omega), List.take_of_length_le (by omega)]
  exact hk
theorem pack_ok {e o : Array UInt8} {d : Int} {ks : List Int} (hlen : ks.length ≤ 12) (h1 : KBw.bInts o = pnL 6 d ++ pnL 6 5 ++ [] ++ pnL 2 2048 ++ ks ++ List.replicate (46 - ks.length) 0) (h2 : KBw.bInts e = KBw.bInts o ++ fsumL (crcI o)) : PackOk (KBw.bInts e) := by
  refine ⟨KBw.bInts o, ?_, bInts_in o, ?_, by rw [h2, crcI_L]⟩
  · rw [h1]
    simp only [List.length_append, pn_len, List.length_nil, List.length_replicate]
    omega
  · rw [h1]
    have hl : (pnL 6 d ++ pnL 6 5 ++ [] ++ pnL 2 2048 ++ ks ++ List.replicate (46 - ks.length) 0).length = 60 := by
      simp only [List.length_append, pn_len, List.length_nil, List.length_replicate]
      omega
    unfold gnV
    rw [hl]
    show List.foldl gstep 0 (List.take 2 (List.drop 12 _)) = 2048
    have e1 : pnL 6 d ++ pnL 6 5 ++ [] ++ pnL 2 2048 ++ ks ++ List.replicate (46 - ks.length) 0 = (pnL 6 d ++ pnL 6 5) ++ (pnL 2 2048 ++ (ks ++ List.replicate (46 - ks.length) 0)) := by simp
    have l1 : (pnL 6 d ++ pnL 6 5).length = 12 := by rw [List.length_append, pn_len, pn_len]
    rw [e1, List.drop_append_of_le_length (by omega), List.drop_of_length_le (by omega), List.nil_append, List.take_append_of_le_length (by rw [pn_len]; omega), List.take_of_length_le (by rw [pn_len]; omega)]
    decide
theorem pack2 (w : World) (mean : ExcName → Option Value) (mg mb : Str → Option Value) (news : Led) (x dx D : Addr) (k1 k2 k3 k4 k5 td ts tv tb : Tok) (d : Int) (b : Array UInt8) (ks : List Int)
    (hd0 : 0 ≤ d) (hd1 : d < 281474976710656) (hks : KBw.bInts b = ks) (hlen : ks.length ≤ 12) :
    Con w mean mg mb 40 160 288 [.ref x] ((x, instObj 264 dx) :: (dx, frD w k1 k2 k3 k4 k5 d td 5 ts D 2048 tv b tb) :: (D, { cls := .type "tuple", data := .seq #[] 0 }) :: news)
      (fun r n' => n' = (x, instObj 264 dx) :: (dx, frD w k1 k2 k3 k4 k5 d td 5 ts D 2048 tv b tb) :: (D, { cls := .type "tuple", data := .seq #[] 0 }) :: news ∧ ∃ e wl tk, r = .bytes e tk ∧ KBw.bInts e = wl ∧ PackOk wl ∧ wl.length = 64) := by
  intro dp un gd cn cs a ccd cl outer A₀ base h₀ L m s Q E B F X N T hk hd' hu hret
  refine pack_con w mean mg mb news x dx D k1 k2 k3 k4 k5 td ts tv tb d b ks hd0 hd1 hks hlen dp un gd cn cs a ccd cl outer A₀ base h₀ L m s Q E B F X N T hk hd' hu fun r n' h' tk' hR => hret r n' h' tk' ?_
  obtain ⟨hn, e, o, tk, rfl, h1, h2⟩ := hR
  have hp := pack_ok hlen h1 h2
  exact ⟨hn, e, _, tk, rfl, rfl, hp, hp.len⟩
theorem ConS.use {w : World} {mean : ExcName → Option Value} {mg mb : Str → Option Value} {d u : Nat} {f : Addr} {vs : List Value} {news : Led} {R : Value → Led → Prop} (C : ConS w mean mg mb d u f vs news R)
    {dp un : Nat} {gd : Option (List Code)} {cn : Str} {cs : Scope} {a : Addr} {ccd : Value} {outer : List Env} {A₀ : Around} {base h₀ g₀ : Heap} {L : Addr} {m : Str → Option Value} {s : Shared} {Q E : Value → Shared → Prop}
    (B : Below A₀ base outer h₀) (F : Fr h₀ L s.heap m) (X : (hd.heap_1 w.params).In h₀) (N : News h₀ L s.heap news) (T : Top qv (looseW qv loose0) mean mg mb h₀) (XB : (hd.heap_1 w.params).In base) (TB : Top qv (looseW qv loose0) mean mg mb base) (D : KtsDicts (outer.filterMap (·.frame)) h₀)
    (T0 : KtsTurn (outer.filterMap (·.frame)) g₀ h₀) (hk : cs.kind = .function) (hd' : dp + d < recursionLimit) (hu : un + u < cLine)
    (k : ∀ (r : Value) (n' : Led) (h' h₁ : Heap) (tk' : Nat), R r n' → KtsTurn (outer.filterMap (·.frame)) g₀ h₁ → Fr h₁ L h' m → News h₁ L h' n' → Below A₀ base outer h₁ → (hd.heap_1 w.params).In h₁ → Top qv (looseW qv loose0) mean mg mb h₁ → KtsDicts (outer.filterMap (·.frame)) h₁ →
      Q r { s with heap := h', toks := tk' }) :
      wpAny (model P0 w) (ktrTop dp un gd cn cs L a ccd [] outer) (call (.ref f) vs) Q E s := C _ _ _ _ _ _ _ _ _ _ _ _ _ _ _ _ B F X N T XB TB D hk hd' hu fun r n' h' h₁ tk' hr T' => k r n' h' h₁ tk' hr (T0.trans T')
/-- a contract of a def that law calls and that calls a catcher: law's frame stands lowest, its ground does not turn -/
def Con0 (w : World) (mean : ExcName → Option Value) (mg mb : Str → Option Value) (d u : Nat) (f : Addr) (vs : List Value) (news : Led) (R : Value → Led → Prop) : Prop :=
  ∀ (dp un : Nat) (gd : Option (List Code)) (cn : Str) (cs : Scope) (a : Addr) (ccd : Value) (A₀ : Around) (base h₀ : Heap) (L : Addr) (m : Str → Option Value) (s : Shared) (Q E : Value → Shared → Prop),
    Below A₀ base [] h₀ → Fr h₀ L s.heap m → (hd.heap_1 w.params).In h₀ → News h₀ L s.heap news → Top qv (looseW qv loose0) mean mg mb h₀ → (hd.heap_1 w.params).In base → Top qv (looseW qv loose0) mean mg mb base →
    cs.kind = .function → dp + d < recursionLimit → un + u < cLine →
    (∀ (r : Value) (n' : Led) (h' : Heap) (tk' : Nat), R r n' → Fr h₀ L h' m → News h₀ L h' n' → Q r { s with heap := h', toks := tk' }) →
      wpAny (model P0 w) (ktrTop dp un gd cn cs L a ccd [] []) (call (.ref f) vs) Q E s
theorem clip_m4 {wl : List Int} (h : wl.length = 64) : clipAt wl.length (-4) = 60 := by rw [h]; rfl
section
variable {w : World} {A : Around} {E : Value → Shared → Prop} {s : Shared} {value slice : PySem.Expr} {b : Array UInt8} {t tu : Tok} {h₀ : Heap} {L : Addr} {m : PySem.Str → Option Value} {news : Led} {Q : Value → Shared → Prop} {wl : List Int} {p : Int}
theorem slice_head (hF : Fr h₀ L s.heap m) (hN : News h₀ L s.heap news) (hk : KBw.bInts b = wl) (hl : wl.length = 64)
    (h : ∀ d h' t' k, Fr h₀ L h' m → News h₀ L h' news → KBw.bInts d = wl.take 60 → Q (.bytes d t') { s with heap := h', toks := k })
    (hs : subscripted slice false (.bytes b t) (.ref s.heap.objs.size) = operate [.ref s.heap.objs.size, .bytes b t] (getItem (.bytes b t) (.ref s.heap.objs.size)) := by with_unfolding_all rfl)
    (ht : ∀ r, letTemporaryGo value (.bytes b t) r = pure () := by intro _; with_unfolding_all rfl) :
    wpAny (model P0 w) A (subscriptTail value slice (.bytes b t) (.ref s.heap.objs.size)) Q E { s with heap := s.heap.push { cls := .type "slice", data := .fields #[.none, .int (-4) tu, .none] } } :=
  slice_op hF hN hk .none (.int _ _) (by omega) (fun d h' t' k F N e => h d h' t' k F N (by rw [e]; show List.take (clipAt wl.length (-4) - 0) (List.drop 0 wl) = _; rw [clip_m4 hl]; rfl)) hs ht
theorem slice_last (hF : Fr h₀ L s.heap m) (hN : News h₀ L s.heap news) (hk : KBw.bInts b = wl) (hl : wl.length = 64)
    (h : ∀ d h' t' k, Fr h₀ L h' m → News h₀ L h' news → KBw.bInts d = wl.drop 60 → Q (.bytes d t') { s with heap := h', toks := k })
    (hs : subscripted slice false (.bytes b t) (.ref s.heap.objs.size) = operate [.ref s.heap.objs.size, .bytes b t] (getItem (.bytes b t) (.ref s.heap.objs.size)) := by with_unfolding_all rfl)
    (ht : ∀ r, letTemporaryGo value (.bytes b t) r = pure () := by intro _; with_unfolding_all rfl) :
    wpAny (model P0 w) A (subscriptTail value slice (.bytes b t) (.ref s.heap.objs.size)) Q E { s with heap := s.heap.push { cls := .type "slice", data := .fields #[.int (-4) tu, .none, .none] } } :=
  slice_op hF hN hk (.int _ _) .none (by omega) (fun d h' t' k F N e => h d h' t' k F N (by rw [e]; show List.take (wl.length - clipAt wl.length (-4)) (List.drop (clipAt wl.length (-4)) wl) = _; rw [clip_m4 hl]; exact List.take_of_length_le (by rw [List.length_drop]; exact Nat.le_refl _))) hs ht
theorem slice_upto (hF : Fr h₀ L s.heap m) (hN : News h₀ L s.heap news) (hk : KBw.bInts b = wl) (hl : wl.length = 64) (h0 : 0 ≤ p) (h1 : p < 64)
    (h : ∀ d h' t' k, Fr h₀ L h' m → News h₀ L h' news → KBw.bInts d = wl.take p.toNat → Q (.bytes d t') { s with heap := h', toks := k })
    (hs : subscripted slice false (.bytes b t) (.ref s.heap.objs.size) = operate [.ref s.heap.objs.size, .bytes b t] (getItem (.bytes b t) (.ref s.heap.objs.size)) := by with_unfolding_all rfl)
    (ht : ∀ r, letTemporaryGo value (.bytes b t) r = pure () := by intro _; with_unfolding_all rfl) :
    wpAny (model P0 w) A (subscriptTail value slice (.bytes b t) (.ref s.heap.objs.size)) Q E { s with heap := s.heap.push { cls := .type "slice", data := .fields #[.none, .int p tu, .none] } } :=
  slice_op hF hN hk .none (.int _ _) (by omega) (fun d h' t' k F N e => h d h' t' k F N (by
    rw [e]; show List.take (clipAt wl.length p - 0) (List.drop 0 wl) = _
    obtain ⟨n, rfl⟩ : ∃ n : Nat, p = (n : Int) := ⟨p.toNat, by omega⟩
    rw [clipAt_nat, Int.toNat_natCast, Nat.sub_zero, List.drop_zero, Nat.min_eq_left (by omega)])) hs ht
theorem slice_from (hF : Fr h₀ L s.heap m) (hN : News h₀ L s.heap news) (hk : KBw.bInts b = wl) (hl : wl.length = 64) (h0 : 0 ≤ p) (h1 : p ≤ 64)
    (h : ∀ d h' t' k, Fr h₀ L h' m → News h₀ L h' news → KBw.bInts d = wl.drop p.toNat → Q (.bytes d t') { s with heap := h', toks := k })
    (hs : subscripted slice false (.bytes b t) (.ref s.heap.objs.size) = operate [.ref s.heap.objs.size, .bytes b t] (getItem (.bytes b t) (.ref s.heap.objs.size)) := by with_unfolding_all rfl)
    (ht : ∀ r, letTemporaryGo value (.bytes b t) r = pure () := by intro _; with_unfolding_all rfl) :
    wpAny (model P0 w) A (subscriptTail value slice (.bytes b t) (.ref s.heap.objs.size)) Q E { s with heap := s.heap.push { cls := .type "slice", data := .fields #[.int p tu, .none, .none] } } :=
  slice_op hF hN hk (.int _ _) .none (by omega) (fun d h' t' k F N e => h d h' t' k F N (by
    rw [e]; show List.take (wl.length - clipAt wl.length p) (List.drop (clipAt wl.length p) wl) = _
    obtain ⟨n, rfl⟩ : ∃ n : Nat, p = (n : Int) := ⟨p.toNat, by omega⟩
    rw [clipAt_nat, Int.toNat_natCast, Nat.min_eq_left (by omega)]
    exact List.take_of_length_le (by rw [List.length_drop]; exact Nat.le_refl _))) hs ht
end
theorem xb_nat {o d : Int} (h0 : 0 ≤ o) : Builtin.bitXor o ((2 : Int) ^ d.toNat) = ((o.toNat ^^^ 2 ^ d.toNat : Nat) : Int) := by
  obtain ⟨a, rfl⟩ : ∃ a : Nat, o = (a : Int) := ⟨o.toNat, by omega⟩
  have e : ((2 : Int) ^ d.toNat) = ((2 ^ d.toNat : Nat) : Int) := by push_cast; rfl
  rw [e, bx_nat, Int.toNat_natCast]
theorem xb_lo {o d : Int} (h0 : 0 ≤ o) : 0 ≤ Builtin.bitXor o ((2 : Int) ^ d.toNat) := by rw [xb_nat h0]; exact Int.natCast_nonneg _
theorem xb_hi {o d : Int} (h0 : 0 ≤ o) (h1 : o < 256) (d1 : d < 8) : Builtin.bitXor o ((2 : Int) ^ d.toNat) < 256 := by
  rw [xb_nat h0]
  have : o.toNat ^^^ 2 ^ d.toNat < 2 ^ 8 := Nat.xor_lt_two_pow (by omega) (Nat.pow_lt_pow_right (by decide) (by omega))
  omega
theorem xb_ne {o d : Int} (h0 : 0 ≤ o) : o ≠ Builtin.bitXor o ((2 : Int) ^ d.toNat) := by
  rw [xb_nat h0]
  intro e
  have e2 : o.toNat = o.toNat ^^^ 2 ^ d.toNat := by omega
  have e3 := congrArg (fun z => o.toNat ^^^ z) e2
  simp only [Nat.xor_self, ← Nat.xor_assoc, Nat.zero_xor] at e3
  have := Nat.two_pow_pos d.toNat
  omega
theorem read_whole (w : World) (mean : ExcName → Option Value) (mg mb : Str → Option Value) (news : Led) (b : Array UInt8) (wl : List Int) (t : Tok) (hks : KBw.bInts b = wl) (hp : PackOk wl) :
    ConS w mean mg mb 40 160 353 [.bytes b t] news (fun r n' => r = .bool true ∧ n' = news) := by
  have C := isread2 w mean mg mb news b wl t hks hp.len fun _ => hp.kind
  rw [hp.rd] at C
  exact C
theorem bent_rd {wl : List Int} {p d : Int} (hp : PackOk wl) (h0 : 0 ≤ p) (h1 : p < 64) (h2 : d < 8) : rdL (wl.take p.toNat ++ [Builtin.bitXor (wl.getD p.toNat 0) ((2 : Int) ^ d.toNat)] ++ wl.drop (p + 1).toNat) = false := by
  have hl := hp.len
  obtain ⟨os, ho, hin, _, rfl⟩ := hp
  have hlt : p.toNat < (os ++ fsumL (crcL os)).length := by omega
  have hall : KBa.In (os ++ fsumL (crcL os)) := fun n hn => by
    rcases List.mem_append.mp hn with hn | hn
    · exact hin n hn
    · obtain ⟨k, _, rfl⟩ := List.mem_map.mp hn
      exact ⟨and255_lo _, and255_hi _⟩
  have hg : (os ++ fsumL (crcL os)).getD p.toNat 0 = (os ++ fsumL (crcL os))[p.toNat] := by rw [List.getD_eq_getElem?_getD, List.getElem?_eq_getElem hlt]; rfl
  have hb := hall _ (List.getElem_mem hlt)
  rw [← hg] at hb
  have hw : os ++ fsumL (crcL os) = (os ++ fsumL (crcL os)).take p.toNat ++ (os ++ fsumL (crcL os)).getD p.toNat 0 :: (os ++ fsumL (crcL os)).drop (p.toNat + 1) := by
    rw [hg, ← List.drop_eq_getElem_cons hlt, List.take_append_drop]
  have e1 : (p + 1).toNat = p.toNat + 1 := by omega
  rw [e1, List.append_assoc, List.singleton_append]
  exact rd_bent ho hin hw (xb_ne hb.1) (xb_lo hb.1) (xb_hi hb.1 hb.2 h2)
theorem bent_len {wl : List Int} {p v : Int} (hl : wl.length = 64) (h0 : 0 ≤ p) (h1 : p < 64) : (wl.take p.toNat ++ [v] ++ wl.drop (p + 1).toNat).length = 64 := by
  simp only [List.length_append, List.length_take, List.length_drop, List.length_cons, List.length_nil]
  omega
theorem read_bent (w : World) (mean : ExcName → Option Value) (mg mb : Str → Option Value) (news : Led) (b : Array UInt8) (wl : List Int) (p d : Int) (t : Tok) (hks : KBw.bInts b = wl.take p.toNat ++ [Builtin.bitXor (wl.getD p.toNat 0) ((2 : Int) ^ d.toNat)] ++ wl.drop (p + 1).toNat) (hp : PackOk wl) (h0 : 0 ≤ p) (h1 : p < 64) (h2 : d < 8) :
    ConS w mean mg mb 40 160 353 [.bytes b t] news (fun r n' => r = .bool false ∧ n' = news) := by
  have e := bent_rd hp h0 h1 h2
  have C := isread2 w mean mg mb news b _ t hks (bent_len hp.len h0 h1) fun q => by rw [e] at q; cases q
  rw [e] at C
  exact C
def turnB (wl : List Int) : Bool := decide ((wl.drop 60).reverse = wl.drop 60)
theorem turn_rd {wl : List Int} (hp : PackOk wl) : rdL (wl.take 60 ++ (wl.drop 60).reverse) = turnB wl := by
  obtain ⟨os, ho, hin, _, rfl⟩ := hp
  have e1 : (os ++ fsumL (crcL os)).take 60 = os := by rw [List.take_append_of_le_length (by omega), List.take_of_length_le (by omega)]
  have e2 : (os ++ fsumL (crcL os)).drop 60 = fsumL (crcL os) := by rw [List.drop_append_of_le_length (by omega), List.drop_of_length_le (by omega), List.nil_append]
  unfold turnB
  rw [e1, e2, rd_app ho]
  exact decide_eq_decide.mpr ⟨Eq.symm, Eq.symm⟩
theorem turn_kind {wl : List Int} (hp : PackOk wl) : gnV ((wl.take 60 ++ (wl.drop 60).reverse).take 60) 12 2 = 2048 := by
  have l : (wl.take 60).length = 60 := by rw [List.length_take, hp.len]; rfl
  rw [List.take_append_of_le_length (by omega), List.take_of_length_le (by omega)]
  exact hp.kind
theorem turn_len {wl : List Int} (hl : wl.length = 64) : (wl.take 60 ++ (wl.drop 60).reverse).length = 64 := by
  simp only [List.length_append, List.length_take, List.length_drop, List.length_reverse]
  omega
theorem read_turned (w : World) (mean : ExcName → Option Value) (mg mb : Str → Option Value) (news : Led) (b : Array UInt8) (wl : List Int) (t : Tok) (hks : KBw.bInts b = wl.take 60 ++ (wl.drop 60).reverse) (hp : PackOk wl) :
    ConS w mean mg mb 40 160 353 [.bytes b t] news (fun r n' => r = .bool (turnB wl) ∧ n' = news) := by
  have C := isread2 w mean mg mb news b _ t hks (turn_len hp.len) fun _ => turn_kind hp
  rw [turn_rd hp] at C
  exact C
theorem turn_eq {a b : Array UInt8} {wl : List Int} (ha : KBw.bInts a = wl.take 60 ++ (wl.drop 60).reverse) (hb : KBw.bInts b = wl) : (a.toList == b.toList) = turnB wl := by
  have h := ints_ne (a := a) (b := b)
  have h2 : (a.toList == b.toList) = decide (KBw.bInts a = KBw.bInts b) := by
    have := congrArg not h
    simpa [bne] using this
  rw [h2, ha, hb]
  unfold turnB
  refine decide_eq_decide.mpr ⟨fun e => ?_, fun e => ?_⟩
  · have e3 : wl.take 60 ++ (wl.drop 60).reverse = wl.take 60 ++ wl.drop 60 := by rw [List.take_append_drop]; exact e
    exact List.append_cancel_left e3
  · rw [e, List.take_append_drop]
theorem pack_sum {e : Array UInt8} {wl : List Int} (hw : KBw.bInts e = wl) (hp : PackOk wl) : crcI e = crcI (fsumI (crcI ([] : List UInt8).toArray)) := by
  obtain ⟨os, ho, hin, _, rfl⟩ := hp
  obtain ⟨l, hl, rfl⟩ := nat_of hin
  have z : KBw.bInts ([] : List UInt8).toArray = ([] : List Nat).map fun (o : Nat) => (o : Int) := rfl
  rw [crcI_L, crcI_L, hw, fsum_ints, crcI_L, z, crc_nat, crc_nat, fsum_nat, fsum_nat, ← List.map_append, crc_nat, crc_nat]
  have := crc_residue_any hl (l' := []) (fun _ h => nomatch h)
  rw [List.nil_append] at this
  rw [this]
theorem ne_known {w : World} {A : Around} {E : Value → Shared → Prop} {s : Shared} {a b : Int} {t u : Tok} {Q : Value → Shared → Prop} (e : a = b) (h : Q (.bool false) s) : wpAny (model P0 w) A (compareOp .NotEq (.int a t) (.int b u)) Q E s :=
  PyProof.Rows.ne_int (by subst e; simpa using h)
theorem eq_known {w : World} {A : Around} {E : Value → Shared → Prop} {s : Shared} {a b : Array UInt8} {t u : Tok} {v : Bool} {Q : Value → Shared → Prop} (e : (a.toList == b.toList) = v) (h : Q (.bool v) s) : wpAny (model P0 w) A (compareOp .Eq (.bytes a t) (.bytes b u)) Q E s :=
  eq_bytes (by rw [e]; exact h)
theorem eqb_same {w : World} {A : Around} {E : Value → Shared → Prop} {s : Shared} {v : Bool} {Q : Value → Shared → Prop} (h : Q (.bool true) s) : wpAny (model P0 w) A (compareOp .Eq (.bool v) (.bool v)) Q E s :=
  eq_bool (by simpa using h)
theorem bytes_one {w : World} {A : Around} {E : Value → Shared → Prop} {s : Shared} {h₀ : Heap} {L D : Addr} {m : PySem.Str → Option Value} {news : Led} {Q : Value → Shared → Prop} {v : Int} {t : Tok} {n : Nat} (F : Fr h₀ L s.heap m) (N : News h₀ L s.heap news) (hh : A.handled = none)
    (hm : (D, listOf #[.int v t] n) ∈ news) (h0 : 0 ≤ v) (h1 : v < 256) (h : ∀ d h' t' k, Fr h₀ L h' m → News h₀ L h' news → KBw.bInts d = [v] → Q (.bytes d t') { s with heap := h', toks := k }) : wpAny (model P0 w) A (call (.type "bytes") [.ref D]) Q E s :=
  KBa.make_K (vs := [.int v t]) (ns := [v]) F N hh (News.isList N hm) (.cons v t .nil) (fun n hn => by rw [List.mem_singleton.mp hn]; exact ⟨h0, h1⟩) (by show 1 ≤ 16777216; decide) fun h' t' k F' N' hin => h _ h' t' k F' N' (KBa.ints_make hin)
local macro_rules | `(tactic| kba_size) => `(tactic| ((simp only [List.length_append, pn_len, fsum_len, List.length_nil, List.length_replicate, List.length_take, List.length_drop, List.length_reverse, List.length_cons, List.length_map]); omega))
theorem right_con (w : World) (mean : ExcName → Option Value) (mg mb : Str → Option Value) (news : Led) (src : Addr) (x y : Int) (tx ty : Tok) (n : Nat) (b : Array UInt8) (ks : List Int) (tb : Tok)
    (hy0 : 0 ≤ y) (hy1 : y < 2147483647) (hks : KBw.bInts b = ks) (hlen : ks.length ≤ 12) (hoff : ∀ p ∈ news, p.1 ≠ src) :
    Con0 w mean mg mb 250 600 360 [.ref src, .bytes b tb] ((src, L2 x tx y ty n) :: news) (fun r n' => ∃ x' y' tx' ty' n2, r = .bool true ∧ 0 ≤ y' ∧ y' < 2147483647 ∧ n' = (src, L2 x' tx' y' ty' n2) :: news) := by
  k_with_none
  k_with "call ref" => (k_here; (with_reducible show wpAny _ _ (PySem.call (Value.ref 116) [Value.bytes _ _]) _ _ _); k_dflt (refine' Con.use (crc_con _ _ _ _ _ _ _) ?q79k1 ?q79k2 ?q79k3 ?q79k4 ?q79k5 ?q79k6 ?q79k7 ?q79k8 ?_; (case q79k1 => k_asm); (case q79k2 => k_asm); (case q79k3 => k_asm); (case q79k4 => k_asm); (case q79k5 => k_asm); (case q79k6 => first | exact rfl | assumption); (case q79k7 => ktr_room); (case q79k8 => ktr_units)); intro r9 n9 h9 tk9 hr9 F9 N9; obtain ⟨e9, tk8, e8⟩ := hr9; ((replace e9 := Eq.symm e9); subst e9); ((replace e8 := Eq.symm e8); subst e8); (try dsimp only); (try k_fold))
  k_with "call ref" => (k_here; (with_reducible show wpAny _ _ (PySem.call (Value.ref 121) [Value.bytes _ _]) _ _ _); k_dflt (refine' Con.use (fsum_con _ _ _ _ _ _ _) ?q80k1 ?q80k2 ?q80k3 ?q80k4 ?q80k5 ?q80k6 ?q80k7 ?q80k8 ?_; (case q80k1 => k_asm); (case q80k2 => k_asm); (case q80k3 => k_asm); (case q80k4 => k_asm); (case q80k5 => k_asm); (case q80k6 => first | exact rfl | assumption); (case q80k7 => ktr_room); (case q80k8 => ktr_units)); intro r9 n9 h9 tk9 hr9 F9 N9; obtain ⟨e9, tk8, e8⟩ := hr9; ((replace e9 := Eq.symm e9); subst e9); ((replace e8 := Eq.symm e8); subst e8); (try dsimp only); (try k_fold))
  k_with "binaryOp FloorDiv int int" => (k_here; (refine floordiv_int (by omega) ?_ (.inr (PySem.PylongRoom.of (PySem.Heap.NoLimit.keeps (Top.nolimit (by assumption)) (Fr.keep (by assumption))) (by show _ + 100 < _; ktr_room)))))
  k_with "compareOp In int ref" => (k_here; (with_reducible show wpAny _ _ (compareOp CmpOp.In (Value.int _ _) (Value.ref 206)) _ _ _); k_dflt (refine' kind_not ?q82F ?q82X ?q82l ?q82q ?_; (case q82F => k_asm); (case q82X => k_asm); (case q82l => k_is); (case q82q => first | assumption | rfl)))
  k_with "call ref" => (k_here; (with_reducible show wpAny _ _ (PySem.call (Value.ref 324) [Value.ref _, Value.int _ _]) _ _ _); k_dflt (refine' Con.use (take_at ?q83cU ?q83c1 ?q83c2 ?q83c3) ?q83k1 ?q83k2 ?q83k3 ?q83k4 ?q83k5 ?q83k6 ?q83k7 ?q83k8 ?_; (case q83k1 => k_asm); (case q83k2 => k_asm); (case q83k3 => k_asm); (case q83k4 => k_asm); (case q83k5 => k_asm); (case q83k6 => first | exact rfl | assumption); (case q83k7 => ktr_room); (case q83k8 => ktr_units); (case q83cU => k_updF); (case q83c1 => first | decide | omega); (case q83c2 => assumption); (case q83c3 => assumption)); intro r9 n9 h9 tk9 hr9 F9 N9; obtain ⟨d9, tk8, x9, y9, tx9, ty9, k9, e9, dlo9, dhi9, ylo9, yhi9, e8⟩ := hr9; subst e9; subst e8; (try dsimp only at N9); (try dsimp only); (try k_sweep); (try k_fold))
  k_with "call ref" => (k_here; (with_reducible show wpAny _ _ (PySem.call (Value.ref 331) [Value.ref _, Value.ref _]) _ _ _); k_dflt (refine' Con.use (one_at ?q84cU ?q84cm ?q84cne ?q84c2 ?q84c3 ?q84ci ?q84cl ?q84cn) ?q84k1 ?q84k2 ?q84k3 ?q84k4 ?q84k5 ?q84k6 ?q84k7 ?q84k8 ?_; (case q84k1 => k_asm); (case q84k2 => k_asm); (case q84k3 => k_asm); (case q84k4 => k_asm); (case q84k5 => k_asm); (case q84k6 => first | exact rfl | assumption); (case q84k7 => ktr_room); (case q84k8 => ktr_units); (case q84cU => k_updF); (case q84cm => k_mem); (case q84cne => k_ne); (case q84c2 => assumption); (case q84c3 => assumption); (case q84ci => l_ints); (case q84cl => rfl); (case q84cn => (refine five_in ?_ ?_ <;> assumption))); intro r9 n9 h9 tk9 hr9 F9 N9; obtain ⟨v9, tk8, x9, y9, tx9, ty9, k9, e9, vlo9, vhi9, ylo9, yhi9, e8⟩ := hr9; subst e9; subst e8; (try dsimp only at N9); (try dsimp only); (try k_sweep); (try k_fold))
  k_with "call type:tuple" => (k_here; (with_reducible show wpAny _ _ (PySem.call (Value.type "tuple") [Value.ref _]) _ _ _); k_dflt (refine' call_tuple_same ?q85k1 ?_; (case q85k1 => exact News.isTup (by k_asm) (by k_mem))))
  k_with "call type:bytes" => (k_here; (with_reducible show wpAny _ _ (PySem.call (Value.type "bytes") [Value.bytes _ _]) _ _ _); k_dflt (refine call_bytes_bytes ?_))
  k_with "call type:bytes" => (k_here; (with_reducible show wpAny _ _ (PySem.call (Value.type "bytes") [Value.int _ _]) _ _ _); k_dflt (refine call_bytes_int (by kba_ints) (by kba_ints) ?_); (try dsimp only); (try k_sweep); (try k_fold))
  k_with "binaryOp Add bytes bytes" => (k_here; (with_reducible show wpAny _ _ (binaryOp Operator.Add (Value.bytes _ _) (Value.bytes _ _)) _ _ _); k_dflt (refine add_op (by kba_ints) (by kba_ints) (by kba_size) ?_); intro d9 t9 k9 q9; (try dsimp only); (try k_fold))
  k_with "call builtin:len" => (k_here; (with_reducible show wpAny _ _ (call (Value.builtin "len") [Value.bytes _ _]) _ _ _); k_dflt (refine len_op (by kba_ints) (by kba_size) ?_); intro n9 t9 k9 q9; (try simp only [List.length_append, pn_len, fsum_len, List.length_nil, List.length_replicate] at q9); (try dsimp only); (try k_fold))
  k_with "call ref" => (k_here; (with_reducible show wpAny _ _ (PySem.call (Value.ref 288) [Value.ref _]) _ _ _); k_dflt (refine' Con.use (pack2 _ _ _ _ _ _ _ _ _ _ _ _ _ _ _ _ _ _ _ _ ?q90c1 ?q90c2 ?q90c3 ?q90c4) ?q90k1 ?q90k2 ?q90k3 ?q90k4 ?q90k5 ?q90k6 ?q90k7 ?q90k8 ?_; (case q90k1 => k_asm); (case q90k2 => k_asm); (case q90k3 => k_asm); (case q90k4 => k_asm); (case q90k5 => k_asm); (case q90k6 => first | exact rfl | assumption); (case q90k7 => ktr_room); (case q90k8 => ktr_units); (case q90c1 => assumption); (case q90c2 => exact lt40 (by assumption)); (case q90c3 => assumption); (case q90c4 => assumption)); intro r9 n9 h9 tk9 hr9 F9 N9; obtain ⟨e9, b9, wl9, tk8, e8, q1, q2, q3⟩ := hr9; ((replace e9 := Eq.symm e9); subst e9); ((replace e8 := Eq.symm e8); subst e8); (try dsimp only at N9); (try dsimp only); (try k_sweep); (try k_fold))
  k_with "call ref" => (k_here; (with_reducible show wpAny _ _ (PySem.call (Value.ref 353) [Value.bytes _ _]) _ _ _); k_dflt (refine' ConS.use (read_turned _ _ _ _ _ _ _ _ ?q91c1 ?q91c2) ?q91k1 ?q91k2 ?q91k3 ?q91k4 ?q91k5 ?q91XB ?q91TB ?q91D ?q91T0 ?q91k6 ?q91k7 ?q91k8 ?_; (case q91c1 => assumption); (case q91c2 => assumption); (case q91k1 => k_asm); (case q91k2 => k_asm); (case q91k3 => k_asm); (case q91k4 => k_asm); (case q91k5 => k_asm); (case q91XB => assumption); (case q91TB => assumption); (case q91D => assumption); (case q91T0 => first | assumption | exact KtsTurn.refl); (case q91k6 => first | exact rfl | assumption); (case q91k7 => ktr_room); (case q91k8 => ktr_units)); intro r9 n9 h9 g9 tk9 hr9 T9 F9 N9 B9 X9 P9 D9; obtain ⟨e9, e8⟩ := hr9; ((replace e9 := Eq.symm e9); subst e9); ((replace e8 := Eq.symm e8); subst e8); (try k_lift B9); (try dsimp only); (try k_sweep); (try k_fold))
  k_with "call ref" => (k_here; (with_reducible show wpAny _ _ (PySem.call (Value.ref 353) [Value.bytes _ _]) _ _ _); k_dflt (refine' ConS.use (read_bent _ _ _ _ _ _ _ _ _ _ ?q92c1 ?q92c2 ?q92c3 ?q92c4 ?q92c5) ?q92k1 ?q92k2 ?q92k3 ?q92k4 ?q92k5 ?q92XB ?q92TB ?q92D ?q92T0 ?q92k6 ?q92k7 ?q92k8 ?_; (case q92c1 => assumption); (case q92c2 => assumption); (case q92c3 => assumption); (case q92c4 => omega); (case q92c5 => assumption); (case q92k1 => k_asm); (case q92k2 => k_asm); (case q92k3 => k_asm); (case q92k4 => k_asm); (case q92k5 => k_asm); (case q92XB => assumption); (case q92TB => assumption); (case q92D => assumption); (case q92T0 => first | assumption | exact KtsTurn.refl); (case q92k6 => first | exact rfl | assumption); (case q92k7 => ktr_room); (case q92k8 => ktr_units)); intro r9 n9 h9 g9 tk9 hr9 T9 F9 N9 B9 X9 P9 D9; obtain ⟨e9, e8⟩ := hr9; ((replace e9 := Eq.symm e9); subst e9); ((replace e8 := Eq.symm e8); subst e8); (try k_lift B9); (try dsimp only); (try k_sweep); (try k_fold))
  k_with "call ref" => (k_here; (with_reducible show wpAny _ _ (PySem.call (Value.ref 353) [Value.bytes _ _]) _ _ _); k_dflt (refine' ConS.use (read_whole _ _ _ _ _ _ _ _ ?q93c1 ?q93c2) ?q93k1 ?q93k2 ?q93k3 ?q93k4 ?q93k5 ?q93XB ?q93TB ?q93D ?q93T0 ?q93k6 ?q93k7 ?q93k8 ?_; (case q93c1 => assumption); (case q93c2 => assumption); (case q93k1 => k_asm); (case q93k2 => k_asm); (case q93k3 => k_asm); (case q93k4 => k_asm); (case q93k5 => k_asm); (case q93XB => assumption); (case q93TB => assumption); (case q93D => assumption); (case q93T0 => first | assumption | exact KtsTurn.refl); (case q93k6 => first | exact rfl | assumption); (case q93k7 => ktr_room); (case q93k8 => ktr_units)); intro r9 n9 h9 g9 tk9 hr9 T9 F9 N9 B9 X9 P9 D9; obtain ⟨e9, e8⟩ := hr9; ((replace e9 := Eq.symm e9); subst e9); ((replace e8 := Eq.symm e8); subst e8); (try k_lift B9); (try dsimp only); (try k_sweep); (try k_fold))
  k_with "subscriptTail" => (k_here; (with_reducible show wpAny _ _ (subscriptTail _ (Expr.Slice _ _ _ _) (Value.bytes _ _) (Value.ref _)) _ _ _); (with_reducible rename Fr _ _ _ _ => F'); (with_reducible rename News _ _ _ _ => N'); k_dflt (first | refine slice_head (s := ⟨_, _, _, _, _⟩) F' N' (by assumption) (by assumption) ?_ | refine slice_last (s := ⟨_, _, _, _, _⟩) F' N' (by assumption) (by assumption) ?_ | refine slice_upto (s := ⟨_, _, _, _, _⟩) F' N' (by assumption) (by assumption) (by omega) (by omega) ?_ | refine slice_from (s := ⟨_, _, _, _, _⟩) F' N' (by assumption) (by assumption) (by omega) (by omega) ?_ | refine rev_op (s := ⟨_, _, _, _, _⟩) F' N' (by assumption) (by simp_all) ?_); clear F' N'; intro d9 h9 t9 k9 F9 N9 q9; (try dsimp only); (try k_sweep); (try k_fold))
  k_with "call type:bytes" => (k_here; (with_reducible show wpAny _ _ (PySem.call (Value.type "bytes") [Value.ref _]) _ _ _); k_dflt (refine' bytes_one ?q95kF ?q95kN ?q95kh ?q95km ?q95k0 ?q95k1 ?_; (case q95kF => k_asm); (case q95kN => k_asm); (case q95kh => exact rfl); (case q95km => k_mem); (case q95k0 => exact xb_lo (by assumption)); (case q95k1 => exact xb_hi (by assumption) (by assumption) (by assumption))); intro d9 h9 t9 k9 F9 N9 q9; (try dsimp only); (try k_sweep); (try k_fold))
  k_with "compareOp NotEq int int" => (k_here; k_dflt (refine ne_known (pack_sum (by assumption) (by assumption)) ?_))
  k_with "compareOp Eq bytes bytes" => (k_here; k_dflt (refine eq_known (turn_eq (by assumption) (by assumption)) ?_))
  k_with "compareOp Eq bool bool" => (k_here; k_dflt (refine eqb_same ?_))
  unfold Con0
  intro dp un gd cn cs a ccd A₀ base h₀ L m s Q E B F X N T XB TB hk hd' hu hret
  refine wpAny_call ?_
  k_dflt (refine' code_defS0 ?k1 ?k2 ?k3 ?k4 ?k5 ?kA ?k6 ?k7 ?k8 ?k9 ?kB ?_ ?cK ?c2 ?c3 ?c4 ?c5; (case kA => exact rfl); (case k2 => k_asm); (case k1 => k_asm); (case k3 => k_asm); (case k4 => k_asm); (case k5 => k_asm); (case k6 => k_is); (case k7 => k_is); (case k8 => ktr_room); (case k9 => first | exact binds_K (by k_in) rfl (by k_is) rfl rfl rfl | exact BindsTo.of_eq rfl); (case kB => exact locs rfl); (case cK => first | exact rfl | assumption); (case c2 => exact rfl); (case c3 => exact rfl); (case c4 => exact rfl); (case c5 => decide); k_whole; intro g' L' h' FG' F' N' B' X' T' D'; (try dsimp only); (try k_lift B'); (try k_fold))
  k_steps
  refine' con_ret hret (n' := (src, L2 _ _ _ _ _) :: news) ⟨_, _, _, _, _, rfl, ?g2, ?g3, rfl⟩ ?gF (news_of ?gN ?gS)
  (case gF => assumption)
  (case gN => assumption)
  (case gS => kcf_all)
  (case g2 => assumption)
  (case g3 => assumption)
open PySem PySem.W PyProof.Rows PySem.Spec PySem.Calls PyProof.Rows.LCg
theorem aux_of {h : Heap} : ∀ {as : List Addr}, (∀ b ∈ as, ∃ o, h.get? b = some o) → ∃ aux : Led, aux.map (·.1) = as ∧ ∀ p ∈ aux, h.get? p.1 = some p.2
  | [], _ => ⟨[], rfl, fun _ hp => nomatch hp⟩
  | b :: as, H => by
    obtain ⟨o, ho⟩ := H b List.mem_cons_self
    obtain ⟨aux, h1, h2⟩ := aux_of (as := as) fun c hc => H c (List.mem_cons_of_mem _ hc)
    refine ⟨(b, o) :: aux, by simp [h1], fun p hp => ?_⟩
    rcases List.mem_cons.mp hp with rfl | hp
    · exact ho
    · exact h2 p hp
section
variable {prog : Program} {w : World} {A : Around} {E : Value → Shared → Prop} {s : Shared} {h₀ : Heap} {L : Addr} {m : Str → Option Value} {env : Env}
/-- the turn of a block over pairs of ints, its element an int -/
def PairTurn (prog : Program) (w : World) (A : Around) (h₀ : Heap) (L : Addr) (m : Str → Option Value) (env : Env) (elt : Expr) (a b : Str) (scope : Scope) (cl : List (Str × Addr)) (as : List Addr) (rows : List (Int × Int)) (g : Int → Int → Int) (news : Led) (s₂ : Shared) : Prop :=
  ∀ p q t u (aux : Led) I oI C oC D m₂ zs h tk (E' : Value → Shared → Prop), (p, q) ∈ rows → aux.map (·.1) = as → NsObj oC m₂ → m₂ a = some (.int p t) → m₂ b = some (.int q u) → Fr h₀ L h m → News h₀ L h ((I, oI) :: (C, oC) :: (D, lst zs) :: (aux ++ news)) →
    Off3 I C D (aux ++ news) → ((@Ne Nat I C) ∧ (@Ne Nat I D) ∧ (@Ne Nat C D)) →
      wpAny (model prog w) A (eval elt (compEnvC scope cl C env)) (CompEnd h₀ L m { s₂ with heap := h, toks := tk } I oI C oC D (lst zs) (fun _ => True) (fun yv news' => KCfEl (aux ++ news) (g p q) yv news')) E' { s₂ with heap := h, toks := tk }
theorem block_PK {elt iter : Expr} {a b : Str} {pa pb tp : Pos} {kk : Nat} {scope : Scope} {cl : List (Str × Addr)} {pos : Pos} {s₂ : Shared} {I : Addr} {as fp : List Addr} {n : Nat} {rows : List (Int × Int)} {Pt : Nat → Array Value → Prop} {St : Nat → Heap → Prop} {Mid : Nat → Addr → Heap → Prop} {news : Led} {g : Int → Int → Int}
    {RR : Value → Addr → Result → Shared → Prop}
    (W : WalksU prog w A I fp (I :: as) n Pt St Mid) (hh : A.handled = none) (hP : ∀ i vals, i < n → Pt i vals → ∃ p q t u, rows[i]? = some (p, q) ∧ vals = #[.int p t, .int q u]) (hrows : rows.length = n) (hsz : n ≤ sizeLine)
    (hIo : ∀ i h, St i h → ∀ c ∈ I :: as, ∃ o, h.get? c = some o) (hfp : ∀ c ∈ fp, c ∈ I :: as ∨ (∃ o, (c, o) ∈ news) ∨ ∃ o, h₀.get? c = some o)
    (hcell : ∀ y ∈ scope.names, y.2 ≠ .cell) (hkind : scope.kind = .function) (hxa : scope.names.lookup a = some .local) (hxb : scope.names.lookup b = some .local) (hab : ¬ a = b) (hst : St 0 s₂.heap) (hlt : ∀ c ∈ I :: as, c < s₂.heap.objs.size) (hnd : I ∉ as)
    (F : Fr h₀ L s₂.heap m) (N : News h₀ L s₂.heap news) (hIL : L ∉ I :: as) (hI₀ : ∀ c ∈ I :: as, h₀.get? c = none) (off : ∀ p ∈ news, p.1 ∉ I :: as)
    (turn : PairTurn prog w A h₀ L m env elt a b scope cl as rows g news s₂)
    (hRR : ∀ D C h tk m' ys, Fr h₀ L h m → News h₀ L h ((D, lst ys) :: news) → Off1 D news → h.Ns C m' → h₀.get? C = none → h₀.get? D = none → C ≠ L → D ≠ L → C ≠ D → (∀ p ∈ news, p.1 ≠ C) → IntsAre ys (rows.map fun r => g r.1 r.2) → RR (.ref D) C (.ok .next) { s₂ with heap := h, toks := tk }) :
    wpAny (model prog w) A (newList []) (fun acc s₃ => wpAny (model prog w) A (newFunctionEnv scope env.globals cl [] env.qual none .none (some env)) (fun cenv s₄ =>
      codeAny (model prog w) A (.compStart (.ListComp elt [⟨.Tuple [.Name a pa, .Name b pb] kk tp, iter, [], 0⟩] scope pos) 0 (.ref I) acc { cenv with scope := relabel scope env }) (RR acc cenv.locals) s₄) E s₃) E s₂ := by
  refine wpAny_newObj_type (wpAny_newFunctionEnv hcell (by intro y hy; simp at hy) (fun h₁ hns₁ hsb₁ => ?_) hkind)
  dsimp only at hns₁ hsb₁ ⊢
  generalize hH2 : s₂.heap.push { cls := .type "list", dict := none, data := .seq ([] : List Value).toArray } = H2 at hns₁ hsb₁ ⊢
  have hC : H2.objs.size = s₂.heap.objs.size + 1 := by rw [← hH2, Heap.size_push]
  have hDC : s₂.heap.objs.size ≠ H2.objs.size := by rw [hC]; exact Nat.ne_of_lt (Nat.lt_succ_self _)
  have below : ∀ b, b < s₂.heap.objs.size → b ≠ H2.objs.size ∧ b ≠ s₂.heap.objs.size := fun b hb => ⟨by rw [hC]; exact Nat.ne_of_lt (Nat.lt_succ_of_lt hb), Nat.ne_of_lt hb⟩
  have old : ∀ b o, s₂.heap.get? b = some o → h₁.get? b = some o := fun b o e => hsb₁.extBut b o (below b (Heap.lt_size e)).1 (Heap.get?_push_of_some _ (hH2 ▸ Heap.get?_push_of_some _ e))
  have hacc : h₁.get? s₂.heap.objs.size = some (lst []) := hsb₁.extBut _ _ hDC (Heap.get?_push_of_some _ (hH2 ▸ Heap.get?_push_size _ rfl))
  have hst₁ : St 0 h₁ := W.frame _ _ _ hst fun b _ o e => old b o e
  have fresh : ∀ a, s₂.heap.objs.size ≤ a → s₂.heap.get? a = none := fun a ha => by
    cases e : s₂.heap.get? a with
    | none => rfl
    | some o' => exact absurd (Heap.lt_size e) (Nat.not_lt.mpr ha)
  have fresh₀ : ∀ a, s₂.heap.objs.size ≤ a → h₀.get? a = none := fun a ha => by
    cases e : h₀.get? a with
    | none => rfl
    | some o' => have := F.keep a o' e; rw [fresh a ha] at this; cases this
  have hD₀ : h₀.get? s₂.heap.objs.size = none := fresh₀ _ (Nat.le_refl _)
  have hC₀ : h₀.get? H2.objs.size = none := fresh₀ _ (by rw [hC]; exact Nat.le_succ _)
  have hLlt : L < s₂.heap.objs.size := F.ns.lt
  have hDL : s₂.heap.objs.size ≠ L := Ne.symm (below L hLlt).2
  have hCL : H2.objs.size ≠ L := Ne.symm (below L hLlt).1
  have hCw : H2.objs.size ∉ I :: as := fun hm => (below _ (hlt _ hm)).1 rfl
  have hDw : s₂.heap.objs.size ∉ I :: as := fun hm => (below _ (hlt _ hm)).2 rfl
  have hnw : ∀ p ∈ news, p.1 ≠ H2.objs.size ∧ p.1 ≠ s₂.heap.objs.size := fun p hp => below _ (Heap.lt_size (N p hp).1)
  have loop : ∀ s₃ : Shared, s₃ = { s₂ with heap := h₁, toks := s₂.toks + ([] : List (Str × Value)).length } →
      codeAny (model prog w) A (.compLoop (.ListComp elt [⟨.Tuple [.Name a pa, .Name b pb] kk tp, iter, [], 0⟩] scope pos) 0 (.ref I) (.ref s₂.heap.objs.size) (compEnvC scope cl H2.objs.size env))
        (RR (.ref s₂.heap.objs.size) H2.objs.size) s₃ := by
    rintro s₃ rfl
    refine kcp_loop
      (fun k s' => ∃ h' tk i ys m', s' = { s₂ with heap := h', toks := tk } ∧ i ≤ n ∧ k = n + 1 - i ∧ IntsAre ys ((rows.take i).map fun r => g r.1 r.2) ∧ St i h' ∧ Fr h₀ L h' m ∧ h'.Ns H2.objs.size m' ∧ News h₀ L h' ((s₂.heap.objs.size, lst ys) :: news)) ?_ (n + 1)
      ⟨h₁, _, 0, [], _, rfl, Nat.zero_le _, rfl, by simpa using IntsAre.nil, hst₁, F.keeps old, hns₁, fun p hp => ?_⟩
    · rintro k s' ⟨h', tk, i, ys, m', rfl, hi, rfl, hys, hst', F', hn', N'⟩
      have frw : ∀ h₂ : Heap, (∀ b o, b ∉ I :: as → h'.get? b = some o → h₂.get? b = some o) → Fr h₀ L h₂ m ∧ News h₀ L h₂ ((s₂.heap.objs.size, lst ys) :: news) ∧ h₂.Ns H2.objs.size m' := fun h₂ hk => by
        refine ⟨⟨F'.ns.at' fun o e => hk _ o hIL e, fun c o e => hk c o (fun hm => by rw [hI₀ c hm] at e; cases e) (F'.keep c o e), F'.above⟩, fun p hp => ⟨hk _ _ ?_ (N' p hp).1, (N' p hp).2⟩, hn'.at' fun o e => hk _ o hCw e⟩
        rcases List.mem_cons.mp hp with rfl | hp
        · exact hDw
        · exact off p hp
      by_cases hil : i < n
      · refine W.item i _ _ _ hil hst' fun T vals h₂ tk₂ hPv hT hMd hk₂ => ?_
        obtain ⟨p, q, t, u, hr, rfl⟩ := hP i vals hil hPv
        refine W.go _ _ _ i T _ _ _ hMd fun h₃ hst₃ hk₃ => ?_
        have hT₃ : h₃.IsTuple T #[.int p t, .int q u] := hT.at fun o e => hk₃ T o (W.apart i T _ hMd) e
        have up₃ : ∀ c o, c ∉ I :: as → h'.get? c = some o → h₃.get? c = some o := fun c o hc e => hk₃ c o hc (hk₂ c o hc e)
        obtain ⟨F₃, N₃, hn₃⟩ := frw h₃ up₃
        refine kcp_assign (env := compEnvC scope cl H2.objs.size env) hh hT₃ (lookup_relabel_local hxa) (lookup_relabel_local hxb) (by simp [compEnvC, relabel, hkind]) hn₃ fun h₄ tk₄ hn₄ hs₄ => ?_
        obtain ⟨oC, heC, hoC⟩ := ns_obj hn₄
        have hst₄ : St (i + 1) h₄ := W.frame _ _ _ hst₃ fun c hc o e => hs₄ c o (fun z => by
          have z : c = H2.objs.size := z
          rcases hfp c hc with z1 | ⟨o', z1⟩ | ⟨o', z1⟩
          · exact hCw (z ▸ z1)
          · exact (hnw _ z1).1 z
          · rw [z] at z1
            have z2 : h₀.get? H2.objs.size = some o' := z1
            rw [hC₀] at z2; cases z2) e
        obtain ⟨oI, heI⟩ := hIo _ _ hst₄ I List.mem_cons_self
        obtain ⟨aux, ha1, ha2⟩ := aux_of (h := h₄) (as := as) fun c hc => hIo _ _ hst₄ c (List.mem_cons_of_mem _ hc)
        have hax : ∀ p ∈ aux, p.1 ∈ as := fun p hp => ha1 ▸ List.mem_map_of_mem hp
        have F₄ : Fr h₀ L h₄ m := ⟨F₃.ns.at' fun o e => hs₄ _ o (Ne.symm hCL) e, fun c o e => hs₄ c o (fun z => by
          rw [z] at e
          have z2 : h₀.get? H2.objs.size = some o := e
          rw [hC₀] at z2; cases z2) (F₃.keep c o e), F₃.above⟩
        have N₄ : News h₀ L h₄ ((I, oI) :: (H2.objs.size, oC) :: (s₂.heap.objs.size, lst ys) :: (aux ++ news)) := fun r hr => by
          rcases List.mem_cons.mp hr with rfl | hr
          · exact ⟨heI, fun z => hIL (z ▸ List.mem_cons_self), hI₀ I List.mem_cons_self⟩
          rcases List.mem_cons.mp hr with rfl | hr
          · exact ⟨heC, hCL, hC₀⟩
          rcases List.mem_cons.mp hr with rfl | hr
          · have z := N₃ (s₂.heap.objs.size, lst ys) (.head _)
            exact ⟨hs₄ _ _ hDC z.1, z.2⟩
          rcases List.mem_append.mp hr with hr | hr
          · have z := hax r hr
            exact ⟨ha2 r hr, fun y => hIL (y ▸ List.mem_cons_of_mem _ z), hI₀ _ (List.mem_cons_of_mem _ z)⟩
          · have z := N₃ r (.tail _ hr)
            exact ⟨hs₄ _ _ (hnw r hr).1 z.1, z.2⟩
        have off4 : Off3 I H2.objs.size s₂.heap.objs.size (aux ++ news) := Off3.of fun r hr => by
          rcases List.mem_append.mp hr with hr | hr
          · have z := hax r hr
            exact ⟨fun y => hnd (y ▸ z), fun y => hCw (y ▸ List.mem_cons_of_mem _ z), fun y => hDw (y ▸ List.mem_cons_of_mem _ z)⟩
          · exact ⟨fun y => off r hr (y ▸ List.mem_cons_self), (hnw r hr).1, (hnw r hr).2⟩
        have hCI : I ≠ H2.objs.size := fun z => hCw (z ▸ List.mem_cons_self)
        have hDI : I ≠ s₂.heap.objs.size := fun z => hDw (z ▸ List.mem_cons_self)
        refine wpAny_mono (turn p q t u aux I oI H2.objs.size oC s₂.heap.objs.size _ ys h₄ _ _ (List.mem_of_getElem? hr) ha1 hoC (by simp [hab]) (by simp) F₄ N₄ off4 ⟨hCI, hDI, Ne.symm hDC⟩) (fun yv s₅ h₅ => ?_) fun _ _ e => e
        obtain ⟨h₅, tk₅, news₅, rfl, F₅, N₅, off₅, _, rfl, t₅, rfl⟩ := h₅
        have zC := (N₅ (H2.objs.size, oC) (.tail _ (.head _))).1
        have zD := (N₅ (s₂.heap.objs.size, lst ys) (.tail _ (.tail _ (.head _)))).1
        have hyl : ys.length = i := by rw [hys.length, List.length_map, List.length_take]; omega
        refine append_at (hsz := by show ys.toArray.size ≤ sizeLine; rw [List.size_toArray, hyl]; exact Nat.le_trans hi hsz) zD fun h₆ hs₆ hD₆ => ?_
        refine ⟨n + 1 - (i + 1), by omega, h₆, tk₅, i + 1, ys ++ [.int (g p q) t₅], _, rfl, hil, rfl, ?_, W.frame _ _ _ hst₄ fun c hc o e => hs₆.extBut c o (fun z => ?_) ?_, F₅.change hs₆ hDL hD₀, (hoC.ns zC).sameBut hs₆ (Ne.symm hDC), fun r hr => ?_⟩
        · rw [List.take_add_one, hr]
          simpa using IntsAre.append hys (.cons (g p q) t₅ .nil)
        · rcases hfp c hc with z1 | ⟨o', z1⟩ | ⟨o', z1⟩
          · exact hDw (z ▸ z1)
          · exact (hnw _ z1).2 z
          · rw [z] at z1
            have z2 : h₀.get? s₂.heap.objs.size = some o' := z1
            rw [hD₀] at z2; cases z2
        · rcases hfp c hc with z1 | ⟨o', z1⟩ | ⟨o', z1⟩
          · rcases List.mem_cons.mp z1 with rfl | z1
            · rw [heI] at e; cases e
              exact (N₅ (c, _) (.head _)).1
            · obtain ⟨r, hr, z2⟩ : ∃ r ∈ aux, r.1 = c := List.mem_map.mp (ha1 ▸ z1)
              have z3 := ha2 r hr
              rw [z2, e] at z3; cases z3
              have z4 := (N₅ r (.tail _ (.tail _ (.tail _ (List.mem_append_left _ hr))))).1
              rw [z2] at z4; exact z4
          · have z3 := (N₄ (c, o') (.tail _ (.tail _ (.tail _ (List.mem_append_right _ z1))))).1
            have z3' : h₄.get? c = some o' := z3
            rw [e] at z3'; cases z3'
            exact (N₅ (c, o) (.tail _ (.tail _ (.tail _ (List.mem_append_right _ z1))))).1
          · have z3 := F₄.keep _ _ z1
            rw [e] at z3; cases z3
            exact F₅.keep _ _ z1
        · rcases List.mem_cons.mp hr with rfl | hr
          · exact ⟨hD₆.trans (congrArg some (lst_snoc ys _)), hDL, hD₀⟩
          · have z := N₅ r (.tail _ (.tail _ (.tail _ (List.mem_append_right _ hr))))
            exact ⟨hs₆.extBut _ _ (hnw r hr).2 z.1, z.2⟩
      · obtain rfl : i = n := Nat.le_antisymm hi (Nat.not_lt.mp hil)
        refine W.done _ _ _ hst' fun h₂ tk₂ hk₂ => ?_
        obtain ⟨F₂, N₂, hn₂⟩ := frw h₂ hk₂
        rw [List.take_of_length_le (Nat.le_of_eq hrows)] at hys
        exact hRR _ _ h₂ tk₂ _ ys F₂ N₂ (by
          have : Off3 H2.objs.size H2.objs.size s₂.heap.objs.size news := Off3.of fun p hp => ⟨(hnw p hp).1, (hnw p hp).1, (hnw p hp).2⟩
          exact this.one) hn₂ hC₀ hD₀ hCL hDL (Ne.symm hDC) (fun p hp => (hnw p hp).1) hys
    · rcases List.mem_cons.mp hp with rfl | hp
      · exact ⟨hacc, hDL, hD₀⟩
      · exact ⟨old _ _ (N p hp).1, (N p hp).2⟩
  exact codeAny_compStart_list (loop _ rfl) (W.self 0 _ _ _ hst₁ (loop _ rfl))
def PairSrc (prog : Program) (w : World) (A : Around) (h₀ : Heap) (L : Addr) (m : Str → Option Value) (env : Env) (elt : Expr) (a b : Str) (scope : Scope) (cl : List (Str × Addr)) (Fin : Shared → List Value → Led → Prop) (xv : Value) (s₁ : Shared) : Prop :=
  ∃ (I : Addr) (as fp : List Addr) (n : Nat) (rows : List (Int × Int)) (Pt : Nat → Array Value → Prop) (St : Nat → Heap → Prop) (Mid : Nat → Addr → Heap → Prop) (news : Led) (g : Int → Int → Int),
    xv = .ref I ∧ WalksU prog w A I fp (I :: as) n Pt St Mid ∧ A.handled = none ∧ (∀ i vals, i < n → Pt i vals → ∃ p q t u, rows[i]? = some (p, q) ∧ vals = #[.int p t, .int q u]) ∧ rows.length = n ∧ n ≤ sizeLine ∧
    (∀ i h, St i h → ∀ c ∈ I :: as, ∃ o, h.get? c = some o) ∧ (∀ c ∈ fp, c ∈ I :: as ∨ (∃ o, (c, o) ∈ news) ∨ ∃ o, h₀.get? c = some o) ∧ St 0 s₁.heap ∧ (∀ c ∈ I :: as, c < s₁.heap.objs.size) ∧ I ∉ as ∧
    Fr h₀ L s₁.heap m ∧ News h₀ L s₁.heap news ∧ L ∉ I :: as ∧ (∀ c ∈ I :: as, h₀.get? c = none) ∧ (∀ p ∈ news, p.1 ∉ I :: as) ∧ PairTurn prog w A h₀ L m env elt a b scope cl as rows g news s₁ ∧
    ∀ ys, IntsAre ys (rows.map fun r => g r.1 r.2) → Fin s₁ ys news
theorem ListComp_PK {elt iter : Expr} {a b : Str} {pa pb tp : Pos} {kk : Nat} {scope : Scope} {cl : List (Str × Addr)} {pos : Pos} {Q : Value → Shared → Prop} (F₀ : Fr h₀ L s.heap m)
    (hclos : closureFor scope env = pure cl) (hcell : ∀ y ∈ scope.names, y.2 ≠ .cell) (hkind : scope.kind = .function)
    (hnames : ∀ y ∈ scope.names, y.2 = .local → scope.names.lookup y.1 = some .local) (hxa : scope.names.lookup a = some .local) (hxb : scope.names.lookup b = some .local) (hab : ¬ a = b)
    (h : wpAny (model prog w) A (eval iter env) (PairSrc prog w A h₀ L m env elt a b scope cl (fun s₂ => FinE h₀ L m s₂ Q)) E s)
    (hs : ∀ x, foldedSetIterable iter env x = pure x) :
    wpAny (model prog w) A (eval (.ListComp elt [⟨.Tuple [.Name a pa, .Name b pb] kk tp, iter, [], 0⟩] scope pos) env) Q E s := by
  rw [eval_ListComp]
  refine wpAny_comprehension_free (use := none) rfl hs hclos hkind hnames (wpAny_mono h (fun xv s₁ h₁ => ?_) fun _ _ e => e)
  obtain ⟨I, as, fp, n, rows, Pt, St, Mid, news, g, rfl, W, hh, hP, hrows, hsz, hIo, hfp, hst, hlt, hnd, F, N, hIL, hI₀, off, turn, fin⟩ := h₁
  refine W.self 0 _ _ _ hst ?_
  refine block_PK W hh hP hrows hsz hIo hfp hcell hkind hxa hxb hab hst hlt hnd F N hIL hI₀ off turn ?_
  intro D C h tk m' ys F' N' o1 hn hC₀ hD₀ hCL hDL hCD offC hys
  refine ⟨m', hn, fun h'' hs'' => fin ys hys D h'' tk (F'.change hs'' hCL hC₀) (fun p hp => ?_) o1⟩
  refine ⟨hs''.extBut _ _ ?_ (N' p hp).1, (N' p hp).2⟩
  rcases List.mem_cons.mp hp with rfl | hp
  · exact Ne.symm hCD
  · exact offC p hp
theorem Assign_ListComp_PK {elt iter : Expr} {a b y : Str} {pa pb tp py : Pos} {kk : Nat} {scope : Scope} {cl : List (Str × Addr)} {pos spos : Pos} {Q : Flow → Shared → Prop} (F₀ : Fr h₀ L s.heap m) (hLe : env.locals = L)
    (hsw : swapsWith (.ListComp elt [⟨.Tuple [.Name a pa, .Name b pb] kk tp, iter, [], 0⟩] scope pos) (some (.Name y py)) spos.line env = pure true)
    (hclos : closureFor scope env = pure cl) (hcell : ∀ z ∈ scope.names, z.2 ≠ .cell) (hkind : scope.kind = .function)
    (hnames : ∀ z ∈ scope.names, z.2 = .local → scope.names.lookup z.1 = some .local) (hxa : scope.names.lookup a = some .local) (hxb : scope.names.lookup b = some .local) (hab : ¬ a = b)
    (hy : env.kindOf y = some .local) (hp : (env.scope.kind == .class || (env.scope.kind == .module && env.locals != env.globals)) = false)
    (h : wpAny (model prog w) A (eval iter env) (PairSrc prog w A h₀ L m env elt a b scope cl (fun s₂ => FinA h₀ L m s₂ y Q)) E s)
    (hs : ∀ x, foldedSetIterable iter env x = pure x) :
    wpAny (model prog w) A (exec (.Assign [.Name y py] (.ListComp elt [⟨.Tuple [.Name a pa, .Name b pb] kk tp, iter, [], 0⟩] scope pos) spos) env) Q E s := by
  subst hLe
  rw [exec_Assign_Name_used _ _ _ _ hsw]
  refine wpAny_bind (wpAny_standAt (wpAny_bind ?_))
  show wpAny _ A (do let _ ← comprehension (.ListComp elt [⟨.Tuple [.Name a pa, .Name b pb] kk tp, iter, [], 0⟩] scope pos) scope env _ (newList []) false (eval iter env) (some (assign (.Name y py) env))) _ _ s
  refine wpAny_bind (wpAny_mono (wpAny_comprehension_free (use := some (assign (.Name y py) env)) (Q := fun _ s' => Q .next s') rfl hs hclos hkind hnames
    (wpAny_mono h (fun xv s₁ h₁ => ?_) fun _ _ e => e)) (fun _ s' hq => wpAny_pure (wpAny_pure hq)) fun _ _ e => e)
  obtain ⟨I, as, fp, n, rows, Pt, St, Mid, news, g, rfl, W, hh, hP, hrows, hsz, hIo, hfp, hst, hlt, hnd, F, N, hIL, hI₀, off, turn, fin⟩ := h₁
  refine W.self 0 _ _ _ hst ?_
  refine block_PK W hh hP hrows hsz hIo hfp hcell hkind hxa hxb hab hst hlt hnd F N hIL hI₀ off turn ?_
  intro D C h' tk m' ys F' N' o1 hn hC₀ hD₀ hCL hDL hCD offC hys
  show wpAny _ A (assign (.Name y py) env (.ref D)) _ _ _
  refine wpAny_assign_Name (wpAny_storeName_local hy F'.ns (fun h₂ hn₂ hs₂ => ?_) hp)
  have hL₀ : h₀.get? env.locals = none := Heap.get?_none_of_le F'.above
  have F₂ : Fr h₀ env.locals h₂ (fun z => if z = y then some (.ref D) else m z) := ⟨hn₂, fun b o e => hs₂.extBut b o (fun q => by rw [q, hL₀] at e; cases e) (F'.keep b o e), F'.above⟩
  refine ⟨m', hn.sameBut hs₂ hCL, fun h'' hs'' => fin ys hys D h'' _ (F₂.change hs'' hCL hC₀) (fun p hp => ?_) o1⟩
  have z : h₂.get? p.1 = some p.2 := hs₂.extBut _ _ (N' p hp).2.1 (N' p hp).1
  refine ⟨hs''.extBut _ _ ?_ z, (N' p hp).2⟩
  rcases List.mem_cons.mp hp with rfl | hp
  · exact Ne.symm hCD
  · exact offC p hp
end
open PySem PySem.W PyProof.Rows PySem.Spec PySem.Calls PyProof.Rows.LCg
def enumL (g : Int → Int → Int) (ns : List Int) : List Int := ((rangeKs 0 ns.length).zip ns).map fun r => g r.1 r.2
theorem ints_get {vs : List Value} {ns : List Int} (hi : IntsAre vs ns) {i : Nat} {x : Value} (hx : vs[i]? = some x) : ∃ q t, x = .int q t ∧ ns[i]? = some q := by
  obtain ⟨k, t, e, hk⟩ := IntsAre.at hi i x hx
  exact ⟨k, t, e, hk⟩
section
variable {prog : Program} {w : World} {A : Around} {E : Value → Shared → Prop} {s : Shared} {h₀ : Heap} {L : Addr} {m : Str → Option Value} {env : Env}
theorem enum_src {elt : Expr} {a b : Str} {scope : Scope} {cl : List (Str × Addr)} {Fin : Shared → List Value → Led → Prop} {l : Addr} {k : Nat} {vs : List Value} {ns : List Int} {news : Led}
    (g : Int → Int → Int) (hh : A.handled = none) (F : Fr h₀ L s.heap m) (N : News h₀ L s.heap news) (hm : (l, ({ cls := .type "list", data := .seq vs.toArray k } : Obj)) ∈ news) (hi : IntsAre vs ns) {n : Nat} (hnn : ns.length = n) (hsz : n ≤ 1000)
    (turn : ∀ p q t u J oJ I oI C oC D m₂ zs h tk (E' : Value → Shared → Prop), 0 ≤ p → p < (n : Int) → q ∈ ns → NsObj oC m₂ → m₂ a = some (.int p t) → m₂ b = some (.int q u) → Fr h₀ L h m → News h₀ L h ((I, oI) :: (C, oC) :: (D, lst zs) :: (J, oJ) :: news) →
      Off3 I C D ((J, oJ) :: news) → ((@Ne Nat I C) ∧ (@Ne Nat I D) ∧ (@Ne Nat C D)) →
      wpAny (model prog w) A (eval elt (compEnvC scope cl C env)) (CompEnd h₀ L m { s with heap := h, toks := tk } I oI C oC D (lst zs) (fun _ => True) (fun yv news' => KCfEl ((J, oJ) :: news) (g p q) yv news')) E' { s with heap := h, toks := tk })
    (fin : ∀ h' ys, IntsAre ys (enumL g ns) → Fin { s with heap := h' } ys news) :
    wpAny (model prog w) A (call (.type "enumerate") [.ref l]) (PairSrc prog w A h₀ L m env elt a b scope cl Fin) E s := by
  have hl : s.heap.IsList l vs.toArray := News.isList N hm
  have hlt : l < s.heap.objs.size := by obtain ⟨_, e, _⟩ := hl; exact Heap.lt_size e
  have hvl := hi.length
  refine call_enumerate_list hl fun h' hE hI hs hk => ?_
  have W := (WalksT.enumerate (prog := prog) (w := w) hh (s.heap.objs.size + 1) s.heap.objs.size l (Nat.succ_ne_self _) (Nat.ne_of_lt (Nat.lt_succ_of_lt hlt)) (Nat.ne_of_lt hlt) vs.toArray).toU.bound
  have fresh₀ : ∀ a, s.heap.objs.size ≤ a → h₀.get? a = none := fun a ha => by
    cases e : h₀.get? a with
    | none => rfl
    | some o' => exact absurd (Heap.lt_size (F.keep a o' e)) (Nat.not_lt.mpr ha)
  have two : ∀ c, c ∈ [s.heap.objs.size + 1, s.heap.objs.size] → c = s.heap.objs.size + 1 ∨ c = s.heap.objs.size := fun c hc => by simpa using hc
  refine ⟨s.heap.objs.size + 1, [s.heap.objs.size], [s.heap.objs.size + 1, s.heap.objs.size, l], vs.toArray.size, (rangeKs 0 ns.length).zip ns, _, _, _, news, g, rfl, W, hh, ?_, ?_, ?_, ?_, ?_, ?_, ?_, ?_, F.keeps hk, N.grown hk, ?_, ?_, ?_, ?_, fin h'⟩
  · rintro i vals hi' ⟨hi2, t, x, hx, rfl⟩
    obtain ⟨q, u, rfl, hq⟩ := ints_get hi (by simpa using hx)
    have hin : i < ns.length := by rw [List.size_toArray] at hi'; omega
    refine ⟨(i : Int), q, t, u, ?_, rfl⟩
    have hk : (rangeKs 0 ns.length)[i]? = some ((0 : Int) + (i : Int)) := by simp [rangeKs, hin]
    rw [List.getElem?_zip_eq_some]
    exact ⟨by rw [hk]; simp, hq⟩
  · rw [List.length_zip, rangeKs_length, List.size_toArray]; omega
  · rw [List.size_toArray, PySem.sizeLine_eq]; omega
  · rintro i h ⟨⟨old, he⟩, ⟨o, ho, _⟩, _⟩ c hc
    rcases two c hc with rfl | rfl
    · exact ⟨_, he⟩
    · exact ⟨o, ho⟩
  · intro c hc
    simp only [List.mem_cons, List.not_mem_nil, or_false] at hc
    rcases hc with rfl | rfl | rfl
    · exact .inl (by simp)
    · exact .inl (by simp)
    · exact .inr (.inl ⟨_, hm⟩)
  · refine ⟨⟨_, hE⟩, hI, ?_⟩
    exact hl.at fun o e => hk _ o e
  · intro c hc
    show c < h'.objs.size
    rw [hs]
    rcases two c hc with rfl | rfl
    · exact Nat.lt_succ_self _
    · exact Nat.lt_succ_of_lt (Nat.lt_succ_self _)
  · simp
  · intro hc
    have := F.ns.lt
    rcases two L hc with e | e
    · rw [e] at this; exact absurd this (Nat.not_lt.mpr (Nat.le_succ _))
    · rw [e] at this; exact Nat.lt_irrefl _ this
  · intro c hc
    rcases two c hc with rfl | rfl
    · exact fresh₀ _ (by omega)
    · exact fresh₀ _ (Nat.le_refl _)
  · intro p hp hc
    have := Heap.lt_size (N p hp).1
    rcases two p.1 hc with e | e
    · rw [e] at this; exact absurd this (Nat.not_lt.mpr (Nat.le_succ _))
    · rw [e] at this; exact Nat.lt_irrefl _ this
  · intro p q t u aux I oI C oC D m₂ zs h tk E' hr ha hC hx hy F' N' off ne
    obtain ⟨⟨J, oJ⟩, rfl⟩ : ∃ z, aux = [z] := by
      match aux, ha with
      | [z], _ => exact ⟨z, rfl⟩
      | [], h => simp at h
      | _ :: _ :: _, h => simp at h
    have hp := mem_rangeKs (List.of_mem_zip hr).1
    exact turn p q t u J oJ I oI C oC D m₂ zs h tk E' hp.1 (by have := hp.2; omega) (List.of_mem_zip hr).2 hC hx hy F' N' off ne
end
open PySem PySem.W PyProof.Rows PySem.Spec PySem.Calls PyProof.Rows.LCg
section
variable {prog : Program} {w : World} {A : Around} {E : Value → Shared → Prop} {s : Shared} {h₀ : Heap} {L : Addr} {m : Str → Option Value} {env : Env}
theorem Assign_ListComp_W {elt iter : Expr} {x y : Str} {px py : Pos} {scope : Scope} {cl : List (Str × Addr)} {pos spos : Pos} {Q : Flow → Shared → Prop} (F₀ : Fr h₀ L s.heap m) (hLe : env.locals = L)
    (hsw : swapsWith (.ListComp elt [⟨.Name x px, iter, [], 0⟩] scope pos) (some (.Name y py)) spos.line env = pure true)
    (hclos : closureFor scope env = pure cl) (hcell : ∀ z ∈ scope.names, z.2 ≠ .cell) (hkind : scope.kind = .function)
    (hnames : ∀ z ∈ scope.names, z.2 = .local → scope.names.lookup z.1 = some .local) (hx : scope.names.lookup x = some .local)
    (hy : env.kindOf y = some .local) (hp : (env.scope.kind == .class || (env.scope.kind == .module && env.locals != env.globals)) = false)
    (h : wpAny (model prog w) A (eval iter env) (WSrc prog w A h₀ L m env elt x scope cl (fun s₂ => FinA h₀ L m s₂ y Q)) E s)
    (hs : ∀ x, foldedSetIterable iter env x = pure x) :
    wpAny (model prog w) A (exec (.Assign [.Name y py] (.ListComp elt [⟨.Name x px, iter, [], 0⟩] scope pos) spos) env) Q E s := by
  subst hLe
  rw [exec_Assign_Name_used _ _ _ _ hsw]
  refine wpAny_bind (wpAny_standAt (wpAny_bind ?_))
  show wpAny _ A (do let _ ← comprehension (.ListComp elt [⟨.Name x px, iter, [], 0⟩] scope pos) scope env _ (newList []) false (eval iter env) (some (assign (.Name y py) env))) _ _ s
  refine wpAny_bind (wpAny_mono (wpAny_comprehension_free (use := some (assign (.Name y py) env)) (Q := fun _ s' => Q .next s') rfl hs hclos hkind hnames
    (wpAny_mono h (fun xv s₁ h₁ => ?_) fun _ _ e => e)) (fun _ s' hq => wpAny_pure (wpAny_pure hq)) fun _ _ e => e)
  obtain ⟨io, n, P, St, news, hh, F, N, hfree, hit, W, hIo, hSt, hst, hsz, R⟩ := h₁
  refine hit _ _ ?_
  have up : ∀ b o, s₁.heap.get? b = some o → (s₁.heap.push io).get? b = some o := fun b o e => Heap.get?_push_of_some _ e
  refine block_U W hsz hIo (fun i h h' o nw a b c _ _ _ => hSt i h h' o a b c) hcell hkind hx hst (fun b hb => ?_) (F.keeps up) (N.grown up) (Nat.ne_of_lt F.ns.lt) (next_is_new F) (fun p hp => Nat.ne_of_lt (Heap.lt_size (N p hp).1)) trivial (R _ ⟨_, rfl⟩) ?_
  · rw [List.mem_singleton.mp hb]
    show s₁.heap.objs.size < (s₁.heap.push _).objs.size
    rw [Heap.size_push]; exact Nat.lt_succ_self _
  · intro D C h' tk m' ys news' F' N' o1 hn hC₀ hD₀ hCL hDL hCD offC fin
    show wpAny _ A (assign (.Name y py) env (.ref D)) _ _ _
    refine wpAny_assign_Name (wpAny_storeName_local hy F'.ns (fun h₂ hn₂ hs₂ => ?_) hp)
    have hL₀ : h₀.get? env.locals = none := Heap.get?_none_of_le F'.above
    have F₂ : Fr h₀ env.locals h₂ (fun z => if z = y then some (.ref D) else m z) := ⟨hn₂, fun b o e => hs₂.extBut b o (fun q => by rw [q, hL₀] at e; cases e) (F'.keep b o e), F'.above⟩
    refine ⟨m', hn.sameBut hs₂ hCL, fun h'' hs'' => fin D h'' _ (F₂.change hs'' hCL hC₀) (fun p hp => ?_) o1⟩
    have z : h₂.get? p.1 = some p.2 := hs₂.extBut _ _ (N' p hp).2.1 (N' p hp).1
    refine ⟨hs''.extBut _ _ ?_ z, (N' p hp).2⟩
    rcases List.mem_cons.mp hp with rfl | hp
    · exact Ne.symm hCD
    · exact offC p hp
theorem sign_rest {elt : Expr} {xn : Str} {scope : Scope} {cl : List (Str × Addr)} {Fin : List Value → Led → Prop} {x : Str} {news : Led} (ks : List Int) (hx : ∀ (i c : Nat), x.cps[i]? = some c → ∃ k, ks[i]? = some k ∧ PySem.intText? ⟨#[c]⟩ = some k)
    (turn : ∀ z k t I oI C oC D m₂ ys h tk (E' : Value → Shared → Prop), PySem.intText? z = some k → z.length ≤ 640 → NsObj oC m₂ → m₂ xn = some (.str z t) → Fr h₀ L h m → News h₀ L h ((I, oI) :: (C, oC) :: (D, lst ys) :: news) → Off3 I C D news → ((@Ne Nat I C) ∧ (@Ne Nat I D) ∧ (@Ne Nat C D)) →
      wpAny (model prog w) A (eval elt (compEnvC scope cl C env)) (CompEnd h₀ L m { s with heap := h, toks := tk } I oI C oC D (lst ys) (fun _ => True) (fun y news' => KCfEl news k y news')) E' { s with heap := h, toks := tk })
    (fin : ∀ ys, IntsAre ys ks → Fin ys news) : ∀ n i ys, i + n = ks.length → IntsAre ys (ks.take i) → CompRest prog w A h₀ L m env elt xn scope cl s (fun _ => True) (SignAt x) Fin n i ys news := by
  intro n
  induction n with
  | zero =>
    intro i ys hi hy
    rw [List.take_of_length_le (by omega)] at hy
    exact CompRest.zero (fin ys hy)
  | succ n ih =>
    intro i ys hi hy
    refine CompRest.succ fun v I oI C oC D m₂ h tk E' hv hC hxm F N off ne => ?_
    obtain ⟨c, u, hc, rfl⟩ := hv
    obtain ⟨k, hk, hz⟩ := hx i c hc
    refine wpAny_mono (turn _ k u I oI C oC D m₂ ys h tk E' hz (by show (1 : Nat) ≤ 640; decide) hC hxm F N off ne) (fun y s₂ hq => ?_) fun _ _ e => e
    obtain ⟨h', tk', nw, e, F', N', off', hS, rfl, t', rfl⟩ := hq
    refine ⟨h', tk', _, e, F', N', off', hS, ih (i + 1) _ (by omega) ?_⟩
    rw [List.take_add_one, hk]
    simpa using IntsAre.append hy (.cons k t' .nil)
theorem wsrc_str {elt : Expr} {xn : Str} {scope : Scope} {cl : List (Str × Addr)} {Fin : Shared → List Value → Led → Prop} {x : Str} {t : Tok} {news : Led} {s₁ : Shared} (ks : List Int)
    (hh : A.handled = none) (F : Fr h₀ L s₁.heap m) (N : News h₀ L s₁.heap news) (ha : x.cps.all (· < 128) = true) (hsz : x.cps.size ≤ sizeLine) (hl : x.cps.size = ks.length)
    (hx : ∀ (i c : Nat), x.cps[i]? = some c → ∃ k, ks[i]? = some k ∧ PySem.intText? ⟨#[c]⟩ = some k)
    (turn : ∀ z k t I oI C oC D m₂ ys h tk (E' : Value → Shared → Prop), PySem.intText? z = some k → z.length ≤ 640 → NsObj oC m₂ → m₂ xn = some (.str z t) → Fr h₀ L h m → News h₀ L h ((I, oI) :: (C, oC) :: (D, lst ys) :: news) → Off3 I C D news → ((@Ne Nat I C) ∧ (@Ne Nat I D) ∧ (@Ne Nat C D)) →
      wpAny (model prog w) A (eval elt (compEnvC scope cl C env)) (CompEnd h₀ L m { s₁ with heap := h, toks := tk } I oI C oC D (lst ys) (fun _ => True) (fun y news' => KCfEl news k y news')) E' { s₁ with heap := h, toks := tk })
    (fin : ∀ g ys, IntsAre ys ks → Fin { s₁ with heap := g } ys news) :
    WSrc prog w A h₀ L m env elt xn scope cl Fin (.str x t) s₁ := by
  refine ⟨_, x.cps.size, _, _, news, hh, F, N, rfl, fun Q E hQ => wpAny_pyIter_ascii ha hQ, Walks.strAscii hh s₁.heap.objs.size x t, fun i h st => let ⟨o, e, _⟩ := st; ⟨o, e⟩, fun i h h' o st e e' => ?_, ⟨_, Heap.get?_push_size _ rfl, rfl, rfl⟩, hsz, fun s₂ ⟨g, e⟩ => e ▸ ?_⟩
  · obtain ⟨o', q, r⟩ := st
    rw [e] at q
    cases q
    exact ⟨o, e', r⟩
  · exact sign_rest (s := { s₁ with heap := g }) ks hx turn (fin g) x.cps.size 0 [] (by omega) .nil
/-- a loop over a range, one by one, by an invariant -/
theorem iterRange_inv {x : Str} {body : List Stmt} {Q : Flow → Shared → Prop} {r : Addr} {n : Nat} {b : Int} {t u v : Tok} {m₀ : Str → Option Value} {news : Led} (J : Nat → (Str → Option Value) → Led → Prop)
    (hh : A.handled = none) (hr : IsRange s.heap r 0 b 1 t u v) (hb : b = (n : Int)) (hn : n ≤ 1000000) (F : Fr h₀ env.locals s.heap m₀) (N : News h₀ env.locals s.heap news) (hj : J 0 m₀ news)
    (turn : ∀ (i : Nat) t m₁ nx h tk own, i < n → OwnOff own (news.map (·.1)) → J i m₁ nx → Fr h₀ env.locals h (fun z => if z = x then some (.int (i : Int) t) else m₁ z) → News h₀ env.locals h (nx ++ own) →
      wpAny (model prog w) A (execs body env) (InvPostN h₀ env.locals (J (i + 1)) own (news.map (·.1)) { s with heap := h, toks := tk } Q) E { s with heap := h, toks := tk })
    (done : ∀ m₁ nx h tk, J n m₁ nx → Fr h₀ env.locals h m₁ → News h₀ env.locals h nx → Q .next { s with heap := h, toks := tk }) :
    wpAny (model prog w) A (pyIter (.ref r)) (fun it s₂ => LoopAtV prog w A h₀ env x body Q E it s₂) E s := by
  subst hb
  have hsm : Builtin.Range.small 0 (n : Int) 1 = true := small_one (by omega) (by omega) (by omega) (by omega)
  have hrs : Builtin.Range.rangeSize 0 (n : Int) 1 = ((n : Nat) : Int) := by
    have := rangeSize_nat 0 (n : Int)
    rw [this]; omega
  refine wpAny_pyIter_range hr hsm ?_
  have W := range_walks (prog := prog) (w := w) (I := s.heap.objs.size) hh 0 n
  refine loop_invN (fun i m nx => J i m nx) W ?_ ?_ ?_ ?_ (by show IsRangeIter _ _ _ _ _; rw [hrs]; simpa using Heap.get?_push_size _ rfl) (F.push _) (fun p hp => ⟨Heap.get?_push_of_some _ (N p hp).1, (N p hp).2⟩) hj ?_ ?_
  · intro hm
    exact absurd F.ns.lt ((List.mem_singleton.mp hm) ▸ Nat.lt_irrefl _)
  · intro b' hb
    rw [List.mem_singleton.mp hb]
    exact next_is_new F
  · intro p hp hI
    exact absurd (Heap.lt_size (N p hp).1) ((List.mem_singleton.mp hI) ▸ Nat.lt_irrefl _)
  · intro p hp hI
    exact absurd (Heap.lt_size (N p hp).1) ((List.mem_singleton.mp hI) ▸ Nat.lt_irrefl _)
  · rintro i v m₁ nx h tk own hi ⟨t', rfl⟩ _ hoff hJ F₁ N₁
    have e : (0 : Int) + (i : Int) = (i : Int) := by omega
    rw [e] at F₁
    exact turn i t' m₁ nx h tk own hi hoff hJ F₁ N₁
  · rintro m₁ nx h tk hJ F₁ N₁
    exact done m₁ nx h tk hJ F₁ N₁
end
def bitsL (ks : List Int) : List Int := ks.flatMap fun k => (rangeKs 0 8).map fun q => (k.fdiv ((2 : Int) ^ q.toNat)).fmod 2
theorem bits_con (w : World) (mean : ExcName → Option Value) (mg mb : Str → Option Value) (news : Led) (b : Array UInt8) (t : Tok) (hb : b.size ≤ 12) :
    Con w mean mg mb 20 48 336 [.bytes b t] news (fun r n' => ∃ D ys, r = .ref D ∧ n' = (D, LCg.lst ys) :: news ∧ IntsAre ys (bitsL (KBw.bInts b))) := by
  k_with_none
  k_with "call ref" => (k_here; (with_reducible show wpAny _ _ (PySem.call (Value.ref 116) [Value.bytes _ _]) _ _ _); k_dflt (refine' Con.use (crc_con _ _ _ _ _ _ _) ?q99k1 ?q99k2 ?q99k3 ?q99k4 ?q99k5 ?q99k6 ?q99k7 ?q99k8 ?_; (case q99k1 => k_asm); (case q99k2 => k_asm); (case q99k3 => k_asm); (case q99k4 => k_asm); (case q99k5 => k_asm); (case q99k6 => first | exact rfl | assumption); (case q99k7 => ktr_room); (case q99k8 => ktr_units)); intro r9 n9 h9 tk9 hr9 F9 N9; obtain ⟨e9, tk8, e8⟩ := hr9; ((replace e9 := Eq.symm e9); subst e9); ((replace e8 := Eq.symm e8); subst e8); (try dsimp only); (try k_fold))
  k_with "call ref" => (k_here; (with_reducible show wpAny _ _ (PySem.call (Value.ref 121) [Value.bytes _ _]) _ _ _); k_dflt (refine' Con.use (fsum_con _ _ _ _ _ _ _) ?q100k1 ?q100k2 ?q100k3 ?q100k4 ?q100k5 ?q100k6 ?q100k7 ?q100k8 ?_; (case q100k1 => k_asm); (case q100k2 => k_asm); (case q100k3 => k_asm); (case q100k4 => k_asm); (case q100k5 => k_asm); (case q100k6 => first | exact rfl | assumption); (case q100k7 => ktr_room); (case q100k8 => ktr_units)); intro r9 n9 h9 tk9 hr9 F9 N9; obtain ⟨e9, tk8, e8⟩ := hr9; ((replace e9 := Eq.symm e9); subst e9); ((replace e8 := Eq.symm e8); subst e8); (try dsimp only); (try k_fold))
  k_with "binaryOp FloorDiv int int" => (k_here; (refine floordiv_int (by omega) ?_ (.inr (PySem.PylongRoom.of (PySem.Heap.NoLimit.keeps (Top.nolimit (by assumption)) (Fr.keep (by assumption))) (by show _ + 100 < _; ktr_room)))))
  k_with "eval ListComp" => (k_here; k_dflt (refine ListComp_two (by k_asm) (by with_unfolding_all rfl) (by decide) (by rfl) (by decide) (by rfl) (by rfl) (by decide) ?_ (by intro _; with_unfolding_all rfl) (by intro _ _; with_unfolding_all rfl)))
  k_with "TwoSrc" => (k_dflt (refine' ⟨_, _, _, (fun k q => (k.fdiv ((2 : Int) ^ q.toNat)).fmod 2), rfl, ?q103hh, ?q103F, ?q103N, ?q103sz, ?q103rng, ?q103trn, ?q103fin⟩; (case q103hh => exact rfl); (case q103F => k_asm); (case q103N => k_asm); (case q103sz => (rw [PySem.sizeLine_eq]; omega))); (focus (intro k' u' I' oI' C' oC' D' m' zs' h' tk' E' hC' hx' F' N' off' ne'; (try simp only [LCg.Off3, and_true] at off'); (try k_fold))))
  k_with "Range8" => (k_dflt (refine' Range8.intro ?q104r ?q104F ?q104N ?q104S; (case q104r => assumption); (case q104F => assumption); (case q104N => assumption); (case q104S => kcf_all)))
  k_with "KCfEl" => exact ⟨rfl, _, rfl⟩
  unfold Con
  intro dp un gd cn cs a ccd cl outer A₀ base h₀ L m s Q E B F X N T hk hd' hu hret
  refine wpAny_call ?_
  k_dflt (first | (refine' code_def ?k1 ?k2 ?k3 ?k4 ?k5 ?kA ?kF ?kK ?k6 ?k7 ?k8 ?k9 ?kB ?_ ?c2 ?c3 ?c4 ?c5; (case kA => exact rfl); (case kF => exact rfl); (case kK => first | exact rfl | assumption); (case k1 => k_asm); (case k2 => k_asm); (case k3 => k_asm); (case k4 => k_asm); (case k5 => k_asm); (case k6 => k_is); (case k7 => k_is); (case k8 => ktr_room); (case k9 => first | exact BindsTo.of_eq rfl | exact binds_K (by k_in) rfl (by k_is) rfl rfl rfl); (case c5 => decide); (case kB => exact locs rfl); (case c2 => exact rfl); (case c3 => exact rfl); (case c4 => exact rfl); k_whole; intro g' L' h' FG' F' N' B' X' T'; (try dsimp only); (try k_lift B'); (try k_fold)) | (refine' code_defC ?k1 ?k2 ?k3 ?k4 ?k5 ?kA ?kF ?kK ?k6 ?k7 ?k8 ?k9 ?kB ?kD ?_ ?c2 ?c3 ?c4; (case kA => exact rfl); (case kF => exact rfl); (case kK => first | exact rfl | assumption); (case k1 => k_asm); (case k2 => k_asm); (case k3 => k_asm); (case k4 => k_asm); (case k5 => k_asm); (case k6 => k_is); (case k7 => k_is); (case k8 => ktr_room); (case k9 => first | exact BindsTo.of_eq rfl | exact binds_K (by k_in) rfl (by k_is) rfl rfl rfl); (case kB => exact rfl); (case kD => decide +kernel); (case c2 => exact rfl); (case c3 => exact rfl); (case c4 => exact rfl); k_whole; intro g' L' h' tk' cells' FG' F' N' Y' B' X' T' l1; (try k_lt l1); k_cells Y'; (try simp only [List.cons_append, List.nil_append] at N'); (try dsimp only); (try k_lift B'); (try k_fold)))
  k_steps
  exact con_ret hret ⟨_, _, rfl, rfl, by assumption⟩ (by k_asm) (by k_asm)
/-- the divisor put over the row, as the program does it -/
def layI (t : Nat) (bs : List Int) (k : Nat) : List Int := (List.range k).foldl (fun bs (step : Nat) => bs.set ((t : Int) + (step : Int)).toNat (Builtin.bitXor (bs.getD ((t : Int) + (step : Int)).toNat 0) (divL.getD (step : Int).toNat 0))) bs
theorem layI_zero (t : Nat) (bs : List Int) : layI t bs 0 = bs := rfl
theorem layI_succ (t : Nat) (bs : List Int) (k : Nat) : layI t bs (k + 1) = (layI t bs k).set ((t : Int) + (k : Int)).toNat (Builtin.bitXor ((layI t bs k).getD ((t : Int) + (k : Int)).toNat 0) (divL.getD (k : Int).toNat 0)) := by
  unfold layI
  rw [List.range_succ, List.foldl_append]
  rfl
theorem layI_length (t : Nat) (bs : List Int) : ∀ k, (layI t bs k).length = bs.length
  | 0 => rfl
  | k + 1 => by rw [layI_succ, List.length_set, layI_length t bs k]
def turnI (bs : List Int) (t : Nat) : List Int := if bs.getD (t : Int).toNat 0 = 1 then layI t bs 33 else bs
theorem turnI_length (bs : List Int) (t : Nat) : (turnI bs t).length = bs.length := by
  unfold turnI
  split
  · exact layI_length ..
  · rfl
def runI (bs : List Int) (k : Nat) : List Int := (List.range k).foldl turnI bs
theorem runI_succ (bs : List Int) (k : Nat) : runI bs (k + 1) = turnI (runI bs k) k := by
  unfold runI
  rw [List.range_succ, List.foldl_append]
  rfl
theorem runI_length (bs : List Int) : ∀ k, (runI bs k).length = bs.length
  | 0 => rfl
  | k + 1 => by rw [runI_succ, turnI_length, runI_length bs k]
theorem bx_b01 (x y : Bool) : Builtin.bitXor (b01 x) (b01 y) = b01 (x ^^ y) := by
  cases x <;> cases y <;> decide
theorem div_b01 : ∀ k : Nat, k < 33 → divL.getD k 0 = b01 (divL.getD k 0 == 1) := by decide
theorem layI_eq {t : Nat} {bs : List Int} (hl : t + 33 ≤ bs.length) (hb : ∀ j, t ≤ j → j < t + 33 → ∃ x, bs.getD j 0 = b01 x) : ∀ k, k ≤ 33 → layI t bs k = layAt t bs k
  | 0, _ => rfl
  | k + 1, hk => by
    have ih := layI_eq hl hb k (by omega)
    rw [layI_succ, layAt_succ, ih]
    have e1 : ((t : Int) + (k : Int)).toNat = t + k := by omega
    have e2 : ((k : Int)).toNat = k := by omega
    rw [e1, e2]
    obtain ⟨x, hx⟩ := hb (t + k) (by omega) (by omega)
    have g := layAt_get t bs k (by omega) (t + k)
    rw [if_neg (by omega)] at g
    rw [g, hx, div_b01 k (by omega), bx_b01]
    congr 2
    rw [b01_beq, b01_beq]
theorem turnI_eq {d : Nat → Bool} {n t : Nat} {bs : List Int} (h : RowAt d n t bs) (ht : t < n) : turnI bs t = divStep bs t := by
  unfold turnI divStep
  rw [Int.toNat_natCast]
  split
  · refine layI_eq (by rw [h.1]; omega) (fun j h1 h2 => ⟨_, h.2 j h1 (by omega)⟩) 33 (Nat.le_refl _)
  · rfl
theorem runI_row {d : Nat → Bool} {n : Nat} {bs : List Int} (h : RowAt d n 0 bs) : ∀ k, k ≤ n → RowAt d n k (runI bs k)
  | 0, _ => h
  | k + 1, hk => by
    have ih := runI_row h k (by omega)
    rw [runI_succ, turnI_eq ih (by omega)]
    exact row_step ih (by omega)
theorem bitsL_len : ∀ ks : List Int, (bitsL ks).length = 8 * ks.length
  | [] => rfl
  | k :: ks => by
    have e : bitsL (k :: ks) = ((rangeKs 0 8).map fun q => (k.fdiv ((2 : Int) ^ q.toNat)).fmod 2) ++ bitsL ks := rfl
    rw [e, List.length_append, List.length_map, rangeKs_length, bitsL_len ks, List.length_cons]
    omega
theorem bits_len {b : Array UInt8} {ys : List Value} (hi : IntsAre ys (bitsL (KBw.bInts b))) : ys.length = 8 * b.size := by
  rw [hi.length, bitsL_len, KBw.ints_length]
theorem flat32 : (List.replicate (Int.toNat 32) [(0 : Int)]).flatten = List.replicate 32 0 := by decide
def B0 (b : Array UInt8) : List Int := bitsL (KBw.bInts b) ++ List.replicate 32 0
theorem B0_len (b : Array UInt8) : (B0 b).length = 8 * b.size + 32 := by
  unfold B0
  rw [List.length_append, bitsL_len, KBw.ints_length, List.length_replicate]
theorem enumL_len (g : Int → Int → Int) (ns : List Int) : (enumL g ns).length = ns.length := by
  unfold enumL
  rw [List.length_map, List.length_zip, rangeKs_length]; omega
def inv1 (p q : Int) : Int := if p < 32 then 1 - q else q
def B1 (b : Array UInt8) : List Int := enumL inv1 (B0 b)
theorem B1_len (b : Array UInt8) : (B1 b).length = 8 * b.size + 32 := by
  unfold B1
  rw [enumL_len, B0_len]
def divX : PySem.Str := Str.ofString "100000100110000010001110110110111"
theorem divX_key : ∀ i : Nat, i < 33 → divX.cps[i]? = some (if divL.getD i 0 = 1 then 49 else 48) ∧ divL[i]? = some (divL.getD i 0) ∧ (divL.getD i 0 = 1 ∨ divL.getD i 0 = 0) := by decide +kernel
theorem divX_at (i c : Nat) (h : divX.cps[i]? = some c) : ∃ k, divL[i]? = some k ∧ PySem.intText? ⟨#[c]⟩ = some k := by
  have hi : i < 33 := by
    have hs : divX.cps.size = 33 := by decide
    obtain ⟨h1, _⟩ := Array.getElem?_eq_some_iff.mp h
    omega
  obtain ⟨h1, h2, h3⟩ := divX_key i hi
  rw [h] at h1
  refine ⟨_, h2, ?_⟩
  rcases h3 with e | e <;> rw [e] at h1 ⊢ <;> cases h1 <;> decide +kernel
theorem divX_all : divX.cps.all (· < 128) = true := by decide +kernel
theorem divX_sz : divX.cps.size ≤ sizeLine := by
  have hs : divX.cps.size = 33 := by decide
  rw [hs, PySem.sizeLine_eq]; decide
theorem divX_len : divX.cps.size = divL.length := by decide
section
variable {w : World} {A : Around} {E : Value → Shared → Prop} {s : Shared} {h₀ : Heap} {L : Addr} {m : PySem.Str → Option Value} {news : Led}
theorem bits_add {a c : Addr} {vs ws : List Value} {k k2 : Nat} {b : Array UInt8} {Q : Value → Shared → Prop} (F : Fr h₀ L s.heap m) (N : News h₀ L s.heap news) (h1 : (a, listOf vs.toArray k) ∈ news) (h2 : (c, listOf ws.toArray k2) ∈ news)
    (i1 : IntsAre vs (bitsL (KBw.bInts b))) (i2 : IntsAre ws (List.replicate (Int.toNat 32) [(0 : Int)]).flatten) (hb : b.size ≤ 12)
    (h : ∀ D h' us, IntsAre us (B0 b) → Fr h₀ L h' m → News h₀ L h' ((D, listOf us.toArray 0) :: news) → AllLt D news → Q (.ref D) { s with heap := h' }) : wpAny (model P0 w) A (binaryOp .Add (.ref a) (.ref c)) Q E s := by
  rw [flat32] at i2
  refine PyProof.Rows.add_lists_ints F N (News.isList N h1) (News.isList N h2) i1 i2 (fun h' F' N' i => h _ h' _ i F' N' (allLt_of fun p hp => Heap.lt_size (N p hp).1)) ?_
  rw [bitsL_len, KBw.ints_length, List.length_replicate, PySem.sizeLine_eq]; omega
end
theorem len_bits {w : World} {A : Around} {E : Value → Shared → Prop} {s : Shared} {h₀ : Heap} {L D : Addr} {news : Led} {vs : List Value} {ns : List Int} {k n : Nat} {Q : Value → Shared → Prop} (N : News h₀ L s.heap news) (hm : (D, listOf vs.toArray k) ∈ news) (hi : IntsAre vs ns) (hn : ns.length = n) (hn2 : n ≤ 1000)
    (h : ∀ t' k', Q (.int (n : Int) t') { s with toks := k' }) : wpAny (model P0 w) A (call (.builtin "len") [.ref D]) Q E s := by
  have e : vs.toArray.size = n := by rw [List.size_toArray, hi.length, hn]
  refine PyProof.Rows.len_list (News.isList N hm) (by omega) ?_
  rw [e]; exact h _ _
theorem tail_bits {w : World} {A : Around} {E : Value → Shared → Prop} {s : Shared} {h₀ : Heap} {L D : Addr} {m : PySem.Str → Option Value} {news : Led} {vs : List Value} {ns : List Int} {k n : Nat} {x : Int} {tu : Tok} {value slice : PySem.Expr} {Q : Value → Shared → Prop} (F : Fr h₀ L s.heap m) (N : News h₀ L s.heap news)
    (hm : (D, listOf vs.toArray k) ∈ news) (hi : IntsAre vs ns) (hn : ns.length = n + 32) (hn2 : n ≤ 1000) (hx : x = (n : Int))
    (h : ∀ D' h' us, IntsAre us (ns.drop n) → (ns.drop n).length = 32 → Fr h₀ L h' m → News h₀ L h' ((D', listOf us.toArray 0) :: news) → AllLt D' news → Q (.ref D') { s with heap := h' })
    (hs : subscripted slice false (.ref D) (.ref s.heap.objs.size) = operate [.ref s.heap.objs.size, .ref D] (getItem (.ref D) (.ref s.heap.objs.size)) := by with_unfolding_all rfl)
    (ht : ∀ r, letTemporaryGo value (.ref D) r = pure () := by intro _; with_unfolding_all rfl) :
    wpAny (model P0 w) A (subscriptTail value slice (.ref D) (.ref s.heap.objs.size)) Q E { s with heap := s.heap.push { cls := .type "slice", data := .fields #[.int x tu, .none, .none] } } := by
  subst hx
  refine PyProof.Rows.slice_list F N (News.isList N hm) (.int _ _) .none (fun h' F' N' => ?_) hs ht (by rw [List.size_toArray, hi.length, PySem.sizeLine_eq]; omega)
  have i := PyProof.Rows.slice_ints_from hi (x := (n : Int)) (by omega) (by omega)
  rw [Int.toNat_natCast] at i
  have e : slicePick vs.toArray (some (n : Int)) none none = (slicePick vs.toArray (some (n : Int)) none none).toList.toArray := by simp
  rw [e] at N'
  exact h _ h' _ i (by rw [List.length_drop, hn]; omega) F' N' (allLt_of fun p hp => Nat.lt_succ_of_lt (Heap.lt_size (N p hp).1))
def wei (p q : Int) : Int := (1 - q) * (2 : Int) ^ p.toNat
theorem wei_ok {p q : Int} (h0 : 0 ≤ p) (h1 : p < ((32 : Nat) : Int)) : PySem.IntMulOk (1 - q) ((2 : Int) ^ p.toNat) := by
  have e : ((2 : Int) ^ p.toNat) = ((2 ^ p.toNat : Nat) : Int) := by push_cast; rfl
  have a : 2 ^ p.toNat ≤ 2 ^ 32 := Nat.pow_le_pow_right (by decide) (by omega)
  have b : (2 : Nat) ^ 32 = 4294967296 := by decide
  have c : 0 < 2 ^ p.toNat := Nat.two_pow_pos _
  rw [e]
  exact PySem.IntMulOk.of_right (PySem.intBits_le_64 (by omega) (by omega))
abbrev rowI (b : Array UInt8) (i : Nat) : List Int := runI (B1 b) i
theorem rowI_len (b : Array UInt8) (i : Nat) : (rowI b i).length = 8 * b.size + 32 := by
  unfold rowI
  rw [runI_length, B1_len]
abbrev sBits : PySem.Str := Str.ofString "bits"
abbrev sDiv : PySem.Str := Str.ofString "divisor"
abbrev sAt : PySem.Str := Str.ofString "at"
def OutJ (b : Array UInt8) (Db Dd : Addr) (od : Obj) (R : Led) (i : Nat) (m : PySem.Str → Option Value) (nx : Led) : Prop :=
  ∃ ys k, IntsAre ys (rowI b i) ∧ nx = (Db, listOf ys.toArray k) :: (Dd, od) :: R ∧ m sBits = some (.ref Db) ∧ m sDiv = some (.ref Dd)
def InJ (row : List Int) (i : Nat) (Db Dd : Addr) (od : Obj) (R : Led) (j : Nat) (m : PySem.Str → Option Value) (nx : Led) : Prop :=
  ∃ ys k t, IntsAre ys (layI i row j) ∧ nx = (Db, listOf ys.toArray k) :: (Dd, od) :: R ∧ m sBits = some (.ref Db) ∧ m sDiv = some (.ref Dd) ∧ m sAt = some (.int (i : Int) t)
theorem row_skip {b : Array UInt8} {i : Nat} (h : ¬ (rowI b i).getD (i : Int).toNat 0 = 1) : rowI b (i + 1) = rowI b i := by
  show runI _ (i + 1) = _
  rw [runI_succ]
  unfold turnI
  rw [if_neg h]
theorem row_lay {b : Array UInt8} {i : Nat} (h : (rowI b i).getD (i : Int).toNat 0 = 1) : rowI b (i + 1) = layI i (rowI b i) 33 := by
  show runI _ (i + 1) = _
  rw [runI_succ]
  unfold turnI
  rw [if_pos h]
def Rest (_ : Led) : Prop := True
theorem own_ne {Db Dd : Addr} {od o : Obj} {R own : Led} (hne : ∀ p ∈ (Dd, od) :: R, p.1 ≠ Db) (hoff : OwnOff own (((Db, o) :: (Dd, od) :: R).map (·.1))) : ∀ p ∈ (Dd, od) :: (R ++ own), p.1 ≠ Db := fun p hp => by
  rcases List.mem_cons.mp hp with rfl | hp
  · exact hne _ (.head _)
  · rcases List.mem_append.mp hp with hp | hp
    · exact hne p (.tail _ hp)
    · exact hoff p hp Db (by simp)
theorem lay_next {t j : Nat} {bs : List Int} {ys : List Value} (h : IntsAre ys ((layI t bs j).set ((t : Int) + (j : Int)).toNat (Builtin.bitXor ((layI t bs j).getD ((t : Int) + (j : Int)).toNat 0) (divL.getD (j : Int).toNat 0)))) : IntsAre ys (layI t bs (j + 1)) := by
  rw [layI_succ]; exact h
theorem row_done {b : Array UInt8} {i : Nat} {ys : List Value} (h : IntsAre ys (layI i (rowI b i) 33)) (hc : (rowI b i).getD (i : Int).toNat 0 = 1) : IntsAre ys (rowI b (i + 1)) := by
  rw [row_lay hc]; exact h
theorem row_same {b : Array UInt8} {i : Nat} {ys : List Value} (h : IntsAre ys (rowI b i)) (hc : ¬ (rowI b i).getD (i : Int).toNat 0 = 1) : IntsAre ys (rowI b (i + 1)) := by
  rw [row_skip hc]; exact h
theorem end_in {h₀ h' : Heap} {L : Addr} {row : List Int} {i j : Nat} {Db Dd : Addr} {od : Obj} {R own all : Led} {m' : PySem.Str → Option Value} {s₁ : Shared} {tk k : Nat} {ys : List Value} {ti : Tok} (F : Fr h₀ L h' m') (N : News h₀ L h' all)
    (hi : IntsAre ys ((layI i row j).set ((i : Int) + (j : Int)).toNat (Builtin.bitXor ((layI i row j).getD ((i : Int) + (j : Int)).toNat 0) (divL.getD (j : Int).toNat 0)))) (h1 : m' sBits = some (.ref Db)) (h2 : m' sDiv = some (.ref Dd)) (h3 : m' sAt = some (.int (i : Int) ti))
    (sub : ∀ p ∈ (Db, listOf ys.toArray k) :: (Dd, od) :: R, p ∈ all) (subo : ∀ p ∈ own, p ∈ all) : InvEndN h₀ L (InJ row i Db Dd od R (j + 1)) own (Db :: Dd :: R.map (·.1)) s₁ { s₁ with heap := h', toks := tk } :=
  InvEndN.intro F N ⟨ys, k, ti, lay_next hi, rfl, h1, h2, h3⟩ rfl sub subo
theorem end_lay {h₀ h' : Heap} {L : Addr} {b : Array UInt8} {i : Nat} {Db Dd : Addr} {od : Obj} {R own all : Led} {m' : PySem.Str → Option Value} {s₁ : Shared} {tk k : Nat} {ys : List Value} (F : Fr h₀ L h' m') (N : News h₀ L h' all)
    (hi : IntsAre ys (layI i (rowI b i) 33)) (hc : (rowI b i).getD (i : Int).toNat 0 = 1) (h1 : m' sBits = some (.ref Db)) (h2 : m' sDiv = some (.ref Dd))
    (sub : ∀ p ∈ (Db, listOf ys.toArray k) :: (Dd, od) :: R, p ∈ all) (subo : ∀ p ∈ own, p ∈ all) : InvEndN h₀ L (OutJ b Db Dd od R (i + 1)) own (Db :: Dd :: R.map (·.1)) s₁ { s₁ with heap := h', toks := tk } :=
  InvEndN.intro F N ⟨ys, k, row_done hi hc, rfl, h1, h2⟩ rfl sub subo
theorem end_same {h₀ h' : Heap} {L : Addr} {b : Array UInt8} {i : Nat} {Db Dd : Addr} {od : Obj} {R own all : Led} {m' : PySem.Str → Option Value} {s₁ : Shared} {tk k : Nat} {ys : List Value} (F : Fr h₀ L h' m') (N : News h₀ L h' all)
    (hi : IntsAre ys (rowI b i)) (hc : ¬ (rowI b i).getD (i : Int).toNat 0 = 1) (h1 : m' sBits = some (.ref Db)) (h2 : m' sDiv = some (.ref Dd))
    (sub : ∀ p ∈ (Db, listOf ys.toArray k) :: (Dd, od) :: R, p ∈ all) (subo : ∀ p ∈ own, p ∈ all) : InvEndN h₀ L (OutJ b Db Dd od R (i + 1)) own (Db :: Dd :: R.map (·.1)) s₁ { s₁ with heap := h', toks := tk } :=
  InvEndN.intro F N ⟨ys, k, row_same hi hc, rfl, h1, h2⟩ rfl sub subo
section
open PySem.Spec PySem.Calls
variable {w : World} {A : Around} {E : Value → Shared → Prop} {s : Shared} {h₀ : Heap} {env : Env} {body : List Stmt} {Q : Flow → Shared → Prop}
theorem out_loop {b : Array UInt8} {Db Dd r : Addr} {od : Obj} {R : Led} {c : Int} {t u v : Tok} {m₀ : PySem.Str → Option Value} {ys : List Value} {k : Nat} (_hR : Rest R) (hne : ∀ p ∈ (Dd, od) :: R, p.1 ≠ Db) (hh : A.handled = none) (hr : IsRange s.heap r 0 c 1 t u v) (hc : c = ((8 * b.size : Nat) : Int)) (hb : b.size ≤ 12)
    (F : Fr h₀ env.locals s.heap m₀) (N : News h₀ env.locals s.heap ((Db, listOf ys.toArray k) :: (Dd, od) :: R)) (hi : IntsAre ys (B1 b)) (h1 : m₀ sBits = some (.ref Db)) (h2 : m₀ sDiv = some (.ref Dd))
    (turn : ∀ (i : Nat) t ys k (m₁ : PySem.Str → Option Value) h tk own, i < 8 * b.size → (rowI b i).length = 8 * b.size + 32 → (∀ p ∈ (Dd, od) :: (R ++ own), p.1 ≠ Db) → IntsAre ys (rowI b i) → Fr h₀ env.locals h (fun z => if z = sAt then some (.int (i : Int) t) else if z = sBits then some (.ref Db) else if z = sDiv then some (.ref Dd) else m₁ z) →
      News h₀ env.locals h ((Db, listOf ys.toArray k) :: (Dd, od) :: (R ++ own)) →
      wpAny (model P0 w) A (execs body env) (InvPostN h₀ env.locals (OutJ b Db Dd od R (i + 1)) own (Db :: Dd :: R.map (·.1)) { s with heap := h, toks := tk } Q) E { s with heap := h, toks := tk })
    (done : ∀ ys k (m₁ : PySem.Str → Option Value) h tk, IntsAre ys (rowI b (8 * b.size)) → Fr h₀ env.locals h (fun z => if z = sBits then some (.ref Db) else m₁ z) → News h₀ env.locals h ((Db, listOf ys.toArray k) :: (Dd, od) :: R) → Q .next { s with heap := h, toks := tk }) :
    wpAny (model P0 w) A (pyIter (.ref r)) (fun it s₂ => LoopAtV P0 w A h₀ env sAt body Q E it s₂) E s := by
  refine iterRange_inv (n := 8 * b.size) (OutJ b Db Dd od R) hh hr hc (by omega) F N ⟨ys, k, hi, rfl, h1, h2⟩ ?_ ?_
  · rintro i t m₁ nx h tk own hlt hoff ⟨ys, k, hy, rfl, e1, e2⟩ F₁ N₁
    rw [map_at e1] at F₁
    have F₂ : Fr h₀ env.locals h (fun z => if z = sAt then some (.int (i : Int) t) else if z = sBits then some (.ref Db) else if z = sDiv then some (.ref Dd) else m₁ z) := by
      have e3 : m₁ = fun z => if z = sDiv then some (.ref Dd) else m₁ z := map_at0 e2
      have e4 : (fun z => if z = sAt then some (Value.int (i : Int) t) else if z = sBits then some (.ref Db) else m₁ z) = (fun z => if z = sAt then some (Value.int (i : Int) t) else if z = sBits then some (.ref Db) else if z = sDiv then some (.ref Dd) else m₁ z) := by
        funext z
        by_cases a1 : z = sAt
        · simp only [if_pos a1]
        · by_cases a2 : z = sBits
          · simp only [if_neg a1, if_pos a2]
          · simp only [if_neg a1, if_neg a2]
            exact congrFun e3 z
      rw [e4] at F₁
      exact F₁
    exact turn i t ys k m₁ h tk own hlt (rowI_len _ _) (own_ne hne hoff) hy F₂ (by simpa using N₁)
  · rintro m₁ nx h tk ⟨ys, k, hy, rfl, e1, e2⟩ F₁ N₁
    rw [map_at0 e1] at F₁
    exact done ys k m₁ h tk hy F₁ N₁
theorem in_loop {row : List Int} {i : Nat} {Db Dd r : Addr} {od : Obj} {R : Led} {t u v ti : Tok} {m₀ : PySem.Str → Option Value} {ys : List Value} {k : Nat} {n : Nat} (hl : row.length = n) (hne : ∀ p ∈ (Dd, od) :: R, p.1 ≠ Db) (hh : A.handled = none) (hr : IsRange s.heap r 0 33 1 t u v)
    (F : Fr h₀ env.locals s.heap m₀) (N : News h₀ env.locals s.heap ((Db, listOf ys.toArray k) :: (Dd, od) :: R)) (hi : IntsAre ys row) (h1 : m₀ sBits = some (.ref Db)) (h2 : m₀ sDiv = some (.ref Dd)) (h3 : m₀ sAt = some (.int (i : Int) ti))
    (turn : ∀ (j : Nat) t ti ys k (m₁ : PySem.Str → Option Value) h tk own, j < 33 → divL.length = 33 → (layI i row j).length = n → (∀ p ∈ (Dd, od) :: (R ++ own), p.1 ≠ Db) → IntsAre ys (layI i row j) → Fr h₀ env.locals h (fun z => if z = Str.ofString "step" then some (.int (j : Int) t) else if z = sAt then some (.int (i : Int) ti) else if z = sBits then some (.ref Db) else if z = sDiv then some (.ref Dd) else m₁ z) →
      News h₀ env.locals h ((Db, listOf ys.toArray k) :: (Dd, od) :: (R ++ own)) →
      wpAny (model P0 w) A (execs body env) (InvPostN h₀ env.locals (InJ row i Db Dd od R (j + 1)) own (Db :: Dd :: R.map (·.1)) { s with heap := h, toks := tk } Q) E { s with heap := h, toks := tk })
    (done : ∀ ys k (m₁ : PySem.Str → Option Value) h tk, IntsAre ys (layI i row 33) → Fr h₀ env.locals h (fun z => if z = sBits then some (.ref Db) else if z = sDiv then some (.ref Dd) else m₁ z) → News h₀ env.locals h ((Db, listOf ys.toArray k) :: (Dd, od) :: R) → Q .next { s with heap := h, toks := tk }) :
    wpAny (model P0 w) A (pyIter (.ref r)) (fun it s₂ => LoopAtV P0 w A h₀ env (Str.ofString "step") body Q E it s₂) E s := by
  refine iterRange_inv (n := 33) (InJ row i Db Dd od R) hh hr rfl (by omega) F N ⟨ys, k, ti, hi, rfl, h1, h2, h3⟩ ?_ ?_
  · rintro j t m₁ nx h tk own hlt hoff ⟨ys, k, ti, hy, rfl, e1, e2, e3⟩ F₁ N₁
    have e4 : (fun z => if z = Str.ofString "step" then some (Value.int (j : Int) t) else m₁ z) = (fun z => if z = Str.ofString "step" then some (Value.int (j : Int) t) else if z = sAt then some (.int (i : Int) ti) else if z = sBits then some (.ref Db) else if z = sDiv then some (.ref Dd) else m₁ z) := by
      funext z
      by_cases a0 : z = Str.ofString "step"
      · simp only [if_pos a0]
      by_cases a1 : z = sAt
      · simp only [if_neg a0, if_pos a1]; rw [a1]; exact e3
      by_cases a2 : z = sBits
      · simp only [if_neg a0, if_neg a1, if_pos a2]; rw [a2]; exact e1
      by_cases a3 : z = sDiv
      · simp only [if_neg a0, if_neg a1, if_neg a2, if_pos a3]; rw [a3]; exact e2
      · simp only [if_neg a0, if_neg a1, if_neg a2, if_neg a3]
    rw [e4] at F₁
    exact turn j t ti ys k m₁ h tk own hlt rfl (by rw [layI_length]; exact hl) (own_ne hne hoff) hy F₁ (by simpa using N₁)
  · rintro m₁ nx h tk ⟨ys, k, ti, hy, rfl, e1, e2, e3⟩ F₁ N₁
    have e4 : m₁ = (fun z => if z = sBits then some (.ref Db) else if z = sDiv then some (.ref Dd) else m₁ z) := by
      funext z
      by_cases a2 : z = sBits
      · simp only [if_pos a2]; rw [a2]; exact e1
      by_cases a3 : z = sDiv
      · simp only [if_neg a2, if_pos a3]; rw [a3]; exact e2
      · simp only [if_neg a2, if_neg a3]
    rw [e4] at F₁
    exact done ys k m₁ h tk hy F₁ N₁
end
theorem inv1_lt {p q : Int} {t : Tok} {nw : Led} (h : p < 32) : KCfEl nw (inv1 p q) (.int (1 - q) t) nw := ⟨rfl, t, by rw [inv1, if_pos h]⟩
theorem inv1_ge {p q : Int} {t : Tok} {nw : Led} (h : ¬ p < 32) : KCfEl nw (inv1 p q) (.int q t) nw := ⟨rfl, t, by rw [inv1, if_neg h]⟩
theorem ne_bits {Db Dd : Addr} {od : Obj} {R : Led} (h1 : LCg.Off1 Db R) (h2 : @Ne Nat Db Dd) : ∀ p ∈ (Dd, od) :: R, p.1 ≠ Db := fun p hp => by
  rcases List.mem_cons.mp hp with rfl | hp
  · exact Ne.symm h2
  · have off1_mem : ∀ {l : Led}, LCg.Off1 Db l → ∀ p ∈ l, p.1 ≠ Db := by
      intro l
      induction l with
      | nil => intro _ p hp; cases hp
      | cons q r ih =>
        intro h p hp
        rcases List.mem_cons.mp hp with rfl | hp
        · exact h.1
        · exact ih h.2 p hp
    exact off1_mem h1 p hp
def restI (b : Array UInt8) : Int := (enumL wei (List.drop (8 * b.size) (rowI b (8 * b.size)))).sum
theorem rest_con (w : World) (mean : ExcName → Option Value) (mg mb : Str → Option Value) (news : Led) (b : Array UInt8) (t : Tok) (hb : b.size ≤ 12) :
    Con w mean mg mb 60 160 341 [.bytes b t] news (fun r n' => n' = news ∧ ∃ tk, r = .int (restI b) tk) := by
  k_with_none
  k_with "call ref" => (k_here; (with_reducible show wpAny _ _ (PySem.call (Value.ref 116) [Value.bytes _ _]) _ _ _); k_dflt (refine' Con.use (crc_con _ _ _ _ _ _ _) ?q106k1 ?q106k2 ?q106k3 ?q106k4 ?q106k5 ?q106k6 ?q106k7 ?q106k8 ?_; (case q106k1 => k_asm); (case q106k2 => k_asm); (case q106k3 => k_asm); (case q106k4 => k_asm); (case q106k5 => k_asm); (case q106k6 => first | exact rfl | assumption); (case q106k7 => ktr_room); (case q106k8 => ktr_units)); intro r9 n9 h9 tk9 hr9 F9 N9; obtain ⟨e9, tk8, e8⟩ := hr9; ((replace e9 := Eq.symm e9); subst e9); ((replace e8 := Eq.symm e8); subst e8); (try dsimp only); (try k_fold))
  k_with "call ref" => (k_here; (with_reducible show wpAny _ _ (PySem.call (Value.ref 121) [Value.bytes _ _]) _ _ _); k_dflt (refine' Con.use (fsum_con _ _ _ _ _ _ _) ?q107k1 ?q107k2 ?q107k3 ?q107k4 ?q107k5 ?q107k6 ?q107k7 ?q107k8 ?_; (case q107k1 => k_asm); (case q107k2 => k_asm); (case q107k3 => k_asm); (case q107k4 => k_asm); (case q107k5 => k_asm); (case q107k6 => first | exact rfl | assumption); (case q107k7 => ktr_room); (case q107k8 => ktr_units)); intro r9 n9 h9 tk9 hr9 F9 N9; obtain ⟨e9, tk8, e8⟩ := hr9; ((replace e9 := Eq.symm e9); subst e9); ((replace e8 := Eq.symm e8); subst e8); (try dsimp only); (try k_fold))
  k_with "binaryOp FloorDiv int int" => (k_here; (refine floordiv_int (by omega) ?_ (.inr (PySem.PylongRoom.of (PySem.Heap.NoLimit.keeps (Top.nolimit (by assumption)) (Fr.keep (by assumption))) (by show _ + 100 < _; ktr_room)))))
  k_with "call ref" => (k_here; (with_reducible show wpAny _ _ (PySem.call (Value.ref 336) [Value.bytes _ _]) _ _ _); k_dflt (refine' Con.use (bits_con _ _ _ _ _ _ _ ?q109c1) ?q109k1 ?q109k2 ?q109k3 ?q109k4 ?q109k5 ?q109k6 ?q109k7 ?q109k8 ?_; (case q109k1 => k_asm); (case q109k2 => k_asm); (case q109k3 => k_asm); (case q109k4 => k_asm); (case q109k5 => k_asm); (case q109k6 => first | exact rfl | assumption); (case q109k7 => ktr_room); (case q109k8 => ktr_units); (case q109c1 => assumption)); intro r9 n9 h9 tk9 hr9 F9 N9; obtain ⟨D9, ys9, e9, e8, hi9⟩ := hr9; have hl9 := bits_len hi9; ((replace e9 := Eq.symm e9); subst e9); ((replace e8 := Eq.symm e8); subst e8); (try dsimp only at N9); (try dsimp only); (try k_sweep); (try k_fold))
  k_with "binaryOp Add ref ref" => (k_here; k_dflt (refine' bits_add ?q110F ?q110N ?q110h1 ?q110h2 ?q110i1 ?q110i2 ?q110hb ?_; (case q110F => k_asm); (case q110N => k_asm); (case q110i1 => assumption); (case q110i2 => assumption); (case q110h1 => k_mem); (case q110h2 => k_mem); (case q110hb => assumption)); intro D9 h9 us9 hi9 F9 N9 l9; (try k_lt l9); (try k_sweep); (try dsimp only); (try k_fold))
  k_with "call type:enumerate" => (k_here; (with_reducible show wpAny _ _ _ (PairSrc _ _ _ _ _ _ _ _ _ _ _ _ _) _ _); k_dflt (refine' enum_src (ns := B0 _) inv1 ?q111hh ?q111F ?q111N ?q111hm ?q111hi (B0_len _) ?q111sz ?_ ?_; (case q111hh => exact rfl); (case q111F => k_asm); (case q111N => k_asm); (case q111hi => assumption); (case q111hm => k_mem); (case q111sz => omega)); (focus (intro p' q' t' u' J' oJ' I' oI' C' oC' D' m' zs' h' tk' E' hp0 hp1 hq' hC' hx' hy' F' N' off' ne'; (try simp only [LCg.Off3, and_true] at off'); (try k_fold))))
  k_with "call type:enumerate" => (k_here; (with_reducible show wpAny _ _ _ (PairSrc _ _ _ _ _ _ _ _ _ _ _ _ _) _ _); k_dflt (refine' enum_src (ns := List.drop _ _) wei ?q112hh ?q112F ?q112N ?q112hm ?q112hi ?q112hl ?q112sz ?_ ?_; (case q112hl => assumption); (case q112hh => exact rfl); (case q112F => k_asm); (case q112N => k_asm); (case q112hi => assumption); (case q112hm => k_mem); (case q112sz => decide)); (focus (intro p' q' t' u' J' oJ' I' oI' C' oC' D' m' zs' h' tk' E' hp0 hp1 hq' hC' hx' hy' F' N' off' ne'; (try simp only [LCg.Off3, and_true] at off'); (try k_fold))))
  k_with "binaryOp Mult int int" => (k_here; k_dflt (refine mul_int ?_ (wei_ok (by assumption) (by assumption))))
  k_with "subscriptTail Name Slice ref ref" => (k_here; (with_reducible rename Fr _ _ _ _ => F'); (with_reducible rename News _ _ _ _ => N'); k_dflt (refine' tail_bits (s := ⟨_, _, _, _, _⟩) F' N' ?q114hm ?q114hi (rowI_len _ _) ?q114sz ?q114hx ?_; (case q114hm => k_mem); (case q114hi => assumption); (case q114sz => omega); (case q114hx => omega)); clear F' N'; intro D9 h9 us9 hi9 hl9 F9 N9 l9; (try k_lt l9); (try k_sweep); (try dsimp only); (try k_fold))
  k_with "KCfEl" => first | exact ⟨rfl, _, rfl⟩ | exact inv1_lt (by first | assumption | omega) | exact inv1_ge (by first | assumption | omega)
  k_with "WSrc" => (k_here; k_dflt (refine' wsrc_str (x := divX) divL ?q116hh ?q116F ?q116N divX_all divX_sz divX_len divX_at ?_ ?_; (case q116hh => exact rfl); (case q116F => k_asm); (case q116N => k_asm)); (focus (intro z' k' t' I' oI' C' oC' D' m' zs' h' tk' E' hz' hzl' hC' hx' F' N' off' ne'; (try simp only [LCg.Off3, and_true] at off'); (try k_fold))))
  k_with "call type:int" => (k_here; (with_reducible show wpAny _ _ (call (Value.type "int") [Value.str _ _]) _ _ _); k_dflt (refine KIN.call_text (by assumption) (by assumption) ?_))
  k_with "eval ListComp" => (k_here; k_dflt (refine ListComp_PK (F₀ := by k_asm) (by with_unfolding_all rfl) (by decide) (by rfl) (by decide) (by rfl) (by rfl) (by decide) ?_ (by intro _; with_unfolding_all rfl)))
  k_with "exec Assign cons ListComp" => (k_here; (with_reducible show wpAny _ _ (exec (Stmt.Assign _ (Expr.ListComp _ [⟨Expr.Name _ _, _, _, _⟩] _ _) _) _) _ _ _); k_dflt (refine Assign_ListComp_W (F₀ := by k_asm) (by rfl) (by with_unfolding_all rfl) (by with_unfolding_all rfl) (by decide) (by rfl) (by decide) (by rfl) (by rfl) (by rfl) ?_ (by intro _; with_unfolding_all rfl)))
  k_with "exec Assign cons ListComp" => (k_here; (with_reducible show wpAny _ _ (exec (Stmt.Assign _ (Expr.ListComp _ [⟨Expr.Tuple _ _ _, _, _, _⟩] _ _) _) _) _ _ _); k_dflt (refine Assign_ListComp_PK (F₀ := by k_asm) (by rfl) (by with_unfolding_all rfl) (by with_unfolding_all rfl) (by decide) (by rfl) (by decide) (by rfl) (by rfl) (by decide) (by rfl) (by rfl) ?_ (by intro _; with_unfolding_all rfl)))
  k_with "call builtin:len" => (k_here; (with_reducible show wpAny _ _ (call (Value.builtin "len") [Value.ref _]) _ _ _); k_dflt (first | (refine' len_bits ?q121N ?q121hm ?q121hi (B1_len _) ?q121sz ?_; (case q121N => k_asm); (case q121hm => k_mem); (case q121hi => assumption); (case q121sz => omega)) | (refine' len_bits ?q121N ?q121hm ?q121hi (rowI_len _ _) ?q121sz ?_; (case q121N => k_asm); (case q121hm => k_mem); (case q121hi => assumption); (case q121sz => omega))); intro _ _; (try dsimp only); (try k_fold))
  k_with "exec For" => (k_here; (rename Fr _ _ _ _ => lF'); (with_unfolding_all refine' For_invVF lF' ?q122k1 ?q122k2 ?_; (case q122k1 => exact rfl); (case q122k2 => exact rfl); k_whole))
  k_with "pyIter ref" => (k_here; (with_reducible show wpAny _ _ (pyIter (Value.ref _)) (fun it s₂ => LoopAtV _ _ _ _ _ _ _ _ _ it s₂) _ _); k_dflt (refine' out_loop ?q123hR ?q123hne ?q123hh ?q123hr ?q123hc ?q123hb ?q123F ?q123N ?q123hi ?q123h1 ?q123h2 (fun i' t' ys' k' m' h' tk' own' hlt' hlen' hne' hi' F' N' => ?_) (fun ys' k' m' h' tk' hi' F' N' => ?_); (case q123hR => assumption); (case q123hh => exact rfl); (case q123hr => assumption); (case q123F => k_asm); (case q123h1 => exact rfl); (case q123h2 => exact rfl); (case q123N => (refine news_of (by k_asm) ?_; kcf_all)); (case q123hi => assumption); (case q123hb => assumption); (case q123hc => omega); (case q123hne => exact ne_bits (And.right (And.right (And.right (And.right (by assumption))))) (And.left (by assumption)))); (all_goals (try k_fold)))
  k_with "pyIter ref" => (k_here; (with_reducible show wpAny _ _ (pyIter (Value.ref _)) (fun it s₂ => LoopAtV _ _ _ _ _ _ _ _ _ it s₂) _ _); k_dflt (refine' in_loop ?q124hl ?q124hne ?q124hh ?q124hr ?q124F ?q124N ?q124hi ?q124h1 ?q124h2 ?q124h3 (fun j' t' ti' ys' k' m' h' tk' own' hlt' hdl' hlen' hne' hi' F' N' => ?_) (fun ys' k' m' h' tk' hi' F' N' => ?_); (case q124hh => exact rfl); (case q124hr => assumption); (case q124F => k_asm); (case q124h1 => exact rfl); (case q124h2 => exact rfl); (case q124h3 => exact rfl); (case q124hne => assumption); (case q124N => assumption); (case q124hi => assumption); (case q124hl => assumption)); (all_goals (try k_fold)))
  k_with "InvEndN" => ((with_reducible show InvEndN _ _ (InJ _ _ _ _ _ _ _) _ _ _ _); k_dflt (refine' end_in ?q125F ?q125N ?q125hi ?q125h1 ?q125h2 ?q125h3 ?q125s ?q125o; (case q125F => assumption); (case q125N => assumption); (case q125hi => with_reducible assumption); (case q125h1 => exact rfl); (case q125h2 => exact rfl); (case q125h3 => exact rfl); (case q125s => kcf_all); (case q125o => kcf_all)))
  k_with "InvEndN" => ((with_reducible show InvEndN _ _ (OutJ _ _ _ _ _ _) _ _ _ _); k_dflt (refine' end_lay ?q126F ?q126N ?q126hi ?q126hc ?q126h1 ?q126h2 ?q126s ?q126o; (case q126F => assumption); (case q126N => assumption); (case q126hi => with_reducible assumption); (case q126hc => with_reducible assumption); (case q126h1 => exact rfl); (case q126h2 => exact rfl); (case q126s => kcf_all); (case q126o => kcf_all)))
  k_with "InvEndN" => ((with_reducible show InvEndN _ _ (OutJ _ _ _ _ _ _) _ _ _ _); k_dflt (refine' end_same ?q127F ?q127N ?q127hi ?q127hc ?q127h1 ?q127h2 ?q127s ?q127o; (case q127F => assumption); (case q127N => assumption); (case q127hi => with_reducible assumption); (case q127hc => with_reducible assumption); (case q127h1 => exact rfl); (case q127h2 => exact rfl); (case q127s => kcf_all); (case q127o => kcf_all)))
  unfold Con
  intro dp un gd cn cs a ccd cl outer A₀ base h₀ L m s Q E B F X N T hk hd' hu hret
  refine wpAny_call ?_
  k_dflt (first | (refine' code_def ?k1 ?k2 ?k3 ?k4 ?k5 ?kA ?kF ?kK ?k6 ?k7 ?k8 ?k9 ?kB ?_ ?c2 ?c3 ?c4 ?c5; (case kA => exact rfl); (case kF => exact rfl); (case kK => first | exact rfl | assumption); (case k1 => k_asm); (case k2 => k_asm); (case k3 => k_asm); (case k4 => k_asm); (case k5 => k_asm); (case k6 => k_is); (case k7 => k_is); (case k8 => ktr_room); (case k9 => first | exact BindsTo.of_eq rfl | exact binds_K (by k_in) rfl (by k_is) rfl rfl rfl); (case c5 => decide); (case kB => exact locs rfl); (case c2 => exact rfl); (case c3 => exact rfl); (case c4 => exact rfl); k_whole; intro g' L' h' FG' F' N' B' X' T'; (try dsimp only); (try k_lift B'); (try k_fold)) | (refine' code_defC ?k1 ?k2 ?k3 ?k4 ?k5 ?kA ?kF ?kK ?k6 ?k7 ?k8 ?k9 ?kB ?kD ?_ ?c2 ?c3 ?c4; (case kA => exact rfl); (case kF => exact rfl); (case kK => first | exact rfl | assumption); (case k1 => k_asm); (case k2 => k_asm); (case k3 => k_asm); (case k4 => k_asm); (case k5 => k_asm); (case k6 => k_is); (case k7 => k_is); (case k8 => ktr_room); (case k9 => first | exact BindsTo.of_eq rfl | exact binds_K (by k_in) rfl (by k_is) rfl rfl rfl); (case kB => exact rfl); (case kD => decide +kernel); (case c2 => exact rfl); (case c3 => exact rfl); (case c4 => exact rfl); k_whole; intro g' L' h' tk' cells' FG' F' N' Y' B' X' T' l1; (try k_lt l1); k_cells Y'; (try simp only [List.cons_append, List.nil_append] at N'); (try dsimp only); (try k_lift B'); (try k_fold)))
  have hR : Rest news := True.intro
  k_steps
  refine' con_ret hret (n' := news) ⟨rfl, _, rfl⟩ ?gF (news_of ?gN ?gS)
  (case gF => assumption)
  (case gN => assumption)
  (case gS => kcf_all)
theorem enumL_get (g : Int → Int → Int) (ns : List Int) {j : Nat} (h : j < ns.length) : (enumL g ns).getD j 0 = g (j : Int) (ns.getD j 0) := by
  have hz : (rangeKs 0 ns.length)[j]? = some ((0 : Int) + (j : Int)) := by simp [rangeKs, h]
  have hn : ns[j]? = some (ns.getD j 0) := by rw [List.getD_eq_getElem?_getD, List.getElem?_eq_getElem h]; rfl
  have hp : ((rangeKs 0 ns.length).zip ns)[j]? = some ((0 : Int) + (j : Int), ns.getD j 0) := by
    rw [List.getElem?_zip_eq_some]; exact ⟨hz, hn⟩
  unfold enumL
  rw [List.getD_eq_getElem?_getD, List.getElem?_map, hp]
  simp
theorem bit_fd (o q : Nat) : ((o : Int).fdiv ((2 : Int) ^ (q : Int).toNat)).fmod 2 = b01 (o.testBit q) := by
  rw [Int.toNat_natCast, fd_nat]
  have e : ((o / 2 ^ q : Nat) : Int).fmod 2 = ((o / 2 ^ q % 2 : Nat) : Int) := by
    rw [Int.fmod_eq_emod_of_nonneg _ (by decide)]; omega
  rw [e, ← Nat.toNat_testBit]
  cases o.testBit q <;> rfl
theorem bitsL_get : ∀ (l : List Nat) (j : Nat), j < 8 * l.length → (bitsL (l.map fun (o : Nat) => (o : Int))).getD j 0 = b01 (dBit l j)
  | [], j, h => by simp at h
  | o :: l, j, h => by
    have e : bitsL ((o :: l).map fun (o : Nat) => (o : Int)) = ((rangeKs 0 8).map fun q => ((o : Int).fdiv ((2 : Int) ^ q.toNat)).fmod 2) ++ bitsL (l.map fun (o : Nat) => (o : Int)) := rfl
    have hl : ((rangeKs 0 8).map fun q => ((o : Int).fdiv ((2 : Int) ^ q.toNat)).fmod 2).length = 8 := by rw [List.length_map, rangeKs_length]
    rw [e, List.getD_eq_getElem?_getD]
    by_cases hj : j < 8
    · rw [List.getElem?_append_left (by rw [hl]; exact hj), List.getElem?_map]
      have hk : (rangeKs 0 8)[j]? = some ((0 : Int) + (j : Int)) := by simp [rangeKs, hj]
      rw [hk]
      have z : (0 : Int) + (j : Int) = (j : Int) := by omega
      simp only [Option.map_some, Option.getD_some, z]
      rw [bit_fd]
      have a : j / 8 = 0 := by omega
      have b : j % 8 = j := by omega
      simp [dBit, a, b]
    · rw [List.getElem?_append_right (by rw [hl]; omega), hl, ← List.getD_eq_getElem?_getD, bitsL_get l (j - 8) (by rw [List.length_cons] at h; omega)]
      have a : j / 8 = (j - 8) / 8 + 1 := by omega
      have b : j % 8 = (j - 8) % 8 := by omega
      simp [dBit, a, b]
theorem dBit_hi (l : List Nat) {j : Nat} (h : 8 * l.length ≤ j) : dBit l j = false := by
  unfold dBit
  have : l[j / 8]? = none := List.getElem?_eq_none (by omega)
  rw [List.getD_eq_getElem?_getD, this]
  simp
theorem row_start {b : Array UInt8} {l : List Nat} (hl : KBw.bInts b = l.map fun (o : Nat) => (o : Int)) : RowAt (dBit l) (8 * b.size) 0 (B1 b) := by
  have hs : b.size = l.length := by rw [← KBw.ints_length, hl, List.length_map]
  refine ⟨B1_len b, fun j _ hj => ?_⟩
  have hB0 : (B0 b).getD j 0 = b01 (dBit l j) := by
    unfold B0
    rw [List.getD_eq_getElem?_getD]
    by_cases h : j < 8 * b.size
    · rw [List.getElem?_append_left (by rw [bitsL_len, KBw.ints_length]; exact h), ← List.getD_eq_getElem?_getD, hl, bitsL_get l j (by omega)]
    · rw [List.getElem?_append_right (by rw [bitsL_len, KBw.ints_length]; omega), dBit_hi l (by omega), List.getElem?_replicate]
      split <;> rfl
  unfold B1
  rw [enumL_get _ _ (by rw [B0_len]; omega), hB0]
  show inv1 _ _ = b01 ((4294967295 : Nat).testBit (j - 0) ^^ dBit l j)
  rw [ones_testBit, Nat.sub_zero]
  unfold inv1
  by_cases h : j < 32
  · rw [if_pos (by omega)]
    simp only [h, decide_true]
    cases dBit l j <;> rfl
  · rw [if_neg (by omega)]
    simp only [h, decide_false]
    cases dBit l j <;> rfl
theorem wei_sum {ms : List Int} (h : ms.length = 32) : (enumL wei ms).sum = ((List.range 32).map fun i => (1 - ms.getD i 0) * 2 ^ i).sum := by
  congr 1
  refine List.ext_getElem ?_ fun i h1 h2 => ?_
  · rw [enumL_len, h, List.length_map, List.length_range]
  · have hi : i < 32 := by rw [enumL_len, h] at h1; exact h1
    have e := enumL_get wei ms (j := i) (by omega)
    rw [List.getD_eq_getElem?_getD, List.getElem?_eq_getElem h1, Option.getD_some] at e
    rw [e, List.getElem_map, List.getElem_range]
    unfold wei
    rw [Int.toNat_natCast]
/-- the plain long division gives what crc32 gives -/
theorem rest_crc (b : Array UInt8) : restI b = crcI b := by
  obtain ⟨l, hl, hb⟩ := nat_of (bInts_in b)
  have hs : b.size = l.length := by rw [← KBw.ints_length, hb, List.length_map]
  have hr := runI_row (row_start hb) (8 * b.size) (Nat.le_refl _)
  have e := row_end (n := 8 * b.size) (d := dBit l) (fun j hj => dBit_hi l (by omega)) hr
  unfold restI
  rw [wei_sum (by rw [List.length_drop, rowI_len]; omega)]
  have g : ∀ i, (List.drop (8 * b.size) (rowI b (8 * b.size))).getD i 0 = (runI (B1 b) (8 * b.size)).getD (8 * b.size + i) 0 := by
    intro i
    rw [List.getD_eq_getElem?_getD, List.getElem?_drop, ← List.getD_eq_getElem?_getD]
  simp only [g]
  rw [e, crcI_L, hb, crc_nat, hs, serS_octs l _ hl]
  rfl
open PySem PySem.W PyProof.Rows PySem.Spec PySem.Calls PyProof.Rows.LCg
section
variable {prog : Program} {w : World} {A : Around} {E : Value → Shared → Prop} {s : Shared}
/-- the next octet, asked for from within a built-in -/
theorem octet_next {it : Addr} {b : Array UInt8} {t : Tok} {i : Nat} {c : UInt8} {Q : Value → Shared → Prop} (hit : KBw.IsBytesIter s.heap it b t i) (hx : b[i]? = some c)
    (hQ : ∀ h', KBw.IsBytesIter h' it b t (i + 1) → Heap.SameBut it s.heap h' → Q (.int (c.toNat : Int) s.toks) { s with heap := h', toks := s.toks + 1 }) : wpAny (model prog w) A (Builtin.SmallTypes.nextOf (.ref it)) Q E s := by
  obtain ⟨o, ho, hc, hd⟩ := id hit
  unfold Builtin.SmallTypes.nextOf
  refine wpAny_bind (wpAny_callSpecial?_slot (name := PySem.Str.ofString "__next__") (KBw.iter_typeIs hit) KBw.slot_next
    (wpAny_call_entry KBw.slot_next (KBw.iter_typeIs hit) KBw.entry_next ?_ (KBw.args_next _)))
  show wpAny _ _ (field (.ref it) 0 >>= _) _ _ s
  refine wpAny_bind (wpAny_field ho hd (x := .bytes b t) rfl ?_)
  show wpAny _ _ (if (Value.bytes b t == Value.none) = true then _ else _) _ _ s
  rw [if_neg (show ¬ ((Value.bytes b t == Value.none) = true) from Bool.false_ne_true)]
  show wpAny _ _ (field (.ref it) 1 >>= _) _ _ s
  refine wpAny_bind (wpAny_field ho hd (x := .int i 0) rfl ?_)
  refine wpAny_bind (wpAny_of_eq (a := b) rfl ?_)
  simp only [Int.toNat_natCast, hx]
  refine wpAny_bind (wpAny_setField ho hd (by simp) (wpAny_bind (wpAny_mkInt (wpAny_pure ⟨_, rfl, wpAny_pure (hQ _ ?_ (Heap.SameBut.update ..))⟩))))
  exact ⟨_, Heap.get?_update_self _ ho (Obj.isFreed_of_fields (Obj.data_mapFields hd _)), (Obj.cls_mapFields ..).trans hc, by
    rw [Obj.data_mapFields hd]; simp [rawInt]⟩
theorem octet_end {it : Addr} {b : Array UInt8} {t : Tok} {i : Nat} {Q : Value → Shared → Prop} (hh : A.handled = none) (hit : KBw.IsBytesIter s.heap it b t i) (hx : b[i]? = none)
    (hE : ∀ h' e, Heap.ExtBut it s.heap h' → (∃ o, h'.get? e = some o ∧ o.cls = .type "StopIteration") → E (.ref e) { s with heap := h' }) : wpAny (model prog w) A (Builtin.SmallTypes.nextOf (.ref it)) Q E s := by
  obtain ⟨o, ho, hc, hd⟩ := id hit
  unfold Builtin.SmallTypes.nextOf
  refine wpAny_bind (wpAny_callSpecial?_slot (name := PySem.Str.ofString "__next__") (KBw.iter_typeIs hit) KBw.slot_next
    (wpAny_call_entry KBw.slot_next (KBw.iter_typeIs hit) KBw.entry_next ?_ (KBw.args_next _)))
  show wpAny _ _ (field (.ref it) 0 >>= _) _ _ s
  refine wpAny_bind (wpAny_field ho hd (x := .bytes b t) rfl ?_)
  show wpAny _ _ (if (Value.bytes b t == Value.none) = true then _ else _) _ _ s
  rw [if_neg (show ¬ ((Value.bytes b t == Value.none) = true) from Bool.false_ne_true)]
  show wpAny _ _ (field (.ref it) 1 >>= _) _ _ s
  refine wpAny_bind (wpAny_field ho hd (x := .int i 0) rfl ?_)
  refine wpAny_bind (wpAny_of_eq (a := b) rfl ?_)
  simp only [Int.toNat_natCast, hx]
  refine wpAny_bind (wpAny_rule (wpAny_bind (wpAny_setField ho hd (by simp) ?_)))
  show wpAny _ _ (newExc (.type "StopIteration") [] >>= _) _ _ _
  refine wpAny_bind ?_
  simp only [newExc, newTuple]
  refine wpAny_bind (wpAny_newObj_type ?_ (by size_fits))
  refine wpAny_bind (m := firstArgMember _ _) (wpAny_of_eq (a := Value.none) (by first | rfl | (simp only [firstArgMember]; rfl)) ?_)
  refine wpAny_newObj_type ?_ (by size_fits)
  simp only [raiseNew]
  refine wpAny_bind (wpAny_handled ?_)
  first | rw [show A.in1.handled = none from hh] | rw [hh]
  refine wpAny_bind (wpAny_pure (wpAny_throw ?_))
  exact hE _ _ (((Heap.SameBut.update ..).extBut.push _).push _) ⟨_, Heap.get?_push_size _ rfl, rfl⟩
theorem biter_at {h h' : Heap} {it : Addr} {b : Array UInt8} {t : Tok} {i : Nat} (x : KBw.IsBytesIter h it b t i) (k : ∀ o, h.get? it = some o → h'.get? it = some o) : KBw.IsBytesIter h' it b t i := let ⟨o, e, r⟩ := x; ⟨o, k o e, r⟩
/-- the five of a zip of two rows of octets lie apart -/
structure ZApart (z TI TO i1 i2 : Addr) : Prop where
  a1 : TI ≠ z
  a2 : TO ≠ z
  a3 : i1 ≠ z
  a4 : i2 ≠ z
  a5 : TI ≠ TO
  a6 : TI ≠ i1
  a7 : TI ≠ i2
  a8 : TO ≠ i1
  a9 : TO ≠ i2
  a10 : i1 ≠ i2
variable {z TI TO i1 i2 : Addr} {b1 b2 : Array UInt8} {t1 t2 : Tok}
theorem zb_item {k : Nat} {c d : UInt8} {x y : Value} {Q : Option Value → Shared → Prop} (D : ZApart z TI TO i1 i2)
    (hz : IsZip s.heap z TI TO .none) (hTI : IsPair s.heap TI (.ref i1) (.ref i2)) (hTO : IsPair s.heap TO x y) (h1 : KBw.IsBytesIter s.heap i1 b1 t1 k) (h2 : KBw.IsBytesIter s.heap i2 b2 t2 k) (hc : b1[k]? = some c) (hd : b2[k]? = some d)
    (hQ : ∀ h' u v tk, IsZip h' z TI TO (rawInt s.heap.objs.size) → IsPair h' TO (.int (c.toNat : Int) u) (.int (d.toNat : Int) v) → KBw.IsBytesIter h' i1 b1 t1 (k + 1) → KBw.IsBytesIter h' i2 b2 t2 (k + 1) → IsPair h' s.heap.objs.size (.int (c.toNat : Int) u) (.int (d.toNat : Int) v) →
      (∀ a o, a ≠ z → a ≠ TO → a ≠ i1 → a ≠ i2 → s.heap.get? a = some o → h'.get? a = some o) → Q (some (.ref s.heap.objs.size)) { s with heap := h', toks := tk }) :
    wpAny (model prog w) A (pyNext (.ref z)) Q E s := by
  have hT : s.TypeIs (.ref z) "zip" := ⟨_, hz, rfl⟩
  unfold pyNext
  refine wpAny_bind (wpAny_attempt (wpAny_callSpecial?_slot (name := Str.ofString "__next__") hT F.slot_zip_next (wpAny_call_entry F.slot_zip_next hT F.entry_zip_next ?_ (F.args_zip_next_1 _))))
  show wpAny _ _ (field (.ref z) 2 >>= _) _ _ _
  refine wpAny_bind (wpAny_field hz rfl (x := .bool false) rfl ?_)
  show wpAny _ _ (field (.ref z) 3 >>= _) _ _ _
  refine wpAny_bind (wpAny_field hz rfl (x := .ref TI) rfl ?_)
  refine wpAny_bind (wpAny_seqItems hTI rfl ?_)
  show wpAny _ _ (Builtin.SmallTypes.ownedTupleIsFree (.ref z) >>= _) _ _ _
  refine wpAny_bind ?_
  unfold Builtin.SmallTypes.ownedTupleIsFree
  refine wpAny_bind (wpAny_field hz rfl (x := .none) rfl (wpAny_pure ?_))
  simp only [if_true]
  refine wpAny_bind (wpAny_rule ?_)
  refine wpAny_bind (wpAny_field hz rfl (x := .ref TO) rfl ?_)
  refine wpAny_bind (wpAny_setField_rec hz (by simp) fun g1 hz1 s1 => ?_)
  replace hz1 : IsZip g1 z TI TO .ellipsis := hz1
  refine wpAny_bind ?_
  simp only [List.zipIdx_cons, List.zipIdx_nil, List.forIn_cons, List.forIn_nil]
  refine wpAny_bind (wpAny_bind (wpAny_onRaise ?_))
  show wpAny _ _ (Builtin.SmallTypes.nextOf (.ref i1) >>= _) _ _ _
  refine wpAny_bind (octet_next (biter_at h1 fun o e => s1.extBut _ _ D.a3 e) hc fun g2 n1 s2 => wpAny_pure ?_)
  have p2 : IsPair g2 TO x y := s2.extBut _ _ D.a8 (s1.extBut _ _ D.a2 hTO)
  refine wpAny_bind (wpAny_seqItems p2 rfl ?_)
  refine wpAny_bind (wpAny_updateSeq_pair p2 fun g3 p3 s3 => ?_)
  replace p3 : IsPair g3 TO (.int (c.toNat : Int) s.toks) y := p3
  refine wpAny_bind (wpAny_letGo (wpAny_pure ?_))
  refine wpAny_bind (wpAny_bind (wpAny_onRaise ?_))
  show wpAny _ _ (Builtin.SmallTypes.nextOf (.ref i2) >>= _) _ _ _
  refine wpAny_bind (octet_next (biter_at h2 fun o e => s3.extBut _ _ (Ne.symm D.a9) (s2.extBut _ _ (Ne.symm D.a10) (s1.extBut _ _ D.a4 e))) hd fun g4 n2 s4 => wpAny_pure ?_)
  have p4 : IsPair g4 TO (.int (c.toNat : Int) s.toks) y := s4.extBut _ _ D.a9 p3
  refine wpAny_bind (wpAny_seqItems p4 rfl ?_)
  refine wpAny_bind (wpAny_updateSeq_pair p4 fun g5 p5 s5 => ?_)
  replace p5 : IsPair g5 TO (.int (c.toNat : Int) s.toks) (.int (d.toNat : Int) (s.toks + 1)) := p5
  refine wpAny_bind (wpAny_letGo (wpAny_pure (wpAny_pure ?_)))
  refine wpAny_bind (wpAny_seqItems p5 rfl ?_)
  refine wpAny_bind (wpAny_newTuple ?_)
  have hsz : g5.objs.size = s.heap.objs.size := by rw [s5.1, s4.1, s3.1, s2.1, s1.1]
  have z5 : IsZip g5 z TI TO .ellipsis := s5.extBut _ _ (Ne.symm D.a2) (s4.extBut _ _ (Ne.symm D.a4) (s3.extBut _ _ (Ne.symm D.a2) (s2.extBut _ _ (Ne.symm D.a3) hz1)))
  have k5 : ∀ a o, a ≠ z → a ≠ TO → a ≠ i1 → a ≠ i2 → s.heap.get? a = some o → g5.get? a = some o := fun a o c1 c2 c3 c4 e =>
    s5.extBut _ _ c2 (s4.extBut _ _ c4 (s3.extBut _ _ c2 (s2.extBut _ _ c3 (s1.extBut _ _ c1 e))))
  have q1 : KBw.IsBytesIter g5 i1 b1 t1 (k + 1) := biter_at n1 fun o e => s5.extBut _ _ (Ne.symm D.a8) (s4.extBut _ _ D.a10 (s3.extBut _ _ (Ne.symm D.a8) e))
  have q2 : KBw.IsBytesIter g5 i2 b2 t2 (k + 1) := biter_at n2 fun o e => s5.extBut _ _ (Ne.symm D.a9) e
  have hzlt : z < g5.objs.size := Heap.lt_size z5
  show wpAny _ _ (Builtin.SmallTypes.ownedTupleHandOut (.ref z) (.ref g5.objs.size) >>= _) _ _ _
  refine wpAny_bind ?_
  unfold Builtin.SmallTypes.ownedTupleHandOut
  have z6 : IsZip (g5.push { cls := .type "tuple", data := .seq #[.int (c.toNat : Int) s.toks, .int (d.toNat : Int) (s.toks + 1)] }) z TI TO .ellipsis := Heap.get?_push_of_some _ z5
  refine wpAny_bind (wpAny_setField_rec z6 (by simp) fun g7 z7 s7 => ?_)
  replace z7 : IsZip g7 z TI TO (rawInt g5.objs.size) := z7
  refine wpAny_setField_rec z7 (by simp) fun g8 z8 s8 => ?_
  replace z8 : IsZip g8 z TI TO (rawInt g5.objs.size) := z8
  have up : ∀ a o, a ≠ z → g5.get? a = some o → g8.get? a = some o := fun a o c1 e => s8.extBut _ _ c1 (s7.extBut _ _ c1 (Heap.get?_push_of_some _ e))
  have p8 : IsPair g8 g5.objs.size (.int (c.toNat : Int) s.toks) (.int (d.toNat : Int) (s.toks + 1)) := s8.extBut _ _ (Nat.ne_of_gt hzlt) (s7.extBut _ _ (Nat.ne_of_gt hzlt) (Heap.get?_push_size _ rfl))
  rw [hsz] at z8 p8
  refine wpAny_pure ⟨_, rfl, ?_⟩
  refine wpAny_pure ?_
  show Q (some (.ref g5.objs.size)) _
  rw [hsz]
  exact hQ g8 _ _ _ z8 (up _ _ D.a2 p5) (biter_at q1 fun o e => up _ o D.a3 e) (biter_at q2 fun o e => up _ o D.a4 e) p8 fun a o c1 c2 c3 c4 e => up a o c1 (k5 a o c1 c2 c3 c4 e)
theorem zb_end {k : Nat} {x y : Value} {Q : Option Value → Shared → Prop} (hh : A.handled = none) (D : ZApart z TI TO i1 i2)
    (hz : IsZip s.heap z TI TO .none) (hTI : IsPair s.heap TI (.ref i1) (.ref i2)) (hTO : IsPair s.heap TO x y) (h1 : KBw.IsBytesIter s.heap i1 b1 t1 k) (hc : b1[k]? = none)
    (hQ : ∀ h', (∀ a o, a ≠ z → a ≠ TO → a ≠ i1 → a ≠ i2 → s.heap.get? a = some o → h'.get? a = some o) → Q none { s with heap := h' }) : wpAny (model prog w) A (pyNext (.ref z)) Q E s := by
  have hT : s.TypeIs (.ref z) "zip" := ⟨_, hz, rfl⟩
  unfold pyNext
  refine wpAny_bind (wpAny_attempt (wpAny_callSpecial?_slot (name := Str.ofString "__next__") hT F.slot_zip_next (wpAny_call_entry F.slot_zip_next hT F.entry_zip_next ?_ (F.args_zip_next_1 _))))
  show wpAny _ _ (field (.ref z) 2 >>= _) _ _ _
  refine wpAny_bind (wpAny_field hz rfl (x := .bool false) rfl ?_)
  show wpAny _ _ (field (.ref z) 3 >>= _) _ _ _
  refine wpAny_bind (wpAny_field hz rfl (x := .ref TI) rfl ?_)
  refine wpAny_bind (wpAny_seqItems hTI rfl ?_)
  show wpAny _ _ (Builtin.SmallTypes.ownedTupleIsFree (.ref z) >>= _) _ _ _
  refine wpAny_bind ?_
  unfold Builtin.SmallTypes.ownedTupleIsFree
  refine wpAny_bind (wpAny_field hz rfl (x := .none) rfl (wpAny_pure ?_))
  simp only [if_true]
  refine wpAny_bind (wpAny_rule ?_)
  refine wpAny_bind (wpAny_field hz rfl (x := .ref TO) rfl ?_)
  refine wpAny_bind (wpAny_setField_rec hz (by simp) fun g1 hz1 s1 => ?_)
  replace hz1 : IsZip g1 z TI TO .ellipsis := hz1
  refine wpAny_bind ?_
  simp only [List.zipIdx_cons, List.zipIdx_nil, List.forIn_cons, List.forIn_nil]
  refine wpAny_bind (wpAny_bind (wpAny_onRaise ?_))
  show wpAny _ _ (Builtin.SmallTypes.nextOf (.ref i1) >>= _) _ _ _
  refine wpAny_bind (octet_end hh (biter_at h1 fun o e => s1.extBut _ _ D.a3 e) hc fun g2 e s2 he => ?_)
  obtain ⟨oe, hoe, hce⟩ := he
  have hz2 : IsZip g2 z TI TO .ellipsis := s2 _ _ (Ne.symm D.a3) hz1
  have hez : e ≠ z := fun q => by subst q; rw [hz2] at hoe; cases hoe; simp at hce
  refine wpAny_setField_rec hz2 (by simp) fun g3 _ s3 => ?_
  refine wpAny_bind (wpAny_isInstance (T := "StopIteration") (b := true) ⟨oe, s3.extBut _ _ hez hoe, hce⟩ isSubtype_stop ?_)
  exact wpAny_pure (hQ _ fun a o c1 _ c3 _ q => s3.extBut _ _ c1 (s2 _ _ c3 (s1.extBut _ _ c1 q)))
theorem zb_walks (hh : A.handled = none) (D : ZApart z TI TO i1 i2) (hsz : b1.size = b2.size) :
    WalksU prog w A z [z, TI, TO, i1, i2] (z :: [TI, TO, i1, i2]) b1.size
      (fun i vals => ∃ c d u v, b1[i]? = some c ∧ b2[i]? = some d ∧ vals = #[.int ((c : UInt8).toNat : Int) u, .int ((d : UInt8).toNat : Int) v])
      (fun i h => IsZip h z TI TO .none ∧ IsPair h TI (.ref i1) (.ref i2) ∧ (∃ a b, IsPair h TO a b) ∧ KBw.IsBytesIter h i1 b1 t1 i ∧ KBw.IsBytesIter h i2 b2 t2 i)
      (fun i T h => IsZip h z TI TO (rawInt T) ∧ IsPair h TI (.ref i1) (.ref i2) ∧ (∃ a b, IsPair h TO a b) ∧ KBw.IsBytesIter h i1 b1 t1 (i + 1) ∧ KBw.IsBytesIter h i2 b2 t2 (i + 1) ∧ T ≠ z ∧ T ≠ TI ∧ T ≠ TO ∧ T ≠ i1 ∧ T ≠ i2) where
  sub := fun c hc => hc
  frame := fun i h h' hst hk => by
    obtain ⟨hz, hTI, ⟨a, b, hTO⟩, h1, h2⟩ := hst
    exact ⟨hk z (by simp) _ hz, hk TI (by simp) _ hTI, ⟨a, b, hk TO (by simp) _ hTO⟩, biter_at h1 fun o e => hk i1 (by simp) o e, biter_at h2 fun o e => hk i2 (by simp) o e⟩
  item := fun i s Q E hi hst hQ => by
    obtain ⟨hz, hTI, ⟨a, b, hTO⟩, h1, h2⟩ := hst
    have e1 : b1[i]? = some b1[i] := Array.getElem?_eq_getElem hi
    have hi2 : i < b2.size := by omega
    have e2 : b2[i]? = some b2[i] := Array.getElem?_eq_getElem hi2
    refine zb_item D hz hTI hTO h1 h2 e1 e2 fun h' u v tk c1 c2 c3 c4 c5 hk => ?_
    have lt : ∀ {c o}, s.heap.get? c = some o → s.heap.objs.size ≠ c := fun e => Nat.ne_of_gt (Heap.lt_size e)
    exact hQ s.heap.objs.size _ h' tk ⟨_, _, u, v, e1, e2, rfl⟩ ⟨_, c5, rfl, _, rfl⟩
      ⟨c1, hk _ _ D.a1 D.a5 D.a6 D.a7 hTI, ⟨_, _, c2⟩, c3, c4, lt hz, lt hTI, lt hTO, (by obtain ⟨_, e, _⟩ := h1; exact lt e), (by obtain ⟨_, e, _⟩ := h2; exact lt e)⟩
      fun c o hc e => hk c o (fun q => hc (by simp [q])) (fun q => hc (by simp [q])) (fun q => hc (by simp [q])) (fun q => hc (by simp [q])) e
  go := fun elts k pos i T s Q E hm hQ => by
    obtain ⟨hz, hTI, ⟨a, b, hTO⟩, h1, h2, _⟩ := hm
    refine wpAny_letOwnedTupleGo_zip hz fun h' hz' hs' => hQ h' ⟨hz', hs'.extBut _ _ D.a1 hTI, ⟨a, b, hs'.extBut _ _ D.a2 hTO⟩, biter_at h1 fun o e => hs'.extBut _ _ D.a3 e, biter_at h2 fun o e => hs'.extBut _ _ D.a4 e⟩ fun c o hc e => hs'.extBut _ _ (fun q => hc (by simp [q])) e
  apart := fun i T h hm hT => by
    obtain ⟨_, _, _, _, _, d1, d2, d3, d4, d5⟩ := hm
    simp only [List.mem_cons, List.not_mem_nil, or_false] at hT
    rcases hT with rfl | rfl | rfl | rfl | rfl
    · exact d1 rfl
    · exact d2 rfl
    · exact d3 rfl
    · exact d4 rfl
    · exact d5 rfl
  done := fun s Q E hst hQ => by
    obtain ⟨hz, hTI, ⟨a, b, hTO⟩, h1, h2⟩ := hst
    exact zb_end hh D hz hTI hTO h1 (Array.getElem?_eq_none (Nat.le_refl _)) fun h' hk => hQ h' s.toks fun c o hc e => hk c o (fun q => hc (by simp [q])) (fun q => hc (by simp [q])) (fun q => hc (by simp [q])) (fun q => hc (by simp [q])) e
  self := fun i s Q E hst hQ => wpAny_pyIter_zip hst.1 hQ
end
open PySem PySem.W PyProof.Rows PySem.Spec PySem.Calls PyProof.Rows.LCg
abbrev zb1 (h : Heap) (b1 : Array UInt8) (t1 : Tok) : Heap := h.push { cls := .type "bytes_iterator", data := .fields #[.bytes b1 t1, .int 0 0] }
abbrev zb2 (h : Heap) (b1 b2 : Array UInt8) (t1 t2 : Tok) : Heap := (zb1 h b1 t1).push { cls := .type "bytes_iterator", data := .fields #[.bytes b2 t2, .int 0 0] }
abbrev zb3 (h : Heap) (b1 b2 : Array UInt8) (t1 t2 : Tok) : Heap := (zb2 h b1 b2 t1 t2).push { cls := .type "tuple", data := .seq #[.ref h.objs.size, .ref (zb1 h b1 t1).objs.size] }
abbrev zb4 (h : Heap) (b1 b2 : Array UInt8) (t1 t2 : Tok) : Heap := (zb3 h b1 b2 t1 t2).push { cls := .type "tuple", data := .seq #[.none, .none] }
abbrev zb5 (h : Heap) (b1 b2 : Array UInt8) (t1 t2 : Tok) : Heap := (zb4 h b1 b2 t1 t2).push { cls := .type "zip", data := .fields #[.none, .bool false, .bool false, .ref (zb2 h b1 b2 t1 t2).objs.size, .ref (zb3 h b1 b2 t1 t2).objs.size] }
theorem zb_new (b1 b2 : Array UInt8) (t1 t2 : Tok) :
    Meets (Builtin.«zip.__new__» ⟨[.type "zip", .bytes b1 t1, .bytes b2 t2], []⟩) (fun _ R s => R (.ok (.ret (.ref (zb4 s.heap b1 b2 t1 t2).objs.size))) { s with heap := zb5 s.heap b1 b2 t1 t2 }) :=
  .of_wp fun prog w A R s h => by
    obtain ⟨hp, g, d, tk, os⟩ := s
    have hsub := sub_zip
    wp_walk using KBw.pyIter_bytes
    exact ⟨_, rfl, h⟩
section
variable {prog : Program} {w : World} {A : Around} {E : Value → Shared → Prop} {s : Shared}
theorem zb_call {b1 b2 : Array UInt8} {t1 t2 : Tok} {Q : Value → Shared → Prop}
    (h : ∀ h', IsZip h' (s.heap.objs.size + 4) (s.heap.objs.size + 2) (s.heap.objs.size + 3) .none → IsPair h' (s.heap.objs.size + 2) (.ref s.heap.objs.size) (.ref (s.heap.objs.size + 1)) → IsPair h' (s.heap.objs.size + 3) .none .none →
      KBw.IsBytesIter h' s.heap.objs.size b1 t1 0 → KBw.IsBytesIter h' (s.heap.objs.size + 1) b2 t2 0 → h'.objs.size = s.heap.objs.size + 5 → (∀ c o, s.heap.get? c = some o → h'.get? c = some o) → Q (.ref (s.heap.objs.size + 4)) { s with heap := h' }) :
    wpAny (model prog w) A (call (.type "zip") [.bytes b1 t1, .bytes b2 t2]) Q E s := by
  refine callType_new F.called_zip (by decide) (F.typeCall_zip_2 _ _) (F.newCall_zip_2 _ _) (fun obj => F.args_object_init_3 obj _ _) F.entry_zip_new (zb_new b1 b2 t1 t2) ?_
  have z1 : (zb1 s.heap b1 t1).objs.size = s.heap.objs.size + 1 := Heap.size_push ..
  have z2 : (zb2 s.heap b1 b2 t1 t2).objs.size = s.heap.objs.size + 2 := by rw [Heap.size_push, z1]
  have z3 : (zb3 s.heap b1 b2 t1 t2).objs.size = s.heap.objs.size + 3 := by rw [Heap.size_push, z2]
  have z4 : (zb4 s.heap b1 b2 t1 t2).objs.size = s.heap.objs.size + 4 := by rw [Heap.size_push, z3]
  have z5 : (zb5 s.heap b1 b2 t1 t2).objs.size = s.heap.objs.size + 5 := by rw [Heap.size_push, z4]
  have g5 : (zb5 s.heap b1 b2 t1 t2).get? (zb4 s.heap b1 b2 t1 t2).objs.size = some _ := Heap.get?_push_size _ rfl
  have g4 : (zb5 s.heap b1 b2 t1 t2).get? (zb3 s.heap b1 b2 t1 t2).objs.size = some _ := Heap.get?_push_of_some _ (Heap.get?_push_size _ rfl)
  have g3 : (zb5 s.heap b1 b2 t1 t2).get? (zb2 s.heap b1 b2 t1 t2).objs.size = some _ := Heap.get?_push_of_some _ (Heap.get?_push_of_some _ (Heap.get?_push_size _ rfl))
  have g2 : (zb5 s.heap b1 b2 t1 t2).get? (zb1 s.heap b1 t1).objs.size = some _ := Heap.get?_push_of_some _ (Heap.get?_push_of_some _ (Heap.get?_push_of_some _ (Heap.get?_push_size _ rfl)))
  have g1 : (zb5 s.heap b1 b2 t1 t2).get? s.heap.objs.size = some _ := Heap.get?_push_of_some _ (Heap.get?_push_of_some _ (Heap.get?_push_of_some _ (Heap.get?_push_of_some _ (Heap.get?_push_size _ rfl))))
  show _ ∧ _
  rw [z2, z3, z4] at g5
  rw [z1, z2] at g3
  rw [z3] at g4
  rw [z1] at g2
  rw [z4]
  exact ⟨⟨_, g5, rfl⟩, h _ g5 g3 g4 ⟨_, g1, rfl, rfl⟩ ⟨_, g2, rfl, rfl⟩ z5 fun c o x =>
    Heap.get?_push_of_some _ (Heap.get?_push_of_some _ (Heap.get?_push_of_some _ (Heap.get?_push_of_some _ (Heap.get?_push_of_some _ x))))⟩
variable {h₀ : Heap} {L : Addr} {m : Str → Option Value} {env : Env}
theorem zip_src {elt : Expr} {a b : Str} {scope : Scope} {cl : List (Str × Addr)} {Fin : Shared → List Value → Led → Prop} {b1 b2 : Array UInt8} {t1 t2 : Tok} {news : Led}
    (g : Int → Int → Int) (hh : A.handled = none) (F : Fr h₀ L s.heap m) (N : News h₀ L s.heap news) (hsz : b1.size = b2.size) (hsz2 : b1.size ≤ 1000)
    (turn : ∀ p q t u I oI C oC D m₂ zs h tk (aux : Led) (E' : Value → Shared → Prop), 0 ≤ p → p < 256 → 0 ≤ q → q < 256 → NsObj oC m₂ → m₂ a = some (.int p t) → m₂ b = some (.int q u) → Fr h₀ L h m → News h₀ L h ((I, oI) :: (C, oC) :: (D, lst zs) :: (aux ++ news)) →
      Off3 I C D (aux ++ news) → ((@Ne Nat I C) ∧ (@Ne Nat I D) ∧ (@Ne Nat C D)) →
      wpAny (model prog w) A (eval elt (compEnvC scope cl C env)) (CompEnd h₀ L m { s with heap := h, toks := tk } I oI C oC D (lst zs) (fun _ => True) (fun yv news' => KCfEl (aux ++ news) (g p q) yv news')) E' { s with heap := h, toks := tk })
    (fin : ∀ h' ys, IntsAre ys (((KBw.bInts b1).zip (KBw.bInts b2)).map fun r => g r.1 r.2) → Fin { s with heap := h' } ys news) :
    wpAny (model prog w) A (call (.type "zip") [.bytes b1 t1, .bytes b2 t2]) (PairSrc prog w A h₀ L m env elt a b scope cl Fin) E s := by
  refine zb_call fun h' hz hTI hTO h1 h2 hs hk => ?_
  have D : ZApart (s.heap.objs.size + 4) (s.heap.objs.size + 2) (s.heap.objs.size + 3) s.heap.objs.size (s.heap.objs.size + 1) :=
    { a1 := Nat.ne_of_lt (by omega), a2 := Nat.ne_of_lt (by omega), a3 := Nat.ne_of_lt (by omega), a4 := Nat.ne_of_lt (by omega), a5 := Nat.ne_of_lt (by omega), a6 := Nat.ne_of_gt (by omega), a7 := Nat.ne_of_gt (by omega), a8 := Nat.ne_of_gt (by omega), a9 := Nat.ne_of_gt (by omega), a10 := Nat.ne_of_lt (by omega) }
  have W := zb_walks (prog := prog) (w := w) (t1 := t1) (t2 := t2) hh D hsz
  have fresh₀ : ∀ a, s.heap.objs.size ≤ a → h₀.get? a = none := fun a ha => by
    cases e : h₀.get? a with
    | none => rfl
    | some o' => exact absurd (Heap.lt_size (F.keep a o' e)) (Nat.not_lt.mpr ha)
  have five : ∀ c : Addr, c ∈ [s.heap.objs.size + 4, s.heap.objs.size + 2, s.heap.objs.size + 3, s.heap.objs.size, s.heap.objs.size + 1] → @LE.le Nat _ s.heap.objs.size c ∧ @LT.lt Nat _ c (s.heap.objs.size + 5) := fun c hc => by
    simp only [List.mem_cons, List.not_mem_nil, or_false] at hc
    rcases hc with rfl | rfl | rfl | rfl | rfl
    · exact ⟨Nat.le_add_right _ _, Nat.add_lt_add_left (by decide) _⟩
    · exact ⟨Nat.le_add_right _ _, Nat.add_lt_add_left (by decide) _⟩
    · exact ⟨Nat.le_add_right _ _, Nat.add_lt_add_left (by decide) _⟩
    · exact ⟨Nat.le_refl _, Nat.lt_add_of_pos_right (by decide)⟩
    · exact ⟨Nat.le_add_right _ _, Nat.add_lt_add_left (by decide) _⟩
  refine ⟨s.heap.objs.size + 4, [s.heap.objs.size + 2, s.heap.objs.size + 3, s.heap.objs.size, s.heap.objs.size + 1], _, b1.size, (KBw.bInts b1).zip (KBw.bInts b2), _, _, _, news, g, rfl, W, hh, ?_, ?_, ?_, ?_, ?_, ?_, ?_, ?_, F.keeps hk, N.grown hk, ?_, ?_, ?_, ?_, fin h'⟩
  · rintro i vals hi ⟨c, d, u, v, hc, hd, rfl⟩
    refine ⟨(c.toNat : Int), (d.toNat : Int), u, v, ?_, rfl⟩
    rw [List.getElem?_zip_eq_some]
    exact ⟨KBw.ints_get hc, KBw.ints_get hd⟩
  · rw [List.length_zip, KBw.ints_length, KBw.ints_length]; omega
  · rw [PySem.sizeLine_eq]; omega
  · rintro i h ⟨hz, hTI, ⟨x, y, hTO⟩, ⟨o1, ho1, _⟩, ⟨o2, ho2, _⟩⟩ c hc
    simp only [List.mem_cons, List.not_mem_nil, or_false] at hc
    rcases hc with rfl | rfl | rfl | rfl | rfl
    · exact ⟨_, hz⟩
    · exact ⟨_, hTI⟩
    · exact ⟨_, hTO⟩
    · exact ⟨_, ho1⟩
    · exact ⟨_, ho2⟩
  · exact fun c hc => .inl hc
  · exact ⟨hz, hTI, ⟨_, _, hTO⟩, h1, h2⟩
  · intro c hc
    show c < h'.objs.size
    rw [hs]; exact (five c hc).2
  · simp
  · intro hc
    exact Nat.lt_irrefl _ (Nat.lt_of_lt_of_le F.ns.lt (five L hc).1)
  · exact fun c hc => fresh₀ c (five c hc).1
  · intro p hp hc
    exact Nat.lt_irrefl _ (Nat.lt_of_lt_of_le (Heap.lt_size (N p hp).1) (five p.1 hc).1)
  · intro p q t u aux I oI C oC D m₂ zs h tk E' hr ha hC hx hy F' N' off ne
    have z := List.of_mem_zip hr
    have p0 := KBw.ints_in z.1
    have q0 := KBw.ints_in z.2
    exact turn p q t u I oI C oC D m₂ zs h tk aux E' p0.1 p0.2 q0.1 q0.2 hC hx hy F' N' off ne
end
theorem crc_check : crcI ([49, 50, 51, 52, 53, 54, 55, 56, 57] : List UInt8).toArray = 3421780262 := by decide +kernel
theorem crc_nil : crcI ([] : List UInt8).toArray = 0 := by decide +kernel
theorem crcI_range (b : Array UInt8) : 0 ≤ crcI b ∧ crcI b < 4294967296 := by
  obtain ⟨l, hl, hb⟩ := nat_of (bInts_in b)
  rw [crcI_L, hb, crc_nat]
  have := crcN_lt hl
  omega
theorem fsumL_in (x : Int) : KBa.In (fsumL x) := fun n hn => by
  obtain ⟨k, _, rfl⟩ := List.mem_map.mp hn
  exact ⟨and255_lo _, and255_hi _⟩
/-- octets with their sum behind them -/
theorem res_eq {a b d e : Array UInt8} (h1 : KBw.bInts d = KBw.bInts a ++ fsumL (crcI a)) (h2 : KBw.bInts e = KBw.bInts b ++ fsumL (crcI b)) : crcI d = crcI e := by
  obtain ⟨l, hl, hb⟩ := nat_of (bInts_in a)
  obtain ⟨l', hl', hb'⟩ := nat_of (bInts_in b)
  rw [crcI_L d, crcI_L e, h1, h2, crcI_L a, crcI_L b, hb, hb', crc_nat, crc_nat, fsum_nat, fsum_nat, ← List.map_append, ← List.map_append, crc_nat, crc_nat, crc_residue_any hl hl']
def xorL (a b : Array UInt8) : List Int := ((KBw.bInts a).zip (KBw.bInts b)).map fun r => Builtin.bitXor r.1 r.2
theorem xorL_nat {a b : Array UInt8} {l l' : List Nat} (h : KBw.bInts a = l.map fun (o : Nat) => (o : Int)) (h' : KBw.bInts b = l'.map fun (o : Nat) => (o : Int)) : xorL a b = (List.zipWith (fun x y => x ^^^ y) l l').map fun (o : Nat) => (o : Int) := by
  unfold xorL
  rw [h, h', List.zip_map, List.map_map, List.zip_eq_zipWith, List.map_zipWith, List.map_zipWith]
  congr 1
  funext x y
  exact bx_nat x y
theorem xorL_in (a b : Array UInt8) : KBa.In (xorL a b) := fun n hn => by
  obtain ⟨r, hr, rfl⟩ := List.mem_map.mp hn
  have z := List.of_mem_zip (a := r.1) (b := r.2) hr
  have p0 := KBw.ints_in z.1
  have q0 := KBw.ints_in z.2
  have e1 : r.1 = ((r.1.toNat : Nat) : Int) := by omega
  have e2 : r.2 = ((r.2.toNat : Nat) : Int) := by omega
  show 0 ≤ Builtin.bitXor r.1 r.2 ∧ Builtin.bitXor r.1 r.2 < 256
  rw [e1, e2, bx_nat]
  have : r.1.toNat ^^^ r.2.toNat < 2 ^ 8 := Nat.xor_lt_two_pow (by omega) (by omega)
  omega
theorem three_eq {a b d : Array UInt8} {n : Nat} (h1 : a.size = n) (h2 : b.size = n) (hd : KBw.bInts d = xorL a b) : Builtin.bitXor (Builtin.bitXor (crcI a) (crcI b)) (crcI d) = crcI (Array.replicate n 0) := by
  obtain ⟨l, hl, hb⟩ := nat_of (bInts_in a)
  obtain ⟨l', hl', hb'⟩ := nat_of (bInts_in b)
  have e1 : l.length = n := by rw [← h1, ← KBw.ints_length, hb, List.length_map]
  have e2 : l'.length = n := by rw [← h2, ← KBw.ints_length, hb', List.length_map]
  have z : KBw.bInts (Array.replicate n 0) = (List.replicate n 0).map fun (o : Nat) => (o : Int) := by rw [rep_ints]; simp
  rw [crcI_L a, crcI_L b, crcI_L d, crcI_L (Array.replicate n 0), hd, hb, hb', xorL_nat hb hb', z, crc_nat, crc_nat, crc_nat, crc_nat, bx_nat, bx_nat, crc_three (by omega) hl hl', e1]
theorem four_eq (b : Array UInt8) : fsumL (crcI b) = [(crcI b).fmod 256, ((crcI b).fdiv 256).fmod 256, ((crcI b).fdiv 65536).fmod 256, (crcI b).fdiv 16777216] := by
  obtain ⟨l, hl, hb⟩ := nat_of (bInts_in b)
  have e : crcI b = ((crcN l : Nat) : Int) := by rw [crcI_L, hb, crc_nat]
  have hx := crcN_lt hl
  rw [e, fsum_nat]
  have d : ∀ k : Nat, 0 < k → ((crcN l : Nat) : Int).fdiv (k : Int) = ((crcN l / k : Nat) : Int) := fun k hk => by
    rw [Int.fdiv_eq_ediv_of_nonneg _ (Int.natCast_nonneg _)]; exact (Int.natCast_ediv _ _).symm
  have m : ∀ x : Nat, ((x : Nat) : Int).fmod 256 = ((x % 256 : Nat) : Int) := fun x => by
    rw [Int.fmod_eq_emod_of_nonneg _ (by decide)]; omega
  have d1 : ((crcN l : Nat) : Int).fdiv 256 = _ := d 256 (by decide)
  have d2 : ((crcN l : Nat) : Int).fdiv 65536 = _ := d 65536 (by decide)
  have d3 : ((crcN l : Nat) : Int).fdiv 16777216 = _ := d 16777216 (by decide)
  rw [d1, d2, d3, m, m, m]
  unfold sumN
  have h3 : crcN l / 16777216 % 256 = crcN l / 16777216 := Nat.mod_eq_of_lt (by omega)
  rw [h3]
  rfl
theorem octs_at {w : World} {mean : ExcName → Option Value} {mg mb : Str → Option Value} {led : Led} {g : Obj → Led} {src : Addr} {x y : Int} {tx ty : Tok} {n : Nat} {many : Int} {tm : Tok} (U : UpdF src (L2 x tx y ty n) led g)
    (hy0 : 0 ≤ y) (hy1 : y < 2147483647) (hm0 : 0 ≤ many) (hm1 : many < 13) :
    Con w mean mg mb 140 48 346 [.ref src, .int many tm] led (fun r n' => ∃ b tk x' y' tx' ty' n2, r = .bytes b tk ∧ b.size = many.toNat ∧ b.size ≤ 12 ∧ 0 ≤ y' ∧ y' < 2147483647 ∧ n' = g (L2 x' tx' y' ty' n2)) := by
  obtain ⟨own, rest, rfl, hg, h1, h2⟩ := U.split
  intro dp un gd cn cs a ccd cl outer A₀ base h₀ L m s Q E B F X N T hk hd' hu hret
  refine octs_con w mean mg mb (own ++ rest) src x y tx ty n many tm hy0 hy1 hm0 hm1 (fun p hp => (List.mem_append.mp hp).elim (h1 p) (h2 p)) dp un gd cn cs a ccd cl outer A₀ base h₀ L m s Q E B F X (news_of N fun p hp => ?_) T hk hd' hu fun r n' h' tk' hR F' N' => ?_
  · rcases List.mem_cons.mp hp with rfl | hp
    · simp
    · rcases List.mem_append.mp hp with hp | hp <;> simp [hp]
  · obtain ⟨b, tk, x', y', tx', ty', k, e, a0, a1, a2, rfl⟩ := hR
    refine hret r (g (L2 x' tx' y' ty' k)) h' tk' ⟨b, tk, x', y', tx', ty', k, e, a0, by omega, a1, a2, rfl⟩ F' (news_of N' fun p hp => ?_)
    rw [hg] at hp
    rcases List.mem_append.mp hp with hp | hp
    · simp [hp]
    · rcases List.mem_cons.mp hp with rfl | hp
      · simp
      · simp [hp]
theorem right_at {w : World} {mean : ExcName → Option Value} {mg mb : Str → Option Value} {led : Led} {g : Obj → Led} {src : Addr} {x y : Int} {tx ty : Tok} {n : Nat} {b : Array UInt8} {tb : Tok} (U : UpdF src (L2 x tx y ty n) led g)
    (hy0 : 0 ≤ y) (hy1 : y < 2147483647) (hb : b.size ≤ 12) :
    Con0 w mean mg mb 250 600 360 [.ref src, .bytes b tb] led (fun r n' => r = .bool true ∧ ∃ x' y' tx' ty' n2, 0 ≤ y' ∧ y' < 2147483647 ∧ n' = g (L2 x' tx' y' ty' n2)) := by
  obtain ⟨own, rest, rfl, hg, h1, h2⟩ := U.split
  intro dp un gd cn cs a ccd A₀ base h₀ L m s Q E B F X N T XB TB hk hd' hu hret
  refine right_con w mean mg mb (own ++ rest) src x y tx ty n b (KBw.bInts b) tb hy0 hy1 rfl (by rw [KBw.ints_length]; exact hb) (fun p hp => (List.mem_append.mp hp).elim (h1 p) (h2 p)) dp un gd cn cs a ccd A₀ base h₀ L m s Q E B F X (news_of N fun p hp => ?_) T XB TB hk hd' hu fun r n' h' tk' hR F' N' => ?_
  · rcases List.mem_cons.mp hp with rfl | hp
    · simp
    · rcases List.mem_append.mp hp with hp | hp <;> simp [hp]
  · obtain ⟨x', y', tx', ty', k, rfl, a1, a2, rfl⟩ := hR
    refine hret _ (g (L2 x' tx' y' ty' k)) h' tk' ⟨rfl, x', y', tx', ty', k, a1, a2, rfl⟩ F' (news_of N' fun p hp => ?_)
    rw [hg] at hp
    rcases List.mem_append.mp hp with hp | hp
    · simp [hp]
    · rcases List.mem_cons.mp hp with rfl | hp
      · simp
      · simp [hp]
theorem Con0.use {w : World} {mean : ExcName → Option Value} {mg mb : Str → Option Value} {d u : Nat} {f : Addr} {vs : List Value} {news : Led} {R : Value → Led → Prop} (C : Con0 w mean mg mb d u f vs news R)
    {dp un : Nat} {gd : Option (List Code)} {cn : Str} {cs : Scope} {a : Addr} {ccd : Value} {A₀ : Around} {base h₀ : Heap} {L : Addr} {m : Str → Option Value} {s : Shared} {Q E : Value → Shared → Prop}
    (B : Below A₀ base [] h₀) (F : Fr h₀ L s.heap m) (X : (hd.heap_1 w.params).In h₀) (N : News h₀ L s.heap news) (T : Top qv (looseW qv loose0) mean mg mb h₀) (XB : (hd.heap_1 w.params).In base) (TB : Top qv (looseW qv loose0) mean mg mb base) (hk : cs.kind = .function) (hd' : dp + d < recursionLimit) (hu : un + u < cLine)
    (k : ∀ (r : Value) (n' : Led) (h' : Heap) (tk' : Nat), R r n' → Fr h₀ L h' m → News h₀ L h' n' → Q r { s with heap := h', toks := tk' }) :
      wpAny (model P0 w) (ktrTop dp un gd cn cs L a ccd [] []) (call (.ref f) vs) Q E s := C _ _ _ _ _ _ _ _ _ _ _ _ _ _ _ B F X N T XB TB hk hd' hu k
abbrev sScript : PySem.Str := Str.ofString "script"
def LawJ (l : Addr) (m : PySem.Str → Option Value) (nx : Led) : Prop := nx = [] ∧ m sScript = some (.ref l)
section
open PySem.Spec PySem.Calls
variable {w : World} {A : Around} {E : Value → Shared → Prop} {s : Shared} {h₀ : Heap} {env : Env} {body : List Stmt} {Q : Flow → Shared → Prop}
theorem law_loop {l r : Addr} {c : Int} {t u v : Tok} {m₀ : PySem.Str → Option Value} {news : Led} (hh : A.handled = none) (hr : IsRange s.heap r 0 c 1 t u v) (hc0 : 0 ≤ c) (hc : c ≤ 2) (F : Fr h₀ env.locals s.heap m₀) (N : News h₀ env.locals s.heap news) (h1 : m₀ sScript = some (.ref l))
    (turn : ∀ (i : Int) t (m₁ : PySem.Str → Option Value) h tk own, 0 ≤ i → i < 2 → Fr h₀ env.locals h (fun z => if z = Str.ofString "k" then some (.int i t) else if z = sScript then some (.ref l) else m₁ z) → News h₀ env.locals h own →
      wpAny (model P0 w) A (execs body env) (InvPostN h₀ env.locals (LawJ l) own [] { s with heap := h, toks := tk } Q) E { s with heap := h, toks := tk })
    (done : ∀ (m₁ : PySem.Str → Option Value) h tk, Fr h₀ env.locals h m₁ → News h₀ env.locals h [] → Q .next { s with heap := h, toks := tk }) :
    wpAny (model P0 w) A (pyIter (.ref r)) (fun it s₂ => LoopAtV P0 w A h₀ env (Str.ofString "k") body Q E it s₂) E s := by
  refine iterRange_inv (n := c.toNat) (news := []) (fun _ => LawJ l) hh hr (by omega) (by omega) F (fun p hp => nomatch hp) ⟨rfl, h1⟩ ?_ ?_
  · rintro i t m₁ nx h tk own hlt hoff ⟨rfl, e1⟩ F₁ N₁
    rw [map_at e1] at F₁
    exact turn (i : Int) t m₁ h tk own (by omega) (by omega) F₁ N₁
  · rintro m₁ nx h tk ⟨rfl, e1⟩ F₁ N₁
    exact done m₁ h tk F₁ N₁
theorem law_end {h' : Heap} {L l : Addr} {own all : Led} {m' : PySem.Str → Option Value} {s₁ : Shared} {tk : Nat} (F : Fr h₀ L h' m') (N : News h₀ L h' all) (h1 : m' sScript = some (.ref l)) (subo : ∀ p ∈ own, p ∈ all) : InvEndN h₀ L (LawJ l) own [] s₁ { s₁ with heap := h', toks := tk } :=
  InvEndN.intro (nx := []) F N ⟨rfl, h1⟩ rfl (fun p hp => nomatch hp) subo
end
section
variable {w : World} {A : Around} {E : Value → Shared → Prop} {s : Shared} {h₀ : Heap} {L D : Addr} {m : PySem.Str → Option Value} {news : Led} {Q : Value → Shared → Prop}
theorem make_four {b : Array UInt8} {a1 a2 a3 a4 : Int} {t1 t2 t3 t4 : Tok} {n : Nat} (F : Fr h₀ L s.heap m) (N : News h₀ L s.heap news) (hh : A.handled = none) (hm : (D, listOf #[.int a1 t1, .int a2 t2, .int a3 t3, .int a4 t4] n) ∈ news) (e : [a1, a2, a3, a4] = fsumL (crcI b))
    (h : ∀ d h' t' k, Fr h₀ L h' m → News h₀ L h' news → KBw.bInts d = fsumL (crcI b) → Q (.bytes d t') { s with heap := h', toks := k }) : wpAny (model P0 w) A (call (.type "bytes") [.ref D]) Q E s :=
  KBa.make_K (vs := [.int a1 t1, .int a2 t2, .int a3 t3, .int a4 t4]) (ns := fsumL (crcI b)) F N hh (News.isList N hm) (e ▸ .cons _ _ (.cons _ _ (.cons _ _ (.cons _ _ .nil)))) (fsumL_in _) (by rw [fsum_len]; decide) fun h' t' k F' N' hin => h _ h' t' k F' N' (KBa.ints_make hin)
theorem make_both {a b : Array UInt8} {vs : List Value} {n : Nat} (F : Fr h₀ L s.heap m) (N : News h₀ L s.heap news) (hh : A.handled = none) (hm : (D, listOf vs.toArray n) ∈ news) (hi : IntsAre vs (xorL a b)) (hb : a.size ≤ 12)
    (h : ∀ d h' t' k, Fr h₀ L h' m → News h₀ L h' news → KBw.bInts d = xorL a b → Q (.bytes d t') { s with heap := h', toks := k }) : wpAny (model P0 w) A (call (.type "bytes") [.ref D]) Q E s :=
  KBa.make_K (vs := vs) (ns := xorL a b) F N hh (News.isList N hm) hi (xorL_in a b) (by unfold xorL; rw [List.length_map, List.length_zip, KBw.ints_length]; omega) fun h' t' k F' N' hin => h _ h' t' k F' N' (KBa.ints_make hin)
theorem nb_known {a b : Array UInt8} {t u : Tok} {ks : List Int} (ha : KBw.bInts a = ks) (hb : KBw.bInts b = ks) (h : Q (.bool false) s) : wpAny (model P0 w) A (compareOp .NotEq (.bytes a t) (.bytes b u)) Q E s :=
  ne_bytes (by rw [ints_ne, ha, hb]; simpa using h)
end
local macro_rules | `(tactic| kba_ints) => `(tactic| first | exact pn_ints _ _ | exact fsum_ints _ | exact rfl)
local macro_rules | `(tactic| kba_size) => `(tactic| ((simp only [fsum_len, KBw.ints_length]); omega))
theorem law_all : PySem.Challenge.rw_pb0546_01.Holds := hd (by
  k_with_none
  k_with "call ref" => (k_here; (with_reducible show wpAny _ _ (PySem.call (Value.ref 116) [Value.bytes _ _]) _ _ _); k_dflt (refine' Con.use (crc_con _ _ _ _ _ _ _) ?q128k1 ?q128k2 ?q128k3 ?q128k4 ?q128k5 ?q128k6 ?q128k7 ?q128k8 ?_; (case q128k1 => k_asm); (case q128k2 => k_asm); (case q128k3 => k_asm); (case q128k4 => k_asm); (case q128k5 => k_asm); (case q128k6 => first | exact rfl | assumption); (case q128k7 => ktr_room); (case q128k8 => ktr_units)); intro r9 n9 h9 tk9 hr9 F9 N9; obtain ⟨e9, tk8, e8⟩ := hr9; ((replace e9 := Eq.symm e9); subst e9); ((replace e8 := Eq.symm e8); subst e8); (try dsimp only); (try k_fold))
  k_with "call ref" => (k_here; (with_reducible show wpAny _ _ (PySem.call (Value.ref 121) [Value.bytes _ _]) _ _ _); k_dflt (refine' Con.use (fsum_con _ _ _ _ _ _ _) ?q129k1 ?q129k2 ?q129k3 ?q129k4 ?q129k5 ?q129k6 ?q129k7 ?q129k8 ?_; (case q129k1 => k_asm); (case q129k2 => k_asm); (case q129k3 => k_asm); (case q129k4 => k_asm); (case q129k5 => k_asm); (case q129k6 => first | exact rfl | assumption); (case q129k7 => ktr_room); (case q129k8 => ktr_units)); intro r9 n9 h9 tk9 hr9 F9 N9; obtain ⟨e9, tk8, e8⟩ := hr9; ((replace e9 := Eq.symm e9); subst e9); ((replace e8 := Eq.symm e8); subst e8); (try dsimp only); (try k_fold))
  k_with "binaryOp FloorDiv int int" => (k_here; (refine floordiv_int (by omega) ?_ (.inr (PySem.PylongRoom.of (PySem.Heap.NoLimit.keeps (Top.nolimit (by assumption)) (Fr.keep (by assumption))) (by show _ + 100 < _; ktr_room)))))
  k_with "call ref" => (k_here; (with_reducible show wpAny _ _ (PySem.call (Value.ref 341) [Value.bytes _ _]) _ _ _); k_dflt (refine' Con.use (rest_con _ _ _ _ _ _ _ ?q131c1) ?q131k1 ?q131k2 ?q131k3 ?q131k4 ?q131k5 ?q131k6 ?q131k7 ?q131k8 ?_; (case q131k1 => k_asm); (case q131k2 => k_asm); (case q131k3 => k_asm); (case q131k4 => k_asm); (case q131k5 => k_asm); (case q131k6 => first | exact rfl | assumption); (case q131k7 => ktr_room); (case q131k8 => ktr_units); (case q131c1 => first | assumption | (show (Array.replicate _ _).size ≤ 12; rw [Array.size_replicate]; decide))); intro r9 n9 h9 tk9 hr9 F9 N9; obtain ⟨e8, tk8, e9⟩ := hr9; ((replace e9 := Eq.symm e9); subst e9); ((replace e8 := Eq.symm e8); subst e8); (try dsimp only at N9); (try dsimp only); (try k_sweep); (try k_fold))
  k_with "call ref" => (k_here; (with_reducible show wpAny _ _ (PySem.call (Value.ref 324) [Value.ref _, Value.int _ _]) _ _ _); k_dflt (refine' Con.use (take_at ?q132cU ?q132c1 ?q132c2 ?q132c3) ?q132k1 ?q132k2 ?q132k3 ?q132k4 ?q132k5 ?q132k6 ?q132k7 ?q132k8 ?_; (case q132k1 => k_asm); (case q132k2 => k_asm); (case q132k3 => k_asm); (case q132k4 => k_asm); (case q132k5 => k_asm); (case q132k6 => first | exact rfl | assumption); (case q132k7 => ktr_room); (case q132k8 => ktr_units); (case q132cU => k_updF); (case q132c1 => first | decide | omega); (case q132c2 => assumption); (case q132c3 => assumption)); intro r9 n9 h9 tk9 hr9 F9 N9; obtain ⟨d9, tk8, x9, y9, tx9, ty9, k9, e9, dlo9, dhi9, ylo9, yhi9, e8⟩ := hr9; ((replace e9 := Eq.symm e9); subst e9); ((replace e8 := Eq.symm e8); subst e8); (try dsimp only at N9); (try dsimp only); (try k_sweep); (try k_fold))
  k_with "call ref" => (k_here; (with_reducible show wpAny _ _ (PySem.call (Value.ref 346) [Value.ref _, Value.int _ _]) _ _ _); k_dflt (refine' Con.use (octs_at ?q133cU ?q133c1 ?q133c2 ?q133c3 ?q133c4) ?q133k1 ?q133k2 ?q133k3 ?q133k4 ?q133k5 ?q133k6 ?q133k7 ?q133k8 ?_; (case q133k1 => k_asm); (case q133k2 => k_asm); (case q133k3 => k_asm); (case q133k4 => k_asm); (case q133k5 => k_asm); (case q133k6 => first | exact rfl | assumption); (case q133k7 => ktr_room); (case q133k8 => ktr_units); (case q133cU => k_updF); (case q133c1 => assumption); (case q133c2 => assumption); (case q133c3 => assumption); (case q133c4 => assumption)); intro r9 n9 h9 tk9 hr9 F9 N9; obtain ⟨b9, tk8, x9, y9, tx9, ty9, k9, e9, bsz9, bhi9, ylo9, yhi9, e8⟩ := hr9; ((replace e9 := Eq.symm e9); subst e9); ((replace e8 := Eq.symm e8); subst e8); (try dsimp only at N9); (try dsimp only); (try k_sweep); (try k_fold))
  k_with "call ref" => (k_here; (with_reducible show wpAny _ _ (PySem.call (Value.ref 317) [Value.ref _, Value.int _ _]) _ _ _); k_dflt (refine' ConB.use (pool_con _ _ _ _ _ _ _ _ _ _ ?q134c1 ?q134c2 ?q134c3 ?q134c4) ?q134k1 ?q134k2 ?q134k3 ?q134k4 ?q134k5 ?q134k6 ?q134k7 ?q134k8 ?q134kH ?_; (case q134k1 => k_asm); (case q134k2 => k_asm); (case q134k3 => k_asm); (case q134k4 => k_asm); (case q134k5 => k_asm); (case q134k6 => first | exact rfl | assumption); (case q134k7 => ktr_room); (case q134k8 => ktr_units); (case q134kH => assumption); (case q134c1 => assumption); (case q134c2 => omega); (case q134c3 => omega); (case q134c4 => omega)); intro r9 n9 h9 tk9 hr9 F9 N9; obtain ⟨a9, x9, y9, tx9, ty9, z9, e9, ylo9, yhi9, hne9, e8⟩ := hr9; ((replace e9 := Eq.symm e9); subst e9); ((replace e8 := Eq.symm e8); subst e8); (try dsimp only at N9); (try dsimp only); (try k_sweep); (try k_fold))
  k_with "call ref" => (k_here; (with_reducible show wpAny _ _ (PySem.call (Value.ref 360) [Value.ref _, Value.bytes _ _]) _ _ _); k_dflt (refine' Con0.use (right_at ?q135cU ?q135c1 ?q135c2 ?q135c3) ?q135k1 ?q135k2 ?q135k3 ?q135k4 ?q135k5 ?q135XB ?q135TB ?q135k6 ?q135k7 ?q135k8 ?_; (case q135k1 => k_asm); (case q135k2 => k_asm); (case q135k3 => k_asm); (case q135k4 => k_asm); (case q135k5 => k_asm); (case q135k6 => first | exact rfl | assumption); (case q135k7 => ktr_room); (case q135k8 => ktr_units); (case q135XB => k_asm); (case q135TB => k_asm); (case q135cU => k_updF); (case q135c1 => assumption); (case q135c2 => assumption); (case q135c3 => assumption)); intro r9 n9 h9 tk9 hr9 F9 N9; obtain ⟨e9, x9, y9, tx9, ty9, z9, ylo9, yhi9, e8⟩ := hr9; ((replace e9 := Eq.symm e9); subst e9); ((replace e8 := Eq.symm e8); subst e8); (try dsimp only at N9); (try dsimp only); (try k_sweep); (try k_fold))
  k_with "binaryOp Add bytes bytes" => (k_here; (with_reducible show wpAny _ _ (binaryOp Operator.Add (Value.bytes _ _) (Value.bytes _ _)) _ _ _); k_dflt (refine add_op (by kba_ints) (by kba_ints) (by kba_size) ?_); intro d9 t9 k9 q9; (try dsimp only); (try k_fold))
  k_with "call type:bytes" => (k_here; (with_reducible show wpAny _ _ (PySem.call (Value.type "bytes") [Value.int _ _]) _ _ _); k_dflt (refine call_bytes_int (by omega) (by omega) ?_); (try dsimp only); (try k_sweep); (try k_fold))
  k_with "call type:bytes" => (k_here; (with_reducible show wpAny _ _ (PySem.call (Value.type "bytes") [Value.ref _]) _ _ _); k_dflt (first | (refine' make_four ?q138F ?q138N ?q138hh ?q138hm ?q138e ?_; (case q138F => k_asm); (case q138N => k_asm); (case q138hh => exact rfl); (case q138hm => k_mem); (case q138e => (with_reducible exact (four_eq _).symm))) | (refine' make_both ?q138F ?q138N ?q138hh ?q138hm ?q138hi ?q138hb ?_; (case q138F => k_asm); (case q138N => k_asm); (case q138hh => exact rfl); (case q138hi => assumption); (case q138hm => k_mem); (case q138hb => assumption))); intro d9 h9 t9 k9 F9 N9 q9; (try dsimp only); (try k_sweep); (try k_fold))
  k_with "compareOp NotEq bytes bytes" => (k_here; k_dflt (refine nb_known (fsum_ints _) (by assumption) ?_))
  k_with "compareOp NotEq int int" => (k_here; k_dflt (first | (with_reducible refine ne_known (rest_crc _).symm ?_) | (with_reducible refine ne_known crc_check ?_) | (with_reducible refine ne_known crc_nil ?_) | ((with_reducible show wpAny _ _ (compareOp CmpOp.NotEq (Value.int (Builtin.bitXor _ _) _) _) _ _ _); (refine' ne_known (three_eq ?q140a ?q140b ?q140c) ?_; (case q140c => assumption); (case q140a => assumption); (case q140b => assumption))) | ((with_reducible show wpAny _ _ (compareOp CmpOp.NotEq (Value.int (crcI _) _) (Value.int (crcI _) _)) _ _ _); (refine ne_known (res_eq (by assumption) (by assumption)) ?_)) | refine ne_known crc_check ?_ | refine ne_known crc_nil ?_))
  k_with "exec For" => (k_here; (rename Fr _ _ _ _ => lF'); (with_unfolding_all refine' For_invVF lF' ?q141k1 ?q141k2 ?_; (case q141k1 => exact rfl); (case q141k2 => exact rfl); k_whole))
  k_with "pyIter ref" => (k_here; (with_reducible show wpAny _ _ (pyIter (Value.ref _)) (fun it s₂ => LoopAtV _ _ _ _ _ _ _ _ _ it s₂) _ _); k_dflt (refine' law_loop ?q142hh ?q142hr ?q142hc0 ?q142hc ?q142F ?q142N ?q142h1 (fun i' t' m' h' tk' own' hi0' hi1' F' N' => ?_) (fun m' h' tk' F' N' => ?_); (case q142hh => exact rfl); (case q142hr => assumption); (case q142F => k_asm); (case q142N => k_asm); (case q142h1 => exact rfl); (case q142hc0 => first | omega | (split <;> omega)); (case q142hc => first | omega | (split <;> omega))); (all_goals (try k_fold)))
  k_with "InvEndN" => (k_dflt (refine' law_end ?q143F ?q143N ?q143h1 ?q143o; (case q143F => assumption); (case q143N => assumption); (case q143h1 => exact rfl); (case q143o => kcf_all)))
  k_with "eval ListComp" => (k_here; k_dflt (refine ListComp_PK (F₀ := by k_asm) (by with_unfolding_all rfl) (by decide) (by rfl) (by decide) (by rfl) (by rfl) (by decide) ?_ (by intro _; with_unfolding_all rfl)))
  k_with "call type:zip" => (k_here; (with_reducible show wpAny _ _ _ (PairSrc _ _ _ _ _ _ _ _ _ _ _ _ _) _ _); k_dflt (refine' zip_src (fun p q => Builtin.bitXor p q) ?q145hh ?q145F ?q145N ?q145sz ?q145sz2 ?_ ?_; (case q145hh => exact rfl); (case q145F => k_asm); (case q145N => k_asm); (case q145sz => omega); (case q145sz2 => omega)); (focus (intro p' q' t' u' I' oI' C' oC' D' m' zs' h' tk' aux' E' hp0 hp1 hq0 hq1 hC' hx' hy' F' N' off' ne'; (try k_fold))))
  k_with "KCfEl" => exact ⟨rfl, _, rfl⟩
  k_go0
  (all_goals try k_fold)
  k_steps)
end Pb
theorem PySem.Challenge.cw_pb0546_01_holds : PySem.Challenge.rw_pb0546_01.Holds := by
  exact Pb.law_all
