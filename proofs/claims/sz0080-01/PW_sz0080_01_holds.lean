import PyProof.Rows.All
import Wide.All
import OpenK.AllK
import Wide.FinOn
import PySem.Challenge.RW_sz0080_01
open PySem PySem.W PyProof.Rows
set_option Elab.async false
def PySem.W.Fast.tw861502493610598483 : Unit := ()
def PySem.W.Fast.tw8387058104162674081 : Unit := ()
def PySem.W.Fast.tw7774113678449685934 : Unit := ()
def PySem.W.Fast.tw2763163963811120921 : Unit := ()
def PySem.W.Fast.tw13587151598080963022 : Unit := ()
def PySem.W.Fast.tw13865323600775035743 : Unit := ()
def PySem.W.Fast.tw10416115033411757899 : Unit := ()
def PySem.W.Fast.tw14902404871612966209 : Unit := ()
def PySem.W.Fast.tw11018145951921344529 : Unit := ()
def PySem.W.Fast.tw4891155283279915023 : Unit := ()
def PySem.W.Fast.tw4859391219904099992 : Unit := ()
def PySem.W.Fast.tw726351398001015727 : Unit := ()
def PySem.W.Fast.tw324991125379446337 : Unit := ()
def PySem.W.Fast.tw11009225556382593827 : Unit := ()
def PySem.W.Fast.tw1915925776726481438 : Unit := ()
def PySem.W.Fast.tw3332303416296171656 : Unit := ()
def PySem.W.Fast.tw11948173574018764312 : Unit := ()
def PySem.W.Fast.tw8997383693586321770 : Unit := ()
def PySem.W.Fast.tw52312688904243638 : Unit := ()
def PySem.W.Fast.tw16385029962790360990 : Unit := ()
def PySem.W.Fast.tw15925456577456769635 : Unit := ()
def PySem.W.Fast.tw16919654943277366748 : Unit := ()
def PySem.W.Fast.tw13700598899030691371 : Unit := ()
def PySem.W.Fast.tw14904681115217272601 : Unit := ()
def PySem.W.Fast.tw10988312798546598065 : Unit := ()
def PySem.W.Fast.tw16667319390619273182 : Unit := ()
def PySem.W.Fast.tw561727478393794602 : Unit := ()
def PySem.W.Fast.tw14760874974797668852 : Unit := ()
def PySem.W.Fast.tw5323657890516693427 : Unit := ()
def PySem.W.Fast.tw11266997524610791606 : Unit := ()
def PySem.W.Fast.tw12727641955093265886 : Unit := ()
def PySem.W.Fast.tw2259672571474061568 : Unit := ()
def PySem.W.Fast.tw4804111812005502284 : Unit := ()
def PySem.W.Fast.tw5552296727619142977 : Unit := ()
def PySem.W.Fast.tw16822532161544500889 : Unit := ()
def PySem.W.Fast.tw4683681711962371626 : Unit := ()
def PySem.W.Fast.tw13953587524928339648 : Unit := ()
def PySem.W.Fast.tw1708089923452030704 : Unit := ()
def PySem.W.Fast.tw6968137755033780318 : Unit := ()
def PySem.W.Fast.tw10295913840692754127 : Unit := ()
def PySem.W.Fast.tw6278996535519779258 : Unit := ()
def PySem.W.Fast.tw15235614512728720 : Unit := ()
def PySem.W.Fast.tw2950685276103557050 : Unit := ()
def PySem.W.Fast.tw2931988195819169919 : Unit := ()
def PySem.W.Fast.tw10551173667578312727 : Unit := ()
def PySem.W.Fast.tw3641951560692057861 : Unit := ()
def PySem.W.Fast.tw10294118229990073760 : Unit := ()
def PySem.W.Fast.tw9947508896943372755 : Unit := ()
def PySem.W.Fast.tw1342123614928995077 : Unit := ()
def PySem.W.Fast.tw13160504802963445071 : Unit := ()
def PySem.W.Fast.tw446995266069924076 : Unit := ()
def PySem.W.Fast.tw12382822922155266910 : Unit := ()
def PySem.W.Fast.tw16203965252921439515 : Unit := ()
def PySem.W.Fast.tw14261769069557060686 : Unit := ()
def PySem.W.Fast.tw8171798328758944481 : Unit := ()
def PySem.W.Fast.tw10842938092177581297 : Unit := ()
def PySem.W.Fast.tw17351735930882485243 : Unit := ()
def PySem.W.Fast.tw11766667032028208565 : Unit := ()
def PySem.W.Fast.tw855453113358079251 : Unit := ()
def PySem.W.Fast.tw9404705873571188630 : Unit := ()
def PySem.W.Fast.tw1207101557538958131 : Unit := ()
def PySem.W.Fast.tw2789304352393801511 : Unit := ()
def PySem.W.Fast.tw16636501806038632012 : Unit := ()
def PySem.W.Fast.tw4321966507151631593 : Unit := ()
def PySem.W.Fast.tw16902440903046159558 : Unit := ()
def PySem.W.Fast.tw12099505692703838030 : Unit := ()
def PySem.W.Fast.tw3049343062529576306 : Unit := ()
def PySem.W.Fast.tw1840220198017710270 : Unit := ()
def PySem.W.Fast.tw1972164579936704799 : Unit := ()
def PySem.W.Fast.tw7322748291113730364 : Unit := ()
def PySem.W.Fast.tw10826640976665885199 : Unit := ()
def PySem.W.Fast.tw3721919958574915784 : Unit := ()
def PySem.W.Fast.tw443766864951011646 : Unit := ()
def PySem.W.Fast.tw3300257896294614128 : Unit := ()
def PySem.W.Fast.tw13034982811429478159 : Unit := ()
set_option maxRecDepth 100000 in
set_option maxHeartbeats 0 in
open_top hd for PySem.Challenge.rw_sz0080_01

open PySem.Calls
set_option maxRecDepth 100000
set_option maxHeartbeats 0
set_option linter.all false
namespace Mine
theorem fill : (PySem.Challenge.rw_sz0080_01 = PySem.Challenge.rw_sz0080_01) ∧ (hd.heap_39 = hd.heap_39) := by
  k_fill
  exact ⟨rfl, rfl⟩
end Mine
local macro_rules | `(tactic| walk_at $s:str) => `(tactic| k_extra $s)
namespace Mine
/-- a text by the list of its signs' numbers -/
@[reducible] def S (l : List Nat) : Str := ⟨l.toArray⟩
theorem S_len (l : List Nat) : (S l).length = l.length := by simp [Str.length]
theorem S_app (a b : List Nat) : S a ++ S b = S (a ++ b) := by
  refine Str.ext' ?_
  rw [Str.cps_append]; simp
theorem S_of (x : Str) : x = S x.cps.toList := by cases x; simp [S]
theorem S_inj {a b : List Nat} (h : S a = S b) : a = b := by
  have := congrArg (fun x => x.cps.toList) h
  simpa [S] using this
theorem S_beq (a b : List Nat) : (S a == S b) = (a == b) := by
  rw [Bool.eq_iff_iff, beq_iff_eq, beq_iff_eq]
  exact ⟨S_inj, fun h => by rw [h]⟩
theorem S_bne (a b : List Nat) : (S a != S b) = (a != b) := by
  unfold bne; rw [S_beq]
theorem item_S {l : List Nat} {n k : Nat} {X : List Nat} {c : Nat} {i : Int} (D : l.drop n = X) (hk : X[k]? = some c) (hi : i = ((n + k : Nat) : Int)) : Txt.item (S l) i = S [c] ∧ i < ((S l).length : Int) ∧ 0 ≤ i := by
  have h1 : l[n + k]? = some c := by rw [← hk, ← D, List.getElem?_drop]
  have h2 : n + k < l.length := by
    rcases Nat.lt_or_ge (n + k) l.length with h | h
    · exact h
    · rw [List.getElem?_eq_none h] at h1; cases h1
  refine ⟨?_, ?_, ?_⟩
  · subst hi
    unfold Txt.item Txt.charAt
    rw [StrLaws.at_nonneg (n := c) (by omega) (by rw [Int.toNat_natCast]; simpa using h1)]
    rfl
  · rw [S_len]; omega
  · omega
theorem slice_nat (l : List Nat) (a b : Nat) (hab : a ≤ b) : Txt.slice (S l) (some (a : Int)) (some (b : Int)) = S ((l.drop a).take (b - a)) := by
  show StrLaws.sliceText (S l) _ _ = _
  have e : StrLaws.sliceText (S l) (some (a : Int)) (some (b : Int)) = StrLaws.sliceText (S l) (some ((min a l.length : Nat) : Int)) (some ((min b l.length : Nat) : Int)) := by
    unfold StrLaws.sliceText
    have : Builtin.Str.strSliceIndices (some (a : Int)) (some (b : Int)) 1 (S l).length = Builtin.Str.strSliceIndices (some ((min a l.length : Nat) : Int)) (some ((min b l.length : Nat) : Int)) 1 (S l).length := by
      rw [S_len]
      unfold Builtin.Str.strSliceIndices
      simp only [show (1 : Int) > 0 by decide, if_true]
      congr 1 <;> omega
    rw [this]
  rw [e, StrLaws.sliceText_nat _ (by omega) (by rw [S_len]; omega)]
  unfold S
  simp only [Str.mk.injEq]
  congr 1
  rcases Nat.le_total a l.length with h | h
  · rw [Nat.min_eq_left h]
    rcases Nat.le_total b l.length with g | g
    · rw [Nat.min_eq_left g]
    · rw [Nat.min_eq_right g, List.take_of_length_le (by simp), List.take_of_length_le (by simp; omega)]
  · rw [Nat.min_eq_right h, List.drop_eq_nil_of_le h]
    simp
theorem slice_S {l : List Nat} {n : Nat} {X Y : List Nat} {i j : Int} (a b : Nat) (D : l.drop n = X) (hi : i = ((n + a : Nat) : Int)) (hj : j = ((n + b : Nat) : Int)) (hab : a ≤ b) (hY : (X.drop a).take (b - a) = Y) :
    Txt.slice (S l) (some i) (some j) = S Y := by
  subst hi hj
  rw [slice_nat _ _ _ (by omega), ← hY, ← D, List.drop_drop]
  congr 2
  omega
/-- the sign of a hexadecimal figure, capital -/
def hexU (k : Nat) : Nat := if k < 10 then 48 + k else 55 + k
theorem hex_hi (o : Nat) : Int.fdiv (o : Int) (2 ^ Int.toNat 4) = ((o / 16 : Nat) : Int) := by
  show Int.fdiv (o : Int) 16 = _
  rw [Int.fdiv_eq_ediv_of_nonneg _ (by decide)]; omega
theorem hex_lo (o : Nat) : Builtin.bitAnd (o : Int) 15 = ((o % 16 : Nat) : Int) := by
  rw [bitAnd_pp (by omega) (by omega)]
  show ((o &&& 15 : Nat) : Int) = _
  rw [show (15 : Nat) = 2 ^ 4 - 1 from rfl, Nat.and_two_pow_sub_one_eq_mod]
theorem drop_more {l X : List Nat} {n : Nat} (k : Nat) (D : l.drop n = X) : l.drop (n + k) = X.drop k := by rw [← D, List.drop_drop]
theorem drop_lt {l r : List Nat} {n c : Nat} (D : l.drop n = c :: r) : n < l.length := by
  rcases Nat.lt_or_ge n l.length with h | h
  · exact h
  · rw [List.drop_eq_nil_of_le h] at D; cases D
theorem drop_ge {l : List Nat} {n : Nat} (D : l.drop n = []) : l.length ≤ n := List.drop_eq_nil_iff.mp D
theorem drop_len {l X : List Nat} {n : Nat} (D : l.drop n = X) : l.length - n = X.length := by rw [← D, List.length_drop]
/-- the signs that a component keeps -/
def plainL : List Nat := [65, 66, 67, 68, 69, 70, 71, 72, 73, 74, 75, 76, 77, 78, 79, 80, 81, 82, 83, 84, 85, 86, 87, 88, 89, 90, 97, 98, 99, 100, 101, 102, 103, 104, 105, 106, 107, 108, 109, 110, 111, 112, 113, 114, 115, 116, 117, 118, 119, 120, 121, 122, 48, 49, 50, 51, 52, 53, 54, 55, 56, 57, 45, 95, 46, 33, 126, 42, 39, 40, 41]
/-- a sign told by octets -/
def oc (c : Nat) : List Nat := if c = 34 then [37, 50, 50] else if c = 92 then [37, 53, 67] else if c = 37 then [37, 50, 53] else if c = 10 then [37, 48, 65] else if c = 8364 then [37, 69, 50, 37, 56, 50, 37, 65, 67] else [c]
/-- the signs that octets are told of -/
def AU : List Nat := [97, 34, 92, 37, 10, 8364, 55, 50, 53, 67, 48, 65, 69, 56]
theorem AU_kinds {c : Nat} (h : c ∈ AU) : (c ∈ plainL ∧ oc c = [c] ∧ c ≠ 37) ∨ (c < 128 ∧ c ∉ plainL ∧ oc c = [37, hexU (c / 16), hexU (c % 16)]) ∨ c = 8364 := (by decide : ∀ c ∈ AU, (c ∈ plainL ∧ oc c = [c] ∧ c ≠ 37) ∨ (c < 128 ∧ c ∉ plainL ∧ oc c = [37, hexU (c / 16), hexU (c % 16)]) ∨ c = 8364) c h
/-- the signs that an escape keeps -/
def keptL : List Nat := [65, 66, 67, 68, 69, 70, 71, 72, 73, 74, 75, 76, 77, 78, 79, 80, 81, 82, 83, 84, 85, 86, 87, 88, 89, 90, 97, 98, 99, 100, 101, 102, 103, 104, 105, 106, 107, 108, 109, 110, 111, 112, 113, 114, 115, 116, 117, 118, 119, 120, 121, 122, 48, 49, 50, 51, 52, 53, 54, 55, 56, 57, 64, 42, 95, 43, 45, 46, 47]
theorem plain_is : Str.ofString "ABCDEFGHIJKLMNOPQRSTUVWXYZabcdefghijklmnopqrstuvwxyz0123456789-_.!~*'()" = S plainL := by decide +kernel
theorem kept_is : Str.ofString "ABCDEFGHIJKLMNOPQRSTUVWXYZabcdefghijklmnopqrstuvwxyz0123456789@*_+-./" = S keptL := by decide +kernel
theorem blank_is : Str.ofString " \t\n\r" = S [32, 9, 10, 13] := by decide +kernel
/-- a list's items are these texts -/
inductive TxtsAre : List Value → List (List Nat) → Prop
  | nil : TxtsAre [] []
  | cons {x : List Nat} {t : Tok} {vs : List Value} {ys : List (List Nat)} : TxtsAre vs ys → TxtsAre (.str (S x) t :: vs) (x :: ys)
theorem TxtsAre.strs {vs : List Value} {ys : List (List Nat)} (h : TxtsAre vs ys) : StrsAre vs (ys.map S) := by
  induction h with
  | nil => exact .nil
  | cons _ ih => exact .cons _ _ ih
theorem TxtsAre.snoc {vs : List Value} {ys : List (List Nat)} {x : List Nat} {t : Tok} (h : TxtsAre vs ys) : TxtsAre (vs ++ [.str (S x) t]) (ys ++ [x]) := by
  induction h with
  | nil => exact .cons .nil
  | cons _ ih => exact .cons ih
theorem join_foldl (ys : List (List Nat)) : ∀ a : Array Nat, (ys.map S).foldl (fun acc p => acc ++ (Str.ofString "").cps ++ p.cps) a = a ++ ys.flatten.toArray := by
  have e0 : (Str.ofString "").cps = #[] := by decide +kernel
  induction ys with
  | nil => intro a; simp
  | cons y r ih => intro a; rw [List.map_cons, List.foldl_cons, ih, e0]; simp
theorem join_S (ys : List (List Nat)) : Txt.join (Str.ofString "") (ys.map S) = S ys.flatten := by
  show Builtin.Str.glued (Str.ofString "") (ys.map S) = _
  unfold Builtin.Str.glued
  cases ys with
  | nil => rfl
  | cons y r =>
    have := join_foldl r (S y).cps
    simp only [List.map_cons, List.drop_succ_cons, List.drop_zero, List.headD_cons]
    rw [this]
    simp
theorem sum_len (ys : List (List Nat)) : ((ys.map S).map (·.length)).sum = ys.flatten.length := by
  induction ys with
  | nil => rfl
  | cons y r ih => rw [List.map_cons, List.map_cons, List.sum_cons, ih, S_len]; simp
theorem TxtsAre.len {vs : List Value} {ys : List (List Nat)} (h : TxtsAre vs ys) : vs.length = ys.length := by
  induction h with
  | nil => rfl
  | cons _ ih => rw [List.length_cons, List.length_cons, ih]
theorem TxtsAre.lenm {vs : List Value} {l : List Nat} {f : Nat → List Nat} (h : TxtsAre vs (l.map f)) : vs.length = l.length := by rw [h.len, List.length_map]
theorem flat_len {f : Nat → List Nat} {k : Nat} (h : ∀ c, (f c).length ≤ k) (l : List Nat) : ((l.map f).flatten).length ≤ k * l.length := by
  induction l with
  | nil => simp
  | cons c r ih =>
    have := h c
    rw [List.map_cons, List.flatten_cons, List.length_append, List.length_cons, Nat.mul_add]
    omega
theorem oc_len (c : Nat) : (oc c).length ≤ 9 := by
  unfold oc
  (repeat' split) <;> simp
/-- a sign told by escapes -/
def es (c : Nat) : List Nat := if c = 34 then [37, 50, 50] else if c = 92 then [37, 53, 67] else if c = 37 then [37, 50, 53] else if c = 10 then [37, 48, 65] else if c = 8364 then [37, 117, 50, 48, 65, 67] else [c]
/-- a sign told by JSON -/
def jq (c : Nat) : List Nat := if c = 34 then [92, 34] else if c = 92 then [92, 92] else if c = 10 then [92, 110] else [c]
theorem es_len (c : Nat) : (es c).length ≤ 9 := by
  unfold es
  (repeat' split) <;> simp
theorem jq_len (c : Nat) : (jq c).length ≤ 9 := by
  unfold jq
  (repeat' split) <;> simp
/-- the signs that escapes are told of -/
def AE : List Nat := [97, 34, 92, 37, 10, 8364, 55, 50, 53, 67, 48, 65, 117]
theorem AE_kinds {c : Nat} (h : c ∈ AE) : (c ∈ keptL ∧ es c = [c] ∧ c ≠ 37) ∨ (c < 128 ∧ c ∉ keptL ∧ es c = [37, hexU (c / 16), hexU (c % 16)]) ∨ c = 8364 := (by decide : ∀ c ∈ AE, (c ∈ keptL ∧ es c = [c] ∧ c ≠ 37) ∨ (c < 128 ∧ c ∉ keptL ∧ es c = [37, hexU (c / 16), hexU (c % 16)]) ∨ c = 8364) c h
end Mine
namespace Mine
noncomputable abbrev P0 : Program := PySem.Challenge.rw_sz0080_01.row.toRowW.prog
/-- everything of h stands in h' as it stood -/
def Kept (h h' : Heap) : Prop := ∀ b o, h.get? b = some o → h'.get? b = some o
/-- what a call hands back -/
def CRet (s : Shared) (Q : Value → Shared → Prop) (R : Tok → Value) : Prop :=
  ∀ (t : Tok) (h' : Heap) (tk' : Nat), Kept s.heap h' → Q (R t) { s with heap := h', toks := tk' }
theorem CRet.out {s : Shared} {Q : Value → Shared → Prop} {R : Tok → Value} {g : Heap} (r : CRet s Q R) (G : Kept s.heap g) {t : Tok} {h' : Heap} {tk' : Nat} (k : Kept g h') : Q (R t) { s with heap := h', toks := tk' } := r t h' tk' fun b o e => k b o (G b o e)
theorem CRet.str {s : Shared} {Q : Value → Shared → Prop} {x y : Str} {g : Heap} (r : CRet s Q (fun t => .str x t)) (G : Kept s.heap g) {t : Tok} {h' : Heap} {tk' : Nat} (e : y = x) (k : Kept g h') : Q (.str y t) { s with heap := h', toks := tk' } := by
  subst e; exact r t h' tk' fun b o e => k b o (G b o e)
theorem CRet.int {s : Shared} {Q : Value → Shared → Prop} {x y : Int} {g : Heap} (r : CRet s Q (fun t => .int x t)) (G : Kept s.heap g) {t : Tok} {h' : Heap} {tk' : Nat} (e : y = x) (k : Kept g h') : Q (.int y t) { s with heap := h', toks := tk' } := by
  subst e; exact r t h' tk' fun b o e => k b o (G b o e)
/-- a contract: a call of the function at f with vs gives R, whatever stands around; nothing that stood before is changed -/
noncomputable abbrev Ctr (w : World) (d : Nat) (f : Addr) (vs : List Value) (R : Tok → Value) : Prop :=
  ∀ (p : Program) (loose : List Str) (mean : ExcName → Option Value) (mg mb : Str → Option Value)
    (dp un : Nat) (gd : Option (List Code)) (cn : Str) (cs : Scope) (a : Addr) (ccd : Value) (cl : List (Str × Addr)) (outer : List Env) (A₀ : Around) (base h₀ : Heap) (L : Addr) (m : Str → Option Value) (s : Shared) (Q E : Value → Shared → Prop),
    Below A₀ base outer h₀ → Fr h₀ L s.heap m → (hd.heap_39 w.params).In h₀ → Top p loose mean mg mb h₀ → cs.kind = .function →
    dp + d < recursionLimit → un + 16 * d < cLine → CRet s Q R →
      wpAny (model P0 w) (ktrTop dp un gd cn cs L a ccd cl outer) (call (.ref f) vs) Q E s
theorem use {w : World} {d : Nat} {f : Addr} {vs : List Value} {R : Tok → Value} {p : Program} {loose : List Str} {mean : ExcName → Option Value} {mg mb : Str → Option Value} {news : List (Addr × Obj)}
    {dp un : Nat} {gd : Option (List Code)} {cn : Str} {cs : Scope} {a : Addr} {ccd : Value} {cl : List (Str × Addr)} {outer : List Env} {A₀ : Around} {base h₀ : Heap} {L : Addr} {m : Str → Option Value} {s : Shared} {Q E : Value → Shared → Prop}
    (C : Ctr w d f vs R) (B : Below A₀ base outer h₀) (F : Fr h₀ L s.heap m) (X : (hd.heap_39 w.params).In h₀) (N : News h₀ L s.heap news) (T : Top p loose mean mg mb h₀) (hk : cs.kind = .function)
    (hd : dp + d < recursionLimit) (hu : un + 16 * d < cLine) (ret : ∀ (t : Tok) (h' : Heap) (tk' : Nat), Fr h₀ L h' m → News h₀ L h' news → Q (R t) { s with heap := h', toks := tk' }) :
    wpAny (model P0 w) (ktrTop dp un gd cn cs L a ccd cl outer) (call (.ref f) vs) Q E s :=
  C _ _ _ _ _ _ _ _ _ _ _ _ _ _ _ _ _ _ _ _ _ _ B F X T hk hd hu fun t h' tk' k => ret t h' tk' (F.after k) fun p hp => ⟨k _ _ (N p hp).1, (N p hp).2⟩
/-- the end of a body that a contract speaks of -/
def LeaveP (g : Heap) (R : Result → Shared → Prop) (v : Value) (s' : Shared) : Prop := ∃ L' m', Fr g L' s'.heap m' ∧ (Kept g s'.heap → R (.ok (.ret v)) s')
theorem leaveP_ {g : Heap} {L' : Addr} {m' : Str → Option Value} {R : Result → Shared → Prop} {v : Value} {s' : Shared} (F : Fr g L' s'.heap m') (k : Kept g s'.heap → R (.ok (.ret v)) s') : LeaveP g R v s' := ⟨L', m', F, k⟩
theorem code_pure {prog : Program} {w : World} {A₀ A : Around} {s : Shared} {base h₀ : Heap} {L : Addr} {m : Str → Option Value} {K : Frag} {p : Program} {loose : List Str} {mean : ExcName → Option Value} {mg mb : Str → Option Value}
    {env : Env} {outer : List Env} {R : Result → Shared → Prop} {name qual : Str} {params : Arguments} {body : List Stmt} {scope : Scope} {dV kV doc pm cdv ct oc : Value} {an od : Option Addr} {osl : Array (Option Value)} {f : Addr} {args : Args} {binds : List (Str × Value)}
    (B : Below A₀ base outer h₀) (F : Fr h₀ L s.heap m) (X₀ : K.In h₀) (T : Top p loose mean mg mb h₀) (hA : A.frames = some (env :: outer)) (hf : env.frame = some L) (hke : env.scope.kind = .function)
    (ho : K.lookup f = some ⟨oc, od, .func (fnOf name qual params body scope dV kV doc pm an cdv ct), osl⟩) (hcd : codeIn K cdv qual = true) (hroom : A.depth < recursionLimit)
    (hbind : BindsTo s (fnOf name qual params body scope dV kV doc pm an cdv ct) args binds) (hloc : ∀ y ∈ binds, scope.names.lookup y.1 = some .local)
    (h : ∀ g L' h₁, Kept s.heap g → Fr g L' h₁ (fun y => binds.reverse.lookup y) → News g L' h₁ [] → Below A base (env :: outer) g → K.In g → Top p loose mean mg mb g →
      wpAny (model prog w) (A.deeper (envOf qual scope L' f cdv)) (execs body (envOf qual scope L' f cdv))
        (fun fl s' => LeaveP g R (match fl with | .ret v => v | _ => .none) s')
        (fun e s' => wpAny (model prog w) (A.deeper (envOf qual scope L' f cdv)) (leaving (envOf qual scope L' f cdv) e) (fun _ s'' => R (.error e) s'') (fun e' s'' => R (.error e') s'') s')
        { s with heap := h₁, toks := s.toks + binds.length })
    (hco : scope.isCoroutine = false) (hgen : scope.isGenerator = false) (hk : scope.kind = .function)
    (hcell : ∀ x ∈ scope.names, x.2 ≠ .cell) : codeAny (model prog w) A (.call (.ref f) args) R s := by
  obtain ⟨_, BG, st, _⟩ := groundX (R := R) B F (News.nil (h₀ := h₀) (L := L) (h := s.heap)) hA hf hke
  have hX := X₀.keeps F.keep
  have BG' : Below A base (env :: outer) s.heap := by
    refine ⟨BG.stack, fun b o e => of_hideAll _ (BG.stays b o e), BG.frames.of_keeps fun b o e _ => ⟨o, of_hideAll _ e, rfl⟩⟩
  refine codeAny_call_def (fd := fnOf name qual params body scope dV kV doc pm an cdv ct) (body := body) (binds := binds) hroom (hX _ _ ho) rfl (T.nolimit.keeps F.keep) (codeRec_of hX hcd) rfl hbind hcell hloc (fun h₁ hns hk₁ => ?_) hco hgen hk
  exact wpAny_mono (h _ s.heap.objs.size h₁ (fun _ _ e => e) ⟨hns, fun b o e => hk₁ b o e, Nat.le_refl _⟩ News.nil BG' hX (T.keeps F.keep)) (fun fl s' hl => by
    obtain ⟨_, _, F', k⟩ := hl
    exact k F'.keep) fun _ _ y => y
section
variable {prog : Program} {w : World} {A : Around} {E : Value → Shared → Prop} {s : Shared} {h₀ : Heap} {L : Addr} {m : Str → Option Value} {news : List (Addr × Obj)} {value slice : Expr} {Q : Value → Shared → Prop} {t u : Tok}
theorem r_item {l X : List Nat} {n c : Nat} {i : Int} (k : Nat) (D : l.drop n = X) (hk : X[k]? = some c) (hi : i = ((n + k : Nat) : Int)) (hl : l.length ≤ 16777216)
    (h : Q (.str (S [c]) s.toks) { s with toks := s.toks + 1 })
    (hs : subscripted slice false (.str (S l) t) (.int i u) = operate [.str (S l) t, .int i u] (getItem (.str (S l) t) (.int i u)) := by with_unfolding_all rfl)
    (ht : ∀ r, letTemporaryGo value (.str (S l) t) r = pure () := by intro _; with_unfolding_all rfl) :
    wpAny (model prog w) A (subscriptTail value slice (.str (S l) t) (.int i u)) Q E s := by
  obtain ⟨e, h2, h0⟩ := item_S D hk hi
  have hl' := S_len l
  exact item_str (fitsSsize_of (N := 9223372036854775808) (by omega) (by omega) (Int.le_refl _)) (by omega) h2 (fun _ => by rw [e]; exact h) hs ht
theorem r_slice {l X Y : List Nat} {n : Nat} {i j : Int} {ui uj : Tok} (a b : Nat) (hF : Fr h₀ L s.heap m) (hN : News h₀ L s.heap news) (D : l.drop n = X) (hl : l.length ≤ 16777216) (hi : i = ((n + a : Nat) : Int)) (hj : j = ((n + b : Nat) : Int)) (hab : a ≤ b) (hY : (X.drop a).take (b - a) = Y)
    (h : ∀ h' t' k, Fr h₀ L h' m → News h₀ L h' news → Q (.str (S Y) t') { s with heap := h', toks := k })
    (hs : subscripted slice false (.str (S l) t) (.ref s.heap.objs.size) = operate [.ref s.heap.objs.size, .str (S l) t] (getItem (.str (S l) t) (.ref s.heap.objs.size)) := by with_unfolding_all rfl)
    (ht : ∀ r, letTemporaryGo value (.str (S l) t) r = pure () := by intro _; with_unfolding_all rfl) :
    wpAny (model prog w) A (subscriptTail value slice (.str (S l) t) (.ref s.heap.objs.size)) Q E { s with heap := s.heap.push { cls := .type "slice", data := .fields #[.int i ui, .int j uj, .none] } } := by
  refine slice_strN_ss hF hN (fun h' t' k F N => ?_) hs ht (by rw [S_len, sizeLine_eq]; exact hl)
  rw [slice_S a b D hi hj hab hY]
  exact h h' t' k F N
theorem r_s01 {l r : List Nat} {n c : Nat} {i j : Int} {ui uj : Tok} (D : l.drop n = c :: r) (hF : Fr h₀ L s.heap m) (hN : News h₀ L s.heap news) (hl : l.length ≤ 16777216) (hi : i = (n : Int)) (hj : j = i + 1)
    (h : ∀ h' t' k, Fr h₀ L h' m → News h₀ L h' news → Q (.str (S [c]) t') { s with heap := h', toks := k })
    (hs : subscripted slice false (.str (S l) t) (.ref s.heap.objs.size) = operate [.ref s.heap.objs.size, .str (S l) t] (getItem (.str (S l) t) (.ref s.heap.objs.size)) := by with_unfolding_all rfl)
    (ht : ∀ r, letTemporaryGo value (.str (S l) t) r = pure () := by intro _; with_unfolding_all rfl) :
    wpAny (model prog w) A (subscriptTail value slice (.str (S l) t) (.ref s.heap.objs.size)) Q E { s with heap := s.heap.push { cls := .type "slice", data := .fields #[.int i ui, .int j uj, .none] } } :=
  r_slice 0 1 hF hN D hl (by omega) (by omega) (by decide) rfl h hs ht
theorem r_s01n {l : List Nat} {n : Nat} {i j : Int} {ui uj : Tok} (D : l.drop n = []) (hF : Fr h₀ L s.heap m) (hN : News h₀ L s.heap news) (hl : l.length ≤ 16777216) (hi : i = (n : Int)) (hj : j = i + 1)
    (h : ∀ h' t' k, Fr h₀ L h' m → News h₀ L h' news → Q (.str (S []) t') { s with heap := h', toks := k })
    (hs : subscripted slice false (.str (S l) t) (.ref s.heap.objs.size) = operate [.ref s.heap.objs.size, .str (S l) t] (getItem (.str (S l) t) (.ref s.heap.objs.size)) := by with_unfolding_all rfl)
    (ht : ∀ r, letTemporaryGo value (.str (S l) t) r = pure () := by intro _; with_unfolding_all rfl) :
    wpAny (model prog w) A (subscriptTail value slice (.str (S l) t) (.ref s.heap.objs.size)) Q E { s with heap := s.heap.push { cls := .type "slice", data := .fields #[.int i ui, .int j uj, .none] } } :=
  r_slice 0 1 hF hN D hl (by omega) (by omega) (by decide) rfl h hs ht
theorem r_s13 {l r : List Nat} {n x a b : Nat} {i j : Int} {ui uj : Tok} (D : l.drop n = x :: a :: b :: r) (hF : Fr h₀ L s.heap m) (hN : News h₀ L s.heap news) (hl : l.length ≤ 16777216) (hi : i = (n : Int) + 1) (hj : j = (n : Int) + 3)
    (h : ∀ h' t' k, Fr h₀ L h' m → News h₀ L h' news → Q (.str (S [a, b]) t') { s with heap := h', toks := k })
    (hs : subscripted slice false (.str (S l) t) (.ref s.heap.objs.size) = operate [.ref s.heap.objs.size, .str (S l) t] (getItem (.str (S l) t) (.ref s.heap.objs.size)) := by with_unfolding_all rfl)
    (ht : ∀ r, letTemporaryGo value (.str (S l) t) r = pure () := by intro _; with_unfolding_all rfl) :
    wpAny (model prog w) A (subscriptTail value slice (.str (S l) t) (.ref s.heap.objs.size)) Q E { s with heap := s.heap.push { cls := .type "slice", data := .fields #[.int i ui, .int j uj, .none] } } :=
  r_slice 1 3 hF hN D hl (by omega) (by omega) (by decide) rfl h hs ht
theorem r_s02 {l : List Nat} {n a b : Nat} {r : List Nat} {i j : Int} {ui uj : Tok} (D : l.drop n = a :: b :: r) (hF : Fr h₀ L s.heap m) (hN : News h₀ L s.heap news) (hl : l.length ≤ 16777216) (hi : i = (n : Int) + 0) (hj : j = (n : Int) + 2)
    (h : ∀ h' t' k, Fr h₀ L h' m → News h₀ L h' news → Q (.str (S [a, b]) t') { s with heap := h', toks := k })
    (hs : subscripted slice false (.str (S l) t) (.ref s.heap.objs.size) = operate [.ref s.heap.objs.size, .str (S l) t] (getItem (.str (S l) t) (.ref s.heap.objs.size)) := by with_unfolding_all rfl)
    (ht : ∀ r, letTemporaryGo value (.str (S l) t) r = pure () := by intro _; with_unfolding_all rfl) :
    wpAny (model prog w) A (subscriptTail value slice (.str (S l) t) (.ref s.heap.objs.size)) Q E { s with heap := s.heap.push { cls := .type "slice", data := .fields #[.int i ui, .int j uj, .none] } } :=
  r_slice 0 2 hF hN D hl (by omega) (by omega) (by decide) rfl h hs ht
theorem r_s02e {l : List Nat} {n a : Nat} {i j : Int} {ui uj : Tok} (D : l.drop n = [a]) (hF : Fr h₀ L s.heap m) (hN : News h₀ L s.heap news) (hl : l.length ≤ 16777216) (hi : i = (n : Int) + 0) (hj : j = (n : Int) + 2)
    (h : ∀ h' t' k, Fr h₀ L h' m → News h₀ L h' news → Q (.str (S [a]) t') { s with heap := h', toks := k })
    (hs : subscripted slice false (.str (S l) t) (.ref s.heap.objs.size) = operate [.ref s.heap.objs.size, .str (S l) t] (getItem (.str (S l) t) (.ref s.heap.objs.size)) := by with_unfolding_all rfl)
    (ht : ∀ r, letTemporaryGo value (.str (S l) t) r = pure () := by intro _; with_unfolding_all rfl) :
    wpAny (model prog w) A (subscriptTail value slice (.str (S l) t) (.ref s.heap.objs.size)) Q E { s with heap := s.heap.push { cls := .type "slice", data := .fields #[.int i ui, .int j uj, .none] } } :=
  r_slice 0 2 hF hN D hl (by omega) (by omega) (by decide) rfl h hs ht
theorem r_s26 {l : List Nat} {n x y a b c d : Nat} {r : List Nat} {i j : Int} {ui uj : Tok} (D : l.drop n = x :: y :: a :: b :: c :: d :: r) (hF : Fr h₀ L s.heap m) (hN : News h₀ L s.heap news) (hl : l.length ≤ 16777216) (hi : i = (n : Int) + 2) (hj : j = (n : Int) + 6)
    (h : ∀ h' t' k, Fr h₀ L h' m → News h₀ L h' news → Q (.str (S [a, b, c, d]) t') { s with heap := h', toks := k })
    (hs : subscripted slice false (.str (S l) t) (.ref s.heap.objs.size) = operate [.ref s.heap.objs.size, .str (S l) t] (getItem (.str (S l) t) (.ref s.heap.objs.size)) := by with_unfolding_all rfl)
    (ht : ∀ r, letTemporaryGo value (.str (S l) t) r = pure () := by intro _; with_unfolding_all rfl) :
    wpAny (model prog w) A (subscriptTail value slice (.str (S l) t) (.ref s.heap.objs.size)) Q E { s with heap := s.heap.push { cls := .type "slice", data := .fields #[.int i ui, .int j uj, .none] } } :=
  r_slice 2 6 hF hN D hl (by omega) (by omega) (by decide) rfl h hs ht
theorem r_s12 {l : List Nat} {n x a : Nat} {r : List Nat} {i j : Int} {ui uj : Tok} (D : l.drop n = x :: a :: r) (hF : Fr h₀ L s.heap m) (hN : News h₀ L s.heap news) (hl : l.length ≤ 16777216) (hi : i = (n : Int) + 1) (hj : j = (n : Int) + 2)
    (h : ∀ h' t' k, Fr h₀ L h' m → News h₀ L h' news → Q (.str (S [a]) t') { s with heap := h', toks := k })
    (hs : subscripted slice false (.str (S l) t) (.ref s.heap.objs.size) = operate [.ref s.heap.objs.size, .str (S l) t] (getItem (.str (S l) t) (.ref s.heap.objs.size)) := by with_unfolding_all rfl)
    (ht : ∀ r, letTemporaryGo value (.str (S l) t) r = pure () := by intro _; with_unfolding_all rfl) :
    wpAny (model prog w) A (subscriptTail value slice (.str (S l) t) (.ref s.heap.objs.size)) Q E { s with heap := s.heap.push { cls := .type "slice", data := .fields #[.int i ui, .int j uj, .none] } } :=
  r_slice 1 2 hF hN D hl (by omega) (by omega) (by decide) rfl h hs ht
theorem r_hex {i : Int} {k : Nat} (hi : i = (k : Int)) (hk : k < 16) (h : Q (.str (S [hexU k]) s.toks) { s with toks := s.toks + 1 })
    (hs : subscripted slice false (.str (Str.ofString "0123456789ABCDEF") t) (.int i u) = operate [.str (Str.ofString "0123456789ABCDEF") t, .int i u] (getItem (.str (Str.ofString "0123456789ABCDEF") t) (.int i u)) := by with_unfolding_all rfl)
    (ht : ∀ r, letTemporaryGo value (.str (Str.ofString "0123456789ABCDEF") t) r = pure () := by intro _; with_unfolding_all rfl) :
    wpAny (model prog w) A (subscriptTail value slice (.str (Str.ofString "0123456789ABCDEF") t) (.int i u)) Q E s := by
  have e : Str.ofString "0123456789ABCDEF" = S [48, 49, 50, 51, 52, 53, 54, 55, 56, 57, 65, 66, 67, 68, 69, 70] := by decide +kernel
  have e2 : Txt.item (Str.ofString "0123456789ABCDEF") i = S [hexU k] := by
    rw [e]
    refine (item_S (n := 0) (k := k) rfl ?_ (by rw [hi, Nat.zero_add])).1
    exact (by decide : ∀ k, k < 16 → (List.drop 0 [48, 49, 50, 51, 52, 53, 54, 55, 56, 57, 65, 66, 67, 68, 69, 70])[k]? = some (hexU k)) k hk
  have el : (Str.ofString "0123456789ABCDEF").length = 16 := by decide +kernel
  exact item_str (fitsSsize_of (N := 9223372036854775808) (by omega) (by omega) (Int.le_refl _)) (by omega) (by omega) (fun _ => by rw [e2]; exact h) hs ht
end
section
variable {prog : Program} {w : World} {A : Around} {E : Value → Shared → Prop} {Q : Flow → Shared → Prop} {s : Shared} {env : Env} {h₀ : Heap} {L : Addr} {test : Expr} {body : List Stmt} {pos : Pos} {m : Str → Option Value} {news : List (Addr × Obj)}
theorem w_zero (F : Fr h₀ L s.heap m) (N : News h₀ L s.heap news)
    (turn : ∀ h₁ tk₁, Fr h₀ L h₁ m → News h₀ L h₁ news → wpAny (model prog w) A (isTrue test env (eval test env)) (fun b s₂ => if b = true then False else Q .next s₂) E { s with heap := h₁, toks := tk₁ })
    (hE : PassesOwn (model prog w) A env E := by passes_own) : wpAny (model prog w) A (exec (.While test body [] pos) env) Q E s := by
  refine While_inv2 (fun n m' nx => m' = m ∧ nx = news) (n₀ := 0) F N ⟨rfl, rfl⟩ ?_ hE
  rintro n m₁ nx h₁ tk₁ F₁ N₁ ⟨rfl, rfl⟩
  refine wpAny_mono (turn h₁ tk₁ F₁ N₁) (fun b s₂ p => ?_) fun _ _ x => x
  cases b with
  | true => simp at p
  | false => simpa using p
end
end Mine
namespace Mine
/-- held back from the walk -/
def Hold (P : Prop) : Prop := P
theorem hold {P : Prop} (h : Hold P) : P := h
theorem same {P : Prop} (h : P) : P := h
theorem unhold {P : Prop} (h : P) : Hold P := h
end Mine
namespace Mine
/-- the end of a turn of a loop that goes along a text: one sign more is done -/
def TEnd (h₀ : Heap) (L : Addr) (s : Shared) (fa : Addr) (news : List (Addr × Obj)) (f : Nat → List Nat) (pos : List Nat → Int) (m₀ : Str → Option Value) (stored : List Str) (pre : List Nat) (s₂ : Shared) : Prop :=
  ∃ (vs : List Value) (e : Nat) (t : Tok) (h' : Heap) (tk : Nat) (m' : Str → Option Value), s₂ = { s with heap := h', toks := tk } ∧ Fr h₀ L h' m' ∧ News h₀ L h' ((fa, listOf vs.toArray e) :: news) ∧ TxtsAre vs (pre.map f) ∧
    m' "at" = some (.int (pos pre) t) ∧ ∀ z, z ≠ ("at" : Str) → stored.contains z = false → m' z = m₀ z
def TPost (h₀ : Heap) (L : Addr) (s : Shared) (fa : Addr) (news : List (Addr × Obj)) (f : Nat → List Nat) (pos : List Nat → Int) (m₀ : Str → Option Value) (stored : List Str) (pre : List Nat) (Q : Flow → Shared → Prop) (fl : Flow) (s₂ : Shared) : Prop :=
  match fl with
  | .ret v => Q (.ret v) s₂
  | .brk => Q .next s₂
  | _ => TEnd h₀ L s fa news f pos m₀ stored pre s₂
theorem TEnd.intro {h₀ : Heap} {L : Addr} {s : Shared} {fa : Addr} {news nx : List (Addr × Obj)} {f : Nat → List Nat} {pos : List Nat → Int} {m₀ m' : Str → Option Value} {stored : List Str} {pre : List Nat} {c : Nat} {vs : List Value} {x : List Nat} {e : Nat} {t u : Tok} {i : Int} {h' : Heap} {tk : Nat}
    (F : Fr h₀ L h' m') (N : News h₀ L h' nx) (sub : (fa, listOf (vs.toArray.push (.str (S x) u)) e) ∈ nx ∧ ∀ p ∈ news, p ∈ nx) (hs : TxtsAre vs (pre.map f)) (hx : x = f c) (hat : m' "at" = some (.int i t)) (hi : i = pos (pre ++ [c]))
    (hr : ∀ z, z ≠ ("at" : Str) → stored.contains z = false → m' z = m₀ z) :
    TEnd h₀ L s fa news f pos m₀ stored (pre ++ [c]) { s with heap := h', toks := tk } := by
  subst hx hi
  refine ⟨vs ++ [.str (S (f c)) u], e, t, h', tk, m', rfl, F, fun p hp => N p ?_, ?_, hat, hr⟩
  · rcases List.mem_cons.mp hp with rfl | hp
    · have := sub.1
      simpa using this
    · exact sub.2 p hp
  · rw [List.map_append]
    exact TxtsAre.snoc hs
section
variable {prog : Program} {w : World} {A : Around} {E : Value → Shared → Prop} {Q : Flow → Shared → Prop} {s : Shared} {env : Env} {h₀ : Heap} {L : Addr} {test : Expr} {body : List Stmt} {p : Pos} {m₀ : Str → Option Value} {news nx : List (Addr × Obj)}
theorem w_text (l : List Nat) (f : Nat → List Nat) (pos : List Nat → Int) (stored : List Str) {fa : Addr} {e₀ : Nat} {t₀ : Tok} (F : Fr h₀ L s.heap m₀) (N : News h₀ L s.heap nx) (sub : (fa, listOf ([] : List Value).toArray e₀) ∈ nx ∧ ∀ p ∈ news, p ∈ nx) (hat : m₀ "at" = some (.int (pos []) t₀))
    (turn : ∀ (pre : List Nat) (c : Nat) (r : List Nat) (vs : List Value) (e : Nat) (t : Tok) (u : Str → Option Value) (h : Heap) (tk : Nat), pre ++ c :: r = l → TxtsAre vs (pre.map f) → Fr h₀ L h (fun z => if z = ("at" : Str) then some (.int (pos pre) t) else if stored.contains z then u z else m₀ z) → News h₀ L h ((fa, listOf vs.toArray e) :: news) →
      wpAny (model prog w) A (isTrue test env (eval test env)) (fun b s₂ => if b = true then wpAny (model prog w) A (execs body env) (TPost h₀ L s fa news f pos m₀ stored (pre ++ [c]) Q) E s₂ else False) E { s with heap := h, toks := tk })
    (stop : ∀ (vs : List Value) (e : Nat) (t : Tok) (u : Str → Option Value) (h : Heap) (tk : Nat), TxtsAre vs (l.map f) → Fr h₀ L h (fun z => if z = ("at" : Str) then some (.int (pos l) t) else if stored.contains z then u z else m₀ z) → News h₀ L h ((fa, listOf vs.toArray e) :: news) →
      wpAny (model prog w) A (isTrue test env (eval test env)) (fun b s₂ => if b = true then False else Q .next s₂) E { s with heap := h, toks := tk })
    (hE : PassesOwn (model prog w) A env E := by passes_own) : wpAny (model prog w) A (exec (.While test body [] p) env) Q E s := by
  have hmap : ∀ (m₁ : Str → Option Value) (v : Value), m₁ "at" = some v → (∀ z, z ≠ ("at" : Str) → stored.contains z = false → m₁ z = m₀ z) → m₁ = fun z => if z = ("at" : Str) then some v else if stored.contains z then m₁ z else m₀ z := by
    intro m₁ v h1 h2
    funext y
    by_cases hy : y = ("at" : Str)
    · rw [if_pos hy, hy, h1]
    · rw [if_neg hy]
      cases h3 : stored.contains y with
      | true => simp
      | false => simp only [Bool.false_eq_true, if_false]; exact h2 y hy h3
  refine While_inv2 (fun n m' ny => ∃ pre post vs e t, pre ++ post = l ∧ n = post.length ∧ ny = (fa, listOf (List.toArray vs) e) :: news ∧ TxtsAre vs (pre.map f) ∧ m' "at" = some (.int (pos pre) t) ∧ ∀ z, z ≠ ("at" : Str) → stored.contains z = false → m' z = m₀ z)
    (n₀ := l.length) (news := (fa, listOf ([] : List Value).toArray e₀) :: news) F (fun q hq => N q (by rcases List.mem_cons.mp hq with rfl | hq; exact sub.1; exact sub.2 q hq)) ⟨[], l, [], e₀, t₀, rfl, rfl, rfl, .nil, hat, fun _ _ _ => rfl⟩ ?_ hE
  rintro n m₁ ny h₁ tk₁ F₁ N₁ ⟨pre, post, vs, e, t, hl, hn, rfl, hs, h1, h2⟩
  rw [hmap m₁ _ h1 h2] at F₁
  cases post with
  | nil =>
    rw [List.append_nil] at hl
    subst hl
    refine wpAny_mono (stop vs e t m₁ h₁ tk₁ hs F₁ N₁) (fun b s₂ q => ?_) fun _ _ x => x
    cases b with
    | true => simp at q
    | false => simpa using q
  | cons c r =>
    refine wpAny_mono (turn pre c r vs e t m₁ h₁ tk₁ hl hs F₁ N₁) (fun b s₂ q => ?_) fun _ _ x => x
    cases b with
    | false => simp at q
    | true =>
      simp only [if_true] at q ⊢
      refine wpAny_mono q (fun fl s₃ q => ?_) fun _ _ x => x
      have up : TEnd h₀ L s fa news f pos m₀ stored (pre ++ [c]) s₃ → ∃ h' tk m₂ news₂ n', s₃ = { s with heap := h', toks := tk } ∧ Fr h₀ L h' m₂ ∧ News h₀ L h' news₂ ∧ n' < n ∧
          (∃ pre post vs e t, pre ++ post = l ∧ n' = post.length ∧ news₂ = (fa, listOf (List.toArray vs) e) :: news ∧ TxtsAre vs (pre.map f) ∧ m₂ "at" = some (.int (pos pre) t) ∧ ∀ z, z ≠ ("at" : Str) → stored.contains z = false → m₂ z = m₀ z) := by
        rintro ⟨vs', e', t', h', tk', m', rfl, F', N', hs', hat', hr'⟩
        refine ⟨h', tk', m', _, r.length, rfl, F', N', by rw [hn]; exact Nat.lt_succ_self _, pre ++ [c], r, vs', e', t', by rw [List.append_assoc]; exact hl, rfl, rfl, hs', hat', hr'⟩
      cases fl with
      | ret v => exact q
      | brk => exact q
      | next => exact up q
      | cont => exact up q
end
end Mine
namespace Mine
section
variable {prog : Program} {w : World} {A : Around} {E : Value → Shared → Prop} {s : Shared} {Q : Value → Shared → Prop} {t u : Tok}
theorem r_in_yes {x : Str} {c : Nat} {l : List Nat} (hx : x = S l) (hc : c ∈ l) (h : Q (.bool true) s) : wpAny (model prog w) A (compareOp .In (.str (S [c]) u) (.str x t)) Q E s := by
  refine in_str ?_
  rw [StrLaws.found_one, decide_eq_true (by rw [hx]; simpa using hc)]
  exact h
theorem r_in_no {x : Str} {c : Nat} {l : List Nat} (hx : x = S l) (hc : c ∉ l) (h : Q (.bool false) s) : wpAny (model prog w) A (compareOp .In (.str (S [c]) u) (.str x t)) Q E s := by
  refine in_str ?_
  rw [StrLaws.found_one, decide_eq_false (by rw [hx]; simpa using hc)]
  exact h
end
end Mine
namespace Mine
section
variable {prog : Program} {w : World} {A : Around} {E : Value → Shared → Prop} {s : Shared} {Q : Value → Shared → Prop} {t : Tok}
theorem r_join {D : Addr} {vs : List Value} {ys : List (List Nat)} {Y : List Nat} (hl : s.heap.IsList D vs.toArray) (hi : TxtsAre vs ys) (e : ys.flatten = Y) (hw : Y.length ≤ 16777216)
    (h : ∀ t' k, Q (.str (S Y) t') { s with toks := k }) : wpAny (model prog w) A (call (.builtin "str.join") [.str (Str.ofString "") t, .ref D]) Q E s := by
  have e0 : (Str.ofString "").length = 0 := by decide +kernel
  refine join_list hl hi.strs (by rw [sum_len, e0, e, Nat.mul_zero]; exact hw) fun t' k => ?_
  rw [join_S, e]
  exact h t' k
end
end Mine
namespace Mine
/-- a call hands back a new list -/
def CRetL (s : Shared) (Q : Value → Shared → Prop) (items : List Value → Prop) : Prop :=
  ∀ (l : Addr) (xs : List Value) (e : Nat) (h' : Heap) (tk' : Nat), Kept s.heap h' → s.heap.get? l = none → h'.get? l = some (listOf xs.toArray e) → items xs → Q (.ref l) { s with heap := h', toks := tk' }
theorem CRetL.out {s : Shared} {Q : Value → Shared → Prop} {items : List Value → Prop} {g : Heap} {L' : Addr} {nx : List (Addr × Obj)} {l : Addr} {xs : List Value} {e : Nat} (r : CRetL s Q items) (G : Kept s.heap g) {h' : Heap} {tk' : Nat} (k : Kept g h') (N : News g L' h' nx) (hm : (l, listOf xs.toArray e) ∈ nx) (hi : items xs) :
    Q (.ref l) { s with heap := h', toks := tk' } := by
  refine r l xs e h' tk' (fun b o x => k b o (G b o x)) ?_ (N _ hm).1 hi
  cases q : s.heap.get? l with
  | none => rfl
  | some o =>
    have := (N _ hm).2.2
    rw [G _ _ q] at this
    cases this
noncomputable abbrev CtrL (w : World) (d : Nat) (f : Addr) (vs : List Value) (items : List Value → Prop) : Prop :=
  ∀ (p : Program) (loose : List Str) (mean : ExcName → Option Value) (mg mb : Str → Option Value)
    (dp un : Nat) (gd : Option (List Code)) (cn : Str) (cs : Scope) (a : Addr) (ccd : Value) (cl : List (Str × Addr)) (outer : List Env) (A₀ : Around) (base h₀ : Heap) (L : Addr) (m : Str → Option Value) (s : Shared) (Q E : Value → Shared → Prop),
    Below A₀ base outer h₀ → Fr h₀ L s.heap m → (hd.heap_39 w.params).In h₀ → Top p loose mean mg mb h₀ → cs.kind = .function →
    dp + d < recursionLimit → un + 16 * d < cLine → CRetL s Q items →
      wpAny (model P0 w) (ktrTop dp un gd cn cs L a ccd cl outer) (call (.ref f) vs) Q E s
theorem use_l {w : World} {d : Nat} {f : Addr} {vs : List Value} {items : List Value → Prop} {p : Program} {loose : List Str} {mean : ExcName → Option Value} {mg mb : Str → Option Value} {news : List (Addr × Obj)}
    {dp un : Nat} {gd : Option (List Code)} {cn : Str} {cs : Scope} {a : Addr} {ccd : Value} {cl : List (Str × Addr)} {outer : List Env} {A₀ : Around} {base h₀ : Heap} {L : Addr} {m : Str → Option Value} {s : Shared} {Q E : Value → Shared → Prop}
    (C : CtrL w d f vs items) (B : Below A₀ base outer h₀) (F : Fr h₀ L s.heap m) (X : (hd.heap_39 w.params).In h₀) (N : News h₀ L s.heap news) (T : Top p loose mean mg mb h₀) (hk : cs.kind = .function)
    (hd : dp + d < recursionLimit) (hu : un + 16 * d < cLine)
    (ret : ∀ (l : Addr) (xs : List Value) (e : Nat) (h' : Heap) (tk' : Nat), Fr h₀ L h' m → News h₀ L h' ((l, listOf xs.toArray e) :: news) → (∀ p ∈ news, @Ne Nat p.1 l) → items xs → Q (.ref l) { s with heap := h', toks := tk' }) :
    wpAny (model P0 w) (ktrTop dp un gd cn cs L a ccd cl outer) (call (.ref f) vs) Q E s := by
  refine C _ _ _ _ _ _ _ _ _ _ _ _ _ _ _ _ _ _ _ _ _ _ B F X T hk hd hu fun l xs e h' tk' k hn hl hi => ret l xs e h' tk' (F.after k) ?_ ?_ hi
  · intro p hp
    rcases List.mem_cons.mp hp with rfl | hp
    · refine ⟨hl, ?_, ?_⟩
      · obtain ⟨oL, _, _, hL, _⟩ := F.ns
        rintro rfl
        rw [hL] at hn; cases hn
      · cases q : h₀.get? l with
        | none => rfl
        | some o => rw [F.keep _ _ q] at hn; cases hn
    · exact ⟨k _ _ (N p hp).1, (N p hp).2⟩
  · rintro p hp rfl
    rw [(N p hp).1] at hn; cases hn
end Mine
namespace Mine
/-- a value is this text -/
def ElIs (y : Value) (z : List Nat) : Prop := ∃ t, y = .str (S z) t
theorem take_next {l : List Nat} {i c : Nat} (h : l[i]? = some c) : l.take (i + 1) = l.take i ++ [c] ∧ l.take i ++ c :: l.drop (i + 1) = l := by
  have h1 : l.take (i + 1) = l.take i ++ [c] := by simp [List.take_add_one, h]
  refine ⟨h1, ?_⟩
  have := List.take_append_drop (i + 1) l
  rw [h1, List.append_assoc] at this
  exact this
/-- the end of a turn of a for along a text that fills one list -/
def FEnd (h₀ : Heap) (L : Addr) (s : Shared) (fa : Addr) (own : List (Addr × Obj)) (f : Nat → List Nat) (x : Str) (m₀ : Str → Option Value) (stored : List Str) (pre : List Nat) (s₂ : Shared) : Prop :=
  ∃ (vs : List Value) (e : Nat) (h' : Heap) (tk : Nat) (m' : Str → Option Value), s₂ = { s with heap := h', toks := tk } ∧ Fr h₀ L h' m' ∧ News h₀ L h' ((fa, listOf vs.toArray e) :: own) ∧ TxtsAre vs (pre.map f) ∧ ∀ z, z ≠ x → stored.contains z = false → m' z = m₀ z
def FPost (h₀ : Heap) (L : Addr) (s : Shared) (fa : Addr) (own : List (Addr × Obj)) (f : Nat → List Nat) (x : Str) (m₀ : Str → Option Value) (stored : List Str) (pre : List Nat) (Q : Flow → Shared → Prop) (fl : Flow) (s₂ : Shared) : Prop :=
  match fl with
  | .ret v => Q (.ret v) s₂
  | .brk => Q .next s₂
  | _ => FEnd h₀ L s fa own f x m₀ stored pre s₂
theorem FEnd.intro {h₀ : Heap} {L : Addr} {s : Shared} {fa : Addr} {own nx : List (Addr × Obj)} {f : Nat → List Nat} {x : Str} {m₀ m' : Str → Option Value} {stored : List Str} {pre : List Nat} {c : Nat} {vs : List Value} {y : List Nat} {e : Nat} {u : Tok} {h' : Heap} {tk : Nat}
    (F : Fr h₀ L h' m') (N : News h₀ L h' nx) (sub : (fa, listOf (vs.toArray.push (.str (S y) u)) e) ∈ nx ∧ ∀ p ∈ own, p ∈ nx) (hs : TxtsAre vs (pre.map f)) (hx : y = f c)
    (hr : ∀ z, z ≠ x → stored.contains z = false → m' z = m₀ z) :
    FEnd h₀ L s fa own f x m₀ stored (pre ++ [c]) { s with heap := h', toks := tk } := by
  subst hx
  refine ⟨vs ++ [.str (S (f c)) u], e, h', tk, m', rfl, F, fun p hp => N p ?_, ?_, hr⟩
  · rcases List.mem_cons.mp hp with rfl | hp
    · have := sub.1
      simpa using this
    · exact sub.2 p hp
  · rw [List.map_append]
    exact TxtsAre.snoc hs
section
variable {prog : Program} {w : World} {A : Around} {E : Value → Shared → Prop} {s : Shared} {env : Env} {h₀ : Heap} {x : Str} {body : List Stmt} {Q : Flow → Shared → Prop}
theorem f_list (l : List Nat) (f : Nat → List Nat) (stored : List Str) {tx : Tok} {fa : Addr} {e₀ : Nat} {m₀ : Str → Option Value} {nx : List (Addr × Obj)}
    (hh : A.handled = none) (F : Fr h₀ env.locals s.heap m₀) (N : News h₀ env.locals s.heap nx) (sub : (fa, listOf ([] : List Value).toArray e₀) ∈ nx)
    (turn : ∀ (pre : List Nat) (c : Nat) (r : List Nat) (vs : List Value) (e : Nat) (t : Tok) (u : Str → Option Value) (h : Heap) (tk : Nat) (own : List (Addr × Obj)), pre ++ c :: r = l → TxtsAre vs (pre.map f) → (∀ p ∈ own, @Ne Nat p.1 fa) →
      Fr h₀ env.locals h (fun z => if z = x then some (.str (S [c]) t) else if stored.contains z then u z else m₀ z) → News h₀ env.locals h ((fa, listOf vs.toArray e) :: own) →
      wpAny (model prog w) A (execs body env) (FPost h₀ env.locals { s with heap := h, toks := tk } fa own f x m₀ stored (pre ++ [c]) Q) E { s with heap := h, toks := tk })
    (done : ∀ (vs : List Value) (e : Nat) (u : Str → Option Value) (h : Heap) (tk : Nat), TxtsAre vs (l.map f) → Fr h₀ env.locals h (fun z => if z = x then u z else if stored.contains z then u z else m₀ z) → News h₀ env.locals h [(fa, listOf vs.toArray e)] → Q .next { s with heap := h, toks := tk }) :
    wpAny (model prog w) A (pyIter (.str (S l) tx)) (fun it s₂ => LoopAtV prog w A h₀ env x body Q E it s₂) E s := by
  have N1 : News h₀ env.locals s.heap [(fa, listOf ([] : List Value).toArray e₀)] := fun p hp => N p (by rw [List.mem_singleton.mp hp]; exact sub)
  refine wpAny_pyIter_str fun o St hW hst => ?_
  have W := hW A hh
  refine loop_invN (fun i m ny => ∃ vs e, ny = [(fa, listOf (List.toArray vs) e)] ∧ TxtsAre vs ((l.take i).map f) ∧ ∀ z, z ≠ x → stored.contains z = false → m z = m₀ z) W ?_ ?_ ?_ ?_ hst (F.push _) (fun p hp => ⟨Heap.get?_push_of_some _ (N1 p hp).1, (N1 p hp).2⟩) ⟨[], e₀, rfl, .nil, fun _ _ _ => rfl⟩ ?_ ?_
  · intro hm
    exact absurd F.ns.lt ((List.mem_singleton.mp hm) ▸ Nat.lt_irrefl _)
  · intro b' hb
    rw [List.mem_singleton.mp hb]
    exact next_is_new F
  · intro p hp hI
    exact absurd (Heap.lt_size (N1 p hp).1) ((List.mem_singleton.mp hI) ▸ Nat.lt_irrefl _)
  · intro p hp hI
    exact absurd (Heap.lt_size (N1 p hp).1) ((List.mem_singleton.mp hI) ▸ Nat.lt_irrefl _)
  · rintro i v m₁ ny h tk own hi ⟨c, t, hn, rfl⟩ _ hoff ⟨vs, e, rfl, hs, hr⟩ F₁ N₁
    have hn' : l[i]? = some c := by simpa using hn
    obtain ⟨h1, h2⟩ := take_next hn'
    have eF : (fun y => if y = x then some (Value.str ⟨#[c]⟩ t) else m₁ y) = fun z => if z = x then some (.str (S [c]) t) else if stored.contains z then m₁ z else m₀ z := by
      funext z
      by_cases hz : z = x
      · rw [if_pos hz, if_pos hz]
      · rw [if_neg hz, if_neg hz]
        cases h3 : stored.contains z with
        | true => simp
        | false => simp only [Bool.false_eq_true, if_false]; exact hr z hz h3
    rw [eF] at F₁
    refine wpAny_mono (turn _ c _ vs e t m₁ h tk own h2 hs (fun p hp => hoff p hp fa (by simp)) F₁ N₁) (fun fl s₂ q => ?_) fun _ _ x => x
    have up : FEnd h₀ env.locals { s with heap := h, toks := tk } fa own f x m₀ stored (l.take i ++ [c]) s₂ → InvEndN h₀ env.locals (fun m ny => ∃ vs e, ny = [(fa, listOf (List.toArray vs) e)] ∧ TxtsAre vs ((l.take (i + 1)).map f) ∧ ∀ z, z ≠ x → stored.contains z = false → m z = m₀ z) own ([(fa, listOf ([] : List Value).toArray e₀)].map (·.1)) { s with heap := h, toks := tk } s₂ := by
      rintro ⟨vs', e', h', tk', m', rfl, F', N', hs', hr'⟩
      rw [h1]
      exact InvEndN.intro F' N' ⟨vs', e', rfl, hs', hr'⟩ rfl (fun p hp => by rw [List.mem_singleton.mp hp]; exact .head _) (fun p hp => .tail _ hp)
    cases fl with
    | ret v => exact q
    | brk => exact q
    | next => exact up q
    | cont => exact up q
  · rintro m₁ ny h tk ⟨vs, e, rfl, hs, hr⟩ F₁ N₁
    have hl : l.take (S l).cps.size = l := List.take_of_length_le (by simp)
    rw [hl] at hs
    refine done vs e m₁ h tk hs ?_ N₁
    have eF : m₁ = fun z => if z = x then m₁ z else if stored.contains z then m₁ z else m₀ z := by
      funext z
      by_cases hz : z = x
      · rw [if_pos hz]
      · rw [if_neg hz]
        cases h3 : stored.contains z with
        | true => simp
        | false => simp only [Bool.false_eq_true, if_false]; exact hr z hz h3
    rw [← eF]
    exact F₁
end
section
variable {prog : Program} {w : World} {A : Around} {E : Value → Shared → Prop} {s : Shared} {h₀ : Heap} {L : Addr} {m : Str → Option Value} {env : Env}
theorem pyIter_text {x : Str} {t : Tok} {Q : Value → Shared → Prop}
    (hQ : ∀ (o : Obj) (St : Nat → Heap → Prop), (∀ A' : Around, A'.handled = none → Walks prog w A' s.heap.objs.size [s.heap.objs.size] [s.heap.objs.size] x.cps.size (SignAt x) St) → St 0 (s.heap.push o) →
      (∀ i h, St i h → ∃ o, h.get? s.heap.objs.size = some o) → (∀ i (h h' : Heap) o, St i h → h.get? s.heap.objs.size = some o → h'.get? s.heap.objs.size = some o → St i h') →
      Q (.ref s.heap.objs.size) { s with heap := s.heap.push o }) : wpAny (model prog w) A (pyIter (.str x t)) Q E s := by
  have a1 : ∀ ty i (h : Heap), h.IsStrIter s.heap.objs.size ty x t i → ∃ o, h.get? s.heap.objs.size = some o := fun ty i h ⟨o, e, _⟩ => ⟨o, e⟩
  have a2 : ∀ ty i (h h' : Heap) o, h.IsStrIter s.heap.objs.size ty x t i → h.get? s.heap.objs.size = some o → h'.get? s.heap.objs.size = some o → h'.IsStrIter s.heap.objs.size ty x t i := fun ty i h h' o ⟨o', e, r⟩ e1 e2 => by
    rw [e] at e1; cases e1; exact ⟨_, e2, r⟩
  cases ha : x.cps.all (· < 128)
  · exact wpAny_pyIter_wide ha (hQ _ _ (fun A' hA => Walks.strWide hA _ x t) ⟨_, Heap.get?_push_size _ rfl, rfl, rfl⟩ (a1 _) (a2 _))
  · exact wpAny_pyIter_ascii ha (hQ _ _ (fun A' hA => Walks.strAscii hA _ x t) ⟨_, Heap.get?_push_size _ rfl, rfl, rfl⟩ (a1 _) (a2 _))
/-- a comprehension's iterable is a text -/
def CText (prog : Program) (w : World) (A : Around) (h₀ : Heap) (L : Addr) (m : Str → Option Value) (env : Env) (elt : Expr) (x : Str) (scope : Scope) (cl : List (Str × Addr)) (Q : Value → Shared → Prop) (xv : Value) (s₁ : Shared) : Prop :=
  ∃ l tx news, xv = .str (S l) tx ∧ A.handled = none ∧ Fr h₀ L s₁.heap m ∧ News h₀ L s₁.heap news ∧ l.length ≤ sizeLine ∧
      ∀ s₂ : Shared, (∃ h, s₂ = { s₁ with heap := h }) → LCg.CompRest prog w A h₀ L m env elt x scope cl s₂ (fun _ => True) (fun i v => ∃ c u, (S l).cps[i]? = some c ∧ v = .str ⟨#[c]⟩ u) (LCg.FinE h₀ L m s₂ Q) (S l).cps.size 0 [] news
/-- a comprehension along a text -/
theorem comp_text {elt iter : Expr} {x : Str} {px : Pos} {scope : Scope} {cl : List (Str × Addr)} {pos : Pos} {Q : Value → Shared → Prop} (_F₀ : Fr h₀ L s.heap m)
    (hclos : closureFor scope env = pure cl) (hcell : ∀ y ∈ scope.names, y.2 ≠ .cell) (hkind : scope.kind = .function)
    (hnames : ∀ y ∈ scope.names, y.2 = .local → scope.names.lookup y.1 = some .local) (hx : scope.names.lookup x = some .local)
    (h : wpAny (model prog w) A (eval iter env) (CText prog w A h₀ L m env elt x scope cl Q) E s)
    (hs : ∀ x, foldedSetIterable iter env x = pure x := by intro _; rfl) :
    wpAny (model prog w) A (eval (.ListComp elt [⟨.Name x px, iter, [], 0⟩] scope pos) env) Q E s := by
  rw [eval_ListComp]
  refine wpAny_comprehension_free (use := none) rfl hs hclos hkind hnames (wpAny_mono h (fun xv s₁ h₁ => ?_) fun _ _ e => e)
  obtain ⟨l, tx, news, rfl, hh, F, N, hsz, R⟩ := h₁
  refine pyIter_text fun o St hW hst b1 b2 => ?_
  refine LCg.block_U (hW A hh) (by show l.toArray.size ≤ _; rw [List.size_toArray]; exact hsz) ?_ ?_ hcell hkind hx hst (fun b hb => ?_)
    (F.keeps fun _ _ e => Heap.get?_push_of_some _ e) (N.grown fun _ _ e => Heap.get?_push_of_some _ e) (Nat.ne_of_lt F.ns.lt) (next_is_new F) (fun p hp => Nat.ne_of_lt (Heap.lt_size (N p hp).1)) trivial (R _ ⟨_, rfl⟩) ?_
  · exact b1
  · exact fun i h h' o nw st e e' _ _ _ => b2 i h h' o st e e'
  · rw [List.mem_singleton.mp hb]
    show s₁.heap.objs.size < (s₁.heap.push _).objs.size
    rw [Heap.size_push]; exact Nat.lt_succ_self _
  · intro D C h tk m' ys news' F' N' o1 hn hC₀ hD₀ hCL hDL hCD offC fin
    refine ⟨m', hn, fun h'' hs'' => fin D h'' tk (F'.change hs'' hCL hC₀) (fun p hp => ?_) o1⟩
    refine ⟨hs''.extBut _ _ ?_ (N' p hp).1, (N' p hp).2⟩
    rcases List.mem_cons.mp hp with rfl | hp
    · exact Ne.symm hCD
    · exact offC p hp
theorem rest_text {l : List Nat} (f : Nat → List Nat) {elt : Expr} {x : Str} {scope : Scope} {cl : List (Str × Addr)} {Fin : List Value → List (Addr × Obj) → Prop} {news : List (Addr × Obj)}
    (turn : ∀ (c : Nat) (t : Tok) I oI C oC D m₂ ys h tk (E' : Value → Shared → Prop), c ∈ l → LCg.NsObj oC m₂ → m₂ x = some (.str (S [c]) t) → Fr h₀ L h m → News h₀ L h ((I, oI) :: (C, oC) :: (D, LCg.lst ys) :: news) → LCg.Off3 I C D news → ((@Ne Nat I C) ∧ (@Ne Nat I D) ∧ (@Ne Nat C D)) →
      wpAny (model prog w) A (eval elt (compEnvC scope cl C env)) (LCg.CompEnd h₀ L m { s with heap := h, toks := tk } I oI C oC D (LCg.lst ys) (fun _ => True) (fun y news' => news' = news ∧ ElIs y (f c))) E' { s with heap := h, toks := tk })
    (fin : ∀ ys, TxtsAre ys (l.map f) → Fin ys news) : LCg.CompRest prog w A h₀ L m env elt x scope cl s (fun _ => True) (fun i v => ∃ c u, (S l).cps[i]? = some c ∧ v = .str ⟨#[c]⟩ u) Fin (S l).cps.size 0 [] news := by
  have hsz : (S l).cps.size = l.length := by simp
  rw [hsz]
  have key : ∀ (j i : Nat) (ys : List Value), i + j = l.length → TxtsAre ys ((l.take i).map f) → LCg.CompRest prog w A h₀ L m env elt x scope cl s (fun _ => True) (fun i v => ∃ c u, (S l).cps[i]? = some c ∧ v = .str ⟨#[c]⟩ u) Fin j i ys news := by
    intro j
    induction j with
    | zero =>
      intro i ys hi hy
      rw [show i = l.length by omega, List.take_length] at hy
      exact LCg.CompRest.zero (fin ys hy)
    | succ j ih =>
      intro i ys hi hy
      refine LCg.CompRest.succ ?_
      rintro v I oI C oC D m₂ h tk E' ⟨c, t, hc, rfl⟩ hC hx F N off ne
      have hc' : l[i]? = some c := by simpa using hc
      refine wpAny_mono (turn c t I oI C oC D m₂ ys h tk E' (List.mem_of_getElem? hc') hC hx F N off ne) (fun y s₂ hq => ?_) fun _ _ e => e
      obtain ⟨h', tk', nw, e, F', N', off', hS, rfl, t', rfl⟩ := hq
      refine ⟨h', tk', nw, e, F', N', off', hS, ih (i + 1) _ (by omega) ?_⟩
      rw [(take_next hc').1, List.map_append]
      exact TxtsAre.snoc hy
  exact key l.length 0 [] (by omega) (by rw [List.take_zero]; exact .nil)
theorem ctext_go {elt : Expr} {x : Str} {scope : Scope} {cl : List (Str × Addr)} {Q : Value → Shared → Prop} {l : List Nat} {tx : Tok} {news : List (Addr × Obj)} (f : Nat → List Nat) (hh : A.handled = none) (F : Fr h₀ L s.heap m) (N : News h₀ L s.heap news) (hsz : l.length ≤ 16777216)
    (turn : ∀ (c : Nat) (t : Tok) I oI C oC D m₂ ys h tk (E' : Value → Shared → Prop), c ∈ l → LCg.NsObj oC m₂ → m₂ x = some (.str (S [c]) t) → Fr h₀ L h m → News h₀ L h ((I, oI) :: (C, oC) :: (D, LCg.lst ys) :: news) → LCg.Off3 I C D news → ((@Ne Nat I C) ∧ (@Ne Nat I D) ∧ (@Ne Nat C D)) →
      wpAny (model prog w) A (eval elt (compEnvC scope cl C env)) (LCg.CompEnd h₀ L m { s with heap := h, toks := tk } I oI C oC D (LCg.lst ys) (fun _ => True) (fun y news' => news' = news ∧ ElIs y (f c))) E' { s with heap := h, toks := tk })
    (fin : ∀ D h tk ys, TxtsAre ys (l.map f) → Fr h₀ L h m → News h₀ L h ((D, LCg.lst ys) :: news) → LCg.Off1 D news → Q (.ref D) { s with heap := h, toks := tk }) :
    CText prog w A h₀ L m env elt x scope cl Q (.str (S l) tx) s := by
  refine ⟨l, tx, news, rfl, hh, F, N, by rw [sizeLine_eq]; exact hsz, ?_⟩
  rintro s₂ ⟨h₂, rfl⟩
  refine rest_text f (fun c t I oI C oC D m₂ ys h tk E' hc hC hx F N off ne => turn c t I oI C oC D m₂ ys h tk E' hc hC hx F N off ne) fun ys hys D h tk F' N' o1 => fin D h tk ys hys F' N' o1
theorem cend {I C D : Addr} {s₁ : Shared} {oI oC oD : Obj} {y : Value} {z : List Nat} {h' : Heap} {tk : Nat} {all news : List (Addr × Obj)}
    (F : Fr h₀ L h' m) (N : News h₀ L h' all) (sub : ∀ p ∈ (I, oI) :: (C, oC) :: (D, oD) :: news, p ∈ all) (off : LCg.Off3 I C D news) (e : ElIs y z) :
    LCg.CompEnd h₀ L m s₁ I oI C oC D oD (fun _ => True) (fun y news' => news' = news ∧ ElIs y z) y { s₁ with heap := h', toks := tk } := LCg.CompEnd.intro F N news sub off trivial ⟨rfl, e⟩
end
end Mine
namespace Mine
/-- the end of a turn of a for along a text that turns one int -/
def IEnd (h₀ : Heap) (L : Addr) (s : Shared) (own : List (Addr × Obj)) (g : List Nat → Int) (x y : Str) (m₀ : Str → Option Value) (stored : List Str) (pre : List Nat) (s₂ : Shared) : Prop :=
  ∃ (v : Tok) (h' : Heap) (tk : Nat) (m' : Str → Option Value), s₂ = { s with heap := h', toks := tk } ∧ Fr h₀ L h' m' ∧ News h₀ L h' own ∧ m' y = some (.int (g pre) v) ∧ ∀ z, z ≠ x → z ≠ y → stored.contains z = false → m' z = m₀ z
def IPost (h₀ : Heap) (L : Addr) (s : Shared) (own : List (Addr × Obj)) (g : List Nat → Int) (x y : Str) (m₀ : Str → Option Value) (stored : List Str) (pre : List Nat) (Q : Flow → Shared → Prop) (fl : Flow) (s₂ : Shared) : Prop :=
  match fl with
  | .ret v => Q (.ret v) s₂
  | .brk => Q .next s₂
  | _ => IEnd h₀ L s own g x y m₀ stored pre s₂
theorem IEnd.intro {h₀ : Heap} {L : Addr} {s : Shared} {own nx : List (Addr × Obj)} {g : List Nat → Int} {x y : Str} {m₀ m' : Str → Option Value} {stored : List Str} {pre : List Nat} {i : Int} {v : Tok} {h' : Heap} {tk : Nat}
    (F : Fr h₀ L h' m') (N : News h₀ L h' nx) (sub : ∀ p ∈ own, p ∈ nx) (hy : m' y = some (.int i v)) (hi : i = g pre) (hr : ∀ z, z ≠ x → z ≠ y → stored.contains z = false → m' z = m₀ z) :
    IEnd h₀ L s own g x y m₀ stored pre { s with heap := h', toks := tk } := by
  subst hi
  exact ⟨v, h', tk, m', rfl, F, fun p hp => N p (sub p hp), hy, hr⟩
section
variable {prog : Program} {w : World} {A : Around} {E : Value → Shared → Prop} {s : Shared} {env : Env} {h₀ : Heap} {x : Str} {body : List Stmt} {Q : Flow → Shared → Prop}
theorem f_int (l : List Nat) (g : List Nat → Int) (y : Str) (stored : List Str) {tx v₀ : Tok} {m₀ : Str → Option Value} {nx : List (Addr × Obj)} (hxy : x ≠ y)
    (hh : A.handled = none) (F : Fr h₀ env.locals s.heap m₀) (N : News h₀ env.locals s.heap nx) (hy₀ : m₀ y = some (.int (g []) v₀))
    (turn : ∀ (pre : List Nat) (c : Nat) (r : List Nat) (t v : Tok) (u : Str → Option Value) (h : Heap) (tk : Nat) (own : List (Addr × Obj)), pre ++ c :: r = l →
      Fr h₀ env.locals h (fun z => if z = x then some (.str (S [c]) t) else if z = y then some (.int (g pre) v) else if stored.contains z then u z else m₀ z) → News h₀ env.locals h own →
      wpAny (model prog w) A (execs body env) (IPost h₀ env.locals { s with heap := h, toks := tk } own g x y m₀ stored (pre ++ [c]) Q) E { s with heap := h, toks := tk })
    (done : ∀ (v : Tok) (u : Str → Option Value) (h : Heap) (tk : Nat), Fr h₀ env.locals h (fun z => if z = x then u z else if z = y then some (.int (g l) v) else if stored.contains z then u z else m₀ z) → News h₀ env.locals h [] → Q .next { s with heap := h, toks := tk }) :
    wpAny (model prog w) A (pyIter (.str (S l) tx)) (fun it s₂ => LoopAtV prog w A h₀ env x body Q E it s₂) E s := by
  have N1 : News h₀ env.locals s.heap [] := News.nil
  refine wpAny_pyIter_str fun o St hW hst => ?_
  have W := hW A hh
  refine loop_invN (fun i m ny => ny = [] ∧ (∃ v, m y = some (.int (g (l.take i)) v)) ∧ ∀ z, z ≠ x → z ≠ y → stored.contains z = false → m z = m₀ z) W ?_ ?_ ?_ ?_ hst (F.push _) News.nil ⟨rfl, ⟨v₀, by rw [List.take_zero]; exact hy₀⟩, fun _ _ _ _ => rfl⟩ ?_ ?_
  · intro hm
    exact absurd F.ns.lt ((List.mem_singleton.mp hm) ▸ Nat.lt_irrefl _)
  · intro b' hb
    rw [List.mem_singleton.mp hb]
    exact next_is_new F
  · intro p hp; cases hp
  · intro p hp; cases hp
  · rintro i v m₁ ny h tk own hi ⟨c, t, hn, rfl⟩ _ hoff ⟨rfl, ⟨v, hv⟩, hr⟩ F₁ N₁
    have hn' : l[i]? = some c := by simpa using hn
    obtain ⟨h1, h2⟩ := take_next hn'
    have eF : (fun z => if z = x then some (Value.str ⟨#[c]⟩ t) else m₁ z) = fun z => if z = x then some (.str (S [c]) t) else if z = y then some (.int (g (l.take i)) v) else if stored.contains z then m₁ z else m₀ z := by
      funext z
      by_cases hz : z = x
      · rw [if_pos hz, if_pos hz]
      · rw [if_neg hz, if_neg hz]
        by_cases hzy : z = y
        · rw [if_pos hzy, hzy, hv]
        · rw [if_neg hzy]
          cases h3 : stored.contains z with
          | true => simp
          | false => simp only [Bool.false_eq_true, if_false]; exact hr z hz hzy h3
    rw [eF] at F₁
    refine wpAny_mono (turn _ c _ t v m₁ h tk own h2 F₁ N₁) (fun fl s₂ q => ?_) fun _ _ x => x
    have up : IEnd h₀ env.locals { s with heap := h, toks := tk } own g x y m₀ stored (l.take i ++ [c]) s₂ → InvEndN h₀ env.locals (fun m ny => ny = [] ∧ (∃ v, m y = some (.int (g (l.take (i + 1))) v)) ∧ ∀ z, z ≠ x → z ≠ y → stored.contains z = false → m z = m₀ z) own (([] : List (Addr × Obj)).map (·.1)) { s with heap := h, toks := tk } s₂ := by
      rintro ⟨v', h', tk', m', rfl, F', N', hy', hr'⟩
      rw [h1]
      exact InvEndN.intro F' N' ⟨rfl, ⟨v', hy'⟩, hr'⟩ rfl (fun p hp => nomatch hp) (fun p hp => hp)
    cases fl with
    | ret v => exact q
    | brk => exact q
    | next => exact up q
    | cont => exact up q
  · rintro m₁ ny h tk ⟨rfl, ⟨v, hv⟩, hr⟩ F₁ N₁
    have hl : l.take (S l).cps.size = l := List.take_of_length_le (by simp)
    rw [hl] at hv
    refine done v m₁ h tk ?_ N₁
    have eF : m₁ = fun z => if z = x then m₁ z else if z = y then some (.int (g l) v) else if stored.contains z then m₁ z else m₀ z := by
      funext z
      by_cases hz : z = x
      · rw [if_pos hz]
      · rw [if_neg hz]
        by_cases hzy : z = y
        · rw [if_pos hzy, hzy, hv]
        · rw [if_neg hzy]
          cases h3 : stored.contains z with
          | true => simp
          | false => simp only [Bool.false_eq_true, if_false]; exact hr z hz hzy h3
    rw [← eF]
    exact F₁
end
end Mine
namespace Mine
open PyProof.V PySem.Spec
theorem flat_el {v : Value} {d : PyData} {y : List Nat} (hv : Flat v d) (e : d = .str (S y)) : ElIs v y := by subst e; exact Flat.str_inv hv
theorem dec_S (a c : Nat) : decide (S [a] = S [c]) = decide (a = c) := by
  rw [decide_eq_decide]
  exact ⟨fun h => (List.cons.inj (S_inj h)).1, fun h => by rw [h]⟩
theorem s22 : Str.ofString "\"" = S [34] := by decide +kernel
theorem s92 : Str.ofString "\\" = S [92] := by decide +kernel
theorem s37 : Str.ofString "%" = S [37] := by decide +kernel
theorem s10 : Str.ofString "\n" = S [10] := by decide +kernel
theorem s8364 : Str.ofString "€" = S [8364] := by decide +kernel
theorem v22 : Str.ofString "%22" = S [37, 50, 50] := by decide +kernel
theorem v5C : Str.ofString "%5C" = S [37, 53, 67] := by decide +kernel
theorem v25 : Str.ofString "%25" = S [37, 50, 53] := by decide +kernel
theorem v0A : Str.ofString "%0A" = S [37, 48, 65] := by decide +kernel
theorem vE2 : Str.ofString "%E2%82%AC" = S [37, 69, 50, 37, 56, 50, 37, 65, 67] := by decide +kernel
theorem vu : Str.ofString "%u20AC" = S [37, 117, 50, 48, 65, 67] := by decide +kernel
theorem vq : Str.ofString "\\\"" = S [92, 34] := by decide +kernel
theorem vb : Str.ofString "\\\\" = S [92, 92] := by decide +kernel
theorem vn : Str.ofString "\\n" = S [92, 110] := by decide +kernel
theorem get_oc (c : Nat) (t1 t2 t3 t4 t5 t6 t7 t8 t9 t10 : Tok) :
    (Spec.lookup (.str (S [c])) (strData [(.str (Str.ofString "\"") t1, .str (Str.ofString "%22") t2), (.str (Str.ofString "\\") t3, .str (Str.ofString "%5C") t4), (.str (Str.ofString "%") t5, .str (Str.ofString "%25") t6), (.str (Str.ofString "\n") t7, .str (Str.ofString "%0A") t8), (.str (Str.ofString "€") t9, .str (Str.ofString "%E2%82%AC") t10)])).getD (.str (S [c])) = .str (S (oc c)) := by
  rw [s22, s92, s37, s10, s8364, v22, v5C, v25, v0A, vE2]
  simp only [strData, datumOf, Spec.lookup, same_str, Option.getD_some, dec_S, decide_eq_true_eq]
  unfold oc
  by_cases h0 : c = 34
  · subst h0; simp
  by_cases h1 : c = 92
  · subst h1; simp
  by_cases h2 : c = 37
  · subst h2; simp
  by_cases h3 : c = 10
  · subst h3; simp
  by_cases h4 : c = 8364
  · subst h4; simp
  simp [h0, Ne.symm h0, h1, Ne.symm h1, h2, Ne.symm h2, h3, Ne.symm h3, h4, Ne.symm h4]
theorem get_es (c : Nat) (t1 t2 t3 t4 t5 t6 t7 t8 t9 t10 : Tok) :
    (Spec.lookup (.str (S [c])) (strData [(.str (Str.ofString "\"") t1, .str (Str.ofString "%22") t2), (.str (Str.ofString "\\") t3, .str (Str.ofString "%5C") t4), (.str (Str.ofString "%") t5, .str (Str.ofString "%25") t6), (.str (Str.ofString "\n") t7, .str (Str.ofString "%0A") t8), (.str (Str.ofString "€") t9, .str (Str.ofString "%u20AC") t10)])).getD (.str (S [c])) = .str (S (es c)) := by
  rw [s22, s92, s37, s10, s8364, v22, v5C, v25, v0A, vu]
  simp only [strData, datumOf, Spec.lookup, same_str, Option.getD_some, dec_S, decide_eq_true_eq]
  unfold es
  by_cases h0 : c = 34
  · subst h0; simp
  by_cases h1 : c = 92
  · subst h1; simp
  by_cases h2 : c = 37
  · subst h2; simp
  by_cases h3 : c = 10
  · subst h3; simp
  by_cases h4 : c = 8364
  · subst h4; simp
  simp [h0, Ne.symm h0, h1, Ne.symm h1, h2, Ne.symm h2, h3, Ne.symm h3, h4, Ne.symm h4]
theorem get_jq (c : Nat) (t1 t2 t3 t4 t5 t6 : Tok) :
    (Spec.lookup (.str (S [c])) (strData [(.str (Str.ofString "\"") t1, .str (Str.ofString "\\\"") t2), (.str (Str.ofString "\\") t3, .str (Str.ofString "\\\\") t4), (.str (Str.ofString "\n") t5, .str (Str.ofString "\\n") t6)])).getD (.str (S [c])) = .str (S (jq c)) := by
  rw [s22, s92, s10, vq, vb, vn]
  simp only [strData, datumOf, Spec.lookup, same_str, Option.getD_some, dec_S, decide_eq_true_eq]
  unfold jq
  by_cases h0 : c = 34
  · subst h0; simp
  by_cases h1 : c = 92
  · subst h1; simp
  by_cases h2 : c = 10
  · subst h2; simp
  simp [h0, Ne.symm h0, h1, Ne.symm h1, h2, Ne.symm h2]
end Mine
namespace Mine
theorem r_add {prog : Program} {w : World} {A : Around} {E : Value → Shared → Prop} {s : Shared} {Q : Value → Shared → Prop} {x y : Str} {a b : List Nat} {t u : Tok} (hx : x = S a) (hy : y = S b) (hs : a.length + b.length ≤ 16777216)
    (h : ∀ t' k, Q (.str (S (a ++ b)) t') { s with toks := k }) : wpAny (model prog w) A (binaryOp .Add (.str x t) (.str y u)) Q E s := by
  subst hx hy
  refine KOpn.add (by rw [S_len, S_len]; exact hs) fun t' k _ => ?_
  rw [S_app]
  exact h t' k
end Mine
namespace Mine
def unhex (c : Nat) : Nat := if c < 58 then c - 48 else c - 55
/-- what figures are worth -/
def hv (l : List Nat) : Nat := l.foldl (fun a c => a * 16 + unhex c) 0
theorem unhex_hexU {k : Nat} (h : k < 16) : unhex (hexU k) = k := (by decide : ∀ k, k < 16 → unhex (hexU k) = k) k h
theorem hv_snoc (l : List Nat) (c : Nat) : hv (l ++ [c]) = hv l * 16 + unhex c := by unfold hv; rw [List.foldl_append]; rfl
theorem find_hi {k : Nat} (h : k < 16) : Txt.find (Str.ofString "0123456789ABCDEF") (S [hexU k]) = (k : Int) := (by decide +kernel : ∀ k, k < 16 → Txt.find (Str.ofString "0123456789ABCDEF") (S [hexU k]) = (k : Int)) k h
theorem find_lo {k : Nat} (h : k < 16) : Txt.find (Str.ofString "0123456789abcdef") (S [hexU k]) = if k < 10 then (k : Int) else -1 := (by decide +kernel : ∀ k, k < 16 → Txt.find (Str.ofString "0123456789abcdef") (S [hexU k]) = if k < 10 then (k : Int) else -1) k h
section
variable {prog : Program} {w : World} {A : Around} {E : Value → Shared → Prop} {s : Shared} {Q : Value → Shared → Prop} {t u : Tok}
theorem r_find_hi {k : Nat} (hk : k < 16) (h : Q (.int (k : Int) s.toks) { s with toks := s.toks + 1 }) : wpAny (model prog w) A (call (.builtin "str.find") [.str (Str.ofString "0123456789ABCDEF") t, .str (S [hexU k]) u]) Q E s := SC.find (by rw [find_hi hk]; exact h)
theorem r_find_lo {k : Nat} {i : Int} (hk : k < 16) (hi : (if k < 10 then (k : Int) else -1) = i) (h : Q (.int i s.toks) { s with toks := s.toks + 1 }) : wpAny (model prog w) A (call (.builtin "str.find") [.str (Str.ofString "0123456789abcdef") t, .str (S [hexU k]) u]) Q E s := SC.find (by rw [find_lo hk, hi]; exact h)
end
end Mine
namespace Mine
theorem code_pureC {prog : Program} {w : World} {A₀ A : Around} {s : Shared} {base h₀ : Heap} {L : Addr} {m : Str → Option Value} {K : Frag} {p : Program} {loose : List Str} {mean : ExcName → Option Value} {mg mb : Str → Option Value}
    {env : Env} {outer : List Env} {R : Result → Shared → Prop} {name qual : Str} {params : Arguments} {body : List Stmt} {scope : Scope} {dV kV doc pm cdv ct oc : Value} {an od : Option Addr} {osl : Array (Option Value)} {f : Addr} {args : Args} {binds : List (Str × Value)}
    (B : Below A₀ base outer h₀) (F : Fr h₀ L s.heap m) (X₀ : K.In h₀) (T : Top p loose mean mg mb h₀) (hA : A.frames = some (env :: outer)) (hf : env.frame = some L) (hke : env.scope.kind = .function)
    (ho : K.lookup f = some ⟨oc, od, .func (fnOf name qual params body scope dV kV doc pm an cdv ct), osl⟩) (hcd : codeIn K cdv qual = true) (hroom : A.depth < recursionLimit)
    (hbind : BindsTo s (fnOf name qual params body scope dV kV doc pm an cdv ct) args binds) (hkind : (binds.all fun y => scope.names.lookup y.1 == some .local || scope.names.lookup y.1 == some .cell) = true)
    (hnd : ((cellsFrom 0 scope.names []).map (·.1)).Nodup)
    (h : ∀ g L' h₁ tk cells, Kept s.heap g → Fr g L' h₁ (bindL (envOfC qual scope L' f cdv).kindOf binds fun _ => none) → News g L' h₁ cells →
      CellsAre (bindC (envOfC qual scope L' f cdv).kindOf binds fun _ => none) (cellsFrom (L' + 1) scope.names []) cells → Below A base (env :: outer) g → K.In g → Top p loose mean mg mb g →
      wpAny (model prog w) (A.deeper (envOfC qual scope L' f cdv)) (execs body (envOfC qual scope L' f cdv))
        (fun fl s' => LeaveP g R (match fl with | .ret v => v | _ => .none) s')
        (fun e s' => wpAny (model prog w) (A.deeper (envOfC qual scope L' f cdv)) (leaving (envOfC qual scope L' f cdv) e) (fun _ s'' => R (.error e) s'') (fun e' s'' => R (.error e') s'') s')
        { s with heap := h₁, toks := tk })
    (hco : scope.isCoroutine = false) (hgen : scope.isGenerator = false) (hk : scope.kind = .function) : codeAny (model prog w) A (.call (.ref f) args) R s := by
  obtain ⟨_, BG, st, _⟩ := groundX (R := R) B F (News.nil (h₀ := h₀) (L := L) (h := s.heap)) hA hf hke
  have hX := X₀.keeps F.keep
  have BG' : Below A base (env :: outer) s.heap := by
    refine ⟨BG.stack, fun b o e => of_hideAll _ (BG.stays b o e), BG.frames.of_keeps fun b o e _ => ⟨o, of_hideAll _ e, rfl⟩⟩
  refine codeAny_call_function (fd := fnOf name qual params body scope dV kV doc pm an cdv ct) hroom (hX _ _ ho) rfl hco hgen rfl (codeRec_of hX hcd) (hbind _ _ _ _ ?_)
  refine wpAny_newFunctionEnv_cells hk (kindsX hkind _) fun env' he s' x => ?_
  subst he
  refine ⟨(T.nolimit.keeps F.keep).keeps x.toInCall.keep, codeAny_func ?_⟩
  obtain ⟨h₁, tk, rfl, _⟩ := x.done
  obtain ⟨cells, NC, Y⟩ := Cl.news (h₀ := s.heap) (Nat.le_refl _) fun n c hm => ⟨x.cell n c (lookup_of_mem_nodup (cellsFrom_names scope.names 0 (s.heap.objs.size + 1) [] [] rfl ▸ hnd) hm), x.above n c hm⟩
  refine wpAny_mono (h s.heap s.heap.objs.size h₁ tk cells (fun _ _ e => e) ⟨x.toInCall.ns, x.toInCall.keep, Nat.le_refl _⟩ NC Y BG' hX (T.keeps F.keep)) (fun fl s' hl => ?_) fun _ _ y => y
  obtain ⟨_, _, F', k⟩ := hl
  exact k F'.keep
/-- the end of a turn of a loop that goes along a text, the place in a cell -/
def TEndC (h₀ : Heap) (L : Addr) (s : Shared) (fa ca : Addr) (news : List (Addr × Obj)) (f : Nat → List Nat) (pos : List Nat → Int) (m₀ : Str → Option Value) (stored : List Str) (pre : List Nat) (s₂ : Shared) : Prop :=
  ∃ (vs : List Value) (e : Nat) (t : Tok) (oa : Obj) (h' : Heap) (tk : Nat) (m' : Str → Option Value), s₂ = { s with heap := h', toks := tk } ∧ Fr h₀ L h' m' ∧ News h₀ L h' ((fa, listOf vs.toArray e) :: (ca, oa) :: news) ∧ TxtsAre vs (pre.map f) ∧
    oa.data = .cell (some (.int (pos pre) t)) ∧ ∀ z, stored.contains z = false → m' z = m₀ z
def TPostC (h₀ : Heap) (L : Addr) (s : Shared) (fa ca : Addr) (news : List (Addr × Obj)) (f : Nat → List Nat) (pos : List Nat → Int) (m₀ : Str → Option Value) (stored : List Str) (pre : List Nat) (Q : Flow → Shared → Prop) (fl : Flow) (s₂ : Shared) : Prop :=
  match fl with
  | .ret v => Q (.ret v) s₂
  | .brk => Q .next s₂
  | _ => TEndC h₀ L s fa ca news f pos m₀ stored pre s₂
theorem TEndC.intro {h₀ : Heap} {L : Addr} {s : Shared} {fa ca : Addr} {oa : Obj} {news nx : List (Addr × Obj)} {f : Nat → List Nat} {pos : List Nat → Int} {m₀ m' : Str → Option Value} {stored : List Str} {pre : List Nat} {c : Nat} {vs : List Value} {x : List Nat} {e : Nat} {t u : Tok} {i : Int} {h' : Heap} {tk : Nat}
    (F : Fr h₀ L h' m') (N : News h₀ L h' nx) (sub : (fa, listOf (vs.toArray.push (.str (S x) u)) e) ∈ nx ∧ (ca, oa) ∈ nx ∧ ∀ p ∈ news, p ∈ nx) (hs : TxtsAre vs (pre.map f)) (hx : x = f c) (hat : oa.data = .cell (some (.int i t))) (hi : i = pos (pre ++ [c]))
    (hr : ∀ z, stored.contains z = false → m' z = m₀ z) :
    TEndC h₀ L s fa ca news f pos m₀ stored (pre ++ [c]) { s with heap := h', toks := tk } := by
  subst hx hi
  refine ⟨vs ++ [.str (S (f c)) u], e, t, oa, h', tk, m', rfl, F, fun p hp => N p ?_, ?_, hat, hr⟩
  · rcases List.mem_cons.mp hp with rfl | hp
    · have := sub.1
      simpa using this
    · rcases List.mem_cons.mp hp with rfl | hp
      · exact sub.2.1
      · exact sub.2.2 p hp
  · rw [List.map_append]
    exact TxtsAre.snoc hs
section
variable {prog : Program} {w : World} {A : Around} {E : Value → Shared → Prop} {Q : Flow → Shared → Prop} {s : Shared} {env : Env} {h₀ : Heap} {L : Addr} {test : Expr} {body : List Stmt} {p : Pos} {m₀ : Str → Option Value} {news nx : List (Addr × Obj)}
theorem w_textC (l : List Nat) (f : Nat → List Nat) (pos : List Nat → Int) (stored : List Str) {fa ca : Addr} {e₀ : Nat} {t₀ : Tok} {o₀ : Obj} (F : Fr h₀ L s.heap m₀) (N : News h₀ L s.heap nx) (sub : (fa, listOf ([] : List Value).toArray e₀) ∈ nx ∧ (ca, o₀) ∈ nx ∧ ∀ p ∈ news, p ∈ nx) (hat : o₀.data = .cell (some (.int (pos []) t₀)))
    (turn : ∀ (pre : List Nat) (c : Nat) (r : List Nat) (vs : List Value) (e : Nat) (t : Tok) (oa : Obj) (u : Str → Option Value) (h : Heap) (tk : Nat), pre ++ c :: r = l → TxtsAre vs (pre.map f) → oa.data = .cell (some (.int (pos pre) t)) → Fr h₀ L h (fun z => if stored.contains z then u z else m₀ z) → News h₀ L h ((fa, listOf vs.toArray e) :: (ca, oa) :: news) →
      wpAny (model prog w) A (isTrue test env (eval test env)) (fun b s₂ => if b = true then wpAny (model prog w) A (execs body env) (TPostC h₀ L s fa ca news f pos m₀ stored (pre ++ [c]) Q) E s₂ else False) E { s with heap := h, toks := tk })
    (stop : ∀ (vs : List Value) (e : Nat) (t : Tok) (oa : Obj) (u : Str → Option Value) (h : Heap) (tk : Nat), TxtsAre vs (l.map f) → oa.data = .cell (some (.int (pos l) t)) → Fr h₀ L h (fun z => if stored.contains z then u z else m₀ z) → News h₀ L h ((fa, listOf vs.toArray e) :: (ca, oa) :: news) →
      wpAny (model prog w) A (isTrue test env (eval test env)) (fun b s₂ => if b = true then False else Q .next s₂) E { s with heap := h, toks := tk })
    (hE : PassesOwn (model prog w) A env E := by passes_own) : wpAny (model prog w) A (exec (.While test body [] p) env) Q E s := by
  have hmap : ∀ (m₁ : Str → Option Value), (∀ z, stored.contains z = false → m₁ z = m₀ z) → m₁ = fun z => if stored.contains z then m₁ z else m₀ z := by
    intro m₁ h2
    funext y
    cases h3 : stored.contains y with
    | true => simp
    | false => simp only [Bool.false_eq_true, if_false]; exact h2 y h3
  refine While_inv2 (fun n m' ny => ∃ pre post vs e t oa, pre ++ post = l ∧ n = post.length ∧ ny = (fa, listOf (List.toArray vs) e) :: (ca, oa) :: news ∧ TxtsAre vs (pre.map f) ∧ oa.data = .cell (some (.int (pos pre) t)) ∧ ∀ z, stored.contains z = false → m' z = m₀ z)
    (n₀ := l.length) (news := (fa, listOf ([] : List Value).toArray e₀) :: (ca, o₀) :: news) F (fun q hq => N q (by
      rcases List.mem_cons.mp hq with rfl | hq
      · exact sub.1
      · rcases List.mem_cons.mp hq with rfl | hq
        · exact sub.2.1
        · exact sub.2.2 q hq)) ⟨[], l, [], e₀, t₀, o₀, rfl, rfl, rfl, .nil, hat, fun _ _ => rfl⟩ ?_ hE
  rintro n m₁ ny h₁ tk₁ F₁ N₁ ⟨pre, post, vs, e, t, oa, hl, hn, rfl, hs, h1, h2⟩
  rw [hmap m₁ h2] at F₁
  cases post with
  | nil =>
    rw [List.append_nil] at hl
    subst hl
    refine wpAny_mono (stop vs e t oa m₁ h₁ tk₁ hs h1 F₁ N₁) (fun b s₂ q => ?_) fun _ _ x => x
    cases b with
    | true => simp at q
    | false => simpa using q
  | cons c r =>
    refine wpAny_mono (turn pre c r vs e t oa m₁ h₁ tk₁ hl hs h1 F₁ N₁) (fun b s₂ q => ?_) fun _ _ x => x
    cases b with
    | false => simp at q
    | true =>
      simp only [if_true] at q ⊢
      refine wpAny_mono q (fun fl s₃ q => ?_) fun _ _ x => x
      have up : TEndC h₀ L s fa ca news f pos m₀ stored (pre ++ [c]) s₃ → ∃ h' tk m₂ news₂ n', s₃ = { s with heap := h', toks := tk } ∧ Fr h₀ L h' m₂ ∧ News h₀ L h' news₂ ∧ n' < n ∧
          (∃ pre post vs e t oa, pre ++ post = l ∧ n' = post.length ∧ news₂ = (fa, listOf (List.toArray vs) e) :: (ca, oa) :: news ∧ TxtsAre vs (pre.map f) ∧ oa.data = .cell (some (.int (pos pre) t)) ∧ ∀ z, stored.contains z = false → m₂ z = m₀ z) := by
        rintro ⟨vs', e', t', oa', h', tk', m', rfl, F', N', hs', hat', hr'⟩
        refine ⟨h', tk', m', _, r.length, rfl, F', N', by rw [hn]; exact Nat.lt_succ_self _, pre ++ [c], r, vs', e', t', oa', by rw [List.append_assoc]; exact hl, rfl, rfl, hs', hat', hr'⟩
      cases fl with
      | ret v => exact q
      | brk => exact q
      | next => exact up q
      | cont => exact up q
end
end Mine
namespace Mine
theorem ite_lt_pos {a b : Int} {p q : Prop} (h : a < b) (hp : p) : if decide (a < b) = true then p else q := by rw [if_pos (decide_eq_true h)]; exact hp
theorem ite_lt_neg {a b : Int} {p q : Prop} (h : b ≤ a) (hq : q) : if decide (a < b) = true then p else q := by rw [if_neg (by simp only [decide_eq_true_eq]; omega)]; exact hq
end Mine
namespace Mine
section
variable {prog : Program} {w : World} {A : Around} {E : Value → Shared → Prop} {s : Shared} {Q : Value → Shared → Prop} {t u : Tok}
theorem r_ne_yes {x : Str} {a b : List Nat} (hx : x = S b) (hc : a ≠ b) (h : Q (.bool true) s) : wpAny (model prog w) A (compareOp .NotEq (.str (S a) u) (.str x t)) Q E s := by
  refine ne_str ?_
  rw [hx, S_bne]
  have e : (a != b) = true := by simpa using hc
  rw [e]
  exact h
theorem r_eq_no {x : Str} {a b : List Nat} (hx : x = S b) (hc : a ≠ b) (h : Q (.bool false) s) : wpAny (model prog w) A (compareOp .Eq (.str (S a) u) (.str x t)) Q E s := by
  refine eq_str ?_
  rw [hx, S_beq]
  have e : (a == b) = false := by simpa using hc
  rw [e]
  exact h
theorem one_ne {c d : Nat} (h : c ≠ d) : ([c] : List Nat) ≠ [d] := fun e => h (List.cons.inj e).1
theorem pct_is : Str.ofString "%" = S [37] := by decide +kernel
end
end Mine
namespace Mine
theorem r_pick {prog : Program} {w : World} {A : Around} {E : Value → Shared → Prop} {s : Shared} {value slice : Expr} {l : Addr} {vs : List Value} {k : Int} {u : Tok} {Q : Value → Shared → Prop} {v : Value} (n : Nat) (hl : s.heap.IsList l vs.toArray) (hk : k = (n : Int)) (hv : vs[n]? = some v) (hfit : k < 2 ^ 63) (h : Q v s)
    (hs : subscripted slice false (.ref l) (.int k u) = operate [.ref l, .int k u] (getItem (.ref l) (.int k u)) := by with_unfolding_all rfl) :
    wpAny (model prog w) A (subscriptTail value slice (.ref l) (.int k u)) Q E s := by
  subst hk
  exact tail_any hl.typeIs slot_list_getitem.lookup (wpAny_getItem_list hl (by omega) hfit (x := v) (by simpa using hv) h) hs
def isHex (c : Nat) : Bool := (48 ≤ c && c ≤ 57) || (65 ≤ c && c ≤ 70)
theorem isHex_is {c : Nat} (h : isHex c = true) : ∃ k, k < 16 ∧ c = hexU k := by
  unfold isHex at h
  simp only [Bool.or_eq_true, Bool.and_eq_true, decide_eq_true_eq] at h
  rcases h with ⟨h1, h2⟩ | ⟨h1, h2⟩
  · exact ⟨c - 48, by omega, by unfold hexU; rw [if_pos (by omega)]; omega⟩
  · exact ⟨c - 55, by omega, by unfold hexU; rw [if_neg (by omega)]; omega⟩
theorem hexs {l : List Nat} (h : l.all isHex = true) : ∀ x ∈ l, ∃ k, k < 16 ∧ x = hexU k := fun x hx => isHex_is (List.all_eq_true.mp h x hx)
theorem pu_is : Str.ofString "%u" = S [37, 117] := by decide +kernel
theorem pu_ne {c : Nat} {r : List Nat} (h : c ≠ 37) : (c :: r) ≠ [37, 117] := fun e => h (List.cons.inj e).1
theorem pu_ne2 {c d : Nat} {r : List Nat} (h : d ≠ 117) : (c :: d :: r) ≠ [37, 117] := fun e => h (List.cons.inj (List.cons.inj e).2).1
theorem r_eq_yes {prog : Program} {w : World} {A : Around} {E : Value → Shared → Prop} {s : Shared} {Q : Value → Shared → Prop} {t u : Tok} {x : Str} {a : List Nat} (hx : x = S a) (h : Q (.bool true) s) : wpAny (model prog w) A (compareOp .Eq (.str (S a) u) (.str x t)) Q E s := by
  refine eq_str ?_
  rw [hx, S_beq]
  have e : (a == a) = true := by simp
  rw [e]
  exact h
theorem hexU_117 {k : Nat} (h : k < 16) : hexU k ≠ 117 := (by decide : ∀ k, k < 16 → hexU k ≠ 117) k h
end Mine
namespace Mine
/-- a call hands back a new object -/
def CRetO (s : Shared) (Q : Value → Shared → Prop) (P : Obj → Prop) : Prop :=
  ∀ (l : Addr) (o : Obj) (h' : Heap) (tk' : Nat), Kept s.heap h' → s.heap.get? l = none → h'.get? l = some o → P o → Q (.ref l) { s with heap := h', toks := tk' }
theorem CRetO.out {s : Shared} {Q : Value → Shared → Prop} {P : Obj → Prop} {g : Heap} {L' : Addr} {nx : List (Addr × Obj)} {l : Addr} {o : Obj} (r : CRetO s Q P) (G : Kept s.heap g) {h' : Heap} {tk' : Nat} (k : Kept g h') (N : News g L' h' nx) (hm : (l, o) ∈ nx) (hi : P o) :
    Q (.ref l) { s with heap := h', toks := tk' } := by
  refine r l o h' tk' (fun b o x => k b o (G b o x)) ?_ (N _ hm).1 hi
  cases q : s.heap.get? l with
  | none => rfl
  | some o =>
    have := (N _ hm).2.2
    rw [G _ _ q] at this
    cases this
noncomputable abbrev CtrO (w : World) (d : Nat) (f : Addr) (vs : List Value) (P : Obj → Prop) : Prop :=
  ∀ (p : Program) (loose : List Str) (mean : ExcName → Option Value) (mg mb : Str → Option Value)
    (dp un : Nat) (gd : Option (List Code)) (cn : Str) (cs : Scope) (a : Addr) (ccd : Value) (cl : List (Str × Addr)) (outer : List Env) (A₀ : Around) (base h₀ : Heap) (L : Addr) (m : Str → Option Value) (s : Shared) (Q E : Value → Shared → Prop),
    Below A₀ base outer h₀ → Fr h₀ L s.heap m → (hd.heap_39 w.params).In h₀ → Top p loose mean mg mb h₀ → cs.kind = .function →
    dp + d < recursionLimit → un + 16 * d < cLine → CRetO s Q P →
      wpAny (model P0 w) (ktrTop dp un gd cn cs L a ccd cl outer) (call (.ref f) vs) Q E s
theorem use_o {w : World} {d : Nat} {f : Addr} {vs : List Value} {P : Obj → Prop} {p : Program} {loose : List Str} {mean : ExcName → Option Value} {mg mb : Str → Option Value} {news : List (Addr × Obj)}
    {dp un : Nat} {gd : Option (List Code)} {cn : Str} {cs : Scope} {a : Addr} {ccd : Value} {cl : List (Str × Addr)} {outer : List Env} {A₀ : Around} {base h₀ : Heap} {L : Addr} {m : Str → Option Value} {s : Shared} {Q E : Value → Shared → Prop}
    (C : CtrO w d f vs P) (B : Below A₀ base outer h₀) (F : Fr h₀ L s.heap m) (X : (hd.heap_39 w.params).In h₀) (N : News h₀ L s.heap news) (T : Top p loose mean mg mb h₀) (hk : cs.kind = .function)
    (hd : dp + d < recursionLimit) (hu : un + 16 * d < cLine)
    (ret : ∀ (l : Addr) (o : Obj) (h' : Heap) (tk' : Nat), Fr h₀ L h' m → News h₀ L h' ((l, o) :: news) → (∀ p ∈ news, @Ne Nat p.1 l) → P o → Q (.ref l) { s with heap := h', toks := tk' }) :
    wpAny (model P0 w) (ktrTop dp un gd cn cs L a ccd cl outer) (call (.ref f) vs) Q E s := by
  refine C _ _ _ _ _ _ _ _ _ _ _ _ _ _ _ _ _ _ _ _ _ _ B F X T hk hd hu fun l o h' tk' k hn hl hi => ret l o h' tk' (F.after k) ?_ ?_ hi
  · intro p hp
    rcases List.mem_cons.mp hp with rfl | hp
    · refine ⟨hl, ?_, ?_⟩
      · obtain ⟨oL, _, _, hL, _⟩ := F.ns
        rintro rfl
        rw [hL] at hn; cases hn
      · cases q : h₀.get? l with
        | none => rfl
        | some o => rw [F.keep _ _ q] at hn; cases hn
    · exact ⟨k _ _ (N p hp).1, (N p hp).2⟩
  · rintro p hp rfl
    rw [(N p hp).1] at hn; cases hn
theorem r_ne_no {prog : Program} {w : World} {A : Around} {E : Value → Shared → Prop} {s : Shared} {Q : Value → Shared → Prop} {t u : Tok} {x : Str} {a : List Nat} (hx : x = S a) (h : Q (.bool false) s) : wpAny (model prog w) A (compareOp .NotEq (.str (S a) u) (.str x t)) Q E s := by
  refine ne_str ?_
  rw [hx, S_bne]
  have e : (a != a) = false := by simp
  rw [e]
  exact h
theorem itT {p q : Prop} (h : p) : if true = true then p else q := by rw [if_pos rfl]; exact h
theorem itF {p q : Prop} (h : q) : if false = true then p else q := by rw [if_neg (by decide)]; exact h
theorem flat1 (l : List Nat) : (l.map fun c => [c]).flatten = l := by
  induction l with
  | nil => rfl
  | cons c r ih => rw [List.map_cons, List.flatten_cons, ih]; rfl
theorem u_is : Str.ofString "u" = S [117] := by decide +kernel
theorem AJ_kinds {c : Nat} (h : c ∈ ([97, 34, 92, 37, 10, 8364, 55, 110] : List Nat)) : (jq c = [c] ∧ c ≠ 34 ∧ c ≠ 92 ∧ 32 ≤ c) ∨ c = 34 ∨ c = 92 ∨ c = 10 := (by decide : ∀ c ∈ ([97, 34, 92, 37, 10, 8364, 55, 110] : List Nat), (jq c = [c] ∧ c ≠ 34 ∧ c ≠ 92 ∧ 32 ≤ c) ∨ c = 34 ∨ c = 92 ∨ c = 10) c h
section
variable {prog : Program} {w : World} {A : Around} {E : Value → Shared → Prop} {s : Shared} {h₀ : Heap} {L : Addr} {m : Str → Option Value} {news : List (Addr × Obj)} {value slice : Expr} {Q : Value → Shared → Prop} {t u : Tok}
theorem r_s04 {l r : List Nat} {n c : Nat} {i j : Int} {ui uj : Tok} (D : l.drop n = c :: r) (hF : Fr h₀ L s.heap m) (hN : News h₀ L s.heap news) (hl : l.length ≤ 16777216) (hi : i = (n : Int)) (hj : j = (n : Int) + 4)
    (h : ∀ h' t' k, Fr h₀ L h' m → News h₀ L h' news → Q (.str (S (c :: r.take 3)) t') { s with heap := h', toks := k })
    (hs : subscripted slice false (.str (S l) t) (.ref s.heap.objs.size) = operate [.ref s.heap.objs.size, .str (S l) t] (getItem (.str (S l) t) (.ref s.heap.objs.size)) := by with_unfolding_all rfl)
    (ht : ∀ r, letTemporaryGo value (.str (S l) t) r = pure () := by intro _; with_unfolding_all rfl) :
    wpAny (model prog w) A (subscriptTail value slice (.str (S l) t) (.ref s.heap.objs.size)) Q E { s with heap := s.heap.push { cls := .type "slice", data := .fields #[.int i ui, .int j uj, .none] } } :=
  r_slice 0 4 hF hN D hl (by omega) (by omega) (by decide) rfl h hs ht
theorem r_s05 {l r : List Nat} {n c : Nat} {i j : Int} {ui uj : Tok} (D : l.drop n = c :: r) (hF : Fr h₀ L s.heap m) (hN : News h₀ L s.heap news) (hl : l.length ≤ 16777216) (hi : i = (n : Int)) (hj : j = (n : Int) + 5)
    (h : ∀ h' t' k, Fr h₀ L h' m → News h₀ L h' news → Q (.str (S (c :: r.take 4)) t') { s with heap := h', toks := k })
    (hs : subscripted slice false (.str (S l) t) (.ref s.heap.objs.size) = operate [.ref s.heap.objs.size, .str (S l) t] (getItem (.str (S l) t) (.ref s.heap.objs.size)) := by with_unfolding_all rfl)
    (ht : ∀ r, letTemporaryGo value (.str (S l) t) r = pure () := by intro _; with_unfolding_all rfl) :
    wpAny (model prog w) A (subscriptTail value slice (.str (S l) t) (.ref s.heap.objs.size)) Q E { s with heap := s.heap.push { cls := .type "slice", data := .fields #[.int i ui, .int j uj, .none] } } :=
  r_slice 0 5 hF hN D hl (by omega) (by omega) (by decide) rfl h hs ht
end
theorem null_is : Str.ofString "null" = S [110, 117, 108, 108] := by decide +kernel
theorem true_is : Str.ofString "true" = S [116, 114, 117, 101] := by decide +kernel
theorem false_is : Str.ofString "false" = S [102, 97, 108, 115, 101] := by decide +kernel
theorem hd_ne {c d : Nat} {r z : List Nat} (h : c ≠ d) : (c :: r) ≠ (d :: z) := fun e => h (List.cons.inj e).1
end Mine
theorem Mine.none1 : True := by
  w_top off
  k_with_none
  exact True.intro
open Mine
theorem Mine.ln1 : True := by
  (k_with "c_room" => ((try simp only [depth_under_make, depth_under_kw, depth_in1, depth_deeper, depth_caller]); (try dsimp only [ktrTop]); first | omega | decide))
  (k_with "c_units" => ((have hcL9 := cLine_is); (try simp only [units_in1, units_deeper, Around.mark_units, units_caller]); (try dsimp only [ktrTop]); omega))
  (k_with "c_enter" => (refine' code_def ?k1 ?k2 ?k3 ?k4 ?k5 ?kA ?kF ?kK ?k6 ?k7 ?k8 ?k9 ?kB ?_ ?c2 ?c3 ?c4 ?c5; (case kA => exact rfl); (case kF => exact rfl); (case kK => first | exact rfl | assumption); (case k1 => k_asm); (case k2 => k_asm); (case k3 => k_asm); (case k4 => k_asm); (case k5 => k_asm); (case k6 => k_is); (case k7 => k_is); (case k8 => walk_at "c_room"); (case k9 => exact BindsTo.of_eq rfl); (case c5 => decide); (case kB => exact locs rfl); (case c2 => exact rfl); (case c3 => exact rfl); (case c4 => exact rfl); k_whole; intro g' L' h' FG' F' N' B' X' T'; (try dsimp only); (try k_lift B'); (try k_fold)))
  (k_with "c_pure" => (refine' code_pure ?k1 ?k2 ?k3 ?k5 ?kA ?kF ?kK ?k6 ?k7 ?k8 ?k9 ?kB ?_ ?c2 ?c3 ?c4 ?c5; (case kA => exact rfl); (case kF => exact rfl); (case kK => first | exact rfl | assumption); (case k1 => k_asm); (case k2 => k_asm); (case k3 => k_asm); (case k5 => k_asm); (case k6 => k_is); (case k7 => k_is); (case k8 => walk_at "c_room"); (case k9 => exact BindsTo.of_eq rfl); (case c5 => decide); (case kB => exact locs rfl); (case c2 => exact rfl); (case c3 => exact rfl); (case c4 => exact rfl); k_whole; intro g' L' h' hG F' N' B' X' T'; (try dsimp only); (try k_fold)))
  (k_with "c_open" => (
  (dsimp only [Ctr]); (intros)
  (refine wpAny_call ?_)
  (k_dflt (walk_at "c_pure"))))
  (k_with "LeaveP" => (k_dflt (refine' leaveP_ ?k1 ?_; (case k1 => k_asm); k_whole); intro kP; (try dsimp only)))
  (k_with "c_close" => (
  refine same ?_
  first
  | exact CRet.out (by assumption) (by assumption) (by assumption)
  | (refine' CRet.str (by assumption) (by assumption) ?e (by assumption); (case e => first | exact rfl | decide +kernel | (simp [S]; done)))
  | (refine' CRet.int (by assumption) (by assumption) ?e (by assumption); (case e => omega))))
  (k_with "c_use" => (
  (case B => k_dflt k_asm); (case F => k_dflt k_asm); (case X => k_dflt k_asm); (case N => k_dflt k_asm); (case T => k_dflt k_asm)
  (case K => first | exact rfl | assumption)
  (case d => walk_at "c_room"); (case u => walk_at "c_units")
  (intro t9 h9 tk9 F9 N9)
  (try dsimp only)
  (try k_fold)))
  (k_with "subscriptTail Name Slice str ref" => (
  k_here
  (with_reducible show wpAny _ _ (subscriptTail _ (Expr.Slice (some _) (some _) none _) _ _) _ _ _)
  (with_reducible rename Fr _ _ _ _ => F')
  (with_reducible rename News _ _ _ _ => N')
  k_dflt (first
    | (refine' r_s01 (s := ⟨_, _, _, _, _⟩) (by assumption) F' N' ?hl ?hi ?hj ?_; (case hi => omega); (case hj => omega); (case hl => first | assumption | omega))
    | (refine' r_s01n (s := ⟨_, _, _, _, _⟩) (by assumption) F' N' ?hl ?hi ?hj ?_; (case hi => omega); (case hj => omega); (case hl => first | assumption | omega))
    | (refine' r_s13 (s := ⟨_, _, _, _, _⟩) (by assumption) F' N' ?hl ?hi ?hj ?_; (case hi => omega); (case hj => omega); (case hl => first | assumption | omega))
    | (refine' r_s02 (s := ⟨_, _, _, _, _⟩) (by assumption) F' N' ?hl ?hi ?hj ?_; (case hi => omega); (case hj => omega); (case hl => first | assumption | omega))
    | (refine' r_s02e (s := ⟨_, _, _, _, _⟩) (by assumption) F' N' ?hl ?hi ?hj ?_; (case hi => omega); (case hj => omega); (case hl => first | assumption | omega))
    | (refine' r_s26 (s := ⟨_, _, _, _, _⟩) (by assumption) F' N' ?hl ?hi ?hj ?_; (case hi => omega); (case hj => omega); (case hl => first | assumption | omega))
    | (refine' r_s12 (s := ⟨_, _, _, _, _⟩) (by assumption) F' N' ?hl ?hi ?hj ?_; (case hi => omega); (case hj => omega); (case hl => first | assumption | omega)))
  (intro h' t' k' F' N')))
  (k_with "subscriptTail Name Name str int" => (
  k_here
  k_dflt (refine' r_item 0 ?D ?hk ?hi ?hl ?_)
  (case D => k_dflt assumption)
  (case hk => k_dflt exact rfl)
  (case hl => k_dflt (first | assumption | omega))
  (case hi => k_dflt omega)))
  (k_with "subscriptTail Name BinOp str int" => (
  k_here
  k_dflt (first | refine' r_hex (Int.toNat_of_nonneg (by decide +kernel)).symm (by decide +kernel) ?_ | refine' r_hex (hex_hi _) (by omega) ?_ | refine' r_hex (hex_lo _) (by omega) ?_)))
  (k_with "call ref" => (
  k_here
  (with_reducible show wpAny _ _ (call (Value.ref _) _) _ _ _)
  k_dflt (refine wpAny_call ?_; walk_at "c_enter")))
  (k_with "exec While" => (
  k_here
  (with_reducible show wpAny _ _ (exec (Stmt.While (Expr.BoolOp _ _ _) _ _ _) _) _ _ _)
  (with_reducible rename Fr _ _ _ _ => F')
  (with_reducible rename News _ _ _ _ => N')
  k_dflt (refine' w_zero F' N' ?_)
  (clear F' N'; intro h' tk' F' N')))
  (k_with "exec While" => (
  k_here
  (with_reducible show wpAny _ _ (exec (Stmt.While (Expr.Compare _ _ _ _) _ _ _) _) _ _ _)
  (apply hold)))
  (k_with "compareOp In str str" => (
  k_here
  k_dflt (first
    | refine' r_in_yes plain_is (by assumption) ?_
    | refine' r_in_no plain_is (by assumption) ?_
    | refine' r_in_yes kept_is (by assumption) ?_
    | refine' r_in_no kept_is (by assumption) ?_
    | refine' r_in_no blank_is (by first | assumption | decide) ?_)))
  (k_with "c_step" => (first | (k_unfold; (try dsimp only)) | (refine same ?_; k_unfold; (try dsimp only)) | (k_end; wrow_close) | walk1 | (dsimp only; walk1) | (leave1; walk_say "STEP leave1"; try dsimp only) | fail "no step"))
  (k_with "c_steps" => (repeat' walk_at "c_step"))
  (k_with "callWith" => (
  k_here
  (with_reducible show wpAny _ _ (callWith _ (Value.builtin _) [_] _ _) _ _ _)
  k_dflt (first | with_reducible refine callWith_method0 ?_ | refine callWith_method1 ?_)))
  (k_with "c_ls" => (first | assumption | exact TxtsAre.nil | (apply TxtsAre.cons; walk_at "c_ls")))
  (k_with "call builtin:str.join" => (
  k_here
  (with_reducible show wpAny _ _ (call (Value.builtin "str.join") [Value.str _ _, Value.ref _]) _ _ _)
  k_dflt (refine' r_join ?hl ?hi rfl ?hw ?_)
  (case hl => k_dflt (first | is_list | exact News.isList (by k_asm) (by k_mem)))
  (case hi => (try simp only [List.nil_append, List.cons_append]); k_dflt (walk_at "c_ls"))
  (case hw => k_dflt (first | assumption | decide | exact Nat.le_of_ble_eq_true rfl | omega))
  (intro _ _)))
  (k_with "TPost" => (dsimp only [TPost]))
  (k_with "c_size" => (rw [PySem.sizeLine_eq]; (try simp only [List.size_toArray, Array.size_push, List.length_append, List.length_cons, List.length_nil]); omega))
  (k_with "call builtin:list.append" => (
  k_here
  (with_reducible show wpAny _ _ (call (Value.builtin _) [Value.ref _, _]) _ _ _)
  k_dflt (refine' append_K ?k1 ?k2 ?k3 ?_ ?z)
  (case k1 => k_dflt k_asm); (case k2 => k_dflt k_asm); (case k3 => k_dflt k_upd); (case z => k_dflt (walk_at "c_size"))
  k_whole
  (intro h' F' N'); (try k_sweep)))
  (k_with "c_same" => (intro z h2 h3; have h4 := h3; simp only [List.contains_cons, List.contains_nil, Bool.or_false, beq_eq_false_iff_ne, ne_eq, Bool.or_eq_false_iff] at h4; simp [h2, h3, h4]))
  (k_with "TEnd" => (
  k_here
  (with_reducible rename News _ _ _ _ => nE')
  k_dflt (refine' TEnd.intro ?F nE' ?sub ?hs ?hx ?hat ?hi ?hr)
  (case F => k_dflt assumption)
  (case sub => k_dflt (exact ⟨by k_mem, fun p hp => (nomatch hp)⟩))
  (case hat => k_dflt (exact rfl))
  (case hs => k_dflt assumption)
  (case hx => k_dflt (first | rfl | (symm; assumption) | ((with_reducible rename oc _ = _ => he'); rw [he']; rfl)))
  (case hi => k_dflt (simp only [List.map_append, List.flatten_append, List.length_append, List.map_cons, List.map_nil, List.flatten_cons, List.flatten_nil, List.length_cons, List.length_nil, Int.natCast_add, *] <;> omega))
  (case hr => k_dflt (walk_at "c_same"))))
  (k_with "c_use_l" => (
  (case B => k_dflt k_asm); (case F => k_dflt k_asm); (case X => k_dflt k_asm); (case N => k_dflt k_asm); (case T => k_dflt k_asm)
  (case K => first | exact rfl | assumption)
  (case d => walk_at "c_room"); (case u => walk_at "c_units")
  (intro l9 xs9 e9 h9 tk9 F9 N9 ne9)
  (simp only [List.forall_mem_cons, List.not_mem_nil, false_implies, implies_true, and_true] at ne9)))
  (k_with "c_close_l" => (
  refine same ?_
  (with_reducible rename News _ _ _ _ => nE')
  (refine' CRetL.out (by assumption) (by assumption) (by assumption) nE' ?hm ?hi)
  (case hm => k_dflt (first | walk_at "c_mem" | k_mem))
  (case hi => exact ⟨_, _, _, rfl⟩)))
  exact True.intro
local macro_rules | `(tactic| k_ne) => `(tactic| k_extra "k_ne")
theorem Mine.ln2 : True := by
  (k_with "k_ne" => ((try dsimp only); first
  | with_reducible assumption | with_reducible exact Ne.symm (by assumption)
  | with_reducible exact And.left (by assumption) | with_reducible exact Ne.symm (And.left (by assumption))
  | with_reducible exact And.right (by assumption) | with_reducible exact Ne.symm (And.right (by assumption))
  | with_reducible exact And.left (And.right (by assumption)) | with_reducible exact Ne.symm (And.left (And.right (by assumption)))
  | with_reducible exact And.right (And.right (by assumption)) | with_reducible exact Ne.symm (And.right (And.right (by assumption)))
  | with_reducible exact And.left (And.right (And.right (by assumption))) | with_reducible exact Ne.symm (And.left (And.right (And.right (by assumption))))
  | with_reducible exact And.right (And.right (And.right (by assumption))) | with_reducible exact Ne.symm (And.right (And.right (And.right (by assumption))))
  | with_reducible exact Nat.ne_of_lt (by assumption) | with_reducible exact Nat.ne_of_gt (by assumption)
  | with_reducible exact Nat.ne_of_gt (And.left (by assumption)) | with_reducible exact Nat.ne_of_lt (And.left (by assumption))
  | with_reducible exact Nat.ne_of_gt (And.left (And.right (by assumption))) | with_reducible exact Nat.ne_of_lt (And.left (And.right (by assumption)))))
  (k_with "binaryOp RShift int int" => (
  k_here
  k_dflt (refine rshift_int (by decide) ?_)))
  (k_with "eval ListComp" => (
  k_here
  (with_reducible show wpAny _ _ (eval (Expr.ListComp _ [⟨_, Expr.Name _ _, _, _⟩] _ _) _) _ _ _)
  k_dflt (refine comp_text (by k_asm) (by rfl) (by decide) (by rfl) (by decide) (by rfl) ?_)))
  (k_with "CText" => (apply hold))
  (k_with "CompEnd" => (
  k_here
  (with_reducible rename News _ _ _ _ => nE')
  k_dflt (refine' cend ?F nE' ?sub ?off ?_)
  (case F => k_dflt assumption)
  (case sub => k_dflt lcg_sub)
  (case off => k_dflt (first | exact True.intro | assumption))))
  (k_with "binaryOp Add str str" => (
  k_here
  k_dflt (first | refine' r_add s22 rfl ?hs ?_ | refine' r_add rfl s22 ?hs ?_)
  (case hs => k_dflt (simp only [List.length_append, List.length_cons, List.length_nil]; omega))
  (intro _ _)))
  (k_with "exec For" => (
  k_here
  (with_reducible show wpAny _ _ (exec (Stmt.For (Expr.Name _ _) (Expr.Name _ _) _ _ _) _) _ _ _)
  (with_reducible rename Fr _ _ _ _ => lF')
  (with_unfolding_all refine' For_invVF lF' ?k1 ?k2 ?_; (case k1 => exact rfl); (case k2 => exact rfl); k_whole)))
  (k_with "pyIter str" => (apply hold))
  exact True.intro
local macro_rules | `(tactic| k_all) => `(tactic| k_extra "k_all")
theorem Mine.ln3 : True := by
  (k_with "k_all" => (assumption))
  (k_with "FPost" => (dsimp only [FPost]))
  (k_with "FEnd" => (
  k_here
  (with_reducible rename News _ _ _ _ => nE')
  k_dflt (refine' FEnd.intro ?F nE' ?sub ?hs ?hx ?hr)
  (case F => k_dflt assumption)
  (case sub => k_dflt (refine ⟨by k_mem, fun p hp => ?_⟩; simp [hp]))
  (case hs => k_dflt assumption)
  (case hx => k_dflt (first | rfl | (symm; assumption) | ((with_reducible rename es _ = _ => he'); rw [he']; rfl)))
  (case hr => k_dflt (walk_at "c_same"))))
  (k_with "c_sameC" => (intro z h3; have h4 := h3; simp only [List.contains_cons, List.contains_nil, Bool.or_false, beq_eq_false_iff_ne, ne_eq, Bool.or_eq_false_iff] at h4; simp [h3, h4]))
  (k_with "c_mem" => (first
  | exact List.Mem.head _ | exact List.Mem.tail _ (.head _) | exact List.Mem.tail _ (.tail _ (.head _)) | exact List.Mem.tail _ (.tail _ (.tail _ (.head _)))
  | exact List.Mem.tail _ (.tail _ (.tail _ (.tail _ (.head _)))) | exact List.Mem.tail _ (.tail _ (.tail _ (.tail _ (.tail _ (.head _))))) | exact List.Mem.tail _ (.tail _ (.tail _ (.tail _ (.tail _ (.tail _ (.head _))))))))
  (k_with "c_step" => (first
  | (k_unfold; (try dsimp only))
  | (with_reducible refine itT ?_)
  | (with_reducible refine itF ?_)
  | ((with_reducible refine' ite_lt_pos ?h ?_); (case h => omega))
  | ((with_reducible refine' ite_lt_neg ?h ?_); (case h => omega))
  | (refine same ?_; k_unfold; (try dsimp only))
  | (k_end; wrow_close)
  | walk1
  | (dsimp only; walk1)
  | (leave1; walk_say "STEP leave1"; try dsimp only)
  | fail "no step"))
  (k_with "c_pureC" => (refine' code_pureC ?k1 ?k2 ?k3 ?k5 ?kA ?kF ?kK ?k6 ?k7 ?k8 ?k9 ?kB ?kD ?_ ?c2 ?c3 ?c4; (case kA => exact rfl); (case kF => exact rfl); (case kK => first | exact rfl | assumption); (case k1 => k_asm); (case k2 => k_asm); (case k3 => k_asm); (case k5 => k_asm); (case k6 => k_is); (case k7 => k_is); (case k8 => walk_at "c_room"); (case k9 => exact BindsTo.of_eq rfl); (case kB => exact rfl); (case kD => decide +kernel); (case c2 => exact rfl); (case c3 => exact rfl); (case c4 => exact rfl); k_whole; intro g' L' h' tk' cells' hG F' N' Y' B' X' T'; k_cells Y'; (try simp only [List.cons_append, List.nil_append] at N'); (try dsimp only); (try k_fold)))
  (k_with "c_openC" => (
  (dsimp only [Ctr]); (intros)
  (refine wpAny_call ?_)
  (k_dflt (walk_at "c_pureC"))))
  (k_with "TPostC" => (dsimp only [TPostC]))
  (k_with "TEndC" => (
  k_here
  (with_reducible rename News _ _ _ _ => nE')
  k_dflt (refine' TEndC.intro ?F nE' ?sub ?hs ?hx ?hat ?hi ?hr)
  (case F => k_dflt assumption)
  (case sub => k_dflt (refine ⟨by walk_at "c_mem", by walk_at "c_mem", fun p hp => ?_⟩; (simp only [List.mem_singleton] at hp); (rw [hp]); walk_at "c_mem"))
  (case hat => k_dflt assumption)
  (case hs => k_dflt assumption)
  (case hx => k_dflt (first | rfl | (symm; assumption)))
  (case hi => k_dflt (simp only [List.map_append, List.flatten_append, List.length_append, List.map_cons, List.map_nil, List.flatten_cons, List.flatten_nil, List.length_cons, List.length_nil, Int.natCast_add, *] <;> omega))
  (case hr => k_dflt (walk_at "c_sameC"))))
  (k_with "compareOp NotEq str str" => (
  k_here
  (with_reducible show wpAny _ _ (compareOp _ (Value.str (S [_]) _) _) _ _ _)
  k_dflt (refine' r_ne_yes pct_is (one_ne (by assumption)) ?_)))
  exact True.intro
local macro_rules | `(tactic| k_room) => `(tactic| k_extra "k_room")
theorem Mine.ln4 : True := by
  (k_with "k_room" => ((try simp only [depth_mark, depth_under_make, depth_under_kw, depth_in1, depth_deeper, depth_caller]); (try dsimp only [ktrTop]); first | omega | decide))
  exact True.intro
namespace Mine
theorem c_json_sign (w : World) {tl r : List Nat} {c n : Nat} {i : Int} (tt ti : Tok) (D : tl.drop n = c :: r) (hi : i = (n : Int)) (hl : tl.length ≤ 16777216) : Ctr w 1 148 [.str (S tl) tt, .int i ti] (fun t => .str (S [c]) t) := by
  walk_at "c_open"
  k_steps
  all_goals walk_at "c_close"
theorem c_json_sign_n (w : World) {tl : List Nat} {n : Nat} {i : Int} (tt ti : Tok) (D : tl.drop n = []) (hi : i = (n : Int)) (hl : tl.length ≤ 16777216) : Ctr w 1 148 [.str (S tl) tt, .int i ti] (fun t => .str (S []) t) := by
  walk_at "c_open"
  k_steps
  all_goals walk_at "c_close"
end Mine
theorem Mine.none2 : True := by
  w_top off
  k_with_none
  exact True.intro
open Mine
theorem Mine.ln5 : True := by
  (k_with "c_room" => ((try simp only [depth_under_make, depth_under_kw, depth_in1, depth_deeper, depth_caller]); (try dsimp only [ktrTop]); first | omega | decide))
  (k_with "c_units" => ((have hcL9 := cLine_is); (try simp only [units_in1, units_deeper, Around.mark_units, units_caller]); (try dsimp only [ktrTop]); omega))
  (k_with "c_enter" => (refine' code_def ?k1 ?k2 ?k3 ?k4 ?k5 ?kA ?kF ?kK ?k6 ?k7 ?k8 ?k9 ?kB ?_ ?c2 ?c3 ?c4 ?c5; (case kA => exact rfl); (case kF => exact rfl); (case kK => first | exact rfl | assumption); (case k1 => k_asm); (case k2 => k_asm); (case k3 => k_asm); (case k4 => k_asm); (case k5 => k_asm); (case k6 => k_is); (case k7 => k_is); (case k8 => walk_at "c_room"); (case k9 => exact BindsTo.of_eq rfl); (case c5 => decide); (case kB => exact locs rfl); (case c2 => exact rfl); (case c3 => exact rfl); (case c4 => exact rfl); k_whole; intro g' L' h' FG' F' N' B' X' T'; (try dsimp only); (try k_lift B'); (try k_fold)))
  (k_with "c_pure" => (refine' code_pure ?k1 ?k2 ?k3 ?k5 ?kA ?kF ?kK ?k6 ?k7 ?k8 ?k9 ?kB ?_ ?c2 ?c3 ?c4 ?c5; (case kA => exact rfl); (case kF => exact rfl); (case kK => first | exact rfl | assumption); (case k1 => k_asm); (case k2 => k_asm); (case k3 => k_asm); (case k5 => k_asm); (case k6 => k_is); (case k7 => k_is); (case k8 => walk_at "c_room"); (case k9 => exact BindsTo.of_eq rfl); (case c5 => decide); (case kB => exact locs rfl); (case c2 => exact rfl); (case c3 => exact rfl); (case c4 => exact rfl); k_whole; intro g' L' h' hG F' N' B' X' T'; (try dsimp only); (try k_fold)))
  (k_with "c_open" => (
  (dsimp only [Ctr]); (intros)
  (refine wpAny_call ?_)
  (k_dflt (walk_at "c_pure"))))
  (k_with "LeaveP" => (k_dflt (refine' leaveP_ ?k1 ?_; (case k1 => k_asm); k_whole); intro kP; (try dsimp only)))
  (k_with "c_close" => (
  refine same ?_
  first
  | exact CRet.out (by assumption) (by assumption) (by assumption)
  | (refine' CRet.str (by assumption) (by assumption) ?e (by assumption); (case e => first | exact rfl | decide +kernel | (simp [S]; done)))
  | (refine' CRet.int (by assumption) (by assumption) ?e (by assumption); (case e => omega))))
  (k_with "c_use" => (
  (case B => k_dflt k_asm); (case F => k_dflt k_asm); (case X => k_dflt k_asm); (case N => k_dflt k_asm); (case T => k_dflt k_asm)
  (case K => first | exact rfl | assumption)
  (case d => walk_at "c_room"); (case u => walk_at "c_units")
  (intro t9 h9 tk9 F9 N9)
  (try dsimp only)
  (try k_fold)))
  (k_with "subscriptTail Name Slice str ref" => (
  k_here
  (with_reducible show wpAny _ _ (subscriptTail _ (Expr.Slice (some _) (some _) none _) _ _) _ _ _)
  (with_reducible rename Fr _ _ _ _ => F')
  (with_reducible rename News _ _ _ _ => N')
  k_dflt (first
    | (refine' r_s01 (s := ⟨_, _, _, _, _⟩) (by assumption) F' N' ?hl ?hi ?hj ?_; (case hi => omega); (case hj => omega); (case hl => first | assumption | omega))
    | (refine' r_s01n (s := ⟨_, _, _, _, _⟩) (by assumption) F' N' ?hl ?hi ?hj ?_; (case hi => omega); (case hj => omega); (case hl => first | assumption | omega))
    | (refine' r_s13 (s := ⟨_, _, _, _, _⟩) (by assumption) F' N' ?hl ?hi ?hj ?_; (case hi => omega); (case hj => omega); (case hl => first | assumption | omega))
    | (refine' r_s02 (s := ⟨_, _, _, _, _⟩) (by assumption) F' N' ?hl ?hi ?hj ?_; (case hi => omega); (case hj => omega); (case hl => first | assumption | omega))
    | (refine' r_s02e (s := ⟨_, _, _, _, _⟩) (by assumption) F' N' ?hl ?hi ?hj ?_; (case hi => omega); (case hj => omega); (case hl => first | assumption | omega))
    | (refine' r_s26 (s := ⟨_, _, _, _, _⟩) (by assumption) F' N' ?hl ?hi ?hj ?_; (case hi => omega); (case hj => omega); (case hl => first | assumption | omega))
    | (refine' r_s12 (s := ⟨_, _, _, _, _⟩) (by assumption) F' N' ?hl ?hi ?hj ?_; (case hi => omega); (case hj => omega); (case hl => first | assumption | omega)))
  (intro h' t' k' F' N')))
  (k_with "subscriptTail Name Name str int" => (
  k_here
  k_dflt (refine' r_item 0 ?D ?hk ?hi ?hl ?_)
  (case D => k_dflt assumption)
  (case hk => k_dflt exact rfl)
  (case hl => k_dflt (first | assumption | omega))
  (case hi => k_dflt omega)))
  (k_with "subscriptTail Name BinOp str int" => (
  k_here
  k_dflt (first | refine' r_hex (Int.toNat_of_nonneg (by decide +kernel)).symm (by decide +kernel) ?_ | refine' r_hex (hex_hi _) (by omega) ?_ | refine' r_hex (hex_lo _) (by omega) ?_)))
  (k_with "call ref" => (
  k_here
  (with_reducible show wpAny _ _ (call (Value.ref _) _) _ _ _)
  k_dflt (refine wpAny_call ?_; walk_at "c_enter")))
  (k_with "exec While" => (
  k_here
  (with_reducible show wpAny _ _ (exec (Stmt.While (Expr.BoolOp _ _ _) _ _ _) _) _ _ _)
  (with_reducible rename Fr _ _ _ _ => F')
  (with_reducible rename News _ _ _ _ => N')
  k_dflt (refine' w_zero F' N' ?_)
  (clear F' N'; intro h' tk' F' N')))
  (k_with "exec While" => (
  k_here
  (with_reducible show wpAny _ _ (exec (Stmt.While (Expr.Compare _ _ _ _) _ _ _) _) _ _ _)
  (apply hold)))
  (k_with "compareOp In str str" => (
  k_here
  k_dflt (first
    | refine' r_in_yes plain_is (by assumption) ?_
    | refine' r_in_no plain_is (by assumption) ?_
    | refine' r_in_yes kept_is (by assumption) ?_
    | refine' r_in_no kept_is (by assumption) ?_
    | refine' r_in_no blank_is (by first | assumption | decide) ?_)))
  (k_with "c_step" => (first | (k_unfold; (try dsimp only)) | (refine same ?_; k_unfold; (try dsimp only)) | (k_end; wrow_close) | walk1 | (dsimp only; walk1) | (leave1; walk_say "STEP leave1"; try dsimp only) | fail "no step"))
  (k_with "c_steps" => (repeat' walk_at "c_step"))
  (k_with "callWith" => (
  k_here
  (with_reducible show wpAny _ _ (callWith _ (Value.builtin _) [_] _ _) _ _ _)
  k_dflt (first | with_reducible refine callWith_method0 ?_ | refine callWith_method1 ?_)))
  (k_with "c_ls" => (first | assumption | exact TxtsAre.nil | (apply TxtsAre.cons; walk_at "c_ls")))
  (k_with "call builtin:str.join" => (
  k_here
  (with_reducible show wpAny _ _ (call (Value.builtin "str.join") [Value.str _ _, Value.ref _]) _ _ _)
  k_dflt (refine' r_join ?hl ?hi rfl ?hw ?_)
  (case hl => k_dflt (first | is_list | exact News.isList (by k_asm) (by k_mem)))
  (case hi => (try simp only [List.nil_append, List.cons_append]); k_dflt (walk_at "c_ls"))
  (case hw => k_dflt (first | assumption | decide | exact Nat.le_of_ble_eq_true rfl | omega))
  (intro _ _)))
  (k_with "TPost" => (dsimp only [TPost]))
  (k_with "c_size" => (rw [PySem.sizeLine_eq]; (try simp only [List.size_toArray, Array.size_push, List.length_append, List.length_cons, List.length_nil]); omega))
  (k_with "call builtin:list.append" => (
  k_here
  (with_reducible show wpAny _ _ (call (Value.builtin _) [Value.ref _, _]) _ _ _)
  k_dflt (refine' append_K ?k1 ?k2 ?k3 ?_ ?z)
  (case k1 => k_dflt k_asm); (case k2 => k_dflt k_asm); (case k3 => k_dflt k_upd); (case z => k_dflt (walk_at "c_size"))
  k_whole
  (intro h' F' N'); (try k_sweep)))
  (k_with "c_same" => (intro z h2 h3; have h4 := h3; simp only [List.contains_cons, List.contains_nil, Bool.or_false, beq_eq_false_iff_ne, ne_eq, Bool.or_eq_false_iff] at h4; simp [h2, h3, h4]))
  (k_with "TEnd" => (
  k_here
  (with_reducible rename News _ _ _ _ => nE')
  k_dflt (refine' TEnd.intro ?F nE' ?sub ?hs ?hx ?hat ?hi ?hr)
  (case F => k_dflt assumption)
  (case sub => k_dflt (exact ⟨by k_mem, fun p hp => (nomatch hp)⟩))
  (case hat => k_dflt (exact rfl))
  (case hs => k_dflt assumption)
  (case hx => k_dflt (first | rfl | (symm; assumption) | ((with_reducible rename oc _ = _ => he'); rw [he']; rfl)))
  (case hi => k_dflt (simp only [List.map_append, List.flatten_append, List.length_append, List.map_cons, List.map_nil, List.flatten_cons, List.flatten_nil, List.length_cons, List.length_nil, Int.natCast_add, *] <;> omega))
  (case hr => k_dflt (walk_at "c_same"))))
  (k_with "c_use_l" => (
  (case B => k_dflt k_asm); (case F => k_dflt k_asm); (case X => k_dflt k_asm); (case N => k_dflt k_asm); (case T => k_dflt k_asm)
  (case K => first | exact rfl | assumption)
  (case d => walk_at "c_room"); (case u => walk_at "c_units")
  (intro l9 xs9 e9 h9 tk9 F9 N9 ne9)
  (simp only [List.forall_mem_cons, List.not_mem_nil, false_implies, implies_true, and_true] at ne9)))
  (k_with "c_close_l" => (
  refine same ?_
  (with_reducible rename News _ _ _ _ => nE')
  (refine' CRetL.out (by assumption) (by assumption) (by assumption) nE' ?hm ?hi)
  (case hm => k_dflt (first | walk_at "c_mem" | k_mem))
  (case hi => exact ⟨_, _, _, rfl⟩)))
  (k_with "k_ne" => ((try dsimp only); first
  | with_reducible assumption | with_reducible exact Ne.symm (by assumption)
  | with_reducible exact And.left (by assumption) | with_reducible exact Ne.symm (And.left (by assumption))
  | with_reducible exact And.right (by assumption) | with_reducible exact Ne.symm (And.right (by assumption))
  | with_reducible exact And.left (And.right (by assumption)) | with_reducible exact Ne.symm (And.left (And.right (by assumption)))
  | with_reducible exact And.right (And.right (by assumption)) | with_reducible exact Ne.symm (And.right (And.right (by assumption)))
  | with_reducible exact And.left (And.right (And.right (by assumption))) | with_reducible exact Ne.symm (And.left (And.right (And.right (by assumption))))
  | with_reducible exact And.right (And.right (And.right (by assumption))) | with_reducible exact Ne.symm (And.right (And.right (And.right (by assumption))))
  | with_reducible exact Nat.ne_of_lt (by assumption) | with_reducible exact Nat.ne_of_gt (by assumption)
  | with_reducible exact Nat.ne_of_gt (And.left (by assumption)) | with_reducible exact Nat.ne_of_lt (And.left (by assumption))
  | with_reducible exact Nat.ne_of_gt (And.left (And.right (by assumption))) | with_reducible exact Nat.ne_of_lt (And.left (And.right (by assumption)))))
  (k_with "binaryOp RShift int int" => (
  k_here
  k_dflt (refine rshift_int (by decide) ?_)))
  (k_with "eval ListComp" => (
  k_here
  (with_reducible show wpAny _ _ (eval (Expr.ListComp _ [⟨_, Expr.Name _ _, _, _⟩] _ _) _) _ _ _)
  k_dflt (refine comp_text (by k_asm) (by rfl) (by decide) (by rfl) (by decide) (by rfl) ?_)))
  (k_with "CText" => (apply hold))
  (k_with "CompEnd" => (
  k_here
  (with_reducible rename News _ _ _ _ => nE')
  k_dflt (refine' cend ?F nE' ?sub ?off ?_)
  (case F => k_dflt assumption)
  (case sub => k_dflt lcg_sub)
  (case off => k_dflt (first | exact True.intro | assumption))))
  (k_with "binaryOp Add str str" => (
  k_here
  k_dflt (first | refine' r_add s22 rfl ?hs ?_ | refine' r_add rfl s22 ?hs ?_)
  (case hs => k_dflt (simp only [List.length_append, List.length_cons, List.length_nil]; omega))
  (intro _ _)))
  (k_with "exec For" => (
  k_here
  (with_reducible show wpAny _ _ (exec (Stmt.For (Expr.Name _ _) (Expr.Name _ _) _ _ _) _) _ _ _)
  (with_reducible rename Fr _ _ _ _ => lF')
  (with_unfolding_all refine' For_invVF lF' ?k1 ?k2 ?_; (case k1 => exact rfl); (case k2 => exact rfl); k_whole)))
  (k_with "pyIter str" => (apply hold))
  (k_with "k_all" => (assumption))
  (k_with "FPost" => (dsimp only [FPost]))
  (k_with "FEnd" => (
  k_here
  (with_reducible rename News _ _ _ _ => nE')
  k_dflt (refine' FEnd.intro ?F nE' ?sub ?hs ?hx ?hr)
  (case F => k_dflt assumption)
  (case sub => k_dflt (refine ⟨by k_mem, fun p hp => ?_⟩; simp [hp]))
  (case hs => k_dflt assumption)
  (case hx => k_dflt (first | rfl | (symm; assumption) | ((with_reducible rename es _ = _ => he'); rw [he']; rfl)))
  (case hr => k_dflt (walk_at "c_same"))))
  (k_with "c_sameC" => (intro z h3; have h4 := h3; simp only [List.contains_cons, List.contains_nil, Bool.or_false, beq_eq_false_iff_ne, ne_eq, Bool.or_eq_false_iff] at h4; simp [h3, h4]))
  (k_with "c_mem" => (first
  | exact List.Mem.head _ | exact List.Mem.tail _ (.head _) | exact List.Mem.tail _ (.tail _ (.head _)) | exact List.Mem.tail _ (.tail _ (.tail _ (.head _)))
  | exact List.Mem.tail _ (.tail _ (.tail _ (.tail _ (.head _)))) | exact List.Mem.tail _ (.tail _ (.tail _ (.tail _ (.tail _ (.head _))))) | exact List.Mem.tail _ (.tail _ (.tail _ (.tail _ (.tail _ (.tail _ (.head _))))))))
  (k_with "c_step" => (first
  | (k_unfold; (try dsimp only))
  | (with_reducible refine itT ?_)
  | (with_reducible refine itF ?_)
  | ((with_reducible refine' ite_lt_pos ?h ?_); (case h => omega))
  | ((with_reducible refine' ite_lt_neg ?h ?_); (case h => omega))
  | (refine same ?_; k_unfold; (try dsimp only))
  | (k_end; wrow_close)
  | walk1
  | (dsimp only; walk1)
  | (leave1; walk_say "STEP leave1"; try dsimp only)
  | fail "no step"))
  (k_with "c_pureC" => (refine' code_pureC ?k1 ?k2 ?k3 ?k5 ?kA ?kF ?kK ?k6 ?k7 ?k8 ?k9 ?kB ?kD ?_ ?c2 ?c3 ?c4; (case kA => exact rfl); (case kF => exact rfl); (case kK => first | exact rfl | assumption); (case k1 => k_asm); (case k2 => k_asm); (case k3 => k_asm); (case k5 => k_asm); (case k6 => k_is); (case k7 => k_is); (case k8 => walk_at "c_room"); (case k9 => exact BindsTo.of_eq rfl); (case kB => exact rfl); (case kD => decide +kernel); (case c2 => exact rfl); (case c3 => exact rfl); (case c4 => exact rfl); k_whole; intro g' L' h' tk' cells' hG F' N' Y' B' X' T'; k_cells Y'; (try simp only [List.cons_append, List.nil_append] at N'); (try dsimp only); (try k_fold)))
  (k_with "c_openC" => (
  (dsimp only [Ctr]); (intros)
  (refine wpAny_call ?_)
  (k_dflt (walk_at "c_pureC"))))
  (k_with "TPostC" => (dsimp only [TPostC]))
  (k_with "TEndC" => (
  k_here
  (with_reducible rename News _ _ _ _ => nE')
  k_dflt (refine' TEndC.intro ?F nE' ?sub ?hs ?hx ?hat ?hi ?hr)
  (case F => k_dflt assumption)
  (case sub => k_dflt (refine ⟨by walk_at "c_mem", by walk_at "c_mem", fun p hp => ?_⟩; (simp only [List.mem_singleton] at hp); (rw [hp]); walk_at "c_mem"))
  (case hat => k_dflt assumption)
  (case hs => k_dflt assumption)
  (case hx => k_dflt (first | rfl | (symm; assumption)))
  (case hi => k_dflt (simp only [List.map_append, List.flatten_append, List.length_append, List.map_cons, List.map_nil, List.flatten_cons, List.flatten_nil, List.length_cons, List.length_nil, Int.natCast_add, *] <;> omega))
  (case hr => k_dflt (walk_at "c_sameC"))))
  (k_with "compareOp NotEq str str" => (
  k_here
  (with_reducible show wpAny _ _ (compareOp _ (Value.str (S [_]) _) _) _ _ _)
  k_dflt (refine' r_ne_yes pct_is (one_ne (by assumption)) ?_)))
  (k_with "k_room" => ((try simp only [depth_mark, depth_under_make, depth_under_kw, depth_in1, depth_deeper, depth_caller]); (try dsimp only [ktrTop]); first | omega | decide))
  exact True.intro
namespace Mine
theorem c_octet_text (w : World) {o : Int} {n : Nat} (to : Tok) (ho : o = (n : Int)) (hn : n < 256) : Ctr w 1 309 [.int o to] (fun t => .str (S [37, hexU (n / 16), hexU (n % 16)]) t) := by
  subst ho
  walk_at "c_open"
  walk_at "c_steps"
  all_goals walk_at "c_close"
end Mine
theorem Mine.ln6 : True := by
  (k_with "call ref" => (
  k_here
  (with_reducible show wpAny _ _ (call (Value.ref 309) _) _ _ _)
  k_dflt (refine' use (c_octet_text _ _ ?ho ?hn) ?B ?F ?X ?N ?T ?K ?d ?u ?_)
  (case ho => k_dflt (first | exact rfl | exact (Int.toNat_of_nonneg (by omega)).symm))
  (case hn => k_dflt (first | omega | decide))
  walk_at "c_use"))
  exact True.intro
namespace Mine
theorem c_octets_euro (w : World) (to : Tok) : CtrL w 1 295 [.int 8364 to] (fun xs => ∃ t1 t2 t3, xs = [.int 226 t1, .int 130 t2, .int 172 t3]) := by
  dsimp only [CtrL]; intros
  refine wpAny_call ?_
  k_dflt (walk_at "c_pure")
  walk_at "c_steps"
  all_goals walk_at "c_close_l"
end Mine
theorem Mine.ln7 : True := by
  (k_with "call ref" => (
  k_here
  (with_reducible show wpAny _ _ (call (Value.ref 295) _) _ _ _)
  k_dflt (refine' use_l (c_octets_euro _ _) ?B ?F ?X ?N ?T ?K ?d ?u ?_)
  walk_at "c_use_l"
  (rintro ⟨t1, t2, t3, hx9⟩); (subst hx9)
  (try dsimp only)
  (try k_fold)))
  exact True.intro
namespace Mine
theorem c_whole (w : World) {tl r : List Nat} {c n : Nat} {i : Int} (tt ti : Tok) (D : tl.drop n = c :: r) (hi : i = (n : Int)) (hl : tl.length ≤ 16777216) (hc : c < 55296) : Ctr w 3 316 [.str (S tl) tt, .int i ti] (fun t => .int (c : Int) t) := by
  have h1 := drop_lt D; have h2 := S_len tl
  walk_at "c_open"
  walk_at "c_steps"
  all_goals walk_at "c_close"
end Mine
theorem Mine.ln8 : True := by
  (k_with "call ref" => (
  k_here
  (with_reducible show wpAny _ _ (call (Value.ref 316) _) _ _ _)
  k_dflt (refine' use (c_whole _ _ _ ?D ?hi ?hl ?hc) ?B ?F ?X ?N ?T ?K ?d ?u ?_)
  (case D => k_dflt assumption)
  (case hi => k_dflt (first | rfl | omega))
  (case hl => k_dflt (first | assumption | omega))
  (case hc => k_dflt (first | assumption | decide | omega))
  walk_at "c_use"))
  exact True.intro
theorem Mine.none3 : True := by
  w_top off
  k_with_none
  exact True.intro
open Mine
theorem Mine.ln9 : True := by
  (k_with "c_room" => ((try simp only [depth_under_make, depth_under_kw, depth_in1, depth_deeper, depth_caller]); (try dsimp only [ktrTop]); first | omega | decide))
  (k_with "c_units" => ((have hcL9 := cLine_is); (try simp only [units_in1, units_deeper, Around.mark_units, units_caller]); (try dsimp only [ktrTop]); omega))
  (k_with "c_enter" => (refine' code_def ?k1 ?k2 ?k3 ?k4 ?k5 ?kA ?kF ?kK ?k6 ?k7 ?k8 ?k9 ?kB ?_ ?c2 ?c3 ?c4 ?c5; (case kA => exact rfl); (case kF => exact rfl); (case kK => first | exact rfl | assumption); (case k1 => k_asm); (case k2 => k_asm); (case k3 => k_asm); (case k4 => k_asm); (case k5 => k_asm); (case k6 => k_is); (case k7 => k_is); (case k8 => walk_at "c_room"); (case k9 => exact BindsTo.of_eq rfl); (case c5 => decide); (case kB => exact locs rfl); (case c2 => exact rfl); (case c3 => exact rfl); (case c4 => exact rfl); k_whole; intro g' L' h' FG' F' N' B' X' T'; (try dsimp only); (try k_lift B'); (try k_fold)))
  (k_with "c_pure" => (refine' code_pure ?k1 ?k2 ?k3 ?k5 ?kA ?kF ?kK ?k6 ?k7 ?k8 ?k9 ?kB ?_ ?c2 ?c3 ?c4 ?c5; (case kA => exact rfl); (case kF => exact rfl); (case kK => first | exact rfl | assumption); (case k1 => k_asm); (case k2 => k_asm); (case k3 => k_asm); (case k5 => k_asm); (case k6 => k_is); (case k7 => k_is); (case k8 => walk_at "c_room"); (case k9 => exact BindsTo.of_eq rfl); (case c5 => decide); (case kB => exact locs rfl); (case c2 => exact rfl); (case c3 => exact rfl); (case c4 => exact rfl); k_whole; intro g' L' h' hG F' N' B' X' T'; (try dsimp only); (try k_fold)))
  (k_with "c_open" => (
  (dsimp only [Ctr]); (intros)
  (refine wpAny_call ?_)
  (k_dflt (walk_at "c_pure"))))
  (k_with "LeaveP" => (k_dflt (refine' leaveP_ ?k1 ?_; (case k1 => k_asm); k_whole); intro kP; (try dsimp only)))
  (k_with "c_close" => (
  refine same ?_
  first
  | exact CRet.out (by assumption) (by assumption) (by assumption)
  | (refine' CRet.str (by assumption) (by assumption) ?e (by assumption); (case e => first | exact rfl | decide +kernel | (simp [S]; done)))
  | (refine' CRet.int (by assumption) (by assumption) ?e (by assumption); (case e => omega))))
  (k_with "c_use" => (
  (case B => k_dflt k_asm); (case F => k_dflt k_asm); (case X => k_dflt k_asm); (case N => k_dflt k_asm); (case T => k_dflt k_asm)
  (case K => first | exact rfl | assumption)
  (case d => walk_at "c_room"); (case u => walk_at "c_units")
  (intro t9 h9 tk9 F9 N9)
  (try dsimp only)
  (try k_fold)))
  (k_with "subscriptTail Name Slice str ref" => (
  k_here
  (with_reducible show wpAny _ _ (subscriptTail _ (Expr.Slice (some _) (some _) none _) _ _) _ _ _)
  (with_reducible rename Fr _ _ _ _ => F')
  (with_reducible rename News _ _ _ _ => N')
  k_dflt (first
    | (refine' r_s01 (s := ⟨_, _, _, _, _⟩) (by assumption) F' N' ?hl ?hi ?hj ?_; (case hi => omega); (case hj => omega); (case hl => first | assumption | omega))
    | (refine' r_s01n (s := ⟨_, _, _, _, _⟩) (by assumption) F' N' ?hl ?hi ?hj ?_; (case hi => omega); (case hj => omega); (case hl => first | assumption | omega))
    | (refine' r_s13 (s := ⟨_, _, _, _, _⟩) (by assumption) F' N' ?hl ?hi ?hj ?_; (case hi => omega); (case hj => omega); (case hl => first | assumption | omega))
    | (refine' r_s02 (s := ⟨_, _, _, _, _⟩) (by assumption) F' N' ?hl ?hi ?hj ?_; (case hi => omega); (case hj => omega); (case hl => first | assumption | omega))
    | (refine' r_s02e (s := ⟨_, _, _, _, _⟩) (by assumption) F' N' ?hl ?hi ?hj ?_; (case hi => omega); (case hj => omega); (case hl => first | assumption | omega))
    | (refine' r_s26 (s := ⟨_, _, _, _, _⟩) (by assumption) F' N' ?hl ?hi ?hj ?_; (case hi => omega); (case hj => omega); (case hl => first | assumption | omega))
    | (refine' r_s12 (s := ⟨_, _, _, _, _⟩) (by assumption) F' N' ?hl ?hi ?hj ?_; (case hi => omega); (case hj => omega); (case hl => first | assumption | omega)))
  (intro h' t' k' F' N')))
  (k_with "subscriptTail Name Name str int" => (
  k_here
  k_dflt (refine' r_item 0 ?D ?hk ?hi ?hl ?_)
  (case D => k_dflt assumption)
  (case hk => k_dflt exact rfl)
  (case hl => k_dflt (first | assumption | omega))
  (case hi => k_dflt omega)))
  (k_with "subscriptTail Name BinOp str int" => (
  k_here
  k_dflt (first | refine' r_hex (Int.toNat_of_nonneg (by decide +kernel)).symm (by decide +kernel) ?_ | refine' r_hex (hex_hi _) (by omega) ?_ | refine' r_hex (hex_lo _) (by omega) ?_)))
  (k_with "call ref" => (
  k_here
  (with_reducible show wpAny _ _ (call (Value.ref _) _) _ _ _)
  k_dflt (refine wpAny_call ?_; walk_at "c_enter")))
  (k_with "exec While" => (
  k_here
  (with_reducible show wpAny _ _ (exec (Stmt.While (Expr.BoolOp _ _ _) _ _ _) _) _ _ _)
  (with_reducible rename Fr _ _ _ _ => F')
  (with_reducible rename News _ _ _ _ => N')
  k_dflt (refine' w_zero F' N' ?_)
  (clear F' N'; intro h' tk' F' N')))
  (k_with "exec While" => (
  k_here
  (with_reducible show wpAny _ _ (exec (Stmt.While (Expr.Compare _ _ _ _) _ _ _) _) _ _ _)
  (apply hold)))
  (k_with "compareOp In str str" => (
  k_here
  k_dflt (first
    | refine' r_in_yes plain_is (by assumption) ?_
    | refine' r_in_no plain_is (by assumption) ?_
    | refine' r_in_yes kept_is (by assumption) ?_
    | refine' r_in_no kept_is (by assumption) ?_
    | refine' r_in_no blank_is (by first | assumption | decide) ?_)))
  (k_with "c_step" => (first | (k_unfold; (try dsimp only)) | (refine same ?_; k_unfold; (try dsimp only)) | (k_end; wrow_close) | walk1 | (dsimp only; walk1) | (leave1; walk_say "STEP leave1"; try dsimp only) | fail "no step"))
  (k_with "c_steps" => (repeat' walk_at "c_step"))
  (k_with "callWith" => (
  k_here
  (with_reducible show wpAny _ _ (callWith _ (Value.builtin _) [_] _ _) _ _ _)
  k_dflt (first | with_reducible refine callWith_method0 ?_ | refine callWith_method1 ?_)))
  (k_with "c_ls" => (first | assumption | exact TxtsAre.nil | (apply TxtsAre.cons; walk_at "c_ls")))
  (k_with "call builtin:str.join" => (
  k_here
  (with_reducible show wpAny _ _ (call (Value.builtin "str.join") [Value.str _ _, Value.ref _]) _ _ _)
  k_dflt (refine' r_join ?hl ?hi rfl ?hw ?_)
  (case hl => k_dflt (first | is_list | exact News.isList (by k_asm) (by k_mem)))
  (case hi => (try simp only [List.nil_append, List.cons_append]); k_dflt (walk_at "c_ls"))
  (case hw => k_dflt (first | assumption | decide | exact Nat.le_of_ble_eq_true rfl | omega))
  (intro _ _)))
  (k_with "TPost" => (dsimp only [TPost]))
  (k_with "c_size" => (rw [PySem.sizeLine_eq]; (try simp only [List.size_toArray, Array.size_push, List.length_append, List.length_cons, List.length_nil]); omega))
  (k_with "call builtin:list.append" => (
  k_here
  (with_reducible show wpAny _ _ (call (Value.builtin _) [Value.ref _, _]) _ _ _)
  k_dflt (refine' append_K ?k1 ?k2 ?k3 ?_ ?z)
  (case k1 => k_dflt k_asm); (case k2 => k_dflt k_asm); (case k3 => k_dflt k_upd); (case z => k_dflt (walk_at "c_size"))
  k_whole
  (intro h' F' N'); (try k_sweep)))
  (k_with "c_same" => (intro z h2 h3; have h4 := h3; simp only [List.contains_cons, List.contains_nil, Bool.or_false, beq_eq_false_iff_ne, ne_eq, Bool.or_eq_false_iff] at h4; simp [h2, h3, h4]))
  (k_with "TEnd" => (
  k_here
  (with_reducible rename News _ _ _ _ => nE')
  k_dflt (refine' TEnd.intro ?F nE' ?sub ?hs ?hx ?hat ?hi ?hr)
  (case F => k_dflt assumption)
  (case sub => k_dflt (exact ⟨by k_mem, fun p hp => (nomatch hp)⟩))
  (case hat => k_dflt (exact rfl))
  (case hs => k_dflt assumption)
  (case hx => k_dflt (first | rfl | (symm; assumption) | ((with_reducible rename oc _ = _ => he'); rw [he']; rfl)))
  (case hi => k_dflt (simp only [List.map_append, List.flatten_append, List.length_append, List.map_cons, List.map_nil, List.flatten_cons, List.flatten_nil, List.length_cons, List.length_nil, Int.natCast_add, *] <;> omega))
  (case hr => k_dflt (walk_at "c_same"))))
  (k_with "c_use_l" => (
  (case B => k_dflt k_asm); (case F => k_dflt k_asm); (case X => k_dflt k_asm); (case N => k_dflt k_asm); (case T => k_dflt k_asm)
  (case K => first | exact rfl | assumption)
  (case d => walk_at "c_room"); (case u => walk_at "c_units")
  (intro l9 xs9 e9 h9 tk9 F9 N9 ne9)
  (simp only [List.forall_mem_cons, List.not_mem_nil, false_implies, implies_true, and_true] at ne9)))
  (k_with "c_close_l" => (
  refine same ?_
  (with_reducible rename News _ _ _ _ => nE')
  (refine' CRetL.out (by assumption) (by assumption) (by assumption) nE' ?hm ?hi)
  (case hm => k_dflt (first | walk_at "c_mem" | k_mem))
  (case hi => exact ⟨_, _, _, rfl⟩)))
  (k_with "k_ne" => ((try dsimp only); first
  | with_reducible assumption | with_reducible exact Ne.symm (by assumption)
  | with_reducible exact And.left (by assumption) | with_reducible exact Ne.symm (And.left (by assumption))
  | with_reducible exact And.right (by assumption) | with_reducible exact Ne.symm (And.right (by assumption))
  | with_reducible exact And.left (And.right (by assumption)) | with_reducible exact Ne.symm (And.left (And.right (by assumption)))
  | with_reducible exact And.right (And.right (by assumption)) | with_reducible exact Ne.symm (And.right (And.right (by assumption)))
  | with_reducible exact And.left (And.right (And.right (by assumption))) | with_reducible exact Ne.symm (And.left (And.right (And.right (by assumption))))
  | with_reducible exact And.right (And.right (And.right (by assumption))) | with_reducible exact Ne.symm (And.right (And.right (And.right (by assumption))))
  | with_reducible exact Nat.ne_of_lt (by assumption) | with_reducible exact Nat.ne_of_gt (by assumption)
  | with_reducible exact Nat.ne_of_gt (And.left (by assumption)) | with_reducible exact Nat.ne_of_lt (And.left (by assumption))
  | with_reducible exact Nat.ne_of_gt (And.left (And.right (by assumption))) | with_reducible exact Nat.ne_of_lt (And.left (And.right (by assumption)))))
  (k_with "binaryOp RShift int int" => (
  k_here
  k_dflt (refine rshift_int (by decide) ?_)))
  (k_with "eval ListComp" => (
  k_here
  (with_reducible show wpAny _ _ (eval (Expr.ListComp _ [⟨_, Expr.Name _ _, _, _⟩] _ _) _) _ _ _)
  k_dflt (refine comp_text (by k_asm) (by rfl) (by decide) (by rfl) (by decide) (by rfl) ?_)))
  (k_with "CText" => (apply hold))
  (k_with "CompEnd" => (
  k_here
  (with_reducible rename News _ _ _ _ => nE')
  k_dflt (refine' cend ?F nE' ?sub ?off ?_)
  (case F => k_dflt assumption)
  (case sub => k_dflt lcg_sub)
  (case off => k_dflt (first | exact True.intro | assumption))))
  (k_with "binaryOp Add str str" => (
  k_here
  k_dflt (first | refine' r_add s22 rfl ?hs ?_ | refine' r_add rfl s22 ?hs ?_)
  (case hs => k_dflt (simp only [List.length_append, List.length_cons, List.length_nil]; omega))
  (intro _ _)))
  (k_with "exec For" => (
  k_here
  (with_reducible show wpAny _ _ (exec (Stmt.For (Expr.Name _ _) (Expr.Name _ _) _ _ _) _) _ _ _)
  (with_reducible rename Fr _ _ _ _ => lF')
  (with_unfolding_all refine' For_invVF lF' ?k1 ?k2 ?_; (case k1 => exact rfl); (case k2 => exact rfl); k_whole)))
  (k_with "pyIter str" => (apply hold))
  (k_with "k_all" => (assumption))
  (k_with "FPost" => (dsimp only [FPost]))
  (k_with "FEnd" => (
  k_here
  (with_reducible rename News _ _ _ _ => nE')
  k_dflt (refine' FEnd.intro ?F nE' ?sub ?hs ?hx ?hr)
  (case F => k_dflt assumption)
  (case sub => k_dflt (refine ⟨by k_mem, fun p hp => ?_⟩; simp [hp]))
  (case hs => k_dflt assumption)
  (case hx => k_dflt (first | rfl | (symm; assumption) | ((with_reducible rename es _ = _ => he'); rw [he']; rfl)))
  (case hr => k_dflt (walk_at "c_same"))))
  (k_with "c_sameC" => (intro z h3; have h4 := h3; simp only [List.contains_cons, List.contains_nil, Bool.or_false, beq_eq_false_iff_ne, ne_eq, Bool.or_eq_false_iff] at h4; simp [h3, h4]))
  (k_with "c_mem" => (first
  | exact List.Mem.head _ | exact List.Mem.tail _ (.head _) | exact List.Mem.tail _ (.tail _ (.head _)) | exact List.Mem.tail _ (.tail _ (.tail _ (.head _)))
  | exact List.Mem.tail _ (.tail _ (.tail _ (.tail _ (.head _)))) | exact List.Mem.tail _ (.tail _ (.tail _ (.tail _ (.tail _ (.head _))))) | exact List.Mem.tail _ (.tail _ (.tail _ (.tail _ (.tail _ (.tail _ (.head _))))))))
  (k_with "c_step" => (first
  | (k_unfold; (try dsimp only))
  | (with_reducible refine itT ?_)
  | (with_reducible refine itF ?_)
  | ((with_reducible refine' ite_lt_pos ?h ?_); (case h => omega))
  | ((with_reducible refine' ite_lt_neg ?h ?_); (case h => omega))
  | (refine same ?_; k_unfold; (try dsimp only))
  | (k_end; wrow_close)
  | walk1
  | (dsimp only; walk1)
  | (leave1; walk_say "STEP leave1"; try dsimp only)
  | fail "no step"))
  (k_with "c_pureC" => (refine' code_pureC ?k1 ?k2 ?k3 ?k5 ?kA ?kF ?kK ?k6 ?k7 ?k8 ?k9 ?kB ?kD ?_ ?c2 ?c3 ?c4; (case kA => exact rfl); (case kF => exact rfl); (case kK => first | exact rfl | assumption); (case k1 => k_asm); (case k2 => k_asm); (case k3 => k_asm); (case k5 => k_asm); (case k6 => k_is); (case k7 => k_is); (case k8 => walk_at "c_room"); (case k9 => exact BindsTo.of_eq rfl); (case kB => exact rfl); (case kD => decide +kernel); (case c2 => exact rfl); (case c3 => exact rfl); (case c4 => exact rfl); k_whole; intro g' L' h' tk' cells' hG F' N' Y' B' X' T'; k_cells Y'; (try simp only [List.cons_append, List.nil_append] at N'); (try dsimp only); (try k_fold)))
  (k_with "c_openC" => (
  (dsimp only [Ctr]); (intros)
  (refine wpAny_call ?_)
  (k_dflt (walk_at "c_pureC"))))
  (k_with "TPostC" => (dsimp only [TPostC]))
  (k_with "TEndC" => (
  k_here
  (with_reducible rename News _ _ _ _ => nE')
  k_dflt (refine' TEndC.intro ?F nE' ?sub ?hs ?hx ?hat ?hi ?hr)
  (case F => k_dflt assumption)
  (case sub => k_dflt (refine ⟨by walk_at "c_mem", by walk_at "c_mem", fun p hp => ?_⟩; (simp only [List.mem_singleton] at hp); (rw [hp]); walk_at "c_mem"))
  (case hat => k_dflt assumption)
  (case hs => k_dflt assumption)
  (case hx => k_dflt (first | rfl | (symm; assumption)))
  (case hi => k_dflt (simp only [List.map_append, List.flatten_append, List.length_append, List.map_cons, List.map_nil, List.flatten_cons, List.flatten_nil, List.length_cons, List.length_nil, Int.natCast_add, *] <;> omega))
  (case hr => k_dflt (walk_at "c_sameC"))))
  (k_with "compareOp NotEq str str" => (
  k_here
  (with_reducible show wpAny _ _ (compareOp _ (Value.str (S [_]) _) _) _ _ _)
  k_dflt (refine' r_ne_yes pct_is (one_ne (by assumption)) ?_)))
  (k_with "k_room" => ((try simp only [depth_mark, depth_under_make, depth_under_kw, depth_in1, depth_deeper, depth_caller]); (try dsimp only [ktrTop]); first | omega | decide))
  (k_with "call ref" => (
  k_here
  (with_reducible show wpAny _ _ (call (Value.ref 309) _) _ _ _)
  k_dflt (refine' use (c_octet_text _ _ ?ho ?hn) ?B ?F ?X ?N ?T ?K ?d ?u ?_)
  (case ho => k_dflt (first | exact rfl | exact (Int.toNat_of_nonneg (by omega)).symm))
  (case hn => k_dflt (first | omega | decide))
  walk_at "c_use"))
  (k_with "call ref" => (
  k_here
  (with_reducible show wpAny _ _ (call (Value.ref 295) _) _ _ _)
  k_dflt (refine' use_l (c_octets_euro _ _) ?B ?F ?X ?N ?T ?K ?d ?u ?_)
  walk_at "c_use_l"
  (rintro ⟨t1, t2, t3, hx9⟩); (subst hx9)
  (try dsimp only)
  (try k_fold)))
  (k_with "call ref" => (
  k_here
  (with_reducible show wpAny _ _ (call (Value.ref 316) _) _ _ _)
  k_dflt (refine' use (c_whole _ _ _ ?D ?hi ?hl ?hc) ?B ?F ?X ?N ?T ?K ?d ?u ?_)
  (case D => k_dflt assumption)
  (case hi => k_dflt (first | rfl | omega))
  (case hl => k_dflt (first | assumption | omega))
  (case hc => k_dflt (first | assumption | decide | omega))
  walk_at "c_use"))
  exact True.intro
namespace Mine
theorem c_enc (w : World) {l : List Nat} (tt : Tok) (hl : l.length ≤ 100000) (hu : ∀ c ∈ l, c ∈ AU) : Ctr w 6 361 [.str (S l) tt] (fun t => .str (S ((l.map oc).flatten)) t) := by
  have h2 := S_len l
  have hw := flat_len oc_len l
  walk_at "c_open"
  walk_at "c_steps"
  (rename Fr _ _ _ _ => F0); (rename News _ _ _ _ => N0)
  refine unhold (w_text (news := []) l oc (fun p => (p.length : Int)) [Str.ofString "sign"] F0 N0 ⟨.tail _ (.head _), fun p hp => nomatch hp⟩ rfl ?turn ?stop)
  case turn =>
    clear F0 N0 hw
    intro pre c r vs e t u h tk hpre hs F N
    have hc := hu c (by rw [← hpre]; simp)
    have D : l.drop pre.length = c :: r := by rw [← hpre]; simp
    have hlt := drop_lt D
    have hvs := hs.lenm
    clear hpre hu
    rcases AU_kinds hc with ⟨hk, he, -⟩ | ⟨hc1, hk, he⟩ | rfl
    · walk_at "c_steps"
    · walk_at "c_steps"
    · have hk : 8364 ∉ plainL := by decide
      walk_at "c_steps"
  case stop =>
    clear F0 N0 hu
    intro vs e t u h tk hs F N
    have hw2 : ((l.map oc).flatten).length ≤ 16777216 := by omega
    walk_at "c_steps"
    all_goals walk_at "c_close"
end Mine
theorem Mine.none4 : True := by
  w_top off
  k_with_none
  exact True.intro
open Mine
theorem Mine.ln10 : True := by
  (k_with "c_room" => ((try simp only [depth_under_make, depth_under_kw, depth_in1, depth_deeper, depth_caller]); (try dsimp only [ktrTop]); first | omega | decide))
  (k_with "c_units" => ((have hcL9 := cLine_is); (try simp only [units_in1, units_deeper, Around.mark_units, units_caller]); (try dsimp only [ktrTop]); omega))
  (k_with "c_enter" => (refine' code_def ?k1 ?k2 ?k3 ?k4 ?k5 ?kA ?kF ?kK ?k6 ?k7 ?k8 ?k9 ?kB ?_ ?c2 ?c3 ?c4 ?c5; (case kA => exact rfl); (case kF => exact rfl); (case kK => first | exact rfl | assumption); (case k1 => k_asm); (case k2 => k_asm); (case k3 => k_asm); (case k4 => k_asm); (case k5 => k_asm); (case k6 => k_is); (case k7 => k_is); (case k8 => walk_at "c_room"); (case k9 => exact BindsTo.of_eq rfl); (case c5 => decide); (case kB => exact locs rfl); (case c2 => exact rfl); (case c3 => exact rfl); (case c4 => exact rfl); k_whole; intro g' L' h' FG' F' N' B' X' T'; (try dsimp only); (try k_lift B'); (try k_fold)))
  (k_with "c_pure" => (refine' code_pure ?k1 ?k2 ?k3 ?k5 ?kA ?kF ?kK ?k6 ?k7 ?k8 ?k9 ?kB ?_ ?c2 ?c3 ?c4 ?c5; (case kA => exact rfl); (case kF => exact rfl); (case kK => first | exact rfl | assumption); (case k1 => k_asm); (case k2 => k_asm); (case k3 => k_asm); (case k5 => k_asm); (case k6 => k_is); (case k7 => k_is); (case k8 => walk_at "c_room"); (case k9 => exact BindsTo.of_eq rfl); (case c5 => decide); (case kB => exact locs rfl); (case c2 => exact rfl); (case c3 => exact rfl); (case c4 => exact rfl); k_whole; intro g' L' h' hG F' N' B' X' T'; (try dsimp only); (try k_fold)))
  (k_with "c_open" => (
  (dsimp only [Ctr]); (intros)
  (refine wpAny_call ?_)
  (k_dflt (walk_at "c_pure"))))
  (k_with "LeaveP" => (k_dflt (refine' leaveP_ ?k1 ?_; (case k1 => k_asm); k_whole); intro kP; (try dsimp only)))
  (k_with "c_close" => (
  refine same ?_
  first
  | exact CRet.out (by assumption) (by assumption) (by assumption)
  | (refine' CRet.str (by assumption) (by assumption) ?e (by assumption); (case e => first | exact rfl | decide +kernel | (simp [S]; done)))
  | (refine' CRet.int (by assumption) (by assumption) ?e (by assumption); (case e => omega))))
  (k_with "c_use" => (
  (case B => k_dflt k_asm); (case F => k_dflt k_asm); (case X => k_dflt k_asm); (case N => k_dflt k_asm); (case T => k_dflt k_asm)
  (case K => first | exact rfl | assumption)
  (case d => walk_at "c_room"); (case u => walk_at "c_units")
  (intro t9 h9 tk9 F9 N9)
  (try dsimp only)
  (try k_fold)))
  (k_with "subscriptTail Name Slice str ref" => (
  k_here
  (with_reducible show wpAny _ _ (subscriptTail _ (Expr.Slice (some _) (some _) none _) _ _) _ _ _)
  (with_reducible rename Fr _ _ _ _ => F')
  (with_reducible rename News _ _ _ _ => N')
  k_dflt (first
    | (refine' r_s01 (s := ⟨_, _, _, _, _⟩) (by assumption) F' N' ?hl ?hi ?hj ?_; (case hi => omega); (case hj => omega); (case hl => first | assumption | omega))
    | (refine' r_s01n (s := ⟨_, _, _, _, _⟩) (by assumption) F' N' ?hl ?hi ?hj ?_; (case hi => omega); (case hj => omega); (case hl => first | assumption | omega))
    | (refine' r_s13 (s := ⟨_, _, _, _, _⟩) (by assumption) F' N' ?hl ?hi ?hj ?_; (case hi => omega); (case hj => omega); (case hl => first | assumption | omega))
    | (refine' r_s02 (s := ⟨_, _, _, _, _⟩) (by assumption) F' N' ?hl ?hi ?hj ?_; (case hi => omega); (case hj => omega); (case hl => first | assumption | omega))
    | (refine' r_s02e (s := ⟨_, _, _, _, _⟩) (by assumption) F' N' ?hl ?hi ?hj ?_; (case hi => omega); (case hj => omega); (case hl => first | assumption | omega))
    | (refine' r_s26 (s := ⟨_, _, _, _, _⟩) (by assumption) F' N' ?hl ?hi ?hj ?_; (case hi => omega); (case hj => omega); (case hl => first | assumption | omega))
    | (refine' r_s12 (s := ⟨_, _, _, _, _⟩) (by assumption) F' N' ?hl ?hi ?hj ?_; (case hi => omega); (case hj => omega); (case hl => first | assumption | omega)))
  (intro h' t' k' F' N')))
  (k_with "subscriptTail Name Name str int" => (
  k_here
  k_dflt (refine' r_item 0 ?D ?hk ?hi ?hl ?_)
  (case D => k_dflt assumption)
  (case hk => k_dflt exact rfl)
  (case hl => k_dflt (first | assumption | omega))
  (case hi => k_dflt omega)))
  (k_with "subscriptTail Name BinOp str int" => (
  k_here
  k_dflt (first | refine' r_hex (Int.toNat_of_nonneg (by decide +kernel)).symm (by decide +kernel) ?_ | refine' r_hex (hex_hi _) (by omega) ?_ | refine' r_hex (hex_lo _) (by omega) ?_)))
  (k_with "call ref" => (
  k_here
  (with_reducible show wpAny _ _ (call (Value.ref _) _) _ _ _)
  k_dflt (refine wpAny_call ?_; walk_at "c_enter")))
  (k_with "exec While" => (
  k_here
  (with_reducible show wpAny _ _ (exec (Stmt.While (Expr.BoolOp _ _ _) _ _ _) _) _ _ _)
  (with_reducible rename Fr _ _ _ _ => F')
  (with_reducible rename News _ _ _ _ => N')
  k_dflt (refine' w_zero F' N' ?_)
  (clear F' N'; intro h' tk' F' N')))
  (k_with "exec While" => (
  k_here
  (with_reducible show wpAny _ _ (exec (Stmt.While (Expr.Compare _ _ _ _) _ _ _) _) _ _ _)
  (apply hold)))
  (k_with "compareOp In str str" => (
  k_here
  k_dflt (first
    | refine' r_in_yes plain_is (by assumption) ?_
    | refine' r_in_no plain_is (by assumption) ?_
    | refine' r_in_yes kept_is (by assumption) ?_
    | refine' r_in_no kept_is (by assumption) ?_
    | refine' r_in_no blank_is (by first | assumption | decide) ?_)))
  (k_with "c_step" => (first | (k_unfold; (try dsimp only)) | (refine same ?_; k_unfold; (try dsimp only)) | (k_end; wrow_close) | walk1 | (dsimp only; walk1) | (leave1; walk_say "STEP leave1"; try dsimp only) | fail "no step"))
  (k_with "c_steps" => (repeat' walk_at "c_step"))
  (k_with "callWith" => (
  k_here
  (with_reducible show wpAny _ _ (callWith _ (Value.builtin _) [_] _ _) _ _ _)
  k_dflt (first | with_reducible refine callWith_method0 ?_ | refine callWith_method1 ?_)))
  (k_with "c_ls" => (first | assumption | exact TxtsAre.nil | (apply TxtsAre.cons; walk_at "c_ls")))
  (k_with "call builtin:str.join" => (
  k_here
  (with_reducible show wpAny _ _ (call (Value.builtin "str.join") [Value.str _ _, Value.ref _]) _ _ _)
  k_dflt (refine' r_join ?hl ?hi rfl ?hw ?_)
  (case hl => k_dflt (first | is_list | exact News.isList (by k_asm) (by k_mem)))
  (case hi => (try simp only [List.nil_append, List.cons_append]); k_dflt (walk_at "c_ls"))
  (case hw => k_dflt (first | assumption | decide | exact Nat.le_of_ble_eq_true rfl | omega))
  (intro _ _)))
  (k_with "TPost" => (dsimp only [TPost]))
  (k_with "c_size" => (rw [PySem.sizeLine_eq]; (try simp only [List.size_toArray, Array.size_push, List.length_append, List.length_cons, List.length_nil]); omega))
  (k_with "call builtin:list.append" => (
  k_here
  (with_reducible show wpAny _ _ (call (Value.builtin _) [Value.ref _, _]) _ _ _)
  k_dflt (refine' append_K ?k1 ?k2 ?k3 ?_ ?z)
  (case k1 => k_dflt k_asm); (case k2 => k_dflt k_asm); (case k3 => k_dflt k_upd); (case z => k_dflt (walk_at "c_size"))
  k_whole
  (intro h' F' N'); (try k_sweep)))
  (k_with "c_same" => (intro z h2 h3; have h4 := h3; simp only [List.contains_cons, List.contains_nil, Bool.or_false, beq_eq_false_iff_ne, ne_eq, Bool.or_eq_false_iff] at h4; simp [h2, h3, h4]))
  (k_with "TEnd" => (
  k_here
  (with_reducible rename News _ _ _ _ => nE')
  k_dflt (refine' TEnd.intro ?F nE' ?sub ?hs ?hx ?hat ?hi ?hr)
  (case F => k_dflt assumption)
  (case sub => k_dflt (exact ⟨by k_mem, fun p hp => (nomatch hp)⟩))
  (case hat => k_dflt (exact rfl))
  (case hs => k_dflt assumption)
  (case hx => k_dflt (first | rfl | (symm; assumption) | ((with_reducible rename oc _ = _ => he'); rw [he']; rfl)))
  (case hi => k_dflt (simp only [List.map_append, List.flatten_append, List.length_append, List.map_cons, List.map_nil, List.flatten_cons, List.flatten_nil, List.length_cons, List.length_nil, Int.natCast_add, *] <;> omega))
  (case hr => k_dflt (walk_at "c_same"))))
  (k_with "c_use_l" => (
  (case B => k_dflt k_asm); (case F => k_dflt k_asm); (case X => k_dflt k_asm); (case N => k_dflt k_asm); (case T => k_dflt k_asm)
  (case K => first | exact rfl | assumption)
  (case d => walk_at "c_room"); (case u => walk_at "c_units")
  (intro l9 xs9 e9 h9 tk9 F9 N9 ne9)
  (simp only [List.forall_mem_cons, List.not_mem_nil, false_implies, implies_true, and_true] at ne9)))
  (k_with "c_close_l" => (
  refine same ?_
  (with_reducible rename News _ _ _ _ => nE')
  (refine' CRetL.out (by assumption) (by assumption) (by assumption) nE' ?hm ?hi)
  (case hm => k_dflt (first | walk_at "c_mem" | k_mem))
  (case hi => exact ⟨_, _, _, rfl⟩)))
  (k_with "k_ne" => ((try dsimp only); first
  | with_reducible assumption | with_reducible exact Ne.symm (by assumption)
  | with_reducible exact And.left (by assumption) | with_reducible exact Ne.symm (And.left (by assumption))
  | with_reducible exact And.right (by assumption) | with_reducible exact Ne.symm (And.right (by assumption))
  | with_reducible exact And.left (And.right (by assumption)) | with_reducible exact Ne.symm (And.left (And.right (by assumption)))
  | with_reducible exact And.right (And.right (by assumption)) | with_reducible exact Ne.symm (And.right (And.right (by assumption)))
  | with_reducible exact And.left (And.right (And.right (by assumption))) | with_reducible exact Ne.symm (And.left (And.right (And.right (by assumption))))
  | with_reducible exact And.right (And.right (And.right (by assumption))) | with_reducible exact Ne.symm (And.right (And.right (And.right (by assumption))))
  | with_reducible exact Nat.ne_of_lt (by assumption) | with_reducible exact Nat.ne_of_gt (by assumption)
  | with_reducible exact Nat.ne_of_gt (And.left (by assumption)) | with_reducible exact Nat.ne_of_lt (And.left (by assumption))
  | with_reducible exact Nat.ne_of_gt (And.left (And.right (by assumption))) | with_reducible exact Nat.ne_of_lt (And.left (And.right (by assumption)))))
  (k_with "binaryOp RShift int int" => (
  k_here
  k_dflt (refine rshift_int (by decide) ?_)))
  (k_with "eval ListComp" => (
  k_here
  (with_reducible show wpAny _ _ (eval (Expr.ListComp _ [⟨_, Expr.Name _ _, _, _⟩] _ _) _) _ _ _)
  k_dflt (refine comp_text (by k_asm) (by rfl) (by decide) (by rfl) (by decide) (by rfl) ?_)))
  (k_with "CText" => (apply hold))
  (k_with "CompEnd" => (
  k_here
  (with_reducible rename News _ _ _ _ => nE')
  k_dflt (refine' cend ?F nE' ?sub ?off ?_)
  (case F => k_dflt assumption)
  (case sub => k_dflt lcg_sub)
  (case off => k_dflt (first | exact True.intro | assumption))))
  (k_with "binaryOp Add str str" => (
  k_here
  k_dflt (first | refine' r_add s22 rfl ?hs ?_ | refine' r_add rfl s22 ?hs ?_)
  (case hs => k_dflt (simp only [List.length_append, List.length_cons, List.length_nil]; omega))
  (intro _ _)))
  (k_with "exec For" => (
  k_here
  (with_reducible show wpAny _ _ (exec (Stmt.For (Expr.Name _ _) (Expr.Name _ _) _ _ _) _) _ _ _)
  (with_reducible rename Fr _ _ _ _ => lF')
  (with_unfolding_all refine' For_invVF lF' ?k1 ?k2 ?_; (case k1 => exact rfl); (case k2 => exact rfl); k_whole)))
  (k_with "pyIter str" => (apply hold))
  (k_with "k_all" => (assumption))
  (k_with "FPost" => (dsimp only [FPost]))
  (k_with "FEnd" => (
  k_here
  (with_reducible rename News _ _ _ _ => nE')
  k_dflt (refine' FEnd.intro ?F nE' ?sub ?hs ?hx ?hr)
  (case F => k_dflt assumption)
  (case sub => k_dflt (refine ⟨by k_mem, fun p hp => ?_⟩; simp [hp]))
  (case hs => k_dflt assumption)
  (case hx => k_dflt (first | rfl | (symm; assumption) | ((with_reducible rename es _ = _ => he'); rw [he']; rfl)))
  (case hr => k_dflt (walk_at "c_same"))))
  (k_with "c_sameC" => (intro z h3; have h4 := h3; simp only [List.contains_cons, List.contains_nil, Bool.or_false, beq_eq_false_iff_ne, ne_eq, Bool.or_eq_false_iff] at h4; simp [h3, h4]))
  (k_with "c_mem" => (first
  | exact List.Mem.head _ | exact List.Mem.tail _ (.head _) | exact List.Mem.tail _ (.tail _ (.head _)) | exact List.Mem.tail _ (.tail _ (.tail _ (.head _)))
  | exact List.Mem.tail _ (.tail _ (.tail _ (.tail _ (.head _)))) | exact List.Mem.tail _ (.tail _ (.tail _ (.tail _ (.tail _ (.head _))))) | exact List.Mem.tail _ (.tail _ (.tail _ (.tail _ (.tail _ (.tail _ (.head _))))))))
  (k_with "c_step" => (first
  | (k_unfold; (try dsimp only))
  | (with_reducible refine itT ?_)
  | (with_reducible refine itF ?_)
  | ((with_reducible refine' ite_lt_pos ?h ?_); (case h => omega))
  | ((with_reducible refine' ite_lt_neg ?h ?_); (case h => omega))
  | (refine same ?_; k_unfold; (try dsimp only))
  | (k_end; wrow_close)
  | walk1
  | (dsimp only; walk1)
  | (leave1; walk_say "STEP leave1"; try dsimp only)
  | fail "no step"))
  (k_with "c_pureC" => (refine' code_pureC ?k1 ?k2 ?k3 ?k5 ?kA ?kF ?kK ?k6 ?k7 ?k8 ?k9 ?kB ?kD ?_ ?c2 ?c3 ?c4; (case kA => exact rfl); (case kF => exact rfl); (case kK => first | exact rfl | assumption); (case k1 => k_asm); (case k2 => k_asm); (case k3 => k_asm); (case k5 => k_asm); (case k6 => k_is); (case k7 => k_is); (case k8 => walk_at "c_room"); (case k9 => exact BindsTo.of_eq rfl); (case kB => exact rfl); (case kD => decide +kernel); (case c2 => exact rfl); (case c3 => exact rfl); (case c4 => exact rfl); k_whole; intro g' L' h' tk' cells' hG F' N' Y' B' X' T'; k_cells Y'; (try simp only [List.cons_append, List.nil_append] at N'); (try dsimp only); (try k_fold)))
  (k_with "c_openC" => (
  (dsimp only [Ctr]); (intros)
  (refine wpAny_call ?_)
  (k_dflt (walk_at "c_pureC"))))
  (k_with "TPostC" => (dsimp only [TPostC]))
  (k_with "TEndC" => (
  k_here
  (with_reducible rename News _ _ _ _ => nE')
  k_dflt (refine' TEndC.intro ?F nE' ?sub ?hs ?hx ?hat ?hi ?hr)
  (case F => k_dflt assumption)
  (case sub => k_dflt (refine ⟨by walk_at "c_mem", by walk_at "c_mem", fun p hp => ?_⟩; (simp only [List.mem_singleton] at hp); (rw [hp]); walk_at "c_mem"))
  (case hat => k_dflt assumption)
  (case hs => k_dflt assumption)
  (case hx => k_dflt (first | rfl | (symm; assumption)))
  (case hi => k_dflt (simp only [List.map_append, List.flatten_append, List.length_append, List.map_cons, List.map_nil, List.flatten_cons, List.flatten_nil, List.length_cons, List.length_nil, Int.natCast_add, *] <;> omega))
  (case hr => k_dflt (walk_at "c_sameC"))))
  (k_with "compareOp NotEq str str" => (
  k_here
  (with_reducible show wpAny _ _ (compareOp _ (Value.str (S [_]) _) _) _ _ _)
  k_dflt (refine' r_ne_yes pct_is (one_ne (by assumption)) ?_)))
  (k_with "k_room" => ((try simp only [depth_mark, depth_under_make, depth_under_kw, depth_in1, depth_deeper, depth_caller]); (try dsimp only [ktrTop]); first | omega | decide))
  exact True.intro
namespace Mine
theorem c_lawo (w : World) {l : List Nat} (tt : Tok) (hl : l.length ≤ 100000) : Ctr w 3 392 [.str (S l) tt] (fun t => .str (S ((l.map oc).flatten)) t) := by
  have h2 := S_len l
  have hw := flat_len oc_len l
  walk_at "c_open"
  walk_at "c_steps"
  refine unhold (ctext_go oc rfl (by k_asm) (by k_asm) (by omega) ?turn ?fin)
  case turn =>
    intro c t I oI C oC D m₂ ys h tk E' hc hC hx F N off ne
    walk_at "c_steps"
    exact flat_el (by assumption) (get_oc _ _ _ _ _ _ _ _ _ _ _)
  case fin =>
    intro D h tk ys hys F N o1
    walk_at "c_steps"
    all_goals walk_at "c_close"
theorem c_lawe (w : World) {l : List Nat} (tt : Tok) (hl : l.length ≤ 100000) : Ctr w 3 397 [.str (S l) tt] (fun t => .str (S ((l.map es).flatten)) t) := by
  have h2 := S_len l
  have hw := flat_len es_len l
  walk_at "c_open"
  walk_at "c_steps"
  refine unhold (ctext_go es rfl (by k_asm) (by k_asm) (by omega) ?turn ?fin)
  case turn =>
    intro c t I oI C oC D m₂ ys h tk E' hc hC hx F N off ne
    walk_at "c_steps"
    exact flat_el (by assumption) (get_es _ _ _ _ _ _ _ _ _ _ _)
  case fin =>
    intro D h tk ys hys F N o1
    walk_at "c_steps"
    all_goals walk_at "c_close"
theorem c_lawq (w : World) {l : List Nat} (tt : Tok) (hl : l.length ≤ 100000) : Ctr w 3 387 [.str (S l) tt] (fun t => .str (S (34 :: ((l.map jq).flatten ++ [34]))) t) := by
  have h2 := S_len l
  have hw := flat_len jq_len l
  walk_at "c_open"
  walk_at "c_steps"
  refine unhold (ctext_go jq rfl (by k_asm) (by k_asm) (by omega) ?turn ?fin)
  case turn =>
    intro c t I oI C oC D m₂ ys h tk E' hc hC hx F N off ne
    walk_at "c_steps"
    exact flat_el (by assumption) (get_jq _ _ _ _ _ _ _)
  case fin =>
    intro D h tk ys hys F N o1
    walk_at "c_steps"
    all_goals walk_at "c_close"
end Mine
theorem Mine.none5 : True := by
  w_top off
  k_with_none
  exact True.intro
open Mine
theorem Mine.ln11 : True := by
  (k_with "c_room" => ((try simp only [depth_under_make, depth_under_kw, depth_in1, depth_deeper, depth_caller]); (try dsimp only [ktrTop]); first | omega | decide))
  (k_with "c_units" => ((have hcL9 := cLine_is); (try simp only [units_in1, units_deeper, Around.mark_units, units_caller]); (try dsimp only [ktrTop]); omega))
  (k_with "c_enter" => (refine' code_def ?k1 ?k2 ?k3 ?k4 ?k5 ?kA ?kF ?kK ?k6 ?k7 ?k8 ?k9 ?kB ?_ ?c2 ?c3 ?c4 ?c5; (case kA => exact rfl); (case kF => exact rfl); (case kK => first | exact rfl | assumption); (case k1 => k_asm); (case k2 => k_asm); (case k3 => k_asm); (case k4 => k_asm); (case k5 => k_asm); (case k6 => k_is); (case k7 => k_is); (case k8 => walk_at "c_room"); (case k9 => exact BindsTo.of_eq rfl); (case c5 => decide); (case kB => exact locs rfl); (case c2 => exact rfl); (case c3 => exact rfl); (case c4 => exact rfl); k_whole; intro g' L' h' FG' F' N' B' X' T'; (try dsimp only); (try k_lift B'); (try k_fold)))
  (k_with "c_pure" => (refine' code_pure ?k1 ?k2 ?k3 ?k5 ?kA ?kF ?kK ?k6 ?k7 ?k8 ?k9 ?kB ?_ ?c2 ?c3 ?c4 ?c5; (case kA => exact rfl); (case kF => exact rfl); (case kK => first | exact rfl | assumption); (case k1 => k_asm); (case k2 => k_asm); (case k3 => k_asm); (case k5 => k_asm); (case k6 => k_is); (case k7 => k_is); (case k8 => walk_at "c_room"); (case k9 => exact BindsTo.of_eq rfl); (case c5 => decide); (case kB => exact locs rfl); (case c2 => exact rfl); (case c3 => exact rfl); (case c4 => exact rfl); k_whole; intro g' L' h' hG F' N' B' X' T'; (try dsimp only); (try k_fold)))
  (k_with "c_open" => (
  (dsimp only [Ctr]); (intros)
  (refine wpAny_call ?_)
  (k_dflt (walk_at "c_pure"))))
  (k_with "LeaveP" => (k_dflt (refine' leaveP_ ?k1 ?_; (case k1 => k_asm); k_whole); intro kP; (try dsimp only)))
  (k_with "c_close" => (
  refine same ?_
  first
  | exact CRet.out (by assumption) (by assumption) (by assumption)
  | (refine' CRet.str (by assumption) (by assumption) ?e (by assumption); (case e => first | exact rfl | decide +kernel | (simp [S]; done)))
  | (refine' CRet.int (by assumption) (by assumption) ?e (by assumption); (case e => omega))))
  (k_with "c_use" => (
  (case B => k_dflt k_asm); (case F => k_dflt k_asm); (case X => k_dflt k_asm); (case N => k_dflt k_asm); (case T => k_dflt k_asm)
  (case K => first | exact rfl | assumption)
  (case d => walk_at "c_room"); (case u => walk_at "c_units")
  (intro t9 h9 tk9 F9 N9)
  (try dsimp only)
  (try k_fold)))
  (k_with "subscriptTail Name Slice str ref" => (
  k_here
  (with_reducible show wpAny _ _ (subscriptTail _ (Expr.Slice (some _) (some _) none _) _ _) _ _ _)
  (with_reducible rename Fr _ _ _ _ => F')
  (with_reducible rename News _ _ _ _ => N')
  k_dflt (first
    | (refine' r_s01 (s := ⟨_, _, _, _, _⟩) (by assumption) F' N' ?hl ?hi ?hj ?_; (case hi => omega); (case hj => omega); (case hl => first | assumption | omega))
    | (refine' r_s01n (s := ⟨_, _, _, _, _⟩) (by assumption) F' N' ?hl ?hi ?hj ?_; (case hi => omega); (case hj => omega); (case hl => first | assumption | omega))
    | (refine' r_s13 (s := ⟨_, _, _, _, _⟩) (by assumption) F' N' ?hl ?hi ?hj ?_; (case hi => omega); (case hj => omega); (case hl => first | assumption | omega))
    | (refine' r_s02 (s := ⟨_, _, _, _, _⟩) (by assumption) F' N' ?hl ?hi ?hj ?_; (case hi => omega); (case hj => omega); (case hl => first | assumption | omega))
    | (refine' r_s02e (s := ⟨_, _, _, _, _⟩) (by assumption) F' N' ?hl ?hi ?hj ?_; (case hi => omega); (case hj => omega); (case hl => first | assumption | omega))
    | (refine' r_s26 (s := ⟨_, _, _, _, _⟩) (by assumption) F' N' ?hl ?hi ?hj ?_; (case hi => omega); (case hj => omega); (case hl => first | assumption | omega))
    | (refine' r_s12 (s := ⟨_, _, _, _, _⟩) (by assumption) F' N' ?hl ?hi ?hj ?_; (case hi => omega); (case hj => omega); (case hl => first | assumption | omega)))
  (intro h' t' k' F' N')))
  (k_with "subscriptTail Name Name str int" => (
  k_here
  k_dflt (refine' r_item 0 ?D ?hk ?hi ?hl ?_)
  (case D => k_dflt assumption)
  (case hk => k_dflt exact rfl)
  (case hl => k_dflt (first | assumption | omega))
  (case hi => k_dflt omega)))
  (k_with "subscriptTail Name BinOp str int" => (
  k_here
  k_dflt (first | refine' r_hex (Int.toNat_of_nonneg (by decide +kernel)).symm (by decide +kernel) ?_ | refine' r_hex (hex_hi _) (by omega) ?_ | refine' r_hex (hex_lo _) (by omega) ?_)))
  (k_with "call ref" => (
  k_here
  (with_reducible show wpAny _ _ (call (Value.ref _) _) _ _ _)
  k_dflt (refine wpAny_call ?_; walk_at "c_enter")))
  (k_with "exec While" => (
  k_here
  (with_reducible show wpAny _ _ (exec (Stmt.While (Expr.BoolOp _ _ _) _ _ _) _) _ _ _)
  (with_reducible rename Fr _ _ _ _ => F')
  (with_reducible rename News _ _ _ _ => N')
  k_dflt (refine' w_zero F' N' ?_)
  (clear F' N'; intro h' tk' F' N')))
  (k_with "exec While" => (
  k_here
  (with_reducible show wpAny _ _ (exec (Stmt.While (Expr.Compare _ _ _ _) _ _ _) _) _ _ _)
  (apply hold)))
  (k_with "compareOp In str str" => (
  k_here
  k_dflt (first
    | refine' r_in_yes plain_is (by assumption) ?_
    | refine' r_in_no plain_is (by assumption) ?_
    | refine' r_in_yes kept_is (by assumption) ?_
    | refine' r_in_no kept_is (by assumption) ?_
    | refine' r_in_no blank_is (by first | assumption | decide) ?_)))
  (k_with "c_step" => (first | (k_unfold; (try dsimp only)) | (refine same ?_; k_unfold; (try dsimp only)) | (k_end; wrow_close) | walk1 | (dsimp only; walk1) | (leave1; walk_say "STEP leave1"; try dsimp only) | fail "no step"))
  (k_with "c_steps" => (repeat' walk_at "c_step"))
  (k_with "callWith" => (
  k_here
  (with_reducible show wpAny _ _ (callWith _ (Value.builtin _) [_] _ _) _ _ _)
  k_dflt (first | with_reducible refine callWith_method0 ?_ | refine callWith_method1 ?_)))
  (k_with "c_ls" => (first | assumption | exact TxtsAre.nil | (apply TxtsAre.cons; walk_at "c_ls")))
  (k_with "call builtin:str.join" => (
  k_here
  (with_reducible show wpAny _ _ (call (Value.builtin "str.join") [Value.str _ _, Value.ref _]) _ _ _)
  k_dflt (refine' r_join ?hl ?hi rfl ?hw ?_)
  (case hl => k_dflt (first | is_list | exact News.isList (by k_asm) (by k_mem)))
  (case hi => (try simp only [List.nil_append, List.cons_append]); k_dflt (walk_at "c_ls"))
  (case hw => k_dflt (first | assumption | decide | exact Nat.le_of_ble_eq_true rfl | omega))
  (intro _ _)))
  (k_with "TPost" => (dsimp only [TPost]))
  (k_with "c_size" => (rw [PySem.sizeLine_eq]; (try simp only [List.size_toArray, Array.size_push, List.length_append, List.length_cons, List.length_nil]); omega))
  (k_with "call builtin:list.append" => (
  k_here
  (with_reducible show wpAny _ _ (call (Value.builtin _) [Value.ref _, _]) _ _ _)
  k_dflt (refine' append_K ?k1 ?k2 ?k3 ?_ ?z)
  (case k1 => k_dflt k_asm); (case k2 => k_dflt k_asm); (case k3 => k_dflt k_upd); (case z => k_dflt (walk_at "c_size"))
  k_whole
  (intro h' F' N'); (try k_sweep)))
  (k_with "c_same" => (intro z h2 h3; have h4 := h3; simp only [List.contains_cons, List.contains_nil, Bool.or_false, beq_eq_false_iff_ne, ne_eq, Bool.or_eq_false_iff] at h4; simp [h2, h3, h4]))
  (k_with "TEnd" => (
  k_here
  (with_reducible rename News _ _ _ _ => nE')
  k_dflt (refine' TEnd.intro ?F nE' ?sub ?hs ?hx ?hat ?hi ?hr)
  (case F => k_dflt assumption)
  (case sub => k_dflt (exact ⟨by k_mem, fun p hp => (nomatch hp)⟩))
  (case hat => k_dflt (exact rfl))
  (case hs => k_dflt assumption)
  (case hx => k_dflt (first | rfl | (symm; assumption) | ((with_reducible rename oc _ = _ => he'); rw [he']; rfl)))
  (case hi => k_dflt (simp only [List.map_append, List.flatten_append, List.length_append, List.map_cons, List.map_nil, List.flatten_cons, List.flatten_nil, List.length_cons, List.length_nil, Int.natCast_add, *] <;> omega))
  (case hr => k_dflt (walk_at "c_same"))))
  (k_with "c_use_l" => (
  (case B => k_dflt k_asm); (case F => k_dflt k_asm); (case X => k_dflt k_asm); (case N => k_dflt k_asm); (case T => k_dflt k_asm)
  (case K => first | exact rfl | assumption)
  (case d => walk_at "c_room"); (case u => walk_at "c_units")
  (intro l9 xs9 e9 h9 tk9 F9 N9 ne9)
  (simp only [List.forall_mem_cons, List.not_mem_nil, false_implies, implies_true, and_true] at ne9)))
  (k_with "c_close_l" => (
  refine same ?_
  (with_reducible rename News _ _ _ _ => nE')
  (refine' CRetL.out (by assumption) (by assumption) (by assumption) nE' ?hm ?hi)
  (case hm => k_dflt (first | walk_at "c_mem" | k_mem))
  (case hi => exact ⟨_, _, _, rfl⟩)))
  (k_with "k_ne" => ((try dsimp only); first
  | with_reducible assumption | with_reducible exact Ne.symm (by assumption)
  | with_reducible exact And.left (by assumption) | with_reducible exact Ne.symm (And.left (by assumption))
  | with_reducible exact And.right (by assumption) | with_reducible exact Ne.symm (And.right (by assumption))
  | with_reducible exact And.left (And.right (by assumption)) | with_reducible exact Ne.symm (And.left (And.right (by assumption)))
  | with_reducible exact And.right (And.right (by assumption)) | with_reducible exact Ne.symm (And.right (And.right (by assumption)))
  | with_reducible exact And.left (And.right (And.right (by assumption))) | with_reducible exact Ne.symm (And.left (And.right (And.right (by assumption))))
  | with_reducible exact And.right (And.right (And.right (by assumption))) | with_reducible exact Ne.symm (And.right (And.right (And.right (by assumption))))
  | with_reducible exact Nat.ne_of_lt (by assumption) | with_reducible exact Nat.ne_of_gt (by assumption)
  | with_reducible exact Nat.ne_of_gt (And.left (by assumption)) | with_reducible exact Nat.ne_of_lt (And.left (by assumption))
  | with_reducible exact Nat.ne_of_gt (And.left (And.right (by assumption))) | with_reducible exact Nat.ne_of_lt (And.left (And.right (by assumption)))))
  (k_with "binaryOp RShift int int" => (
  k_here
  k_dflt (refine rshift_int (by decide) ?_)))
  (k_with "eval ListComp" => (
  k_here
  (with_reducible show wpAny _ _ (eval (Expr.ListComp _ [⟨_, Expr.Name _ _, _, _⟩] _ _) _) _ _ _)
  k_dflt (refine comp_text (by k_asm) (by rfl) (by decide) (by rfl) (by decide) (by rfl) ?_)))
  (k_with "CText" => (apply hold))
  (k_with "CompEnd" => (
  k_here
  (with_reducible rename News _ _ _ _ => nE')
  k_dflt (refine' cend ?F nE' ?sub ?off ?_)
  (case F => k_dflt assumption)
  (case sub => k_dflt lcg_sub)
  (case off => k_dflt (first | exact True.intro | assumption))))
  (k_with "binaryOp Add str str" => (
  k_here
  k_dflt (first | refine' r_add s22 rfl ?hs ?_ | refine' r_add rfl s22 ?hs ?_)
  (case hs => k_dflt (simp only [List.length_append, List.length_cons, List.length_nil]; omega))
  (intro _ _)))
  (k_with "exec For" => (
  k_here
  (with_reducible show wpAny _ _ (exec (Stmt.For (Expr.Name _ _) (Expr.Name _ _) _ _ _) _) _ _ _)
  (with_reducible rename Fr _ _ _ _ => lF')
  (with_unfolding_all refine' For_invVF lF' ?k1 ?k2 ?_; (case k1 => exact rfl); (case k2 => exact rfl); k_whole)))
  (k_with "pyIter str" => (apply hold))
  (k_with "k_all" => (assumption))
  (k_with "FPost" => (dsimp only [FPost]))
  (k_with "FEnd" => (
  k_here
  (with_reducible rename News _ _ _ _ => nE')
  k_dflt (refine' FEnd.intro ?F nE' ?sub ?hs ?hx ?hr)
  (case F => k_dflt assumption)
  (case sub => k_dflt (refine ⟨by k_mem, fun p hp => ?_⟩; simp [hp]))
  (case hs => k_dflt assumption)
  (case hx => k_dflt (first | rfl | (symm; assumption) | ((with_reducible rename es _ = _ => he'); rw [he']; rfl)))
  (case hr => k_dflt (walk_at "c_same"))))
  (k_with "c_sameC" => (intro z h3; have h4 := h3; simp only [List.contains_cons, List.contains_nil, Bool.or_false, beq_eq_false_iff_ne, ne_eq, Bool.or_eq_false_iff] at h4; simp [h3, h4]))
  (k_with "c_mem" => (first
  | exact List.Mem.head _ | exact List.Mem.tail _ (.head _) | exact List.Mem.tail _ (.tail _ (.head _)) | exact List.Mem.tail _ (.tail _ (.tail _ (.head _)))
  | exact List.Mem.tail _ (.tail _ (.tail _ (.tail _ (.head _)))) | exact List.Mem.tail _ (.tail _ (.tail _ (.tail _ (.tail _ (.head _))))) | exact List.Mem.tail _ (.tail _ (.tail _ (.tail _ (.tail _ (.tail _ (.head _))))))))
  (k_with "c_step" => (first
  | (k_unfold; (try dsimp only))
  | (with_reducible refine itT ?_)
  | (with_reducible refine itF ?_)
  | ((with_reducible refine' ite_lt_pos ?h ?_); (case h => omega))
  | ((with_reducible refine' ite_lt_neg ?h ?_); (case h => omega))
  | (refine same ?_; k_unfold; (try dsimp only))
  | (k_end; wrow_close)
  | walk1
  | (dsimp only; walk1)
  | (leave1; walk_say "STEP leave1"; try dsimp only)
  | fail "no step"))
  (k_with "c_pureC" => (refine' code_pureC ?k1 ?k2 ?k3 ?k5 ?kA ?kF ?kK ?k6 ?k7 ?k8 ?k9 ?kB ?kD ?_ ?c2 ?c3 ?c4; (case kA => exact rfl); (case kF => exact rfl); (case kK => first | exact rfl | assumption); (case k1 => k_asm); (case k2 => k_asm); (case k3 => k_asm); (case k5 => k_asm); (case k6 => k_is); (case k7 => k_is); (case k8 => walk_at "c_room"); (case k9 => exact BindsTo.of_eq rfl); (case kB => exact rfl); (case kD => decide +kernel); (case c2 => exact rfl); (case c3 => exact rfl); (case c4 => exact rfl); k_whole; intro g' L' h' tk' cells' hG F' N' Y' B' X' T'; k_cells Y'; (try simp only [List.cons_append, List.nil_append] at N'); (try dsimp only); (try k_fold)))
  (k_with "c_openC" => (
  (dsimp only [Ctr]); (intros)
  (refine wpAny_call ?_)
  (k_dflt (walk_at "c_pureC"))))
  (k_with "TPostC" => (dsimp only [TPostC]))
  (k_with "TEndC" => (
  k_here
  (with_reducible rename News _ _ _ _ => nE')
  k_dflt (refine' TEndC.intro ?F nE' ?sub ?hs ?hx ?hat ?hi ?hr)
  (case F => k_dflt assumption)
  (case sub => k_dflt (refine ⟨by walk_at "c_mem", by walk_at "c_mem", fun p hp => ?_⟩; (simp only [List.mem_singleton] at hp); (rw [hp]); walk_at "c_mem"))
  (case hat => k_dflt assumption)
  (case hs => k_dflt assumption)
  (case hx => k_dflt (first | rfl | (symm; assumption)))
  (case hi => k_dflt (simp only [List.map_append, List.flatten_append, List.length_append, List.map_cons, List.map_nil, List.flatten_cons, List.flatten_nil, List.length_cons, List.length_nil, Int.natCast_add, *] <;> omega))
  (case hr => k_dflt (walk_at "c_sameC"))))
  (k_with "compareOp NotEq str str" => (
  k_here
  (with_reducible show wpAny _ _ (compareOp _ (Value.str (S [_]) _) _) _ _ _)
  k_dflt (refine' r_ne_yes pct_is (one_ne (by assumption)) ?_)))
  (k_with "k_room" => ((try simp only [depth_mark, depth_under_make, depth_under_kw, depth_in1, depth_deeper, depth_caller]); (try dsimp only [ktrTop]); first | omega | decide))
  exact True.intro
namespace Mine
theorem c_jqs (w : World) (tt : Tok) {c : Nat} (hc : c ∈ ([97, 34, 92, 37, 10, 8364, 55, 110] : List Nat)) : Ctr w 1 261 [.str (S [c]) tt] (fun t => .str (S (jq c)) t) := by
  simp only [List.mem_cons, List.not_mem_nil, or_false] at hc
  rcases hc with rfl | rfl | rfl | rfl | rfl | rfl | rfl | rfl
  all_goals walk_at "c_open"
  all_goals walk_at "c_steps"
  all_goals walk_at "c_close"
end Mine
theorem Mine.ln12 : True := by
  (k_with "call ref" => (
  k_here
  (with_reducible show wpAny _ _ (call (Value.ref 261) _) _ _ _)
  k_dflt (refine' use (c_jqs _ _ ?hc) ?B ?F ?X ?N ?T ?K ?d ?u ?_)
  (case hc => k_dflt assumption)
  walk_at "c_use"))
  exact True.intro
namespace Mine
def AJ : List Nat := [97, 34, 92, 37, 10, 8364, 55, 110]
theorem c_jq (w : World) {l : List Nat} (tt : Tok) (hl : l.length ≤ 100000) (ha : ∀ c ∈ l, c ∈ ([97, 34, 92, 37, 10, 8364, 55, 110] : List Nat)) : Ctr w 4 266 [.str (S l) tt] (fun t => .str (S (34 :: ((l.map jq).flatten ++ [34]))) t) := by
  have h2 := S_len l
  have hw := flat_len jq_len l
  walk_at "c_open"
  walk_at "c_steps"
  refine unhold (ctext_go jq rfl (by k_asm) (by k_asm) (by omega) ?turn ?fin)
  case turn =>
    intro c t I oI C oC D m₂ ys h tk E' hc hC hx F N off ne
    have hc2 := ha c hc
    walk_at "c_steps"
    exact ⟨_, rfl⟩
  case fin =>
    intro D h tk ys hys F N o1
    walk_at "c_steps"
    all_goals walk_at "c_close"
end Mine
theorem Mine.none6 : True := by
  w_top off
  k_with_none
  exact True.intro
open Mine
theorem Mine.ln13 : True := by
  (k_with "c_room" => ((try simp only [depth_under_make, depth_under_kw, depth_in1, depth_deeper, depth_caller]); (try dsimp only [ktrTop]); first | omega | decide))
  (k_with "c_units" => ((have hcL9 := cLine_is); (try simp only [units_in1, units_deeper, Around.mark_units, units_caller]); (try dsimp only [ktrTop]); omega))
  (k_with "c_enter" => (refine' code_def ?k1 ?k2 ?k3 ?k4 ?k5 ?kA ?kF ?kK ?k6 ?k7 ?k8 ?k9 ?kB ?_ ?c2 ?c3 ?c4 ?c5; (case kA => exact rfl); (case kF => exact rfl); (case kK => first | exact rfl | assumption); (case k1 => k_asm); (case k2 => k_asm); (case k3 => k_asm); (case k4 => k_asm); (case k5 => k_asm); (case k6 => k_is); (case k7 => k_is); (case k8 => walk_at "c_room"); (case k9 => exact BindsTo.of_eq rfl); (case c5 => decide); (case kB => exact locs rfl); (case c2 => exact rfl); (case c3 => exact rfl); (case c4 => exact rfl); k_whole; intro g' L' h' FG' F' N' B' X' T'; (try dsimp only); (try k_lift B'); (try k_fold)))
  (k_with "c_pure" => (refine' code_pure ?k1 ?k2 ?k3 ?k5 ?kA ?kF ?kK ?k6 ?k7 ?k8 ?k9 ?kB ?_ ?c2 ?c3 ?c4 ?c5; (case kA => exact rfl); (case kF => exact rfl); (case kK => first | exact rfl | assumption); (case k1 => k_asm); (case k2 => k_asm); (case k3 => k_asm); (case k5 => k_asm); (case k6 => k_is); (case k7 => k_is); (case k8 => walk_at "c_room"); (case k9 => exact BindsTo.of_eq rfl); (case c5 => decide); (case kB => exact locs rfl); (case c2 => exact rfl); (case c3 => exact rfl); (case c4 => exact rfl); k_whole; intro g' L' h' hG F' N' B' X' T'; (try dsimp only); (try k_fold)))
  (k_with "c_open" => (
  (dsimp only [Ctr]); (intros)
  (refine wpAny_call ?_)
  (k_dflt (walk_at "c_pure"))))
  (k_with "LeaveP" => (k_dflt (refine' leaveP_ ?k1 ?_; (case k1 => k_asm); k_whole); intro kP; (try dsimp only)))
  (k_with "c_close" => (
  refine same ?_
  first
  | exact CRet.out (by assumption) (by assumption) (by assumption)
  | (refine' CRet.str (by assumption) (by assumption) ?e (by assumption); (case e => first | exact rfl | decide +kernel | (simp [S]; done)))
  | (refine' CRet.int (by assumption) (by assumption) ?e (by assumption); (case e => omega))))
  (k_with "c_use" => (
  (case B => k_dflt k_asm); (case F => k_dflt k_asm); (case X => k_dflt k_asm); (case N => k_dflt k_asm); (case T => k_dflt k_asm)
  (case K => first | exact rfl | assumption)
  (case d => walk_at "c_room"); (case u => walk_at "c_units")
  (intro t9 h9 tk9 F9 N9)
  (try dsimp only)
  (try k_fold)))
  (k_with "subscriptTail Name Slice str ref" => (
  k_here
  (with_reducible show wpAny _ _ (subscriptTail _ (Expr.Slice (some _) (some _) none _) _ _) _ _ _)
  (with_reducible rename Fr _ _ _ _ => F')
  (with_reducible rename News _ _ _ _ => N')
  k_dflt (first
    | (refine' r_s01 (s := ⟨_, _, _, _, _⟩) (by assumption) F' N' ?hl ?hi ?hj ?_; (case hi => omega); (case hj => omega); (case hl => first | assumption | omega))
    | (refine' r_s01n (s := ⟨_, _, _, _, _⟩) (by assumption) F' N' ?hl ?hi ?hj ?_; (case hi => omega); (case hj => omega); (case hl => first | assumption | omega))
    | (refine' r_s13 (s := ⟨_, _, _, _, _⟩) (by assumption) F' N' ?hl ?hi ?hj ?_; (case hi => omega); (case hj => omega); (case hl => first | assumption | omega))
    | (refine' r_s02 (s := ⟨_, _, _, _, _⟩) (by assumption) F' N' ?hl ?hi ?hj ?_; (case hi => omega); (case hj => omega); (case hl => first | assumption | omega))
    | (refine' r_s02e (s := ⟨_, _, _, _, _⟩) (by assumption) F' N' ?hl ?hi ?hj ?_; (case hi => omega); (case hj => omega); (case hl => first | assumption | omega))
    | (refine' r_s26 (s := ⟨_, _, _, _, _⟩) (by assumption) F' N' ?hl ?hi ?hj ?_; (case hi => omega); (case hj => omega); (case hl => first | assumption | omega))
    | (refine' r_s12 (s := ⟨_, _, _, _, _⟩) (by assumption) F' N' ?hl ?hi ?hj ?_; (case hi => omega); (case hj => omega); (case hl => first | assumption | omega)))
  (intro h' t' k' F' N')))
  (k_with "subscriptTail Name Name str int" => (
  k_here
  k_dflt (refine' r_item 0 ?D ?hk ?hi ?hl ?_)
  (case D => k_dflt assumption)
  (case hk => k_dflt exact rfl)
  (case hl => k_dflt (first | assumption | omega))
  (case hi => k_dflt omega)))
  (k_with "subscriptTail Name BinOp str int" => (
  k_here
  k_dflt (first | refine' r_hex (Int.toNat_of_nonneg (by decide +kernel)).symm (by decide +kernel) ?_ | refine' r_hex (hex_hi _) (by omega) ?_ | refine' r_hex (hex_lo _) (by omega) ?_)))
  (k_with "call ref" => (
  k_here
  (with_reducible show wpAny _ _ (call (Value.ref _) _) _ _ _)
  k_dflt (refine wpAny_call ?_; walk_at "c_enter")))
  (k_with "exec While" => (
  k_here
  (with_reducible show wpAny _ _ (exec (Stmt.While (Expr.BoolOp _ _ _) _ _ _) _) _ _ _)
  (with_reducible rename Fr _ _ _ _ => F')
  (with_reducible rename News _ _ _ _ => N')
  k_dflt (refine' w_zero F' N' ?_)
  (clear F' N'; intro h' tk' F' N')))
  (k_with "exec While" => (
  k_here
  (with_reducible show wpAny _ _ (exec (Stmt.While (Expr.Compare _ _ _ _) _ _ _) _) _ _ _)
  (apply hold)))
  (k_with "compareOp In str str" => (
  k_here
  k_dflt (first
    | refine' r_in_yes plain_is (by assumption) ?_
    | refine' r_in_no plain_is (by assumption) ?_
    | refine' r_in_yes kept_is (by assumption) ?_
    | refine' r_in_no kept_is (by assumption) ?_
    | refine' r_in_no blank_is (by first | assumption | decide) ?_)))
  (k_with "c_step" => (first | (k_unfold; (try dsimp only)) | (refine same ?_; k_unfold; (try dsimp only)) | (k_end; wrow_close) | walk1 | (dsimp only; walk1) | (leave1; walk_say "STEP leave1"; try dsimp only) | fail "no step"))
  (k_with "c_steps" => (repeat' walk_at "c_step"))
  (k_with "callWith" => (
  k_here
  (with_reducible show wpAny _ _ (callWith _ (Value.builtin _) [_] _ _) _ _ _)
  k_dflt (first | with_reducible refine callWith_method0 ?_ | refine callWith_method1 ?_)))
  (k_with "c_ls" => (first | assumption | exact TxtsAre.nil | (apply TxtsAre.cons; walk_at "c_ls")))
  (k_with "call builtin:str.join" => (
  k_here
  (with_reducible show wpAny _ _ (call (Value.builtin "str.join") [Value.str _ _, Value.ref _]) _ _ _)
  k_dflt (refine' r_join ?hl ?hi rfl ?hw ?_)
  (case hl => k_dflt (first | is_list | exact News.isList (by k_asm) (by k_mem)))
  (case hi => (try simp only [List.nil_append, List.cons_append]); k_dflt (walk_at "c_ls"))
  (case hw => k_dflt (first | assumption | decide | exact Nat.le_of_ble_eq_true rfl | omega))
  (intro _ _)))
  (k_with "TPost" => (dsimp only [TPost]))
  (k_with "c_size" => (rw [PySem.sizeLine_eq]; (try simp only [List.size_toArray, Array.size_push, List.length_append, List.length_cons, List.length_nil]); omega))
  (k_with "call builtin:list.append" => (
  k_here
  (with_reducible show wpAny _ _ (call (Value.builtin _) [Value.ref _, _]) _ _ _)
  k_dflt (refine' append_K ?k1 ?k2 ?k3 ?_ ?z)
  (case k1 => k_dflt k_asm); (case k2 => k_dflt k_asm); (case k3 => k_dflt k_upd); (case z => k_dflt (walk_at "c_size"))
  k_whole
  (intro h' F' N'); (try k_sweep)))
  (k_with "c_same" => (intro z h2 h3; have h4 := h3; simp only [List.contains_cons, List.contains_nil, Bool.or_false, beq_eq_false_iff_ne, ne_eq, Bool.or_eq_false_iff] at h4; simp [h2, h3, h4]))
  (k_with "TEnd" => (
  k_here
  (with_reducible rename News _ _ _ _ => nE')
  k_dflt (refine' TEnd.intro ?F nE' ?sub ?hs ?hx ?hat ?hi ?hr)
  (case F => k_dflt assumption)
  (case sub => k_dflt (exact ⟨by k_mem, fun p hp => (nomatch hp)⟩))
  (case hat => k_dflt (exact rfl))
  (case hs => k_dflt assumption)
  (case hx => k_dflt (first | rfl | (symm; assumption) | ((with_reducible rename oc _ = _ => he'); rw [he']; rfl)))
  (case hi => k_dflt (simp only [List.map_append, List.flatten_append, List.length_append, List.map_cons, List.map_nil, List.flatten_cons, List.flatten_nil, List.length_cons, List.length_nil, Int.natCast_add, *] <;> omega))
  (case hr => k_dflt (walk_at "c_same"))))
  (k_with "c_use_l" => (
  (case B => k_dflt k_asm); (case F => k_dflt k_asm); (case X => k_dflt k_asm); (case N => k_dflt k_asm); (case T => k_dflt k_asm)
  (case K => first | exact rfl | assumption)
  (case d => walk_at "c_room"); (case u => walk_at "c_units")
  (intro l9 xs9 e9 h9 tk9 F9 N9 ne9)
  (simp only [List.forall_mem_cons, List.not_mem_nil, false_implies, implies_true, and_true] at ne9)))
  (k_with "c_close_l" => (
  refine same ?_
  (with_reducible rename News _ _ _ _ => nE')
  (refine' CRetL.out (by assumption) (by assumption) (by assumption) nE' ?hm ?hi)
  (case hm => k_dflt (first | walk_at "c_mem" | k_mem))
  (case hi => exact ⟨_, _, _, rfl⟩)))
  (k_with "k_ne" => ((try dsimp only); first
  | with_reducible assumption | with_reducible exact Ne.symm (by assumption)
  | with_reducible exact And.left (by assumption) | with_reducible exact Ne.symm (And.left (by assumption))
  | with_reducible exact And.right (by assumption) | with_reducible exact Ne.symm (And.right (by assumption))
  | with_reducible exact And.left (And.right (by assumption)) | with_reducible exact Ne.symm (And.left (And.right (by assumption)))
  | with_reducible exact And.right (And.right (by assumption)) | with_reducible exact Ne.symm (And.right (And.right (by assumption)))
  | with_reducible exact And.left (And.right (And.right (by assumption))) | with_reducible exact Ne.symm (And.left (And.right (And.right (by assumption))))
  | with_reducible exact And.right (And.right (And.right (by assumption))) | with_reducible exact Ne.symm (And.right (And.right (And.right (by assumption))))
  | with_reducible exact Nat.ne_of_lt (by assumption) | with_reducible exact Nat.ne_of_gt (by assumption)
  | with_reducible exact Nat.ne_of_gt (And.left (by assumption)) | with_reducible exact Nat.ne_of_lt (And.left (by assumption))
  | with_reducible exact Nat.ne_of_gt (And.left (And.right (by assumption))) | with_reducible exact Nat.ne_of_lt (And.left (And.right (by assumption)))))
  (k_with "binaryOp RShift int int" => (
  k_here
  k_dflt (refine rshift_int (by decide) ?_)))
  (k_with "eval ListComp" => (
  k_here
  (with_reducible show wpAny _ _ (eval (Expr.ListComp _ [⟨_, Expr.Name _ _, _, _⟩] _ _) _) _ _ _)
  k_dflt (refine comp_text (by k_asm) (by rfl) (by decide) (by rfl) (by decide) (by rfl) ?_)))
  (k_with "CText" => (apply hold))
  (k_with "CompEnd" => (
  k_here
  (with_reducible rename News _ _ _ _ => nE')
  k_dflt (refine' cend ?F nE' ?sub ?off ?_)
  (case F => k_dflt assumption)
  (case sub => k_dflt lcg_sub)
  (case off => k_dflt (first | exact True.intro | assumption))))
  (k_with "binaryOp Add str str" => (
  k_here
  k_dflt (first | refine' r_add s22 rfl ?hs ?_ | refine' r_add rfl s22 ?hs ?_)
  (case hs => k_dflt (simp only [List.length_append, List.length_cons, List.length_nil]; omega))
  (intro _ _)))
  (k_with "exec For" => (
  k_here
  (with_reducible show wpAny _ _ (exec (Stmt.For (Expr.Name _ _) (Expr.Name _ _) _ _ _) _) _ _ _)
  (with_reducible rename Fr _ _ _ _ => lF')
  (with_unfolding_all refine' For_invVF lF' ?k1 ?k2 ?_; (case k1 => exact rfl); (case k2 => exact rfl); k_whole)))
  (k_with "pyIter str" => (apply hold))
  (k_with "k_all" => (assumption))
  (k_with "FPost" => (dsimp only [FPost]))
  (k_with "FEnd" => (
  k_here
  (with_reducible rename News _ _ _ _ => nE')
  k_dflt (refine' FEnd.intro ?F nE' ?sub ?hs ?hx ?hr)
  (case F => k_dflt assumption)
  (case sub => k_dflt (refine ⟨by k_mem, fun p hp => ?_⟩; simp [hp]))
  (case hs => k_dflt assumption)
  (case hx => k_dflt (first | rfl | (symm; assumption) | ((with_reducible rename es _ = _ => he'); rw [he']; rfl)))
  (case hr => k_dflt (walk_at "c_same"))))
  (k_with "c_sameC" => (intro z h3; have h4 := h3; simp only [List.contains_cons, List.contains_nil, Bool.or_false, beq_eq_false_iff_ne, ne_eq, Bool.or_eq_false_iff] at h4; simp [h3, h4]))
  (k_with "c_mem" => (first
  | exact List.Mem.head _ | exact List.Mem.tail _ (.head _) | exact List.Mem.tail _ (.tail _ (.head _)) | exact List.Mem.tail _ (.tail _ (.tail _ (.head _)))
  | exact List.Mem.tail _ (.tail _ (.tail _ (.tail _ (.head _)))) | exact List.Mem.tail _ (.tail _ (.tail _ (.tail _ (.tail _ (.head _))))) | exact List.Mem.tail _ (.tail _ (.tail _ (.tail _ (.tail _ (.tail _ (.head _))))))))
  (k_with "c_step" => (first
  | (k_unfold; (try dsimp only))
  | (with_reducible refine itT ?_)
  | (with_reducible refine itF ?_)
  | ((with_reducible refine' ite_lt_pos ?h ?_); (case h => omega))
  | ((with_reducible refine' ite_lt_neg ?h ?_); (case h => omega))
  | (refine same ?_; k_unfold; (try dsimp only))
  | (k_end; wrow_close)
  | walk1
  | (dsimp only; walk1)
  | (leave1; walk_say "STEP leave1"; try dsimp only)
  | fail "no step"))
  (k_with "c_pureC" => (refine' code_pureC ?k1 ?k2 ?k3 ?k5 ?kA ?kF ?kK ?k6 ?k7 ?k8 ?k9 ?kB ?kD ?_ ?c2 ?c3 ?c4; (case kA => exact rfl); (case kF => exact rfl); (case kK => first | exact rfl | assumption); (case k1 => k_asm); (case k2 => k_asm); (case k3 => k_asm); (case k5 => k_asm); (case k6 => k_is); (case k7 => k_is); (case k8 => walk_at "c_room"); (case k9 => exact BindsTo.of_eq rfl); (case kB => exact rfl); (case kD => decide +kernel); (case c2 => exact rfl); (case c3 => exact rfl); (case c4 => exact rfl); k_whole; intro g' L' h' tk' cells' hG F' N' Y' B' X' T'; k_cells Y'; (try simp only [List.cons_append, List.nil_append] at N'); (try dsimp only); (try k_fold)))
  (k_with "c_openC" => (
  (dsimp only [Ctr]); (intros)
  (refine wpAny_call ?_)
  (k_dflt (walk_at "c_pureC"))))
  (k_with "TPostC" => (dsimp only [TPostC]))
  (k_with "TEndC" => (
  k_here
  (with_reducible rename News _ _ _ _ => nE')
  k_dflt (refine' TEndC.intro ?F nE' ?sub ?hs ?hx ?hat ?hi ?hr)
  (case F => k_dflt assumption)
  (case sub => k_dflt (refine ⟨by walk_at "c_mem", by walk_at "c_mem", fun p hp => ?_⟩; (simp only [List.mem_singleton] at hp); (rw [hp]); walk_at "c_mem"))
  (case hat => k_dflt assumption)
  (case hs => k_dflt assumption)
  (case hx => k_dflt (first | rfl | (symm; assumption)))
  (case hi => k_dflt (simp only [List.map_append, List.flatten_append, List.length_append, List.map_cons, List.map_nil, List.flatten_cons, List.flatten_nil, List.length_cons, List.length_nil, Int.natCast_add, *] <;> omega))
  (case hr => k_dflt (walk_at "c_sameC"))))
  (k_with "compareOp NotEq str str" => (
  k_here
  (with_reducible show wpAny _ _ (compareOp _ (Value.str (S [_]) _) _) _ _ _)
  k_dflt (refine' r_ne_yes pct_is (one_ne (by assumption)) ?_)))
  (k_with "k_room" => ((try simp only [depth_mark, depth_under_make, depth_under_kw, depth_in1, depth_deeper, depth_caller]); (try dsimp only [ktrTop]); first | omega | decide))
  (k_with "call ref" => (
  k_here
  (with_reducible show wpAny _ _ (call (Value.ref 309) _) _ _ _)
  k_dflt (refine' use (c_octet_text _ _ ?ho ?hn) ?B ?F ?X ?N ?T ?K ?d ?u ?_)
  (case ho => k_dflt (first | exact rfl | exact (Int.toNat_of_nonneg (by omega)).symm))
  (case hn => k_dflt (first | omega | decide))
  walk_at "c_use"))
  (k_with "call ref" => (
  k_here
  (with_reducible show wpAny _ _ (call (Value.ref 295) _) _ _ _)
  k_dflt (refine' use_l (c_octets_euro _ _) ?B ?F ?X ?N ?T ?K ?d ?u ?_)
  walk_at "c_use_l"
  (rintro ⟨t1, t2, t3, hx9⟩); (subst hx9)
  (try dsimp only)
  (try k_fold)))
  (k_with "call ref" => (
  k_here
  (with_reducible show wpAny _ _ (call (Value.ref 316) _) _ _ _)
  k_dflt (refine' use (c_whole _ _ _ ?D ?hi ?hl ?hc) ?B ?F ?X ?N ?T ?K ?d ?u ?_)
  (case D => k_dflt assumption)
  (case hi => k_dflt (first | rfl | omega))
  (case hl => k_dflt (first | assumption | omega))
  (case hc => k_dflt (first | assumption | decide | omega))
  walk_at "c_use"))
  exact True.intro
namespace Mine
theorem c_esc (w : World) {l : List Nat} (tt : Tok) (hl : l.length ≤ 100000) (hu : ∀ c ∈ l, c ∈ AE) : Ctr w 4 375 [.str (S l) tt] (fun t => .str (S ((l.map es).flatten)) t) := by
  have h2 := S_len l
  have hw := flat_len es_len l
  walk_at "c_open"
  walk_at "c_steps"
  (rename Fr _ _ _ _ => F0); (rename News _ _ _ _ => N0)
  refine unhold (f_list l es [Str.ofString "unit"] rfl F0 N0 (by k_mem) ?turn ?done)
  case turn =>
    clear F0 N0 hw
    intro pre c r vs e t u h tk own hpre hs hown F N
    have hc := hu c (by rw [← hpre]; simp)
    have hvs := hs.lenm
    have hlt : pre.length < l.length := by rw [← hpre]; simp
    clear hpre hu
    rcases AE_kinds hc with ⟨hk, he, -⟩ | ⟨hc1, hk, he⟩ | rfl
    · walk_at "c_steps"
    · walk_at "c_steps"
    · have hk : 8364 ∉ keptL := by decide
      walk_at "c_steps"
  case done =>
    clear F0 N0 hu
    intro vs e u h tk hs F N
    have hw2 : ((l.map es).flatten).length ≤ 16777216 := by omega
    walk_at "c_steps"
    all_goals walk_at "c_close"
end Mine
theorem Mine.none7 : True := by
  w_top off
  k_with_none
  exact True.intro
open Mine
theorem Mine.ln14 : True := by
  (k_with "c_room" => ((try simp only [depth_under_make, depth_under_kw, depth_in1, depth_deeper, depth_caller]); (try dsimp only [ktrTop]); first | omega | decide))
  (k_with "c_units" => ((have hcL9 := cLine_is); (try simp only [units_in1, units_deeper, Around.mark_units, units_caller]); (try dsimp only [ktrTop]); omega))
  (k_with "c_enter" => (refine' code_def ?k1 ?k2 ?k3 ?k4 ?k5 ?kA ?kF ?kK ?k6 ?k7 ?k8 ?k9 ?kB ?_ ?c2 ?c3 ?c4 ?c5; (case kA => exact rfl); (case kF => exact rfl); (case kK => first | exact rfl | assumption); (case k1 => k_asm); (case k2 => k_asm); (case k3 => k_asm); (case k4 => k_asm); (case k5 => k_asm); (case k6 => k_is); (case k7 => k_is); (case k8 => walk_at "c_room"); (case k9 => exact BindsTo.of_eq rfl); (case c5 => decide); (case kB => exact locs rfl); (case c2 => exact rfl); (case c3 => exact rfl); (case c4 => exact rfl); k_whole; intro g' L' h' FG' F' N' B' X' T'; (try dsimp only); (try k_lift B'); (try k_fold)))
  (k_with "c_pure" => (refine' code_pure ?k1 ?k2 ?k3 ?k5 ?kA ?kF ?kK ?k6 ?k7 ?k8 ?k9 ?kB ?_ ?c2 ?c3 ?c4 ?c5; (case kA => exact rfl); (case kF => exact rfl); (case kK => first | exact rfl | assumption); (case k1 => k_asm); (case k2 => k_asm); (case k3 => k_asm); (case k5 => k_asm); (case k6 => k_is); (case k7 => k_is); (case k8 => walk_at "c_room"); (case k9 => exact BindsTo.of_eq rfl); (case c5 => decide); (case kB => exact locs rfl); (case c2 => exact rfl); (case c3 => exact rfl); (case c4 => exact rfl); k_whole; intro g' L' h' hG F' N' B' X' T'; (try dsimp only); (try k_fold)))
  (k_with "c_open" => (
  (dsimp only [Ctr]); (intros)
  (refine wpAny_call ?_)
  (k_dflt (walk_at "c_pure"))))
  (k_with "LeaveP" => (k_dflt (refine' leaveP_ ?k1 ?_; (case k1 => k_asm); k_whole); intro kP; (try dsimp only)))
  (k_with "c_close" => (
  refine same ?_
  first
  | exact CRet.out (by assumption) (by assumption) (by assumption)
  | (refine' CRet.str (by assumption) (by assumption) ?e (by assumption); (case e => first | exact rfl | decide +kernel | (simp [S]; done)))
  | (refine' CRet.int (by assumption) (by assumption) ?e (by assumption); (case e => omega))))
  (k_with "c_use" => (
  (case B => k_dflt k_asm); (case F => k_dflt k_asm); (case X => k_dflt k_asm); (case N => k_dflt k_asm); (case T => k_dflt k_asm)
  (case K => first | exact rfl | assumption)
  (case d => walk_at "c_room"); (case u => walk_at "c_units")
  (intro t9 h9 tk9 F9 N9)
  (try dsimp only)
  (try k_fold)))
  (k_with "subscriptTail Name Slice str ref" => (
  k_here
  (with_reducible show wpAny _ _ (subscriptTail _ (Expr.Slice (some _) (some _) none _) _ _) _ _ _)
  (with_reducible rename Fr _ _ _ _ => F')
  (with_reducible rename News _ _ _ _ => N')
  k_dflt (first
    | (refine' r_s01 (s := ⟨_, _, _, _, _⟩) (by assumption) F' N' ?hl ?hi ?hj ?_; (case hi => omega); (case hj => omega); (case hl => first | assumption | omega))
    | (refine' r_s01n (s := ⟨_, _, _, _, _⟩) (by assumption) F' N' ?hl ?hi ?hj ?_; (case hi => omega); (case hj => omega); (case hl => first | assumption | omega))
    | (refine' r_s13 (s := ⟨_, _, _, _, _⟩) (by assumption) F' N' ?hl ?hi ?hj ?_; (case hi => omega); (case hj => omega); (case hl => first | assumption | omega))
    | (refine' r_s02 (s := ⟨_, _, _, _, _⟩) (by assumption) F' N' ?hl ?hi ?hj ?_; (case hi => omega); (case hj => omega); (case hl => first | assumption | omega))
    | (refine' r_s02e (s := ⟨_, _, _, _, _⟩) (by assumption) F' N' ?hl ?hi ?hj ?_; (case hi => omega); (case hj => omega); (case hl => first | assumption | omega))
    | (refine' r_s26 (s := ⟨_, _, _, _, _⟩) (by assumption) F' N' ?hl ?hi ?hj ?_; (case hi => omega); (case hj => omega); (case hl => first | assumption | omega))
    | (refine' r_s12 (s := ⟨_, _, _, _, _⟩) (by assumption) F' N' ?hl ?hi ?hj ?_; (case hi => omega); (case hj => omega); (case hl => first | assumption | omega)))
  (intro h' t' k' F' N')))
  (k_with "subscriptTail Name Name str int" => (
  k_here
  k_dflt (refine' r_item 0 ?D ?hk ?hi ?hl ?_)
  (case D => k_dflt assumption)
  (case hk => k_dflt exact rfl)
  (case hl => k_dflt (first | assumption | omega))
  (case hi => k_dflt omega)))
  (k_with "subscriptTail Name BinOp str int" => (
  k_here
  k_dflt (first | refine' r_hex (Int.toNat_of_nonneg (by decide +kernel)).symm (by decide +kernel) ?_ | refine' r_hex (hex_hi _) (by omega) ?_ | refine' r_hex (hex_lo _) (by omega) ?_)))
  (k_with "call ref" => (
  k_here
  (with_reducible show wpAny _ _ (call (Value.ref _) _) _ _ _)
  k_dflt (refine wpAny_call ?_; walk_at "c_enter")))
  (k_with "exec While" => (
  k_here
  (with_reducible show wpAny _ _ (exec (Stmt.While (Expr.BoolOp _ _ _) _ _ _) _) _ _ _)
  (with_reducible rename Fr _ _ _ _ => F')
  (with_reducible rename News _ _ _ _ => N')
  k_dflt (refine' w_zero F' N' ?_)
  (clear F' N'; intro h' tk' F' N')))
  (k_with "exec While" => (
  k_here
  (with_reducible show wpAny _ _ (exec (Stmt.While (Expr.Compare _ _ _ _) _ _ _) _) _ _ _)
  (apply hold)))
  (k_with "compareOp In str str" => (
  k_here
  k_dflt (first
    | refine' r_in_yes plain_is (by assumption) ?_
    | refine' r_in_no plain_is (by assumption) ?_
    | refine' r_in_yes kept_is (by assumption) ?_
    | refine' r_in_no kept_is (by assumption) ?_
    | refine' r_in_no blank_is (by first | assumption | decide) ?_)))
  (k_with "c_step" => (first | (k_unfold; (try dsimp only)) | (refine same ?_; k_unfold; (try dsimp only)) | (k_end; wrow_close) | walk1 | (dsimp only; walk1) | (leave1; walk_say "STEP leave1"; try dsimp only) | fail "no step"))
  (k_with "c_steps" => (repeat' walk_at "c_step"))
  (k_with "callWith" => (
  k_here
  (with_reducible show wpAny _ _ (callWith _ (Value.builtin _) [_] _ _) _ _ _)
  k_dflt (first | with_reducible refine callWith_method0 ?_ | refine callWith_method1 ?_)))
  (k_with "c_ls" => (first | assumption | exact TxtsAre.nil | (apply TxtsAre.cons; walk_at "c_ls")))
  (k_with "call builtin:str.join" => (
  k_here
  (with_reducible show wpAny _ _ (call (Value.builtin "str.join") [Value.str _ _, Value.ref _]) _ _ _)
  k_dflt (refine' r_join ?hl ?hi rfl ?hw ?_)
  (case hl => k_dflt (first | is_list | exact News.isList (by k_asm) (by k_mem)))
  (case hi => (try simp only [List.nil_append, List.cons_append]); k_dflt (walk_at "c_ls"))
  (case hw => k_dflt (first | assumption | decide | exact Nat.le_of_ble_eq_true rfl | omega))
  (intro _ _)))
  (k_with "TPost" => (dsimp only [TPost]))
  (k_with "c_size" => (rw [PySem.sizeLine_eq]; (try simp only [List.size_toArray, Array.size_push, List.length_append, List.length_cons, List.length_nil]); omega))
  (k_with "call builtin:list.append" => (
  k_here
  (with_reducible show wpAny _ _ (call (Value.builtin _) [Value.ref _, _]) _ _ _)
  k_dflt (refine' append_K ?k1 ?k2 ?k3 ?_ ?z)
  (case k1 => k_dflt k_asm); (case k2 => k_dflt k_asm); (case k3 => k_dflt k_upd); (case z => k_dflt (walk_at "c_size"))
  k_whole
  (intro h' F' N'); (try k_sweep)))
  (k_with "c_same" => (intro z h2 h3; have h4 := h3; simp only [List.contains_cons, List.contains_nil, Bool.or_false, beq_eq_false_iff_ne, ne_eq, Bool.or_eq_false_iff] at h4; simp [h2, h3, h4]))
  (k_with "TEnd" => (
  k_here
  (with_reducible rename News _ _ _ _ => nE')
  k_dflt (refine' TEnd.intro ?F nE' ?sub ?hs ?hx ?hat ?hi ?hr)
  (case F => k_dflt assumption)
  (case sub => k_dflt (exact ⟨by k_mem, fun p hp => (nomatch hp)⟩))
  (case hat => k_dflt (exact rfl))
  (case hs => k_dflt assumption)
  (case hx => k_dflt (first | rfl | (symm; assumption) | ((with_reducible rename oc _ = _ => he'); rw [he']; rfl)))
  (case hi => k_dflt (simp only [List.map_append, List.flatten_append, List.length_append, List.map_cons, List.map_nil, List.flatten_cons, List.flatten_nil, List.length_cons, List.length_nil, Int.natCast_add, *] <;> omega))
  (case hr => k_dflt (walk_at "c_same"))))
  (k_with "c_use_l" => (
  (case B => k_dflt k_asm); (case F => k_dflt k_asm); (case X => k_dflt k_asm); (case N => k_dflt k_asm); (case T => k_dflt k_asm)
  (case K => first | exact rfl | assumption)
  (case d => walk_at "c_room"); (case u => walk_at "c_units")
  (intro l9 xs9 e9 h9 tk9 F9 N9 ne9)
  (simp only [List.forall_mem_cons, List.not_mem_nil, false_implies, implies_true, and_true] at ne9)))
  (k_with "c_close_l" => (
  refine same ?_
  (with_reducible rename News _ _ _ _ => nE')
  (refine' CRetL.out (by assumption) (by assumption) (by assumption) nE' ?hm ?hi)
  (case hm => k_dflt (first | walk_at "c_mem" | k_mem))
  (case hi => exact ⟨_, _, _, rfl⟩)))
  (k_with "k_ne" => ((try dsimp only); first
  | with_reducible assumption | with_reducible exact Ne.symm (by assumption)
  | with_reducible exact And.left (by assumption) | with_reducible exact Ne.symm (And.left (by assumption))
  | with_reducible exact And.right (by assumption) | with_reducible exact Ne.symm (And.right (by assumption))
  | with_reducible exact And.left (And.right (by assumption)) | with_reducible exact Ne.symm (And.left (And.right (by assumption)))
  | with_reducible exact And.right (And.right (by assumption)) | with_reducible exact Ne.symm (And.right (And.right (by assumption)))
  | with_reducible exact And.left (And.right (And.right (by assumption))) | with_reducible exact Ne.symm (And.left (And.right (And.right (by assumption))))
  | with_reducible exact And.right (And.right (And.right (by assumption))) | with_reducible exact Ne.symm (And.right (And.right (And.right (by assumption))))
  | with_reducible exact Nat.ne_of_lt (by assumption) | with_reducible exact Nat.ne_of_gt (by assumption)
  | with_reducible exact Nat.ne_of_gt (And.left (by assumption)) | with_reducible exact Nat.ne_of_lt (And.left (by assumption))
  | with_reducible exact Nat.ne_of_gt (And.left (And.right (by assumption))) | with_reducible exact Nat.ne_of_lt (And.left (And.right (by assumption)))))
  (k_with "binaryOp RShift int int" => (
  k_here
  k_dflt (refine rshift_int (by decide) ?_)))
  (k_with "eval ListComp" => (
  k_here
  (with_reducible show wpAny _ _ (eval (Expr.ListComp _ [⟨_, Expr.Name _ _, _, _⟩] _ _) _) _ _ _)
  k_dflt (refine comp_text (by k_asm) (by rfl) (by decide) (by rfl) (by decide) (by rfl) ?_)))
  (k_with "CText" => (apply hold))
  (k_with "CompEnd" => (
  k_here
  (with_reducible rename News _ _ _ _ => nE')
  k_dflt (refine' cend ?F nE' ?sub ?off ?_)
  (case F => k_dflt assumption)
  (case sub => k_dflt lcg_sub)
  (case off => k_dflt (first | exact True.intro | assumption))))
  (k_with "binaryOp Add str str" => (
  k_here
  k_dflt (first | refine' r_add s22 rfl ?hs ?_ | refine' r_add rfl s22 ?hs ?_)
  (case hs => k_dflt (simp only [List.length_append, List.length_cons, List.length_nil]; omega))
  (intro _ _)))
  (k_with "exec For" => (
  k_here
  (with_reducible show wpAny _ _ (exec (Stmt.For (Expr.Name _ _) (Expr.Name _ _) _ _ _) _) _ _ _)
  (with_reducible rename Fr _ _ _ _ => lF')
  (with_unfolding_all refine' For_invVF lF' ?k1 ?k2 ?_; (case k1 => exact rfl); (case k2 => exact rfl); k_whole)))
  (k_with "pyIter str" => (apply hold))
  (k_with "k_all" => (assumption))
  (k_with "FPost" => (dsimp only [FPost]))
  (k_with "FEnd" => (
  k_here
  (with_reducible rename News _ _ _ _ => nE')
  k_dflt (refine' FEnd.intro ?F nE' ?sub ?hs ?hx ?hr)
  (case F => k_dflt assumption)
  (case sub => k_dflt (refine ⟨by k_mem, fun p hp => ?_⟩; simp [hp]))
  (case hs => k_dflt assumption)
  (case hx => k_dflt (first | rfl | (symm; assumption) | ((with_reducible rename es _ = _ => he'); rw [he']; rfl)))
  (case hr => k_dflt (walk_at "c_same"))))
  (k_with "c_sameC" => (intro z h3; have h4 := h3; simp only [List.contains_cons, List.contains_nil, Bool.or_false, beq_eq_false_iff_ne, ne_eq, Bool.or_eq_false_iff] at h4; simp [h3, h4]))
  (k_with "c_mem" => (first
  | exact List.Mem.head _ | exact List.Mem.tail _ (.head _) | exact List.Mem.tail _ (.tail _ (.head _)) | exact List.Mem.tail _ (.tail _ (.tail _ (.head _)))
  | exact List.Mem.tail _ (.tail _ (.tail _ (.tail _ (.head _)))) | exact List.Mem.tail _ (.tail _ (.tail _ (.tail _ (.tail _ (.head _))))) | exact List.Mem.tail _ (.tail _ (.tail _ (.tail _ (.tail _ (.tail _ (.head _))))))))
  (k_with "c_step" => (first
  | (k_unfold; (try dsimp only))
  | (with_reducible refine itT ?_)
  | (with_reducible refine itF ?_)
  | ((with_reducible refine' ite_lt_pos ?h ?_); (case h => omega))
  | ((with_reducible refine' ite_lt_neg ?h ?_); (case h => omega))
  | (refine same ?_; k_unfold; (try dsimp only))
  | (k_end; wrow_close)
  | walk1
  | (dsimp only; walk1)
  | (leave1; walk_say "STEP leave1"; try dsimp only)
  | fail "no step"))
  (k_with "c_pureC" => (refine' code_pureC ?k1 ?k2 ?k3 ?k5 ?kA ?kF ?kK ?k6 ?k7 ?k8 ?k9 ?kB ?kD ?_ ?c2 ?c3 ?c4; (case kA => exact rfl); (case kF => exact rfl); (case kK => first | exact rfl | assumption); (case k1 => k_asm); (case k2 => k_asm); (case k3 => k_asm); (case k5 => k_asm); (case k6 => k_is); (case k7 => k_is); (case k8 => walk_at "c_room"); (case k9 => exact BindsTo.of_eq rfl); (case kB => exact rfl); (case kD => decide +kernel); (case c2 => exact rfl); (case c3 => exact rfl); (case c4 => exact rfl); k_whole; intro g' L' h' tk' cells' hG F' N' Y' B' X' T'; k_cells Y'; (try simp only [List.cons_append, List.nil_append] at N'); (try dsimp only); (try k_fold)))
  (k_with "c_openC" => (
  (dsimp only [Ctr]); (intros)
  (refine wpAny_call ?_)
  (k_dflt (walk_at "c_pureC"))))
  (k_with "TPostC" => (dsimp only [TPostC]))
  (k_with "TEndC" => (
  k_here
  (with_reducible rename News _ _ _ _ => nE')
  k_dflt (refine' TEndC.intro ?F nE' ?sub ?hs ?hx ?hat ?hi ?hr)
  (case F => k_dflt assumption)
  (case sub => k_dflt (refine ⟨by walk_at "c_mem", by walk_at "c_mem", fun p hp => ?_⟩; (simp only [List.mem_singleton] at hp); (rw [hp]); walk_at "c_mem"))
  (case hat => k_dflt assumption)
  (case hs => k_dflt assumption)
  (case hx => k_dflt (first | rfl | (symm; assumption)))
  (case hi => k_dflt (simp only [List.map_append, List.flatten_append, List.length_append, List.map_cons, List.map_nil, List.flatten_cons, List.flatten_nil, List.length_cons, List.length_nil, Int.natCast_add, *] <;> omega))
  (case hr => k_dflt (walk_at "c_sameC"))))
  (k_with "compareOp NotEq str str" => (
  k_here
  (with_reducible show wpAny _ _ (compareOp _ (Value.str (S [_]) _) _) _ _ _)
  k_dflt (refine' r_ne_yes pct_is (one_ne (by assumption)) ?_)))
  (k_with "k_room" => ((try simp only [depth_mark, depth_under_make, depth_under_kw, depth_in1, depth_deeper, depth_caller]); (try dsimp only [ktrTop]); first | omega | decide))
  (k_with "call builtin:str.find" => (
  k_here
  k_dflt (first | refine' r_find_hi (by assumption) ?_ | refine' r_find_lo (by assumption) (by assumption) ?_)))
  (k_with "IPost" => (dsimp only [IPost]))
  (k_with "IEnd" => (
  k_here
  (with_reducible rename News _ _ _ _ => nE')
  (with_reducible rename hv _ = _ => hn')
  k_dflt (refine' IEnd.intro ?F nE' ?sub ?hy ?hi ?hr)
  (case F => k_dflt assumption)
  (case sub => k_dflt (first | exact fun p hp => hp | (intro p hp; simp [hp])))
  (case hy => k_dflt (exact rfl))
  (case hi => k_dflt (rw [hn']; omega))
  (case hr => k_dflt (intro z h1 h2 h3; have h4 := h3; simp only [List.contains_cons, List.contains_nil, Bool.or_false, beq_eq_false_iff_ne, ne_eq, Bool.or_eq_false_iff] at h4; simp [h1, h2, h3, h4]))))
  exact True.intro
namespace Mine
theorem c_hex (w : World) {l : List Nat} (tt : Tok) (hl : l.length ≤ 100) (hd : ∀ c ∈ l, ∃ k, k < 16 ∧ c = hexU k) : Ctr w 1 328 [.str (S l) tt] (fun t => .int (hv l : Int) t) := by
  have h2 := S_len l
  walk_at "c_open"
  walk_at "c_steps"
  (rename Fr _ _ _ _ => F0); (rename News _ _ _ _ => N0)
  refine unhold (f_int l (fun p => (hv p : Int)) (Str.ofString "found") [Str.ofString "figure"] (by decide) rfl F0 N0 rfl ?turn ?done)
  case turn =>
    clear F0 N0
    intro pre c r t v u h tk own hpre F N
    obtain ⟨k, hk, rfl⟩ := hd c (by rw [← hpre]; simp)
    have hn := hv_snoc pre (hexU k)
    rw [unhex_hexU hk] at hn
    have hpl : pre.length < 100 := by have := congrArg List.length hpre; simp at this; omega
    clear hpre hd
    rcases Nat.lt_or_ge k 10 with h10 | h10
    · have hi : (if k < 10 then (k : Int) else -1) = (k : Int) := if_pos h10
      walk_at "c_steps"
    · have hi : (if k < 10 then (k : Int) else -1) = -1 := if_neg (by omega)
      walk_at "c_steps"
  case done =>
    clear F0 N0 hd
    intro v u h tk F N
    walk_at "c_steps"
    all_goals walk_at "c_close"
end Mine
theorem Mine.ln15 : True := by
  (k_with "call ref" => (
  k_here
  (with_reducible show wpAny _ _ (call (Value.ref 328) _) _ _ _)
  k_dflt (refine' use (c_hex _ _ ?hl ?hd) ?B ?F ?X ?N ?T ?K ?d ?u ?_)
  (case hl => k_dflt (exact Nat.le_of_ble_eq_true rfl))
  (case hd => k_dflt assumption)
  walk_at "c_use"))
  exact True.intro
theorem Mine.none8 : True := by
  w_top off
  k_with_none
  exact True.intro
open Mine
theorem Mine.ln16 : True := by
  (k_with "c_room" => ((try simp only [depth_under_make, depth_under_kw, depth_in1, depth_deeper, depth_caller]); (try dsimp only [ktrTop]); first | omega | decide))
  (k_with "c_units" => ((have hcL9 := cLine_is); (try simp only [units_in1, units_deeper, Around.mark_units, units_caller]); (try dsimp only [ktrTop]); omega))
  (k_with "c_enter" => (refine' code_def ?k1 ?k2 ?k3 ?k4 ?k5 ?kA ?kF ?kK ?k6 ?k7 ?k8 ?k9 ?kB ?_ ?c2 ?c3 ?c4 ?c5; (case kA => exact rfl); (case kF => exact rfl); (case kK => first | exact rfl | assumption); (case k1 => k_asm); (case k2 => k_asm); (case k3 => k_asm); (case k4 => k_asm); (case k5 => k_asm); (case k6 => k_is); (case k7 => k_is); (case k8 => walk_at "c_room"); (case k9 => exact BindsTo.of_eq rfl); (case c5 => decide); (case kB => exact locs rfl); (case c2 => exact rfl); (case c3 => exact rfl); (case c4 => exact rfl); k_whole; intro g' L' h' FG' F' N' B' X' T'; (try dsimp only); (try k_lift B'); (try k_fold)))
  (k_with "c_pure" => (refine' code_pure ?k1 ?k2 ?k3 ?k5 ?kA ?kF ?kK ?k6 ?k7 ?k8 ?k9 ?kB ?_ ?c2 ?c3 ?c4 ?c5; (case kA => exact rfl); (case kF => exact rfl); (case kK => first | exact rfl | assumption); (case k1 => k_asm); (case k2 => k_asm); (case k3 => k_asm); (case k5 => k_asm); (case k6 => k_is); (case k7 => k_is); (case k8 => walk_at "c_room"); (case k9 => exact BindsTo.of_eq rfl); (case c5 => decide); (case kB => exact locs rfl); (case c2 => exact rfl); (case c3 => exact rfl); (case c4 => exact rfl); k_whole; intro g' L' h' hG F' N' B' X' T'; (try dsimp only); (try k_fold)))
  (k_with "c_open" => (
  (dsimp only [Ctr]); (intros)
  (refine wpAny_call ?_)
  (k_dflt (walk_at "c_pure"))))
  (k_with "LeaveP" => (k_dflt (refine' leaveP_ ?k1 ?_; (case k1 => k_asm); k_whole); intro kP; (try dsimp only)))
  (k_with "c_close" => (
  refine same ?_
  first
  | exact CRet.out (by assumption) (by assumption) (by assumption)
  | (refine' CRet.str (by assumption) (by assumption) ?e (by assumption); (case e => first | exact rfl | decide +kernel | (simp [S]; done)))
  | (refine' CRet.int (by assumption) (by assumption) ?e (by assumption); (case e => omega))))
  (k_with "c_use" => (
  (case B => k_dflt k_asm); (case F => k_dflt k_asm); (case X => k_dflt k_asm); (case N => k_dflt k_asm); (case T => k_dflt k_asm)
  (case K => first | exact rfl | assumption)
  (case d => walk_at "c_room"); (case u => walk_at "c_units")
  (intro t9 h9 tk9 F9 N9)
  (try dsimp only)
  (try k_fold)))
  (k_with "subscriptTail Name Slice str ref" => (
  k_here
  (with_reducible show wpAny _ _ (subscriptTail _ (Expr.Slice (some _) (some _) none _) _ _) _ _ _)
  (with_reducible rename Fr _ _ _ _ => F')
  (with_reducible rename News _ _ _ _ => N')
  k_dflt (first
    | (refine' r_s01 (s := ⟨_, _, _, _, _⟩) (by assumption) F' N' ?hl ?hi ?hj ?_; (case hi => omega); (case hj => omega); (case hl => first | assumption | omega))
    | (refine' r_s01n (s := ⟨_, _, _, _, _⟩) (by assumption) F' N' ?hl ?hi ?hj ?_; (case hi => omega); (case hj => omega); (case hl => first | assumption | omega))
    | (refine' r_s13 (s := ⟨_, _, _, _, _⟩) (by assumption) F' N' ?hl ?hi ?hj ?_; (case hi => omega); (case hj => omega); (case hl => first | assumption | omega))
    | (refine' r_s02 (s := ⟨_, _, _, _, _⟩) (by assumption) F' N' ?hl ?hi ?hj ?_; (case hi => omega); (case hj => omega); (case hl => first | assumption | omega))
    | (refine' r_s02e (s := ⟨_, _, _, _, _⟩) (by assumption) F' N' ?hl ?hi ?hj ?_; (case hi => omega); (case hj => omega); (case hl => first | assumption | omega))
    | (refine' r_s26 (s := ⟨_, _, _, _, _⟩) (by assumption) F' N' ?hl ?hi ?hj ?_; (case hi => omega); (case hj => omega); (case hl => first | assumption | omega))
    | (refine' r_s12 (s := ⟨_, _, _, _, _⟩) (by assumption) F' N' ?hl ?hi ?hj ?_; (case hi => omega); (case hj => omega); (case hl => first | assumption | omega)))
  (intro h' t' k' F' N')))
  (k_with "subscriptTail Name Name str int" => (
  k_here
  k_dflt (refine' r_item 0 ?D ?hk ?hi ?hl ?_)
  (case D => k_dflt assumption)
  (case hk => k_dflt exact rfl)
  (case hl => k_dflt (first | assumption | omega))
  (case hi => k_dflt omega)))
  (k_with "subscriptTail Name BinOp str int" => (
  k_here
  k_dflt (first | refine' r_hex (Int.toNat_of_nonneg (by decide +kernel)).symm (by decide +kernel) ?_ | refine' r_hex (hex_hi _) (by omega) ?_ | refine' r_hex (hex_lo _) (by omega) ?_)))
  (k_with "call ref" => (
  k_here
  (with_reducible show wpAny _ _ (call (Value.ref _) _) _ _ _)
  k_dflt (refine wpAny_call ?_; walk_at "c_enter")))
  (k_with "exec While" => (
  k_here
  (with_reducible show wpAny _ _ (exec (Stmt.While (Expr.BoolOp _ _ _) _ _ _) _) _ _ _)
  (with_reducible rename Fr _ _ _ _ => F')
  (with_reducible rename News _ _ _ _ => N')
  k_dflt (refine' w_zero F' N' ?_)
  (clear F' N'; intro h' tk' F' N')))
  (k_with "exec While" => (
  k_here
  (with_reducible show wpAny _ _ (exec (Stmt.While (Expr.Compare _ _ _ _) _ _ _) _) _ _ _)
  (apply hold)))
  (k_with "compareOp In str str" => (
  k_here
  k_dflt (first
    | refine' r_in_yes plain_is (by assumption) ?_
    | refine' r_in_no plain_is (by assumption) ?_
    | refine' r_in_yes kept_is (by assumption) ?_
    | refine' r_in_no kept_is (by assumption) ?_
    | refine' r_in_no blank_is (by first | assumption | decide) ?_)))
  (k_with "c_step" => (first | (k_unfold; (try dsimp only)) | (refine same ?_; k_unfold; (try dsimp only)) | (k_end; wrow_close) | walk1 | (dsimp only; walk1) | (leave1; walk_say "STEP leave1"; try dsimp only) | fail "no step"))
  (k_with "c_steps" => (repeat' walk_at "c_step"))
  (k_with "callWith" => (
  k_here
  (with_reducible show wpAny _ _ (callWith _ (Value.builtin _) [_] _ _) _ _ _)
  k_dflt (first | with_reducible refine callWith_method0 ?_ | refine callWith_method1 ?_)))
  (k_with "c_ls" => (first | assumption | exact TxtsAre.nil | (apply TxtsAre.cons; walk_at "c_ls")))
  (k_with "call builtin:str.join" => (
  k_here
  (with_reducible show wpAny _ _ (call (Value.builtin "str.join") [Value.str _ _, Value.ref _]) _ _ _)
  k_dflt (refine' r_join ?hl ?hi rfl ?hw ?_)
  (case hl => k_dflt (first | is_list | exact News.isList (by k_asm) (by k_mem)))
  (case hi => (try simp only [List.nil_append, List.cons_append]); k_dflt (walk_at "c_ls"))
  (case hw => k_dflt (first | assumption | decide | exact Nat.le_of_ble_eq_true rfl | omega))
  (intro _ _)))
  (k_with "TPost" => (dsimp only [TPost]))
  (k_with "c_size" => (rw [PySem.sizeLine_eq]; (try simp only [List.size_toArray, Array.size_push, List.length_append, List.length_cons, List.length_nil]); omega))
  (k_with "call builtin:list.append" => (
  k_here
  (with_reducible show wpAny _ _ (call (Value.builtin _) [Value.ref _, _]) _ _ _)
  k_dflt (refine' append_K ?k1 ?k2 ?k3 ?_ ?z)
  (case k1 => k_dflt k_asm); (case k2 => k_dflt k_asm); (case k3 => k_dflt k_upd); (case z => k_dflt (walk_at "c_size"))
  k_whole
  (intro h' F' N'); (try k_sweep)))
  (k_with "c_same" => (intro z h2 h3; have h4 := h3; simp only [List.contains_cons, List.contains_nil, Bool.or_false, beq_eq_false_iff_ne, ne_eq, Bool.or_eq_false_iff] at h4; simp [h2, h3, h4]))
  (k_with "TEnd" => (
  k_here
  (with_reducible rename News _ _ _ _ => nE')
  k_dflt (refine' TEnd.intro ?F nE' ?sub ?hs ?hx ?hat ?hi ?hr)
  (case F => k_dflt assumption)
  (case sub => k_dflt (exact ⟨by k_mem, fun p hp => (nomatch hp)⟩))
  (case hat => k_dflt (exact rfl))
  (case hs => k_dflt assumption)
  (case hx => k_dflt (first | rfl | (symm; assumption) | ((with_reducible rename oc _ = _ => he'); rw [he']; rfl)))
  (case hi => k_dflt (simp only [List.map_append, List.flatten_append, List.length_append, List.map_cons, List.map_nil, List.flatten_cons, List.flatten_nil, List.length_cons, List.length_nil, Int.natCast_add, *] <;> omega))
  (case hr => k_dflt (walk_at "c_same"))))
  (k_with "c_use_l" => (
  (case B => k_dflt k_asm); (case F => k_dflt k_asm); (case X => k_dflt k_asm); (case N => k_dflt k_asm); (case T => k_dflt k_asm)
  (case K => first | exact rfl | assumption)
  (case d => walk_at "c_room"); (case u => walk_at "c_units")
  (intro l9 xs9 e9 h9 tk9 F9 N9 ne9)
  (simp only [List.forall_mem_cons, List.not_mem_nil, false_implies, implies_true, and_true] at ne9)))
  (k_with "c_close_l" => (
  refine same ?_
  (with_reducible rename News _ _ _ _ => nE')
  (refine' CRetL.out (by assumption) (by assumption) (by assumption) nE' ?hm ?hi)
  (case hm => k_dflt (first | walk_at "c_mem" | k_mem))
  (case hi => exact ⟨_, _, _, rfl⟩)))
  (k_with "k_ne" => ((try dsimp only); first
  | with_reducible assumption | with_reducible exact Ne.symm (by assumption)
  | with_reducible exact And.left (by assumption) | with_reducible exact Ne.symm (And.left (by assumption))
  | with_reducible exact And.right (by assumption) | with_reducible exact Ne.symm (And.right (by assumption))
  | with_reducible exact And.left (And.right (by assumption)) | with_reducible exact Ne.symm (And.left (And.right (by assumption)))
  | with_reducible exact And.right (And.right (by assumption)) | with_reducible exact Ne.symm (And.right (And.right (by assumption)))
  | with_reducible exact And.left (And.right (And.right (by assumption))) | with_reducible exact Ne.symm (And.left (And.right (And.right (by assumption))))
  | with_reducible exact And.right (And.right (And.right (by assumption))) | with_reducible exact Ne.symm (And.right (And.right (And.right (by assumption))))
  | with_reducible exact Nat.ne_of_lt (by assumption) | with_reducible exact Nat.ne_of_gt (by assumption)
  | with_reducible exact Nat.ne_of_gt (And.left (by assumption)) | with_reducible exact Nat.ne_of_lt (And.left (by assumption))
  | with_reducible exact Nat.ne_of_gt (And.left (And.right (by assumption))) | with_reducible exact Nat.ne_of_lt (And.left (And.right (by assumption)))))
  (k_with "binaryOp RShift int int" => (
  k_here
  k_dflt (refine rshift_int (by decide) ?_)))
  (k_with "eval ListComp" => (
  k_here
  (with_reducible show wpAny _ _ (eval (Expr.ListComp _ [⟨_, Expr.Name _ _, _, _⟩] _ _) _) _ _ _)
  k_dflt (refine comp_text (by k_asm) (by rfl) (by decide) (by rfl) (by decide) (by rfl) ?_)))
  (k_with "CText" => (apply hold))
  (k_with "CompEnd" => (
  k_here
  (with_reducible rename News _ _ _ _ => nE')
  k_dflt (refine' cend ?F nE' ?sub ?off ?_)
  (case F => k_dflt assumption)
  (case sub => k_dflt lcg_sub)
  (case off => k_dflt (first | exact True.intro | assumption))))
  (k_with "binaryOp Add str str" => (
  k_here
  k_dflt (first | refine' r_add s22 rfl ?hs ?_ | refine' r_add rfl s22 ?hs ?_)
  (case hs => k_dflt (simp only [List.length_append, List.length_cons, List.length_nil]; omega))
  (intro _ _)))
  (k_with "exec For" => (
  k_here
  (with_reducible show wpAny _ _ (exec (Stmt.For (Expr.Name _ _) (Expr.Name _ _) _ _ _) _) _ _ _)
  (with_reducible rename Fr _ _ _ _ => lF')
  (with_unfolding_all refine' For_invVF lF' ?k1 ?k2 ?_; (case k1 => exact rfl); (case k2 => exact rfl); k_whole)))
  (k_with "pyIter str" => (apply hold))
  (k_with "k_all" => (assumption))
  (k_with "FPost" => (dsimp only [FPost]))
  (k_with "FEnd" => (
  k_here
  (with_reducible rename News _ _ _ _ => nE')
  k_dflt (refine' FEnd.intro ?F nE' ?sub ?hs ?hx ?hr)
  (case F => k_dflt assumption)
  (case sub => k_dflt (refine ⟨by k_mem, fun p hp => ?_⟩; simp [hp]))
  (case hs => k_dflt assumption)
  (case hx => k_dflt (first | rfl | (symm; assumption) | ((with_reducible rename es _ = _ => he'); rw [he']; rfl)))
  (case hr => k_dflt (walk_at "c_same"))))
  (k_with "c_sameC" => (intro z h3; have h4 := h3; simp only [List.contains_cons, List.contains_nil, Bool.or_false, beq_eq_false_iff_ne, ne_eq, Bool.or_eq_false_iff] at h4; simp [h3, h4]))
  (k_with "c_mem" => (first
  | exact List.Mem.head _ | exact List.Mem.tail _ (.head _) | exact List.Mem.tail _ (.tail _ (.head _)) | exact List.Mem.tail _ (.tail _ (.tail _ (.head _)))
  | exact List.Mem.tail _ (.tail _ (.tail _ (.tail _ (.head _)))) | exact List.Mem.tail _ (.tail _ (.tail _ (.tail _ (.tail _ (.head _))))) | exact List.Mem.tail _ (.tail _ (.tail _ (.tail _ (.tail _ (.tail _ (.head _))))))))
  (k_with "c_step" => (first
  | (k_unfold; (try dsimp only))
  | (with_reducible refine itT ?_)
  | (with_reducible refine itF ?_)
  | ((with_reducible refine' ite_lt_pos ?h ?_); (case h => omega))
  | ((with_reducible refine' ite_lt_neg ?h ?_); (case h => omega))
  | (refine same ?_; k_unfold; (try dsimp only))
  | (k_end; wrow_close)
  | walk1
  | (dsimp only; walk1)
  | (leave1; walk_say "STEP leave1"; try dsimp only)
  | fail "no step"))
  (k_with "c_pureC" => (refine' code_pureC ?k1 ?k2 ?k3 ?k5 ?kA ?kF ?kK ?k6 ?k7 ?k8 ?k9 ?kB ?kD ?_ ?c2 ?c3 ?c4; (case kA => exact rfl); (case kF => exact rfl); (case kK => first | exact rfl | assumption); (case k1 => k_asm); (case k2 => k_asm); (case k3 => k_asm); (case k5 => k_asm); (case k6 => k_is); (case k7 => k_is); (case k8 => walk_at "c_room"); (case k9 => exact BindsTo.of_eq rfl); (case kB => exact rfl); (case kD => decide +kernel); (case c2 => exact rfl); (case c3 => exact rfl); (case c4 => exact rfl); k_whole; intro g' L' h' tk' cells' hG F' N' Y' B' X' T'; k_cells Y'; (try simp only [List.cons_append, List.nil_append] at N'); (try dsimp only); (try k_fold)))
  (k_with "c_openC" => (
  (dsimp only [Ctr]); (intros)
  (refine wpAny_call ?_)
  (k_dflt (walk_at "c_pureC"))))
  (k_with "TPostC" => (dsimp only [TPostC]))
  (k_with "TEndC" => (
  k_here
  (with_reducible rename News _ _ _ _ => nE')
  k_dflt (refine' TEndC.intro ?F nE' ?sub ?hs ?hx ?hat ?hi ?hr)
  (case F => k_dflt assumption)
  (case sub => k_dflt (refine ⟨by walk_at "c_mem", by walk_at "c_mem", fun p hp => ?_⟩; (simp only [List.mem_singleton] at hp); (rw [hp]); walk_at "c_mem"))
  (case hat => k_dflt assumption)
  (case hs => k_dflt assumption)
  (case hx => k_dflt (first | rfl | (symm; assumption)))
  (case hi => k_dflt (simp only [List.map_append, List.flatten_append, List.length_append, List.map_cons, List.map_nil, List.flatten_cons, List.flatten_nil, List.length_cons, List.length_nil, Int.natCast_add, *] <;> omega))
  (case hr => k_dflt (walk_at "c_sameC"))))
  (k_with "compareOp NotEq str str" => (
  k_here
  (with_reducible show wpAny _ _ (compareOp _ (Value.str (S [_]) _) _) _ _ _)
  k_dflt (refine' r_ne_yes pct_is (one_ne (by assumption)) ?_)))
  (k_with "k_room" => ((try simp only [depth_mark, depth_under_make, depth_under_kw, depth_in1, depth_deeper, depth_caller]); (try dsimp only [ktrTop]); first | omega | decide))
  (k_with "call builtin:str.find" => (
  k_here
  k_dflt (first | refine' r_find_hi (by assumption) ?_ | refine' r_find_lo (by assumption) (by assumption) ?_)))
  (k_with "IPost" => (dsimp only [IPost]))
  (k_with "IEnd" => (
  k_here
  (with_reducible rename News _ _ _ _ => nE')
  (with_reducible rename hv _ = _ => hn')
  k_dflt (refine' IEnd.intro ?F nE' ?sub ?hy ?hi ?hr)
  (case F => k_dflt assumption)
  (case sub => k_dflt (first | exact fun p hp => hp | (intro p hp; simp [hp])))
  (case hy => k_dflt (exact rfl))
  (case hi => k_dflt (rw [hn']; omega))
  (case hr => k_dflt (intro z h1 h2 h3; have h4 := h3; simp only [List.contains_cons, List.contains_nil, Bool.or_false, beq_eq_false_iff_ne, ne_eq, Bool.or_eq_false_iff] at h4; simp [h1, h2, h3, h4]))))
  (k_with "call ref" => (
  k_here
  (with_reducible show wpAny _ _ (call (Value.ref 328) _) _ _ _)
  k_dflt (refine' use (c_hex _ _ ?hl ?hd) ?B ?F ?X ?N ?T ?K ?d ?u ?_)
  (case hl => k_dflt (exact Nat.le_of_ble_eq_true rfl))
  (case hd => k_dflt assumption)
  walk_at "c_use"))
  exact True.intro
namespace Mine
theorem c_octet_at0 (w : World) {tl r : List Nat} {a b n : Nat} {i : Int} (tt ti : Tok) (D : tl.drop n = 37 :: a :: b :: r) (hi : i = (n : Int)) (hl : tl.length ≤ 16777216) (hd : ∀ c ∈ ([a, b] : List Nat), ∃ k, k < 16 ∧ c = hexU k) : Ctr w 3 335 [.str (S tl) tt, .int i ti] (fun t => .int ((hv [a, b] : Nat) : Int) t) := by
  have h1 := drop_len D; have h2 := S_len tl
  simp only [List.length_cons] at h1
  walk_at "c_open"
  walk_at "c_steps"
  all_goals walk_at "c_close"
theorem c_octet_at (w : World) {tl X r : List Nat} {a b n : Nat} {v : Int} {i : Int} (k : Nat) (tt ti : Tok) (D : tl.drop n = X) (hX : X.drop k = 37 :: a :: b :: r) (hi : i = ((n + k : Nat) : Int)) (hl : tl.length ≤ 16777216) (hd : ∀ c ∈ ([a, b] : List Nat), ∃ k, k < 16 ∧ c = hexU k) (hv2 : ((hv [a, b] : Nat) : Int) = v) :
    Ctr w 3 335 [.str (S tl) tt, .int i ti] (fun t => .int v t) := by
  subst hv2
  exact c_octet_at0 w tt ti ((drop_more k D).trans hX) hi hl hd
theorem c_count (w : World) {o : Nat} (to : Tok) (ho : o < 128) : Ctr w 1 342 [.int (o : Int) to] (fun t => .int 1 t) := by
  walk_at "c_open"
  walk_at "c_steps"
  all_goals walk_at "c_close"
theorem c_count3 (w : World) (to : Tok) : Ctr w 1 342 [.int 226 to] (fun t => .int 3 t) := by
  walk_at "c_open"
  walk_at "c_steps"
  all_goals walk_at "c_close"
theorem c_units (w : World) {o : Nat} {i : Int} (to : Tok) (hi : i = (o : Int)) (ho : o < 55296) : Ctr w 1 302 [.int i to] (fun t => .str (S [o]) t) := by
  subst hi
  have ho2 : (o : Int) < 55296 := by omega
  clear ho
  walk_at "c_open"
  walk_at "c_steps"
  all_goals walk_at "c_close"
theorem empty_is : Str.ofString "" = S [] := by decide +kernel
end Mine
theorem Mine.ln17 : True := by
  (k_with "call ref" => (
  k_here
  (with_reducible show wpAny _ _ (call (Value.ref 335) _) _ _ _)
  k_dflt (first
    | (refine' use (c_octet_at _ 0 _ _ ?D ?hX ?hi ?hl ?hd ?hv2) ?B ?F ?X ?N ?T ?K ?d ?u ?_; (case D => assumption); (case hX => exact rfl); (case hi => omega); (case hl => first | assumption | omega); (case hd => assumption); (case hv2 => first | assumption | exact rfl))
    | (refine' use (c_octet_at _ 3 _ _ ?D ?hX ?hi ?hl ?hd ?hv2) ?B ?F ?X ?N ?T ?K ?d ?u ?_; (case D => assumption); (case hX => exact rfl); (case hi => omega); (case hl => first | assumption | omega); (case hd => assumption); (case hv2 => first | assumption | exact rfl))
    | (refine' use (c_octet_at _ 6 _ _ ?D ?hX ?hi ?hl ?hd ?hv2) ?B ?F ?X ?N ?T ?K ?d ?u ?_; (case D => assumption); (case hX => exact rfl); (case hi => omega); (case hl => first | assumption | omega); (case hd => assumption); (case hv2 => first | assumption | exact rfl)))
  walk_at "c_use"))
  (k_with "call ref" => (
  k_here
  (with_reducible show wpAny _ _ (call (Value.ref 342) _) _ _ _)
  k_dflt (first
    | (refine' use (c_count _ _ ?ho) ?B ?F ?X ?N ?T ?K ?d ?u ?_; (case ho => first | assumption | omega))
    | refine' use (c_count3 _ _) ?B ?F ?X ?N ?T ?K ?d ?u ?_)
  walk_at "c_use"))
  (k_with "compareOp In str str" => (
  k_here
  k_dflt (refine' r_in_no empty_is List.not_mem_nil ?_)))
  exact True.intro
theorem Mine.none9 : True := by
  w_top off
  k_with_none
  exact True.intro
open Mine
theorem Mine.ln18 : True := by
  (k_with "c_room" => ((try simp only [depth_under_make, depth_under_kw, depth_in1, depth_deeper, depth_caller]); (try dsimp only [ktrTop]); first | omega | decide))
  (k_with "c_units" => ((have hcL9 := cLine_is); (try simp only [units_in1, units_deeper, Around.mark_units, units_caller]); (try dsimp only [ktrTop]); omega))
  (k_with "c_enter" => (refine' code_def ?k1 ?k2 ?k3 ?k4 ?k5 ?kA ?kF ?kK ?k6 ?k7 ?k8 ?k9 ?kB ?_ ?c2 ?c3 ?c4 ?c5; (case kA => exact rfl); (case kF => exact rfl); (case kK => first | exact rfl | assumption); (case k1 => k_asm); (case k2 => k_asm); (case k3 => k_asm); (case k4 => k_asm); (case k5 => k_asm); (case k6 => k_is); (case k7 => k_is); (case k8 => walk_at "c_room"); (case k9 => exact BindsTo.of_eq rfl); (case c5 => decide); (case kB => exact locs rfl); (case c2 => exact rfl); (case c3 => exact rfl); (case c4 => exact rfl); k_whole; intro g' L' h' FG' F' N' B' X' T'; (try dsimp only); (try k_lift B'); (try k_fold)))
  (k_with "c_pure" => (refine' code_pure ?k1 ?k2 ?k3 ?k5 ?kA ?kF ?kK ?k6 ?k7 ?k8 ?k9 ?kB ?_ ?c2 ?c3 ?c4 ?c5; (case kA => exact rfl); (case kF => exact rfl); (case kK => first | exact rfl | assumption); (case k1 => k_asm); (case k2 => k_asm); (case k3 => k_asm); (case k5 => k_asm); (case k6 => k_is); (case k7 => k_is); (case k8 => walk_at "c_room"); (case k9 => exact BindsTo.of_eq rfl); (case c5 => decide); (case kB => exact locs rfl); (case c2 => exact rfl); (case c3 => exact rfl); (case c4 => exact rfl); k_whole; intro g' L' h' hG F' N' B' X' T'; (try dsimp only); (try k_fold)))
  (k_with "c_open" => (
  (dsimp only [Ctr]); (intros)
  (refine wpAny_call ?_)
  (k_dflt (walk_at "c_pure"))))
  (k_with "LeaveP" => (k_dflt (refine' leaveP_ ?k1 ?_; (case k1 => k_asm); k_whole); intro kP; (try dsimp only)))
  (k_with "c_close" => (
  refine same ?_
  first
  | exact CRet.out (by assumption) (by assumption) (by assumption)
  | (refine' CRet.str (by assumption) (by assumption) ?e (by assumption); (case e => first | exact rfl | decide +kernel | (simp [S]; done)))
  | (refine' CRet.int (by assumption) (by assumption) ?e (by assumption); (case e => omega))))
  (k_with "c_use" => (
  (case B => k_dflt k_asm); (case F => k_dflt k_asm); (case X => k_dflt k_asm); (case N => k_dflt k_asm); (case T => k_dflt k_asm)
  (case K => first | exact rfl | assumption)
  (case d => walk_at "c_room"); (case u => walk_at "c_units")
  (intro t9 h9 tk9 F9 N9)
  (try dsimp only)
  (try k_fold)))
  (k_with "subscriptTail Name Slice str ref" => (
  k_here
  (with_reducible show wpAny _ _ (subscriptTail _ (Expr.Slice (some _) (some _) none _) _ _) _ _ _)
  (with_reducible rename Fr _ _ _ _ => F')
  (with_reducible rename News _ _ _ _ => N')
  k_dflt (first
    | (refine' r_s01 (s := ⟨_, _, _, _, _⟩) (by assumption) F' N' ?hl ?hi ?hj ?_; (case hi => omega); (case hj => omega); (case hl => first | assumption | omega))
    | (refine' r_s01n (s := ⟨_, _, _, _, _⟩) (by assumption) F' N' ?hl ?hi ?hj ?_; (case hi => omega); (case hj => omega); (case hl => first | assumption | omega))
    | (refine' r_s13 (s := ⟨_, _, _, _, _⟩) (by assumption) F' N' ?hl ?hi ?hj ?_; (case hi => omega); (case hj => omega); (case hl => first | assumption | omega))
    | (refine' r_s02 (s := ⟨_, _, _, _, _⟩) (by assumption) F' N' ?hl ?hi ?hj ?_; (case hi => omega); (case hj => omega); (case hl => first | assumption | omega))
    | (refine' r_s02e (s := ⟨_, _, _, _, _⟩) (by assumption) F' N' ?hl ?hi ?hj ?_; (case hi => omega); (case hj => omega); (case hl => first | assumption | omega))
    | (refine' r_s26 (s := ⟨_, _, _, _, _⟩) (by assumption) F' N' ?hl ?hi ?hj ?_; (case hi => omega); (case hj => omega); (case hl => first | assumption | omega))
    | (refine' r_s12 (s := ⟨_, _, _, _, _⟩) (by assumption) F' N' ?hl ?hi ?hj ?_; (case hi => omega); (case hj => omega); (case hl => first | assumption | omega)))
  (intro h' t' k' F' N')))
  (k_with "subscriptTail Name Name str int" => (
  k_here
  k_dflt (refine' r_item 0 ?D ?hk ?hi ?hl ?_)
  (case D => k_dflt assumption)
  (case hk => k_dflt exact rfl)
  (case hl => k_dflt (first | assumption | omega))
  (case hi => k_dflt omega)))
  (k_with "subscriptTail Name BinOp str int" => (
  k_here
  k_dflt (first | refine' r_hex (Int.toNat_of_nonneg (by decide +kernel)).symm (by decide +kernel) ?_ | refine' r_hex (hex_hi _) (by omega) ?_ | refine' r_hex (hex_lo _) (by omega) ?_)))
  (k_with "call ref" => (
  k_here
  (with_reducible show wpAny _ _ (call (Value.ref _) _) _ _ _)
  k_dflt (refine wpAny_call ?_; walk_at "c_enter")))
  (k_with "exec While" => (
  k_here
  (with_reducible show wpAny _ _ (exec (Stmt.While (Expr.BoolOp _ _ _) _ _ _) _) _ _ _)
  (with_reducible rename Fr _ _ _ _ => F')
  (with_reducible rename News _ _ _ _ => N')
  k_dflt (refine' w_zero F' N' ?_)
  (clear F' N'; intro h' tk' F' N')))
  (k_with "exec While" => (
  k_here
  (with_reducible show wpAny _ _ (exec (Stmt.While (Expr.Compare _ _ _ _) _ _ _) _) _ _ _)
  (apply hold)))
  (k_with "compareOp In str str" => (
  k_here
  k_dflt (first
    | refine' r_in_yes plain_is (by assumption) ?_
    | refine' r_in_no plain_is (by assumption) ?_
    | refine' r_in_yes kept_is (by assumption) ?_
    | refine' r_in_no kept_is (by assumption) ?_
    | refine' r_in_no blank_is (by first | assumption | decide) ?_)))
  (k_with "c_step" => (first | (k_unfold; (try dsimp only)) | (refine same ?_; k_unfold; (try dsimp only)) | (k_end; wrow_close) | walk1 | (dsimp only; walk1) | (leave1; walk_say "STEP leave1"; try dsimp only) | fail "no step"))
  (k_with "c_steps" => (repeat' walk_at "c_step"))
  (k_with "callWith" => (
  k_here
  (with_reducible show wpAny _ _ (callWith _ (Value.builtin _) [_] _ _) _ _ _)
  k_dflt (first | with_reducible refine callWith_method0 ?_ | refine callWith_method1 ?_)))
  (k_with "c_ls" => (first | assumption | exact TxtsAre.nil | (apply TxtsAre.cons; walk_at "c_ls")))
  (k_with "call builtin:str.join" => (
  k_here
  (with_reducible show wpAny _ _ (call (Value.builtin "str.join") [Value.str _ _, Value.ref _]) _ _ _)
  k_dflt (refine' r_join ?hl ?hi rfl ?hw ?_)
  (case hl => k_dflt (first | is_list | exact News.isList (by k_asm) (by k_mem)))
  (case hi => (try simp only [List.nil_append, List.cons_append]); k_dflt (walk_at "c_ls"))
  (case hw => k_dflt (first | assumption | decide | exact Nat.le_of_ble_eq_true rfl | omega))
  (intro _ _)))
  (k_with "TPost" => (dsimp only [TPost]))
  (k_with "c_size" => (rw [PySem.sizeLine_eq]; (try simp only [List.size_toArray, Array.size_push, List.length_append, List.length_cons, List.length_nil]); omega))
  (k_with "call builtin:list.append" => (
  k_here
  (with_reducible show wpAny _ _ (call (Value.builtin _) [Value.ref _, _]) _ _ _)
  k_dflt (refine' append_K ?k1 ?k2 ?k3 ?_ ?z)
  (case k1 => k_dflt k_asm); (case k2 => k_dflt k_asm); (case k3 => k_dflt k_upd); (case z => k_dflt (walk_at "c_size"))
  k_whole
  (intro h' F' N'); (try k_sweep)))
  (k_with "c_same" => (intro z h2 h3; have h4 := h3; simp only [List.contains_cons, List.contains_nil, Bool.or_false, beq_eq_false_iff_ne, ne_eq, Bool.or_eq_false_iff] at h4; simp [h2, h3, h4]))
  (k_with "TEnd" => (
  k_here
  (with_reducible rename News _ _ _ _ => nE')
  k_dflt (refine' TEnd.intro ?F nE' ?sub ?hs ?hx ?hat ?hi ?hr)
  (case F => k_dflt assumption)
  (case sub => k_dflt (exact ⟨by k_mem, fun p hp => (nomatch hp)⟩))
  (case hat => k_dflt (exact rfl))
  (case hs => k_dflt assumption)
  (case hx => k_dflt (first | rfl | (symm; assumption) | ((with_reducible rename oc _ = _ => he'); rw [he']; rfl)))
  (case hi => k_dflt (simp only [List.map_append, List.flatten_append, List.length_append, List.map_cons, List.map_nil, List.flatten_cons, List.flatten_nil, List.length_cons, List.length_nil, Int.natCast_add, *] <;> omega))
  (case hr => k_dflt (walk_at "c_same"))))
  (k_with "c_use_l" => (
  (case B => k_dflt k_asm); (case F => k_dflt k_asm); (case X => k_dflt k_asm); (case N => k_dflt k_asm); (case T => k_dflt k_asm)
  (case K => first | exact rfl | assumption)
  (case d => walk_at "c_room"); (case u => walk_at "c_units")
  (intro l9 xs9 e9 h9 tk9 F9 N9 ne9)
  (simp only [List.forall_mem_cons, List.not_mem_nil, false_implies, implies_true, and_true] at ne9)))
  (k_with "c_close_l" => (
  refine same ?_
  (with_reducible rename News _ _ _ _ => nE')
  (refine' CRetL.out (by assumption) (by assumption) (by assumption) nE' ?hm ?hi)
  (case hm => k_dflt (first | walk_at "c_mem" | k_mem))
  (case hi => exact ⟨_, _, _, rfl⟩)))
  (k_with "k_ne" => ((try dsimp only); first
  | with_reducible assumption | with_reducible exact Ne.symm (by assumption)
  | with_reducible exact And.left (by assumption) | with_reducible exact Ne.symm (And.left (by assumption))
  | with_reducible exact And.right (by assumption) | with_reducible exact Ne.symm (And.right (by assumption))
  | with_reducible exact And.left (And.right (by assumption)) | with_reducible exact Ne.symm (And.left (And.right (by assumption)))
  | with_reducible exact And.right (And.right (by assumption)) | with_reducible exact Ne.symm (And.right (And.right (by assumption)))
  | with_reducible exact And.left (And.right (And.right (by assumption))) | with_reducible exact Ne.symm (And.left (And.right (And.right (by assumption))))
  | with_reducible exact And.right (And.right (And.right (by assumption))) | with_reducible exact Ne.symm (And.right (And.right (And.right (by assumption))))
  | with_reducible exact Nat.ne_of_lt (by assumption) | with_reducible exact Nat.ne_of_gt (by assumption)
  | with_reducible exact Nat.ne_of_gt (And.left (by assumption)) | with_reducible exact Nat.ne_of_lt (And.left (by assumption))
  | with_reducible exact Nat.ne_of_gt (And.left (And.right (by assumption))) | with_reducible exact Nat.ne_of_lt (And.left (And.right (by assumption)))))
  (k_with "binaryOp RShift int int" => (
  k_here
  k_dflt (refine rshift_int (by decide) ?_)))
  (k_with "eval ListComp" => (
  k_here
  (with_reducible show wpAny _ _ (eval (Expr.ListComp _ [⟨_, Expr.Name _ _, _, _⟩] _ _) _) _ _ _)
  k_dflt (refine comp_text (by k_asm) (by rfl) (by decide) (by rfl) (by decide) (by rfl) ?_)))
  (k_with "CText" => (apply hold))
  (k_with "CompEnd" => (
  k_here
  (with_reducible rename News _ _ _ _ => nE')
  k_dflt (refine' cend ?F nE' ?sub ?off ?_)
  (case F => k_dflt assumption)
  (case sub => k_dflt lcg_sub)
  (case off => k_dflt (first | exact True.intro | assumption))))
  (k_with "binaryOp Add str str" => (
  k_here
  k_dflt (first | refine' r_add s22 rfl ?hs ?_ | refine' r_add rfl s22 ?hs ?_)
  (case hs => k_dflt (simp only [List.length_append, List.length_cons, List.length_nil]; omega))
  (intro _ _)))
  (k_with "exec For" => (
  k_here
  (with_reducible show wpAny _ _ (exec (Stmt.For (Expr.Name _ _) (Expr.Name _ _) _ _ _) _) _ _ _)
  (with_reducible rename Fr _ _ _ _ => lF')
  (with_unfolding_all refine' For_invVF lF' ?k1 ?k2 ?_; (case k1 => exact rfl); (case k2 => exact rfl); k_whole)))
  (k_with "pyIter str" => (apply hold))
  (k_with "k_all" => (assumption))
  (k_with "FPost" => (dsimp only [FPost]))
  (k_with "FEnd" => (
  k_here
  (with_reducible rename News _ _ _ _ => nE')
  k_dflt (refine' FEnd.intro ?F nE' ?sub ?hs ?hx ?hr)
  (case F => k_dflt assumption)
  (case sub => k_dflt (refine ⟨by k_mem, fun p hp => ?_⟩; simp [hp]))
  (case hs => k_dflt assumption)
  (case hx => k_dflt (first | rfl | (symm; assumption) | ((with_reducible rename es _ = _ => he'); rw [he']; rfl)))
  (case hr => k_dflt (walk_at "c_same"))))
  (k_with "c_sameC" => (intro z h3; have h4 := h3; simp only [List.contains_cons, List.contains_nil, Bool.or_false, beq_eq_false_iff_ne, ne_eq, Bool.or_eq_false_iff] at h4; simp [h3, h4]))
  (k_with "c_mem" => (first
  | exact List.Mem.head _ | exact List.Mem.tail _ (.head _) | exact List.Mem.tail _ (.tail _ (.head _)) | exact List.Mem.tail _ (.tail _ (.tail _ (.head _)))
  | exact List.Mem.tail _ (.tail _ (.tail _ (.tail _ (.head _)))) | exact List.Mem.tail _ (.tail _ (.tail _ (.tail _ (.tail _ (.head _))))) | exact List.Mem.tail _ (.tail _ (.tail _ (.tail _ (.tail _ (.tail _ (.head _))))))))
  (k_with "c_step" => (first
  | (k_unfold; (try dsimp only))
  | (with_reducible refine itT ?_)
  | (with_reducible refine itF ?_)
  | ((with_reducible refine' ite_lt_pos ?h ?_); (case h => omega))
  | ((with_reducible refine' ite_lt_neg ?h ?_); (case h => omega))
  | (refine same ?_; k_unfold; (try dsimp only))
  | (k_end; wrow_close)
  | walk1
  | (dsimp only; walk1)
  | (leave1; walk_say "STEP leave1"; try dsimp only)
  | fail "no step"))
  (k_with "c_pureC" => (refine' code_pureC ?k1 ?k2 ?k3 ?k5 ?kA ?kF ?kK ?k6 ?k7 ?k8 ?k9 ?kB ?kD ?_ ?c2 ?c3 ?c4; (case kA => exact rfl); (case kF => exact rfl); (case kK => first | exact rfl | assumption); (case k1 => k_asm); (case k2 => k_asm); (case k3 => k_asm); (case k5 => k_asm); (case k6 => k_is); (case k7 => k_is); (case k8 => walk_at "c_room"); (case k9 => exact BindsTo.of_eq rfl); (case kB => exact rfl); (case kD => decide +kernel); (case c2 => exact rfl); (case c3 => exact rfl); (case c4 => exact rfl); k_whole; intro g' L' h' tk' cells' hG F' N' Y' B' X' T'; k_cells Y'; (try simp only [List.cons_append, List.nil_append] at N'); (try dsimp only); (try k_fold)))
  (k_with "c_openC" => (
  (dsimp only [Ctr]); (intros)
  (refine wpAny_call ?_)
  (k_dflt (walk_at "c_pureC"))))
  (k_with "TPostC" => (dsimp only [TPostC]))
  (k_with "TEndC" => (
  k_here
  (with_reducible rename News _ _ _ _ => nE')
  k_dflt (refine' TEndC.intro ?F nE' ?sub ?hs ?hx ?hat ?hi ?hr)
  (case F => k_dflt assumption)
  (case sub => k_dflt (refine ⟨by walk_at "c_mem", by walk_at "c_mem", fun p hp => ?_⟩; (simp only [List.mem_singleton] at hp); (rw [hp]); walk_at "c_mem"))
  (case hat => k_dflt assumption)
  (case hs => k_dflt assumption)
  (case hx => k_dflt (first | rfl | (symm; assumption)))
  (case hi => k_dflt (simp only [List.map_append, List.flatten_append, List.length_append, List.map_cons, List.map_nil, List.flatten_cons, List.flatten_nil, List.length_cons, List.length_nil, Int.natCast_add, *] <;> omega))
  (case hr => k_dflt (walk_at "c_sameC"))))
  (k_with "compareOp NotEq str str" => (
  k_here
  (with_reducible show wpAny _ _ (compareOp _ (Value.str (S [_]) _) _) _ _ _)
  k_dflt (refine' r_ne_yes pct_is (one_ne (by assumption)) ?_)))
  (k_with "k_room" => ((try simp only [depth_mark, depth_under_make, depth_under_kw, depth_in1, depth_deeper, depth_caller]); (try dsimp only [ktrTop]); first | omega | decide))
  (k_with "call builtin:str.find" => (
  k_here
  k_dflt (first | refine' r_find_hi (by assumption) ?_ | refine' r_find_lo (by assumption) (by assumption) ?_)))
  (k_with "IPost" => (dsimp only [IPost]))
  (k_with "IEnd" => (
  k_here
  (with_reducible rename News _ _ _ _ => nE')
  (with_reducible rename hv _ = _ => hn')
  k_dflt (refine' IEnd.intro ?F nE' ?sub ?hy ?hi ?hr)
  (case F => k_dflt assumption)
  (case sub => k_dflt (first | exact fun p hp => hp | (intro p hp; simp [hp])))
  (case hy => k_dflt (exact rfl))
  (case hi => k_dflt (rw [hn']; omega))
  (case hr => k_dflt (intro z h1 h2 h3; have h4 := h3; simp only [List.contains_cons, List.contains_nil, Bool.or_false, beq_eq_false_iff_ne, ne_eq, Bool.or_eq_false_iff] at h4; simp [h1, h2, h3, h4]))))
  (k_with "call ref" => (
  k_here
  (with_reducible show wpAny _ _ (call (Value.ref 328) _) _ _ _)
  k_dflt (refine' use (c_hex _ _ ?hl ?hd) ?B ?F ?X ?N ?T ?K ?d ?u ?_)
  (case hl => k_dflt (exact Nat.le_of_ble_eq_true rfl))
  (case hd => k_dflt assumption)
  walk_at "c_use"))
  (k_with "call ref" => (
  k_here
  (with_reducible show wpAny _ _ (call (Value.ref 335) _) _ _ _)
  k_dflt (first
    | (refine' use (c_octet_at _ 0 _ _ ?D ?hX ?hi ?hl ?hd ?hv2) ?B ?F ?X ?N ?T ?K ?d ?u ?_; (case D => assumption); (case hX => exact rfl); (case hi => omega); (case hl => first | assumption | omega); (case hd => assumption); (case hv2 => first | assumption | exact rfl))
    | (refine' use (c_octet_at _ 3 _ _ ?D ?hX ?hi ?hl ?hd ?hv2) ?B ?F ?X ?N ?T ?K ?d ?u ?_; (case D => assumption); (case hX => exact rfl); (case hi => omega); (case hl => first | assumption | omega); (case hd => assumption); (case hv2 => first | assumption | exact rfl))
    | (refine' use (c_octet_at _ 6 _ _ ?D ?hX ?hi ?hl ?hd ?hv2) ?B ?F ?X ?N ?T ?K ?d ?u ?_; (case D => assumption); (case hX => exact rfl); (case hi => omega); (case hl => first | assumption | omega); (case hd => assumption); (case hv2 => first | assumption | exact rfl)))
  walk_at "c_use"))
  (k_with "call ref" => (
  k_here
  (with_reducible show wpAny _ _ (call (Value.ref 342) _) _ _ _)
  k_dflt (first
    | (refine' use (c_count _ _ ?ho) ?B ?F ?X ?N ?T ?K ?d ?u ?_; (case ho => first | assumption | omega))
    | refine' use (c_count3 _ _) ?B ?F ?X ?N ?T ?K ?d ?u ?_)
  walk_at "c_use"))
  (k_with "compareOp In str str" => (
  k_here
  k_dflt (refine' r_in_no empty_is List.not_mem_nil ?_)))
  exact True.intro
namespace Mine
theorem c_hexv (w : World) {l : List Nat} {v : Nat} (tt : Tok) (hl : l.length ≤ 100) (hd : ∀ c ∈ l, ∃ k, k < 16 ∧ c = hexU k) (hv2 : hv l = v) : Ctr w 1 328 [.str (S l) tt] (fun t => .int (v : Int) t) := by
  subst hv2; exact c_hex w tt hl hd
end Mine
theorem Mine.ln19 : True := by
  (k_with "compareOp Eq str str" => (
  k_here
  k_dflt (first
    | (refine' r_eq_yes pu_is ?_)
    | (refine' r_eq_no pu_is (pu_ne (by assumption)) ?_)
    | (refine' r_eq_no pu_is (pu_ne2 (by assumption)) ?_)
    | (refine' r_eq_yes pct_is ?_)
    | (refine' r_eq_no pct_is (one_ne (by assumption)) ?_))))
  (k_with "call ref" => (
  k_here
  (with_reducible show wpAny _ _ (call (Value.ref 328) _) _ _ _)
  k_dflt (refine' use (c_hexv _ _ ?hl ?hd ?hv) ?B ?F ?X ?N ?T ?K ?d ?u ?_)
  (case hl => k_dflt (exact Nat.le_of_ble_eq_true rfl))
  (case hd => k_dflt assumption)
  (case hv => k_dflt assumption)
  walk_at "c_use"))
  exact True.intro
namespace Mine
theorem c_unesc (w : World) {l : List Nat} (tt : Tok) (hl : l.length ≤ 100000) (hu : ∀ c ∈ l, c ∈ AE) : Ctr w 4 382 [.str (S ((l.map es).flatten)) tt] (fun t => .str (S ((l.map fun c => [c]).flatten)) t) := by
  have h2 := S_len ((l.map es).flatten)
  have hw := flat_len es_len l
  have hw3 := flat_len (f := fun c => [c]) (k := 1) (fun _ => Nat.le_refl _) l
  walk_at "c_open"
  walk_at "c_steps"
  (rename Fr _ _ _ _ => F0); (rename News _ _ _ _ => N0)
  refine unhold (w_text (news := []) l (fun c => [c]) (fun p => (((p.map es).flatten).length : Int)) [Str.ofString "many", Str.ofString "value"] F0 N0 ⟨.tail _ (.head _), fun p hp => (nomatch hp)⟩ rfl ?turn ?stop)
  case turn =>
    clear F0 N0 hw3
    intro pre c r vs e t u h tk hpre hs F N
    have hc := hu c (by rw [← hpre]; simp)
    have D : ((l.map es).flatten).drop ((pre.map es).flatten).length = es c ++ (r.map es).flatten := by rw [← hpre]; simp
    have hvs := hs.lenm
    have hlt : pre.length < l.length := by rw [← hpre]; simp
    clear hpre hu
    generalize (r.map es).flatten = R at D
    rcases AE_kinds hc with ⟨hk, he, h37⟩ | ⟨hc1, hk, he⟩ | rfl
    · rw [he] at D
      simp only [List.cons_append, List.nil_append] at D
      have hl1 := drop_len D
      simp only [List.length_cons] at hl1
      cases R with
      | nil =>
        walk_at "c_steps"
      | cons b R =>
        walk_at "c_steps"
    · rw [he] at D
      simp only [List.cons_append, List.nil_append] at D
      have hl1 := drop_len D
      simp only [List.length_cons] at hl1
      have hd1 : ∀ x ∈ ([hexU (c / 16), hexU (c % 16)] : List Nat), ∃ k, k < 16 ∧ x = hexU k := by
        intro x hx
        rcases List.mem_cons.mp hx with rfl | hx
        · exact ⟨c / 16, by omega, rfl⟩
        · rw [List.mem_singleton.mp hx]; exact ⟨c % 16, by omega, rfl⟩
      have hvc : hv [hexU (c / 16), hexU (c % 16)] = c := by
        show (0 * 16 + unhex (hexU (c / 16))) * 16 + unhex (hexU (c % 16)) = c
        rw [unhex_hexU (by omega), unhex_hexU (by omega)]; omega
      have h117 : hexU (c / 16) ≠ 117 := hexU_117 (by omega)
      walk_at "c_steps"
    · have he : es 8364 = [37, 117, 50, 48, 65, 67] := rfl
      rw [he] at D
      simp only [List.cons_append, List.nil_append] at D
      have hl1 := drop_len D
      simp only [List.length_cons] at hl1
      have hd1 : ∀ x ∈ ([50, 48, 65, 67] : List Nat), ∃ k, k < 16 ∧ x = hexU k := hexs (by decide)
      have hv1 : hv [50, 48, 65, 67] = 8364 := rfl
      walk_at "c_steps"
  case stop =>
    clear F0 N0 hu
    intro vs e t u h tk hs F N
    have hw2 : ((l.map fun c => [c]).flatten).length ≤ 16777216 := by omega
    walk_at "c_steps"
    all_goals walk_at "c_close"
end Mine
theorem Mine.none10 : True := by
  w_top off
  k_with_none
  exact True.intro
open Mine
theorem Mine.ln20 : True := by
  (k_with "c_room" => ((try simp only [depth_under_make, depth_under_kw, depth_in1, depth_deeper, depth_caller]); (try dsimp only [ktrTop]); first | omega | decide))
  (k_with "c_units" => ((have hcL9 := cLine_is); (try simp only [units_in1, units_deeper, Around.mark_units, units_caller]); (try dsimp only [ktrTop]); omega))
  (k_with "c_enter" => (refine' code_def ?k1 ?k2 ?k3 ?k4 ?k5 ?kA ?kF ?kK ?k6 ?k7 ?k8 ?k9 ?kB ?_ ?c2 ?c3 ?c4 ?c5; (case kA => exact rfl); (case kF => exact rfl); (case kK => first | exact rfl | assumption); (case k1 => k_asm); (case k2 => k_asm); (case k3 => k_asm); (case k4 => k_asm); (case k5 => k_asm); (case k6 => k_is); (case k7 => k_is); (case k8 => walk_at "c_room"); (case k9 => exact BindsTo.of_eq rfl); (case c5 => decide); (case kB => exact locs rfl); (case c2 => exact rfl); (case c3 => exact rfl); (case c4 => exact rfl); k_whole; intro g' L' h' FG' F' N' B' X' T'; (try dsimp only); (try k_lift B'); (try k_fold)))
  (k_with "c_pure" => (refine' code_pure ?k1 ?k2 ?k3 ?k5 ?kA ?kF ?kK ?k6 ?k7 ?k8 ?k9 ?kB ?_ ?c2 ?c3 ?c4 ?c5; (case kA => exact rfl); (case kF => exact rfl); (case kK => first | exact rfl | assumption); (case k1 => k_asm); (case k2 => k_asm); (case k3 => k_asm); (case k5 => k_asm); (case k6 => k_is); (case k7 => k_is); (case k8 => walk_at "c_room"); (case k9 => exact BindsTo.of_eq rfl); (case c5 => decide); (case kB => exact locs rfl); (case c2 => exact rfl); (case c3 => exact rfl); (case c4 => exact rfl); k_whole; intro g' L' h' hG F' N' B' X' T'; (try dsimp only); (try k_fold)))
  (k_with "c_open" => (
  (dsimp only [Ctr]); (intros)
  (refine wpAny_call ?_)
  (k_dflt (walk_at "c_pure"))))
  (k_with "LeaveP" => (k_dflt (refine' leaveP_ ?k1 ?_; (case k1 => k_asm); k_whole); intro kP; (try dsimp only)))
  (k_with "c_close" => (
  refine same ?_
  first
  | exact CRet.out (by assumption) (by assumption) (by assumption)
  | (refine' CRet.str (by assumption) (by assumption) ?e (by assumption); (case e => first | exact rfl | decide +kernel | (simp [S]; done)))
  | (refine' CRet.int (by assumption) (by assumption) ?e (by assumption); (case e => omega))))
  (k_with "c_use" => (
  (case B => k_dflt k_asm); (case F => k_dflt k_asm); (case X => k_dflt k_asm); (case N => k_dflt k_asm); (case T => k_dflt k_asm)
  (case K => first | exact rfl | assumption)
  (case d => walk_at "c_room"); (case u => walk_at "c_units")
  (intro t9 h9 tk9 F9 N9)
  (try dsimp only)
  (try k_fold)))
  (k_with "subscriptTail Name Slice str ref" => (
  k_here
  (with_reducible show wpAny _ _ (subscriptTail _ (Expr.Slice (some _) (some _) none _) _ _) _ _ _)
  (with_reducible rename Fr _ _ _ _ => F')
  (with_reducible rename News _ _ _ _ => N')
  k_dflt (first
    | (refine' r_s01 (s := ⟨_, _, _, _, _⟩) (by assumption) F' N' ?hl ?hi ?hj ?_; (case hi => omega); (case hj => omega); (case hl => first | assumption | omega))
    | (refine' r_s01n (s := ⟨_, _, _, _, _⟩) (by assumption) F' N' ?hl ?hi ?hj ?_; (case hi => omega); (case hj => omega); (case hl => first | assumption | omega))
    | (refine' r_s13 (s := ⟨_, _, _, _, _⟩) (by assumption) F' N' ?hl ?hi ?hj ?_; (case hi => omega); (case hj => omega); (case hl => first | assumption | omega))
    | (refine' r_s02 (s := ⟨_, _, _, _, _⟩) (by assumption) F' N' ?hl ?hi ?hj ?_; (case hi => omega); (case hj => omega); (case hl => first | assumption | omega))
    | (refine' r_s02e (s := ⟨_, _, _, _, _⟩) (by assumption) F' N' ?hl ?hi ?hj ?_; (case hi => omega); (case hj => omega); (case hl => first | assumption | omega))
    | (refine' r_s26 (s := ⟨_, _, _, _, _⟩) (by assumption) F' N' ?hl ?hi ?hj ?_; (case hi => omega); (case hj => omega); (case hl => first | assumption | omega))
    | (refine' r_s12 (s := ⟨_, _, _, _, _⟩) (by assumption) F' N' ?hl ?hi ?hj ?_; (case hi => omega); (case hj => omega); (case hl => first | assumption | omega)))
  (intro h' t' k' F' N')))
  (k_with "subscriptTail Name Name str int" => (
  k_here
  k_dflt (refine' r_item 0 ?D ?hk ?hi ?hl ?_)
  (case D => k_dflt assumption)
  (case hk => k_dflt exact rfl)
  (case hl => k_dflt (first | assumption | omega))
  (case hi => k_dflt omega)))
  (k_with "subscriptTail Name BinOp str int" => (
  k_here
  k_dflt (first | refine' r_hex (Int.toNat_of_nonneg (by decide +kernel)).symm (by decide +kernel) ?_ | refine' r_hex (hex_hi _) (by omega) ?_ | refine' r_hex (hex_lo _) (by omega) ?_)))
  (k_with "call ref" => (
  k_here
  (with_reducible show wpAny _ _ (call (Value.ref _) _) _ _ _)
  k_dflt (refine wpAny_call ?_; walk_at "c_enter")))
  (k_with "exec While" => (
  k_here
  (with_reducible show wpAny _ _ (exec (Stmt.While (Expr.BoolOp _ _ _) _ _ _) _) _ _ _)
  (with_reducible rename Fr _ _ _ _ => F')
  (with_reducible rename News _ _ _ _ => N')
  k_dflt (refine' w_zero F' N' ?_)
  (clear F' N'; intro h' tk' F' N')))
  (k_with "exec While" => (
  k_here
  (with_reducible show wpAny _ _ (exec (Stmt.While (Expr.Compare _ _ _ _) _ _ _) _) _ _ _)
  (apply hold)))
  (k_with "compareOp In str str" => (
  k_here
  k_dflt (first
    | refine' r_in_yes plain_is (by assumption) ?_
    | refine' r_in_no plain_is (by assumption) ?_
    | refine' r_in_yes kept_is (by assumption) ?_
    | refine' r_in_no kept_is (by assumption) ?_
    | refine' r_in_no blank_is (by first | assumption | decide) ?_)))
  (k_with "c_step" => (first | (k_unfold; (try dsimp only)) | (refine same ?_; k_unfold; (try dsimp only)) | (k_end; wrow_close) | walk1 | (dsimp only; walk1) | (leave1; walk_say "STEP leave1"; try dsimp only) | fail "no step"))
  (k_with "c_steps" => (repeat' walk_at "c_step"))
  (k_with "callWith" => (
  k_here
  (with_reducible show wpAny _ _ (callWith _ (Value.builtin _) [_] _ _) _ _ _)
  k_dflt (first | with_reducible refine callWith_method0 ?_ | refine callWith_method1 ?_)))
  (k_with "c_ls" => (first | assumption | exact TxtsAre.nil | (apply TxtsAre.cons; walk_at "c_ls")))
  (k_with "call builtin:str.join" => (
  k_here
  (with_reducible show wpAny _ _ (call (Value.builtin "str.join") [Value.str _ _, Value.ref _]) _ _ _)
  k_dflt (refine' r_join ?hl ?hi rfl ?hw ?_)
  (case hl => k_dflt (first | is_list | exact News.isList (by k_asm) (by k_mem)))
  (case hi => (try simp only [List.nil_append, List.cons_append]); k_dflt (walk_at "c_ls"))
  (case hw => k_dflt (first | assumption | decide | exact Nat.le_of_ble_eq_true rfl | omega))
  (intro _ _)))
  (k_with "TPost" => (dsimp only [TPost]))
  (k_with "c_size" => (rw [PySem.sizeLine_eq]; (try simp only [List.size_toArray, Array.size_push, List.length_append, List.length_cons, List.length_nil]); omega))
  (k_with "call builtin:list.append" => (
  k_here
  (with_reducible show wpAny _ _ (call (Value.builtin _) [Value.ref _, _]) _ _ _)
  k_dflt (refine' append_K ?k1 ?k2 ?k3 ?_ ?z)
  (case k1 => k_dflt k_asm); (case k2 => k_dflt k_asm); (case k3 => k_dflt k_upd); (case z => k_dflt (walk_at "c_size"))
  k_whole
  (intro h' F' N'); (try k_sweep)))
  (k_with "c_same" => (intro z h2 h3; have h4 := h3; simp only [List.contains_cons, List.contains_nil, Bool.or_false, beq_eq_false_iff_ne, ne_eq, Bool.or_eq_false_iff] at h4; simp [h2, h3, h4]))
  (k_with "TEnd" => (
  k_here
  (with_reducible rename News _ _ _ _ => nE')
  k_dflt (refine' TEnd.intro ?F nE' ?sub ?hs ?hx ?hat ?hi ?hr)
  (case F => k_dflt assumption)
  (case sub => k_dflt (exact ⟨by k_mem, fun p hp => (nomatch hp)⟩))
  (case hat => k_dflt (exact rfl))
  (case hs => k_dflt assumption)
  (case hx => k_dflt (first | rfl | (symm; assumption) | ((with_reducible rename oc _ = _ => he'); rw [he']; rfl)))
  (case hi => k_dflt (simp only [List.map_append, List.flatten_append, List.length_append, List.map_cons, List.map_nil, List.flatten_cons, List.flatten_nil, List.length_cons, List.length_nil, Int.natCast_add, *] <;> omega))
  (case hr => k_dflt (walk_at "c_same"))))
  (k_with "c_use_l" => (
  (case B => k_dflt k_asm); (case F => k_dflt k_asm); (case X => k_dflt k_asm); (case N => k_dflt k_asm); (case T => k_dflt k_asm)
  (case K => first | exact rfl | assumption)
  (case d => walk_at "c_room"); (case u => walk_at "c_units")
  (intro l9 xs9 e9 h9 tk9 F9 N9 ne9)
  (simp only [List.forall_mem_cons, List.not_mem_nil, false_implies, implies_true, and_true] at ne9)))
  (k_with "c_close_l" => (
  refine same ?_
  (with_reducible rename News _ _ _ _ => nE')
  (refine' CRetL.out (by assumption) (by assumption) (by assumption) nE' ?hm ?hi)
  (case hm => k_dflt (first | walk_at "c_mem" | k_mem))
  (case hi => exact ⟨_, _, _, rfl⟩)))
  (k_with "k_ne" => ((try dsimp only); first
  | with_reducible assumption | with_reducible exact Ne.symm (by assumption)
  | with_reducible exact And.left (by assumption) | with_reducible exact Ne.symm (And.left (by assumption))
  | with_reducible exact And.right (by assumption) | with_reducible exact Ne.symm (And.right (by assumption))
  | with_reducible exact And.left (And.right (by assumption)) | with_reducible exact Ne.symm (And.left (And.right (by assumption)))
  | with_reducible exact And.right (And.right (by assumption)) | with_reducible exact Ne.symm (And.right (And.right (by assumption)))
  | with_reducible exact And.left (And.right (And.right (by assumption))) | with_reducible exact Ne.symm (And.left (And.right (And.right (by assumption))))
  | with_reducible exact And.right (And.right (And.right (by assumption))) | with_reducible exact Ne.symm (And.right (And.right (And.right (by assumption))))
  | with_reducible exact Nat.ne_of_lt (by assumption) | with_reducible exact Nat.ne_of_gt (by assumption)
  | with_reducible exact Nat.ne_of_gt (And.left (by assumption)) | with_reducible exact Nat.ne_of_lt (And.left (by assumption))
  | with_reducible exact Nat.ne_of_gt (And.left (And.right (by assumption))) | with_reducible exact Nat.ne_of_lt (And.left (And.right (by assumption)))))
  (k_with "binaryOp RShift int int" => (
  k_here
  k_dflt (refine rshift_int (by decide) ?_)))
  (k_with "eval ListComp" => (
  k_here
  (with_reducible show wpAny _ _ (eval (Expr.ListComp _ [⟨_, Expr.Name _ _, _, _⟩] _ _) _) _ _ _)
  k_dflt (refine comp_text (by k_asm) (by rfl) (by decide) (by rfl) (by decide) (by rfl) ?_)))
  (k_with "CText" => (apply hold))
  (k_with "CompEnd" => (
  k_here
  (with_reducible rename News _ _ _ _ => nE')
  k_dflt (refine' cend ?F nE' ?sub ?off ?_)
  (case F => k_dflt assumption)
  (case sub => k_dflt lcg_sub)
  (case off => k_dflt (first | exact True.intro | assumption))))
  (k_with "binaryOp Add str str" => (
  k_here
  k_dflt (first | refine' r_add s22 rfl ?hs ?_ | refine' r_add rfl s22 ?hs ?_)
  (case hs => k_dflt (simp only [List.length_append, List.length_cons, List.length_nil]; omega))
  (intro _ _)))
  (k_with "exec For" => (
  k_here
  (with_reducible show wpAny _ _ (exec (Stmt.For (Expr.Name _ _) (Expr.Name _ _) _ _ _) _) _ _ _)
  (with_reducible rename Fr _ _ _ _ => lF')
  (with_unfolding_all refine' For_invVF lF' ?k1 ?k2 ?_; (case k1 => exact rfl); (case k2 => exact rfl); k_whole)))
  (k_with "pyIter str" => (apply hold))
  (k_with "k_all" => (assumption))
  (k_with "FPost" => (dsimp only [FPost]))
  (k_with "FEnd" => (
  k_here
  (with_reducible rename News _ _ _ _ => nE')
  k_dflt (refine' FEnd.intro ?F nE' ?sub ?hs ?hx ?hr)
  (case F => k_dflt assumption)
  (case sub => k_dflt (refine ⟨by k_mem, fun p hp => ?_⟩; simp [hp]))
  (case hs => k_dflt assumption)
  (case hx => k_dflt (first | rfl | (symm; assumption) | ((with_reducible rename es _ = _ => he'); rw [he']; rfl)))
  (case hr => k_dflt (walk_at "c_same"))))
  (k_with "c_sameC" => (intro z h3; have h4 := h3; simp only [List.contains_cons, List.contains_nil, Bool.or_false, beq_eq_false_iff_ne, ne_eq, Bool.or_eq_false_iff] at h4; simp [h3, h4]))
  (k_with "c_mem" => (first
  | exact List.Mem.head _ | exact List.Mem.tail _ (.head _) | exact List.Mem.tail _ (.tail _ (.head _)) | exact List.Mem.tail _ (.tail _ (.tail _ (.head _)))
  | exact List.Mem.tail _ (.tail _ (.tail _ (.tail _ (.head _)))) | exact List.Mem.tail _ (.tail _ (.tail _ (.tail _ (.tail _ (.head _))))) | exact List.Mem.tail _ (.tail _ (.tail _ (.tail _ (.tail _ (.tail _ (.head _))))))))
  (k_with "c_step" => (first
  | (k_unfold; (try dsimp only))
  | (with_reducible refine itT ?_)
  | (with_reducible refine itF ?_)
  | ((with_reducible refine' ite_lt_pos ?h ?_); (case h => omega))
  | ((with_reducible refine' ite_lt_neg ?h ?_); (case h => omega))
  | (refine same ?_; k_unfold; (try dsimp only))
  | (k_end; wrow_close)
  | walk1
  | (dsimp only; walk1)
  | (leave1; walk_say "STEP leave1"; try dsimp only)
  | fail "no step"))
  (k_with "c_pureC" => (refine' code_pureC ?k1 ?k2 ?k3 ?k5 ?kA ?kF ?kK ?k6 ?k7 ?k8 ?k9 ?kB ?kD ?_ ?c2 ?c3 ?c4; (case kA => exact rfl); (case kF => exact rfl); (case kK => first | exact rfl | assumption); (case k1 => k_asm); (case k2 => k_asm); (case k3 => k_asm); (case k5 => k_asm); (case k6 => k_is); (case k7 => k_is); (case k8 => walk_at "c_room"); (case k9 => exact BindsTo.of_eq rfl); (case kB => exact rfl); (case kD => decide +kernel); (case c2 => exact rfl); (case c3 => exact rfl); (case c4 => exact rfl); k_whole; intro g' L' h' tk' cells' hG F' N' Y' B' X' T'; k_cells Y'; (try simp only [List.cons_append, List.nil_append] at N'); (try dsimp only); (try k_fold)))
  (k_with "c_openC" => (
  (dsimp only [Ctr]); (intros)
  (refine wpAny_call ?_)
  (k_dflt (walk_at "c_pureC"))))
  (k_with "TPostC" => (dsimp only [TPostC]))
  (k_with "TEndC" => (
  k_here
  (with_reducible rename News _ _ _ _ => nE')
  k_dflt (refine' TEndC.intro ?F nE' ?sub ?hs ?hx ?hat ?hi ?hr)
  (case F => k_dflt assumption)
  (case sub => k_dflt (refine ⟨by walk_at "c_mem", by walk_at "c_mem", fun p hp => ?_⟩; (simp only [List.mem_singleton] at hp); (rw [hp]); walk_at "c_mem"))
  (case hat => k_dflt assumption)
  (case hs => k_dflt assumption)
  (case hx => k_dflt (first | rfl | (symm; assumption)))
  (case hi => k_dflt (simp only [List.map_append, List.flatten_append, List.length_append, List.map_cons, List.map_nil, List.flatten_cons, List.flatten_nil, List.length_cons, List.length_nil, Int.natCast_add, *] <;> omega))
  (case hr => k_dflt (walk_at "c_sameC"))))
  (k_with "compareOp NotEq str str" => (
  k_here
  (with_reducible show wpAny _ _ (compareOp _ (Value.str (S [_]) _) _) _ _ _)
  k_dflt (refine' r_ne_yes pct_is (one_ne (by assumption)) ?_)))
  (k_with "k_room" => ((try simp only [depth_mark, depth_under_make, depth_under_kw, depth_in1, depth_deeper, depth_caller]); (try dsimp only [ktrTop]); first | omega | decide))
  (k_with "call builtin:str.find" => (
  k_here
  k_dflt (first | refine' r_find_hi (by assumption) ?_ | refine' r_find_lo (by assumption) (by assumption) ?_)))
  (k_with "IPost" => (dsimp only [IPost]))
  (k_with "IEnd" => (
  k_here
  (with_reducible rename News _ _ _ _ => nE')
  (with_reducible rename hv _ = _ => hn')
  k_dflt (refine' IEnd.intro ?F nE' ?sub ?hy ?hi ?hr)
  (case F => k_dflt assumption)
  (case sub => k_dflt (first | exact fun p hp => hp | (intro p hp; simp [hp])))
  (case hy => k_dflt (exact rfl))
  (case hi => k_dflt (rw [hn']; omega))
  (case hr => k_dflt (intro z h1 h2 h3; have h4 := h3; simp only [List.contains_cons, List.contains_nil, Bool.or_false, beq_eq_false_iff_ne, ne_eq, Bool.or_eq_false_iff] at h4; simp [h1, h2, h3, h4]))))
  (k_with "call ref" => (
  k_here
  (with_reducible show wpAny _ _ (call (Value.ref 328) _) _ _ _)
  k_dflt (refine' use (c_hex _ _ ?hl ?hd) ?B ?F ?X ?N ?T ?K ?d ?u ?_)
  (case hl => k_dflt (exact Nat.le_of_ble_eq_true rfl))
  (case hd => k_dflt assumption)
  walk_at "c_use"))
  (k_with "call ref" => (
  k_here
  (with_reducible show wpAny _ _ (call (Value.ref 335) _) _ _ _)
  k_dflt (first
    | (refine' use (c_octet_at _ 0 _ _ ?D ?hX ?hi ?hl ?hd ?hv2) ?B ?F ?X ?N ?T ?K ?d ?u ?_; (case D => assumption); (case hX => exact rfl); (case hi => omega); (case hl => first | assumption | omega); (case hd => assumption); (case hv2 => first | assumption | exact rfl))
    | (refine' use (c_octet_at _ 3 _ _ ?D ?hX ?hi ?hl ?hd ?hv2) ?B ?F ?X ?N ?T ?K ?d ?u ?_; (case D => assumption); (case hX => exact rfl); (case hi => omega); (case hl => first | assumption | omega); (case hd => assumption); (case hv2 => first | assumption | exact rfl))
    | (refine' use (c_octet_at _ 6 _ _ ?D ?hX ?hi ?hl ?hd ?hv2) ?B ?F ?X ?N ?T ?K ?d ?u ?_; (case D => assumption); (case hX => exact rfl); (case hi => omega); (case hl => first | assumption | omega); (case hd => assumption); (case hv2 => first | assumption | exact rfl)))
  walk_at "c_use"))
  (k_with "call ref" => (
  k_here
  (with_reducible show wpAny _ _ (call (Value.ref 342) _) _ _ _)
  k_dflt (first
    | (refine' use (c_count _ _ ?ho) ?B ?F ?X ?N ?T ?K ?d ?u ?_; (case ho => first | assumption | omega))
    | refine' use (c_count3 _ _) ?B ?F ?X ?N ?T ?K ?d ?u ?_)
  walk_at "c_use"))
  (k_with "compareOp In str str" => (
  k_here
  k_dflt (refine' r_in_no empty_is List.not_mem_nil ?_)))
  (k_with "exec For Name Subscript cons nil" => (
  k_here
  (with_reducible rename Fr _ _ _ _ => lF')
  (with_unfolding_all refine' For_turns lF' ?_; k_whole)))
  (k_with "CompSrc" => (
  k_here
  k_dflt (refine LCg.CompSrc.range (by rfl) (by k_asm) (by k_asm) (by assumption) (by first | decide | rfl) (by first | rfl | decide) (by first | size_fits | exact Nat.le_of_ble_eq_true rfl) ?_)
  intro g'
  k_dflt lcg_lit))
  (k_with "exec Assign cons ListComp" => (
  k_here
  lcf_look
  k_dflt (refine LCg.Assign_ListComp_U (F₀ := by k_asm) (by rfl) (by with_unfolding_all rfl) (by with_unfolding_all rfl) (by decide) (by rfl) (by decide) (by rfl) (by rfl) (by rfl) ?_)
  k_dflt lcg_toSrc))
  (k_with "call ref" => (
  k_here
  (with_reducible show wpAny _ _ (call (Value.ref 302) _) _ _ _)
  k_dflt (first
    | (refine' use (c_units _ _ rfl ?ho) ?B ?F ?X ?N ?T ?K ?d ?u ?_; (case ho => first | assumption | omega))
    | (refine' use (c_units (o := 8364) _ _ ?hi ?ho) ?B ?F ?X ?N ?T ?K ?d ?u ?_; (case hi => decide +kernel); (case ho => decide)))
  walk_at "c_use"))
  (k_with "subscriptTail Name Name ref int" => (
  k_here
  (with_unfolding_all refine' r_pick 3 (listIn ?kx ?kf ?ko) ?k3 ?k4 ?k5 ?_ ?k6; (case kx => k_asm); (case kf => k_asm); (case ko => k_is); (case k3 => exact rfl); (case k4 => exact rfl); (case k5 => decide); (case k6 => with_unfolding_all rfl); k_whole)))
  exact True.intro
namespace Mine
theorem c_ds (w : World) {l : List Nat} (tt tk0 : Tok) (hl : l.length ≤ 100000) (hu : ∀ c ∈ l, c ∈ AU) : Ctr w 7 354 [.str (S ((l.map oc).flatten)) tt, .str (Str.ofString "") tk0] (fun t => .str (S ((l.map fun c => [c]).flatten)) t) := by
  have h2 := S_len ((l.map oc).flatten)
  have hw := flat_len oc_len l
  have hw3 := flat_len (f := fun c => [c]) (k := 1) (fun _ => Nat.le_refl _) l
  walk_at "c_openC"
  walk_at "c_steps"
  (rename Fr _ _ _ _ => F0); (rename News _ _ _ _ => N0); (rename Obj.data _ = Data.cell (some (Value.int _ _)) => D0)
  refine unhold (w_textC (news := [_]) l (fun c => [c]) (fun p => (((p.map oc).flatten).length : Int)) [Str.ofString "many", Str.ofString "octets", Str.ofString "units"] F0 N0 ⟨.tail _ (.head _), .tail _ (.tail _ (.head _)), fun p hp => (by rw [List.mem_singleton.mp hp]; exact .tail _ (.tail _ (.tail _ (.head _))))⟩ D0 ?turn ?stop)
  case turn =>
    clear F0 N0 hw3 D0
    intro pre c r vs e t oa u h tk hpre hs dA F N
    have hc := hu c (by rw [← hpre]; simp)
    have D : ((l.map oc).flatten).drop ((pre.map oc).flatten).length = oc c ++ (r.map oc).flatten := by rw [← hpre]; simp
    have hvs := hs.lenm
    have hlt : pre.length < l.length := by rw [← hpre]; simp
    clear hpre hu
    rcases AU_kinds hc with ⟨hk, he, h37⟩ | ⟨hc1, hk, he⟩ | rfl
    · rw [he] at D
      simp only [List.cons_append, List.nil_append] at D
      have hl1 := drop_len D
      simp only [List.length_cons] at hl1
      walk_at "c_steps"
    · rw [he] at D
      simp only [List.cons_append, List.nil_append] at D
      have hl1 := drop_len D
      simp only [List.length_cons] at hl1
      have hd1 : ∀ x ∈ ([hexU (c / 16), hexU (c % 16)] : List Nat), ∃ k, k < 16 ∧ x = hexU k := by
        intro x hx
        rcases List.mem_cons.mp hx with rfl | hx
        · exact ⟨c / 16, by omega, rfl⟩
        · rw [List.mem_singleton.mp hx]; exact ⟨c % 16, by omega, rfl⟩
      have hvc : ((hv [hexU (c / 16), hexU (c % 16)] : Nat) : Int) = (c : Int) := by
        congr 1
        show (0 * 16 + unhex (hexU (c / 16))) * 16 + unhex (hexU (c % 16)) = c
        rw [unhex_hexU (by omega), unhex_hexU (by omega)]; omega
      walk_at "c_steps"
    · have he : oc 8364 = [37, 69, 50, 37, 56, 50, 37, 65, 67] := rfl
      rw [he] at D
      simp only [List.cons_append, List.nil_append] at D
      have hl1 := drop_len D
      simp only [List.length_cons] at hl1
      have hd1 : ∀ x ∈ ([69, 50] : List Nat), ∃ k, k < 16 ∧ x = hexU k := hexs (by decide)
      have hd2 : ∀ x ∈ ([56, 50] : List Nat), ∃ k, k < 16 ∧ x = hexU k := hexs (by decide)
      have hd3 : ∀ x ∈ ([65, 67] : List Nat), ∃ k, k < 16 ∧ x = hexU k := hexs (by decide)
      have hv1 : ((hv [69, 50] : Nat) : Int) = 226 := rfl
      have hv2 : ((hv [56, 50] : Nat) : Int) = 130 := rfl
      have hv3 : ((hv [65, 67] : Nat) : Int) = 172 := rfl
      walk_at "c_steps"
  case stop =>
    clear F0 N0 hu D0
    intro vs e t oa u h tk hs dA F N
    have hw2 : ((l.map fun c => [c]).flatten).length ≤ 16777216 := by omega
    walk_at "c_steps"
    all_goals walk_at "c_close"
end Mine
theorem Mine.ln21 : True := by
  (k_with "call ref" => (
  k_here
  (with_reducible show wpAny _ _ (call (Value.ref 354) _) _ _ _)
  k_dflt (refine' use (c_ds _ _ _ ?hl ?hu) ?B ?F ?X ?N ?T ?K ?d ?u ?_)
  (case hl => k_dflt assumption)
  (case hu => k_dflt assumption)
  walk_at "c_use"))
  exact True.intro
namespace Mine
theorem c_dec (w : World) {l : List Nat} (tt : Tok) (hl : l.length ≤ 100000) (hu : ∀ c ∈ l, c ∈ AU) : Ctr w 8 368 [.str (S ((l.map oc).flatten)) tt] (fun t => .str (S l) t) := by
  have e : (l.map fun c => [c]).flatten = l := by induction l with
    | nil => rfl
    | cons c r ih => rw [List.map_cons, List.flatten_cons, ih (by simp only [List.length_cons] at hl; omega) fun x hx => hu x (.tail _ hx)]; rfl
  walk_at "c_open"
  walk_at "c_steps"
  refine same ?_
  rw [e]
  all_goals walk_at "c_close"
end Mine
theorem Mine.none11 : True := by
  w_top off
  k_with_none
  exact True.intro
open Mine
theorem Mine.ln22 : True := by
  (k_with "c_room" => ((try simp only [depth_under_make, depth_under_kw, depth_in1, depth_deeper, depth_caller]); (try dsimp only [ktrTop]); first | omega | decide))
  (k_with "c_units" => ((have hcL9 := cLine_is); (try simp only [units_in1, units_deeper, Around.mark_units, units_caller]); (try dsimp only [ktrTop]); omega))
  (k_with "c_enter" => (refine' code_def ?k1 ?k2 ?k3 ?k4 ?k5 ?kA ?kF ?kK ?k6 ?k7 ?k8 ?k9 ?kB ?_ ?c2 ?c3 ?c4 ?c5; (case kA => exact rfl); (case kF => exact rfl); (case kK => first | exact rfl | assumption); (case k1 => k_asm); (case k2 => k_asm); (case k3 => k_asm); (case k4 => k_asm); (case k5 => k_asm); (case k6 => k_is); (case k7 => k_is); (case k8 => walk_at "c_room"); (case k9 => exact BindsTo.of_eq rfl); (case c5 => decide); (case kB => exact locs rfl); (case c2 => exact rfl); (case c3 => exact rfl); (case c4 => exact rfl); k_whole; intro g' L' h' FG' F' N' B' X' T'; (try dsimp only); (try k_lift B'); (try k_fold)))
  (k_with "c_pure" => (refine' code_pure ?k1 ?k2 ?k3 ?k5 ?kA ?kF ?kK ?k6 ?k7 ?k8 ?k9 ?kB ?_ ?c2 ?c3 ?c4 ?c5; (case kA => exact rfl); (case kF => exact rfl); (case kK => first | exact rfl | assumption); (case k1 => k_asm); (case k2 => k_asm); (case k3 => k_asm); (case k5 => k_asm); (case k6 => k_is); (case k7 => k_is); (case k8 => walk_at "c_room"); (case k9 => exact BindsTo.of_eq rfl); (case c5 => decide); (case kB => exact locs rfl); (case c2 => exact rfl); (case c3 => exact rfl); (case c4 => exact rfl); k_whole; intro g' L' h' hG F' N' B' X' T'; (try dsimp only); (try k_fold)))
  (k_with "c_open" => (
  (dsimp only [Ctr]); (intros)
  (refine wpAny_call ?_)
  (k_dflt (walk_at "c_pure"))))
  (k_with "LeaveP" => (k_dflt (refine' leaveP_ ?k1 ?_; (case k1 => k_asm); k_whole); intro kP; (try dsimp only)))
  (k_with "c_close" => (
  refine same ?_
  first
  | exact CRet.out (by assumption) (by assumption) (by assumption)
  | (refine' CRet.str (by assumption) (by assumption) ?e (by assumption); (case e => first | exact rfl | decide +kernel | (simp [S]; done)))
  | (refine' CRet.int (by assumption) (by assumption) ?e (by assumption); (case e => omega))))
  (k_with "c_use" => (
  (case B => k_dflt k_asm); (case F => k_dflt k_asm); (case X => k_dflt k_asm); (case N => k_dflt k_asm); (case T => k_dflt k_asm)
  (case K => first | exact rfl | assumption)
  (case d => walk_at "c_room"); (case u => walk_at "c_units")
  (intro t9 h9 tk9 F9 N9)
  (try dsimp only)
  (try k_fold)))
  (k_with "subscriptTail Name Slice str ref" => (
  k_here
  (with_reducible show wpAny _ _ (subscriptTail _ (Expr.Slice (some _) (some _) none _) _ _) _ _ _)
  (with_reducible rename Fr _ _ _ _ => F')
  (with_reducible rename News _ _ _ _ => N')
  k_dflt (first
    | (refine' r_s01 (s := ⟨_, _, _, _, _⟩) (by assumption) F' N' ?hl ?hi ?hj ?_; (case hi => omega); (case hj => omega); (case hl => first | assumption | omega))
    | (refine' r_s01n (s := ⟨_, _, _, _, _⟩) (by assumption) F' N' ?hl ?hi ?hj ?_; (case hi => omega); (case hj => omega); (case hl => first | assumption | omega))
    | (refine' r_s13 (s := ⟨_, _, _, _, _⟩) (by assumption) F' N' ?hl ?hi ?hj ?_; (case hi => omega); (case hj => omega); (case hl => first | assumption | omega))
    | (refine' r_s02 (s := ⟨_, _, _, _, _⟩) (by assumption) F' N' ?hl ?hi ?hj ?_; (case hi => omega); (case hj => omega); (case hl => first | assumption | omega))
    | (refine' r_s02e (s := ⟨_, _, _, _, _⟩) (by assumption) F' N' ?hl ?hi ?hj ?_; (case hi => omega); (case hj => omega); (case hl => first | assumption | omega))
    | (refine' r_s26 (s := ⟨_, _, _, _, _⟩) (by assumption) F' N' ?hl ?hi ?hj ?_; (case hi => omega); (case hj => omega); (case hl => first | assumption | omega))
    | (refine' r_s12 (s := ⟨_, _, _, _, _⟩) (by assumption) F' N' ?hl ?hi ?hj ?_; (case hi => omega); (case hj => omega); (case hl => first | assumption | omega)))
  (intro h' t' k' F' N')))
  (k_with "subscriptTail Name Name str int" => (
  k_here
  k_dflt (refine' r_item 0 ?D ?hk ?hi ?hl ?_)
  (case D => k_dflt assumption)
  (case hk => k_dflt exact rfl)
  (case hl => k_dflt (first | assumption | omega))
  (case hi => k_dflt omega)))
  (k_with "subscriptTail Name BinOp str int" => (
  k_here
  k_dflt (first | refine' r_hex (Int.toNat_of_nonneg (by decide +kernel)).symm (by decide +kernel) ?_ | refine' r_hex (hex_hi _) (by omega) ?_ | refine' r_hex (hex_lo _) (by omega) ?_)))
  (k_with "call ref" => (
  k_here
  (with_reducible show wpAny _ _ (call (Value.ref _) _) _ _ _)
  k_dflt (refine wpAny_call ?_; walk_at "c_enter")))
  (k_with "exec While" => (
  k_here
  (with_reducible show wpAny _ _ (exec (Stmt.While (Expr.BoolOp _ _ _) _ _ _) _) _ _ _)
  (with_reducible rename Fr _ _ _ _ => F')
  (with_reducible rename News _ _ _ _ => N')
  k_dflt (refine' w_zero F' N' ?_)
  (clear F' N'; intro h' tk' F' N')))
  (k_with "exec While" => (
  k_here
  (with_reducible show wpAny _ _ (exec (Stmt.While (Expr.Compare _ _ _ _) _ _ _) _) _ _ _)
  (apply hold)))
  (k_with "compareOp In str str" => (
  k_here
  k_dflt (first
    | refine' r_in_yes plain_is (by assumption) ?_
    | refine' r_in_no plain_is (by assumption) ?_
    | refine' r_in_yes kept_is (by assumption) ?_
    | refine' r_in_no kept_is (by assumption) ?_
    | refine' r_in_no blank_is (by first | assumption | decide) ?_)))
  (k_with "c_step" => (first | (k_unfold; (try dsimp only)) | (refine same ?_; k_unfold; (try dsimp only)) | (k_end; wrow_close) | walk1 | (dsimp only; walk1) | (leave1; walk_say "STEP leave1"; try dsimp only) | fail "no step"))
  (k_with "c_steps" => (repeat' walk_at "c_step"))
  (k_with "callWith" => (
  k_here
  (with_reducible show wpAny _ _ (callWith _ (Value.builtin _) [_] _ _) _ _ _)
  k_dflt (first | with_reducible refine callWith_method0 ?_ | refine callWith_method1 ?_)))
  (k_with "c_ls" => (first | assumption | exact TxtsAre.nil | (apply TxtsAre.cons; walk_at "c_ls")))
  (k_with "call builtin:str.join" => (
  k_here
  (with_reducible show wpAny _ _ (call (Value.builtin "str.join") [Value.str _ _, Value.ref _]) _ _ _)
  k_dflt (refine' r_join ?hl ?hi rfl ?hw ?_)
  (case hl => k_dflt (first | is_list | exact News.isList (by k_asm) (by k_mem)))
  (case hi => (try simp only [List.nil_append, List.cons_append]); k_dflt (walk_at "c_ls"))
  (case hw => k_dflt (first | assumption | decide | exact Nat.le_of_ble_eq_true rfl | omega))
  (intro _ _)))
  (k_with "TPost" => (dsimp only [TPost]))
  (k_with "c_size" => (rw [PySem.sizeLine_eq]; (try simp only [List.size_toArray, Array.size_push, List.length_append, List.length_cons, List.length_nil]); omega))
  (k_with "call builtin:list.append" => (
  k_here
  (with_reducible show wpAny _ _ (call (Value.builtin _) [Value.ref _, _]) _ _ _)
  k_dflt (refine' append_K ?k1 ?k2 ?k3 ?_ ?z)
  (case k1 => k_dflt k_asm); (case k2 => k_dflt k_asm); (case k3 => k_dflt k_upd); (case z => k_dflt (walk_at "c_size"))
  k_whole
  (intro h' F' N'); (try k_sweep)))
  (k_with "c_same" => (intro z h2 h3; have h4 := h3; simp only [List.contains_cons, List.contains_nil, Bool.or_false, beq_eq_false_iff_ne, ne_eq, Bool.or_eq_false_iff] at h4; simp [h2, h3, h4]))
  (k_with "TEnd" => (
  k_here
  (with_reducible rename News _ _ _ _ => nE')
  k_dflt (refine' TEnd.intro ?F nE' ?sub ?hs ?hx ?hat ?hi ?hr)
  (case F => k_dflt assumption)
  (case sub => k_dflt (exact ⟨by k_mem, fun p hp => (nomatch hp)⟩))
  (case hat => k_dflt (exact rfl))
  (case hs => k_dflt assumption)
  (case hx => k_dflt (first | rfl | (symm; assumption) | ((with_reducible rename oc _ = _ => he'); rw [he']; rfl)))
  (case hi => k_dflt (simp only [List.map_append, List.flatten_append, List.length_append, List.map_cons, List.map_nil, List.flatten_cons, List.flatten_nil, List.length_cons, List.length_nil, Int.natCast_add, *] <;> omega))
  (case hr => k_dflt (walk_at "c_same"))))
  (k_with "c_use_l" => (
  (case B => k_dflt k_asm); (case F => k_dflt k_asm); (case X => k_dflt k_asm); (case N => k_dflt k_asm); (case T => k_dflt k_asm)
  (case K => first | exact rfl | assumption)
  (case d => walk_at "c_room"); (case u => walk_at "c_units")
  (intro l9 xs9 e9 h9 tk9 F9 N9 ne9)
  (simp only [List.forall_mem_cons, List.not_mem_nil, false_implies, implies_true, and_true] at ne9)))
  (k_with "c_close_l" => (
  refine same ?_
  (with_reducible rename News _ _ _ _ => nE')
  (refine' CRetL.out (by assumption) (by assumption) (by assumption) nE' ?hm ?hi)
  (case hm => k_dflt (first | walk_at "c_mem" | k_mem))
  (case hi => exact ⟨_, _, _, rfl⟩)))
  (k_with "k_ne" => ((try dsimp only); first
  | with_reducible assumption | with_reducible exact Ne.symm (by assumption)
  | with_reducible exact And.left (by assumption) | with_reducible exact Ne.symm (And.left (by assumption))
  | with_reducible exact And.right (by assumption) | with_reducible exact Ne.symm (And.right (by assumption))
  | with_reducible exact And.left (And.right (by assumption)) | with_reducible exact Ne.symm (And.left (And.right (by assumption)))
  | with_reducible exact And.right (And.right (by assumption)) | with_reducible exact Ne.symm (And.right (And.right (by assumption)))
  | with_reducible exact And.left (And.right (And.right (by assumption))) | with_reducible exact Ne.symm (And.left (And.right (And.right (by assumption))))
  | with_reducible exact And.right (And.right (And.right (by assumption))) | with_reducible exact Ne.symm (And.right (And.right (And.right (by assumption))))
  | with_reducible exact Nat.ne_of_lt (by assumption) | with_reducible exact Nat.ne_of_gt (by assumption)
  | with_reducible exact Nat.ne_of_gt (And.left (by assumption)) | with_reducible exact Nat.ne_of_lt (And.left (by assumption))
  | with_reducible exact Nat.ne_of_gt (And.left (And.right (by assumption))) | with_reducible exact Nat.ne_of_lt (And.left (And.right (by assumption)))))
  (k_with "binaryOp RShift int int" => (
  k_here
  k_dflt (refine rshift_int (by decide) ?_)))
  (k_with "eval ListComp" => (
  k_here
  (with_reducible show wpAny _ _ (eval (Expr.ListComp _ [⟨_, Expr.Name _ _, _, _⟩] _ _) _) _ _ _)
  k_dflt (refine comp_text (by k_asm) (by rfl) (by decide) (by rfl) (by decide) (by rfl) ?_)))
  (k_with "CText" => (apply hold))
  (k_with "CompEnd" => (
  k_here
  (with_reducible rename News _ _ _ _ => nE')
  k_dflt (refine' cend ?F nE' ?sub ?off ?_)
  (case F => k_dflt assumption)
  (case sub => k_dflt lcg_sub)
  (case off => k_dflt (first | exact True.intro | assumption))))
  (k_with "binaryOp Add str str" => (
  k_here
  k_dflt (first | refine' r_add s22 rfl ?hs ?_ | refine' r_add rfl s22 ?hs ?_)
  (case hs => k_dflt (simp only [List.length_append, List.length_cons, List.length_nil]; omega))
  (intro _ _)))
  (k_with "exec For" => (
  k_here
  (with_reducible show wpAny _ _ (exec (Stmt.For (Expr.Name _ _) (Expr.Name _ _) _ _ _) _) _ _ _)
  (with_reducible rename Fr _ _ _ _ => lF')
  (with_unfolding_all refine' For_invVF lF' ?k1 ?k2 ?_; (case k1 => exact rfl); (case k2 => exact rfl); k_whole)))
  (k_with "pyIter str" => (apply hold))
  (k_with "k_all" => (assumption))
  (k_with "FPost" => (dsimp only [FPost]))
  (k_with "FEnd" => (
  k_here
  (with_reducible rename News _ _ _ _ => nE')
  k_dflt (refine' FEnd.intro ?F nE' ?sub ?hs ?hx ?hr)
  (case F => k_dflt assumption)
  (case sub => k_dflt (refine ⟨by k_mem, fun p hp => ?_⟩; simp [hp]))
  (case hs => k_dflt assumption)
  (case hx => k_dflt (first | rfl | (symm; assumption) | ((with_reducible rename es _ = _ => he'); rw [he']; rfl)))
  (case hr => k_dflt (walk_at "c_same"))))
  (k_with "c_sameC" => (intro z h3; have h4 := h3; simp only [List.contains_cons, List.contains_nil, Bool.or_false, beq_eq_false_iff_ne, ne_eq, Bool.or_eq_false_iff] at h4; simp [h3, h4]))
  (k_with "c_mem" => (first
  | exact List.Mem.head _ | exact List.Mem.tail _ (.head _) | exact List.Mem.tail _ (.tail _ (.head _)) | exact List.Mem.tail _ (.tail _ (.tail _ (.head _)))
  | exact List.Mem.tail _ (.tail _ (.tail _ (.tail _ (.head _)))) | exact List.Mem.tail _ (.tail _ (.tail _ (.tail _ (.tail _ (.head _))))) | exact List.Mem.tail _ (.tail _ (.tail _ (.tail _ (.tail _ (.tail _ (.head _))))))))
  (k_with "c_step" => (first
  | (k_unfold; (try dsimp only))
  | (with_reducible refine itT ?_)
  | (with_reducible refine itF ?_)
  | ((with_reducible refine' ite_lt_pos ?h ?_); (case h => omega))
  | ((with_reducible refine' ite_lt_neg ?h ?_); (case h => omega))
  | (refine same ?_; k_unfold; (try dsimp only))
  | (k_end; wrow_close)
  | walk1
  | (dsimp only; walk1)
  | (leave1; walk_say "STEP leave1"; try dsimp only)
  | fail "no step"))
  (k_with "c_pureC" => (refine' code_pureC ?k1 ?k2 ?k3 ?k5 ?kA ?kF ?kK ?k6 ?k7 ?k8 ?k9 ?kB ?kD ?_ ?c2 ?c3 ?c4; (case kA => exact rfl); (case kF => exact rfl); (case kK => first | exact rfl | assumption); (case k1 => k_asm); (case k2 => k_asm); (case k3 => k_asm); (case k5 => k_asm); (case k6 => k_is); (case k7 => k_is); (case k8 => walk_at "c_room"); (case k9 => exact BindsTo.of_eq rfl); (case kB => exact rfl); (case kD => decide +kernel); (case c2 => exact rfl); (case c3 => exact rfl); (case c4 => exact rfl); k_whole; intro g' L' h' tk' cells' hG F' N' Y' B' X' T'; k_cells Y'; (try simp only [List.cons_append, List.nil_append] at N'); (try dsimp only); (try k_fold)))
  (k_with "c_openC" => (
  (dsimp only [Ctr]); (intros)
  (refine wpAny_call ?_)
  (k_dflt (walk_at "c_pureC"))))
  (k_with "TPostC" => (dsimp only [TPostC]))
  (k_with "TEndC" => (
  k_here
  (with_reducible rename News _ _ _ _ => nE')
  k_dflt (refine' TEndC.intro ?F nE' ?sub ?hs ?hx ?hat ?hi ?hr)
  (case F => k_dflt assumption)
  (case sub => k_dflt (refine ⟨by walk_at "c_mem", by walk_at "c_mem", fun p hp => ?_⟩; (simp only [List.mem_singleton] at hp); (rw [hp]); walk_at "c_mem"))
  (case hat => k_dflt assumption)
  (case hs => k_dflt assumption)
  (case hx => k_dflt (first | rfl | (symm; assumption)))
  (case hi => k_dflt (simp only [List.map_append, List.flatten_append, List.length_append, List.map_cons, List.map_nil, List.flatten_cons, List.flatten_nil, List.length_cons, List.length_nil, Int.natCast_add, *] <;> omega))
  (case hr => k_dflt (walk_at "c_sameC"))))
  (k_with "compareOp NotEq str str" => (
  k_here
  (with_reducible show wpAny _ _ (compareOp _ (Value.str (S [_]) _) _) _ _ _)
  k_dflt (refine' r_ne_yes pct_is (one_ne (by assumption)) ?_)))
  (k_with "k_room" => ((try simp only [depth_mark, depth_under_make, depth_under_kw, depth_in1, depth_deeper, depth_caller]); (try dsimp only [ktrTop]); first | omega | decide))
  exact True.intro
namespace Mine
theorem c_json_sign0 (w : World) {tl r : List Nat} {c n : Nat} {i : Int} (tt ti : Tok) (D : tl.drop n = c :: r) (hi : i = (n : Int)) (hl : tl.length ≤ 16777216) : Ctr w 1 148 [.str (S tl) tt, .int i ti] (fun t => .str (S [c]) t) := c_json_sign w tt ti D hi hl
theorem c_json_sign1 (w : World) {tl r : List Nat} {b c n : Nat} {i : Int} (tt ti : Tok) (D : tl.drop n = b :: c :: r) (hi : i = (n : Int) + 1) (hl : tl.length ≤ 16777216) : Ctr w 1 148 [.str (S tl) tt, .int i ti] (fun t => .str (S [c]) t) := c_json_sign w (n := n + 1) (r := r) tt ti (drop_more 1 D) (by omega) hl
end Mine
theorem Mine.ln23 : True := by
  (k_with "call ref" => (
  k_here
  (with_reducible show wpAny _ _ (call (Value.ref 148) _) _ _ _)
  k_dflt (first
    | (refine' use (c_json_sign0 _ _ _ ?D ?hi ?hl) ?B ?F ?X ?N ?T ?K ?d ?u ?_; (case D => assumption); (case hi => first | exact rfl | omega); (case hl => first | assumption | omega))
    | (refine' use (c_json_sign1 _ _ _ ?D ?hi ?hl) ?B ?F ?X ?N ?T ?K ?d ?u ?_; (case D => assumption); (case hi => omega); (case hl => first | assumption | omega)))
  walk_at "c_use"))
  (k_with "compareOp Eq str str" => (
  k_here
  (first
    | (with_reducible refine' r_eq_yes u_is ?_)
    | (with_reducible refine' r_eq_yes s22 ?_)
    | (with_reducible refine' r_eq_no empty_is (List.cons_ne_nil _ _) ?_)
    | ((with_reducible refine' r_eq_no u_is (one_ne ?h) ?_); (case h => first | assumption | decide))
    | ((with_reducible refine' r_eq_no s22 (one_ne ?h) ?_); (case h => first | assumption | decide)))))
  (k_with "compareOp NotEq str str" => (
  k_here
  (first
    | (with_reducible refine' r_ne_no s22 ?_)
    | (with_reducible refine' r_ne_no s92 ?_)
    | ((with_reducible refine' r_ne_yes s22 (one_ne ?h) ?_); (case h => first | assumption | decide))
    | ((with_reducible refine' r_ne_yes s92 (one_ne ?h) ?_); (case h => first | assumption | decide)))))
  (k_with "subscriptTail Name BinOp str int" => (
  k_here
  (with_reducible show wpAny _ _ (subscriptTail _ _ (Value.str (S _) _) (Value.int _ _)) _ _ _)
  k_dflt (refine' r_item 1 ?D ?hk ?hi ?hl ?_)
  (case D => k_dflt assumption)
  (case hk => k_dflt exact rfl)
  (case hl => k_dflt (first | assumption | omega))
  (case hi => k_dflt omega)))
  exact True.intro
namespace Mine
theorem c_jstr (w : World) {l : List Nat} (tt ti : Tok) (hl : l.length ≤ 100000) (ha : ∀ c ∈ l, c ∈ ([97, 34, 92, 37, 10, 8364, 55, 110] : List Nat)) :
    CtrO w 3 176 [.str (S (34 :: ((l.map jq).flatten ++ [34]))) tt, .int 0 ti] (fun o => ∃ x i t u, o = { cls := .type "tuple", data := .seq ([.str x t, .int i u] : List Value).toArray 0 } ∧ x = S l ∧ i = (((l.map jq).flatten).length : Int) + 2) := by
  have h2 := S_len (34 :: ((l.map jq).flatten ++ [34]))
  have hw := flat_len jq_len l
  have hw3 := flat_len (f := fun c => [c]) (k := 1) (fun _ => Nat.le_refl _) l
  have D0 : (34 :: ((l.map jq).flatten ++ [34])).drop 0 = 34 :: ((l.map jq).flatten ++ [34]) := rfl
  have hlX : (34 :: ((l.map jq).flatten ++ [34])).length = ((l.map jq).flatten).length + 2 := by simp
  dsimp only [CtrO]; intros
  refine wpAny_call ?_
  k_dflt (walk_at "c_pure")
  walk_at "c_steps"
  clear D0
  (rename Fr _ _ _ _ => F0); (rename News _ _ _ _ => N0)
  refine unhold (w_text (news := []) l (fun c => [c]) (fun p => (1 + ((p.map jq).flatten).length : Int)) [Str.ofString "sign"] F0 N0 ⟨.tail _ (.head _), fun p hp => (nomatch hp)⟩ rfl ?turn ?stop)
  case turn =>
    clear F0 N0 hw3
    intro pre c r vs e t u h tk hpre hs F N
    have hc := ha c (by rw [← hpre]; simp)
    have D : (34 :: ((l.map jq).flatten ++ [34])).drop (1 + ((pre.map jq).flatten).length) = jq c ++ ((r.map jq).flatten ++ [34]) := by rw [← hpre, Nat.add_comm]; simp
    have hvs := hs.lenm
    have hlt : pre.length < l.length := by rw [← hpre]; simp
    clear hpre ha
    generalize (r.map jq).flatten ++ [34] = R at D
    rcases AJ_kinds hc with ⟨he, h34, h92, h32⟩ | rfl | rfl | rfl
    · rw [he] at D
      simp only [List.cons_append, List.nil_append] at D
      walk_at "c_steps"
    · have he : jq 34 = [92, 34] := rfl
      rw [he] at D
      simp only [List.cons_append, List.nil_append] at D
      walk_at "c_steps"
    · have he : jq 92 = [92, 92] := rfl
      rw [he] at D
      simp only [List.cons_append, List.nil_append] at D
      walk_at "c_steps"
    · have he : jq 10 = [92, 110] := rfl
      rw [he] at D
      simp only [List.cons_append, List.nil_append] at D
      walk_at "c_steps"
  case stop =>
    clear F0 N0 ha
    intro vs e t u h tk hs F N
    have D : (34 :: ((l.map jq).flatten ++ [34])).drop (1 + ((l.map jq).flatten).length) = 34 :: [] := by rw [Nat.add_comm]; simp
    have hw2 : ((l.map fun c => [c]).flatten).length ≤ 16777216 := by omega
    walk_at "c_steps"
    (refine same ?_)
    (with_reducible rename News _ _ _ _ => nE')
    refine' CRetO.out (by assumption) (by assumption) (by assumption) nE' ?hm ?hi
    case hm => walk_at "c_mem"
    case hi => exact ⟨_, _, _, _, rfl, by rw [flat1], by omega⟩
end Mine
theorem Mine.none12 : True := by
  w_top off
  k_with_none
  exact True.intro
open Mine
theorem Mine.ln24 : True := by
  (k_with "c_room" => ((try simp only [depth_under_make, depth_under_kw, depth_in1, depth_deeper, depth_caller]); (try dsimp only [ktrTop]); first | omega | decide))
  (k_with "c_units" => ((have hcL9 := cLine_is); (try simp only [units_in1, units_deeper, Around.mark_units, units_caller]); (try dsimp only [ktrTop]); omega))
  (k_with "c_enter" => (refine' code_def ?k1 ?k2 ?k3 ?k4 ?k5 ?kA ?kF ?kK ?k6 ?k7 ?k8 ?k9 ?kB ?_ ?c2 ?c3 ?c4 ?c5; (case kA => exact rfl); (case kF => exact rfl); (case kK => first | exact rfl | assumption); (case k1 => k_asm); (case k2 => k_asm); (case k3 => k_asm); (case k4 => k_asm); (case k5 => k_asm); (case k6 => k_is); (case k7 => k_is); (case k8 => walk_at "c_room"); (case k9 => exact BindsTo.of_eq rfl); (case c5 => decide); (case kB => exact locs rfl); (case c2 => exact rfl); (case c3 => exact rfl); (case c4 => exact rfl); k_whole; intro g' L' h' FG' F' N' B' X' T'; (try dsimp only); (try k_lift B'); (try k_fold)))
  (k_with "c_pure" => (refine' code_pure ?k1 ?k2 ?k3 ?k5 ?kA ?kF ?kK ?k6 ?k7 ?k8 ?k9 ?kB ?_ ?c2 ?c3 ?c4 ?c5; (case kA => exact rfl); (case kF => exact rfl); (case kK => first | exact rfl | assumption); (case k1 => k_asm); (case k2 => k_asm); (case k3 => k_asm); (case k5 => k_asm); (case k6 => k_is); (case k7 => k_is); (case k8 => walk_at "c_room"); (case k9 => exact BindsTo.of_eq rfl); (case c5 => decide); (case kB => exact locs rfl); (case c2 => exact rfl); (case c3 => exact rfl); (case c4 => exact rfl); k_whole; intro g' L' h' hG F' N' B' X' T'; (try dsimp only); (try k_fold)))
  (k_with "c_open" => (
  (dsimp only [Ctr]); (intros)
  (refine wpAny_call ?_)
  (k_dflt (walk_at "c_pure"))))
  (k_with "LeaveP" => (k_dflt (refine' leaveP_ ?k1 ?_; (case k1 => k_asm); k_whole); intro kP; (try dsimp only)))
  (k_with "c_close" => (
  refine same ?_
  first
  | exact CRet.out (by assumption) (by assumption) (by assumption)
  | (refine' CRet.str (by assumption) (by assumption) ?e (by assumption); (case e => first | exact rfl | decide +kernel | (simp [S]; done)))
  | (refine' CRet.int (by assumption) (by assumption) ?e (by assumption); (case e => omega))))
  (k_with "c_use" => (
  (case B => k_dflt k_asm); (case F => k_dflt k_asm); (case X => k_dflt k_asm); (case N => k_dflt k_asm); (case T => k_dflt k_asm)
  (case K => first | exact rfl | assumption)
  (case d => walk_at "c_room"); (case u => walk_at "c_units")
  (intro t9 h9 tk9 F9 N9)
  (try dsimp only)
  (try k_fold)))
  (k_with "subscriptTail Name Slice str ref" => (
  k_here
  (with_reducible show wpAny _ _ (subscriptTail _ (Expr.Slice (some _) (some _) none _) _ _) _ _ _)
  (with_reducible rename Fr _ _ _ _ => F')
  (with_reducible rename News _ _ _ _ => N')
  k_dflt (first
    | (refine' r_s01 (s := ⟨_, _, _, _, _⟩) (by assumption) F' N' ?hl ?hi ?hj ?_; (case hi => omega); (case hj => omega); (case hl => first | assumption | omega))
    | (refine' r_s01n (s := ⟨_, _, _, _, _⟩) (by assumption) F' N' ?hl ?hi ?hj ?_; (case hi => omega); (case hj => omega); (case hl => first | assumption | omega))
    | (refine' r_s13 (s := ⟨_, _, _, _, _⟩) (by assumption) F' N' ?hl ?hi ?hj ?_; (case hi => omega); (case hj => omega); (case hl => first | assumption | omega))
    | (refine' r_s02 (s := ⟨_, _, _, _, _⟩) (by assumption) F' N' ?hl ?hi ?hj ?_; (case hi => omega); (case hj => omega); (case hl => first | assumption | omega))
    | (refine' r_s02e (s := ⟨_, _, _, _, _⟩) (by assumption) F' N' ?hl ?hi ?hj ?_; (case hi => omega); (case hj => omega); (case hl => first | assumption | omega))
    | (refine' r_s26 (s := ⟨_, _, _, _, _⟩) (by assumption) F' N' ?hl ?hi ?hj ?_; (case hi => omega); (case hj => omega); (case hl => first | assumption | omega))
    | (refine' r_s12 (s := ⟨_, _, _, _, _⟩) (by assumption) F' N' ?hl ?hi ?hj ?_; (case hi => omega); (case hj => omega); (case hl => first | assumption | omega)))
  (intro h' t' k' F' N')))
  (k_with "subscriptTail Name Name str int" => (
  k_here
  k_dflt (refine' r_item 0 ?D ?hk ?hi ?hl ?_)
  (case D => k_dflt assumption)
  (case hk => k_dflt exact rfl)
  (case hl => k_dflt (first | assumption | omega))
  (case hi => k_dflt omega)))
  (k_with "subscriptTail Name BinOp str int" => (
  k_here
  k_dflt (first | refine' r_hex (Int.toNat_of_nonneg (by decide +kernel)).symm (by decide +kernel) ?_ | refine' r_hex (hex_hi _) (by omega) ?_ | refine' r_hex (hex_lo _) (by omega) ?_)))
  (k_with "call ref" => (
  k_here
  (with_reducible show wpAny _ _ (call (Value.ref _) _) _ _ _)
  k_dflt (refine wpAny_call ?_; walk_at "c_enter")))
  (k_with "exec While" => (
  k_here
  (with_reducible show wpAny _ _ (exec (Stmt.While (Expr.BoolOp _ _ _) _ _ _) _) _ _ _)
  (with_reducible rename Fr _ _ _ _ => F')
  (with_reducible rename News _ _ _ _ => N')
  k_dflt (refine' w_zero F' N' ?_)
  (clear F' N'; intro h' tk' F' N')))
  (k_with "exec While" => (
  k_here
  (with_reducible show wpAny _ _ (exec (Stmt.While (Expr.Compare _ _ _ _) _ _ _) _) _ _ _)
  (apply hold)))
  (k_with "compareOp In str str" => (
  k_here
  k_dflt (first
    | refine' r_in_yes plain_is (by assumption) ?_
    | refine' r_in_no plain_is (by assumption) ?_
    | refine' r_in_yes kept_is (by assumption) ?_
    | refine' r_in_no kept_is (by assumption) ?_
    | refine' r_in_no blank_is (by first | assumption | decide) ?_)))
  (k_with "c_step" => (first | (k_unfold; (try dsimp only)) | (refine same ?_; k_unfold; (try dsimp only)) | (k_end; wrow_close) | walk1 | (dsimp only; walk1) | (leave1; walk_say "STEP leave1"; try dsimp only) | fail "no step"))
  (k_with "c_steps" => (repeat' walk_at "c_step"))
  (k_with "callWith" => (
  k_here
  (with_reducible show wpAny _ _ (callWith _ (Value.builtin _) [_] _ _) _ _ _)
  k_dflt (first | with_reducible refine callWith_method0 ?_ | refine callWith_method1 ?_)))
  (k_with "c_ls" => (first | assumption | exact TxtsAre.nil | (apply TxtsAre.cons; walk_at "c_ls")))
  (k_with "call builtin:str.join" => (
  k_here
  (with_reducible show wpAny _ _ (call (Value.builtin "str.join") [Value.str _ _, Value.ref _]) _ _ _)
  k_dflt (refine' r_join ?hl ?hi rfl ?hw ?_)
  (case hl => k_dflt (first | is_list | exact News.isList (by k_asm) (by k_mem)))
  (case hi => (try simp only [List.nil_append, List.cons_append]); k_dflt (walk_at "c_ls"))
  (case hw => k_dflt (first | assumption | decide | exact Nat.le_of_ble_eq_true rfl | omega))
  (intro _ _)))
  (k_with "TPost" => (dsimp only [TPost]))
  (k_with "c_size" => (rw [PySem.sizeLine_eq]; (try simp only [List.size_toArray, Array.size_push, List.length_append, List.length_cons, List.length_nil]); omega))
  (k_with "call builtin:list.append" => (
  k_here
  (with_reducible show wpAny _ _ (call (Value.builtin _) [Value.ref _, _]) _ _ _)
  k_dflt (refine' append_K ?k1 ?k2 ?k3 ?_ ?z)
  (case k1 => k_dflt k_asm); (case k2 => k_dflt k_asm); (case k3 => k_dflt k_upd); (case z => k_dflt (walk_at "c_size"))
  k_whole
  (intro h' F' N'); (try k_sweep)))
  (k_with "c_same" => (intro z h2 h3; have h4 := h3; simp only [List.contains_cons, List.contains_nil, Bool.or_false, beq_eq_false_iff_ne, ne_eq, Bool.or_eq_false_iff] at h4; simp [h2, h3, h4]))
  (k_with "TEnd" => (
  k_here
  (with_reducible rename News _ _ _ _ => nE')
  k_dflt (refine' TEnd.intro ?F nE' ?sub ?hs ?hx ?hat ?hi ?hr)
  (case F => k_dflt assumption)
  (case sub => k_dflt (exact ⟨by k_mem, fun p hp => (nomatch hp)⟩))
  (case hat => k_dflt (exact rfl))
  (case hs => k_dflt assumption)
  (case hx => k_dflt (first | rfl | (symm; assumption) | ((with_reducible rename oc _ = _ => he'); rw [he']; rfl)))
  (case hi => k_dflt (simp only [List.map_append, List.flatten_append, List.length_append, List.map_cons, List.map_nil, List.flatten_cons, List.flatten_nil, List.length_cons, List.length_nil, Int.natCast_add, *] <;> omega))
  (case hr => k_dflt (walk_at "c_same"))))
  (k_with "c_use_l" => (
  (case B => k_dflt k_asm); (case F => k_dflt k_asm); (case X => k_dflt k_asm); (case N => k_dflt k_asm); (case T => k_dflt k_asm)
  (case K => first | exact rfl | assumption)
  (case d => walk_at "c_room"); (case u => walk_at "c_units")
  (intro l9 xs9 e9 h9 tk9 F9 N9 ne9)
  (simp only [List.forall_mem_cons, List.not_mem_nil, false_implies, implies_true, and_true] at ne9)))
  (k_with "c_close_l" => (
  refine same ?_
  (with_reducible rename News _ _ _ _ => nE')
  (refine' CRetL.out (by assumption) (by assumption) (by assumption) nE' ?hm ?hi)
  (case hm => k_dflt (first | walk_at "c_mem" | k_mem))
  (case hi => exact ⟨_, _, _, rfl⟩)))
  (k_with "k_ne" => ((try dsimp only); first
  | with_reducible assumption | with_reducible exact Ne.symm (by assumption)
  | with_reducible exact And.left (by assumption) | with_reducible exact Ne.symm (And.left (by assumption))
  | with_reducible exact And.right (by assumption) | with_reducible exact Ne.symm (And.right (by assumption))
  | with_reducible exact And.left (And.right (by assumption)) | with_reducible exact Ne.symm (And.left (And.right (by assumption)))
  | with_reducible exact And.right (And.right (by assumption)) | with_reducible exact Ne.symm (And.right (And.right (by assumption)))
  | with_reducible exact And.left (And.right (And.right (by assumption))) | with_reducible exact Ne.symm (And.left (And.right (And.right (by assumption))))
  | with_reducible exact And.right (And.right (And.right (by assumption))) | with_reducible exact Ne.symm (And.right (And.right (And.right (by assumption))))
  | with_reducible exact Nat.ne_of_lt (by assumption) | with_reducible exact Nat.ne_of_gt (by assumption)
  | with_reducible exact Nat.ne_of_gt (And.left (by assumption)) | with_reducible exact Nat.ne_of_lt (And.left (by assumption))
  | with_reducible exact Nat.ne_of_gt (And.left (And.right (by assumption))) | with_reducible exact Nat.ne_of_lt (And.left (And.right (by assumption)))))
  (k_with "binaryOp RShift int int" => (
  k_here
  k_dflt (refine rshift_int (by decide) ?_)))
  (k_with "eval ListComp" => (
  k_here
  (with_reducible show wpAny _ _ (eval (Expr.ListComp _ [⟨_, Expr.Name _ _, _, _⟩] _ _) _) _ _ _)
  k_dflt (refine comp_text (by k_asm) (by rfl) (by decide) (by rfl) (by decide) (by rfl) ?_)))
  (k_with "CText" => (apply hold))
  (k_with "CompEnd" => (
  k_here
  (with_reducible rename News _ _ _ _ => nE')
  k_dflt (refine' cend ?F nE' ?sub ?off ?_)
  (case F => k_dflt assumption)
  (case sub => k_dflt lcg_sub)
  (case off => k_dflt (first | exact True.intro | assumption))))
  (k_with "binaryOp Add str str" => (
  k_here
  k_dflt (first | refine' r_add s22 rfl ?hs ?_ | refine' r_add rfl s22 ?hs ?_)
  (case hs => k_dflt (simp only [List.length_append, List.length_cons, List.length_nil]; omega))
  (intro _ _)))
  (k_with "exec For" => (
  k_here
  (with_reducible show wpAny _ _ (exec (Stmt.For (Expr.Name _ _) (Expr.Name _ _) _ _ _) _) _ _ _)
  (with_reducible rename Fr _ _ _ _ => lF')
  (with_unfolding_all refine' For_invVF lF' ?k1 ?k2 ?_; (case k1 => exact rfl); (case k2 => exact rfl); k_whole)))
  (k_with "pyIter str" => (apply hold))
  (k_with "k_all" => (assumption))
  (k_with "FPost" => (dsimp only [FPost]))
  (k_with "FEnd" => (
  k_here
  (with_reducible rename News _ _ _ _ => nE')
  k_dflt (refine' FEnd.intro ?F nE' ?sub ?hs ?hx ?hr)
  (case F => k_dflt assumption)
  (case sub => k_dflt (refine ⟨by k_mem, fun p hp => ?_⟩; simp [hp]))
  (case hs => k_dflt assumption)
  (case hx => k_dflt (first | rfl | (symm; assumption) | ((with_reducible rename es _ = _ => he'); rw [he']; rfl)))
  (case hr => k_dflt (walk_at "c_same"))))
  (k_with "c_sameC" => (intro z h3; have h4 := h3; simp only [List.contains_cons, List.contains_nil, Bool.or_false, beq_eq_false_iff_ne, ne_eq, Bool.or_eq_false_iff] at h4; simp [h3, h4]))
  (k_with "c_mem" => (first
  | exact List.Mem.head _ | exact List.Mem.tail _ (.head _) | exact List.Mem.tail _ (.tail _ (.head _)) | exact List.Mem.tail _ (.tail _ (.tail _ (.head _)))
  | exact List.Mem.tail _ (.tail _ (.tail _ (.tail _ (.head _)))) | exact List.Mem.tail _ (.tail _ (.tail _ (.tail _ (.tail _ (.head _))))) | exact List.Mem.tail _ (.tail _ (.tail _ (.tail _ (.tail _ (.tail _ (.head _))))))))
  (k_with "c_step" => (first
  | (k_unfold; (try dsimp only))
  | (with_reducible refine itT ?_)
  | (with_reducible refine itF ?_)
  | ((with_reducible refine' ite_lt_pos ?h ?_); (case h => omega))
  | ((with_reducible refine' ite_lt_neg ?h ?_); (case h => omega))
  | (refine same ?_; k_unfold; (try dsimp only))
  | (k_end; wrow_close)
  | walk1
  | (dsimp only; walk1)
  | (leave1; walk_say "STEP leave1"; try dsimp only)
  | fail "no step"))
  (k_with "c_pureC" => (refine' code_pureC ?k1 ?k2 ?k3 ?k5 ?kA ?kF ?kK ?k6 ?k7 ?k8 ?k9 ?kB ?kD ?_ ?c2 ?c3 ?c4; (case kA => exact rfl); (case kF => exact rfl); (case kK => first | exact rfl | assumption); (case k1 => k_asm); (case k2 => k_asm); (case k3 => k_asm); (case k5 => k_asm); (case k6 => k_is); (case k7 => k_is); (case k8 => walk_at "c_room"); (case k9 => exact BindsTo.of_eq rfl); (case kB => exact rfl); (case kD => decide +kernel); (case c2 => exact rfl); (case c3 => exact rfl); (case c4 => exact rfl); k_whole; intro g' L' h' tk' cells' hG F' N' Y' B' X' T'; k_cells Y'; (try simp only [List.cons_append, List.nil_append] at N'); (try dsimp only); (try k_fold)))
  (k_with "c_openC" => (
  (dsimp only [Ctr]); (intros)
  (refine wpAny_call ?_)
  (k_dflt (walk_at "c_pureC"))))
  (k_with "TPostC" => (dsimp only [TPostC]))
  (k_with "TEndC" => (
  k_here
  (with_reducible rename News _ _ _ _ => nE')
  k_dflt (refine' TEndC.intro ?F nE' ?sub ?hs ?hx ?hat ?hi ?hr)
  (case F => k_dflt assumption)
  (case sub => k_dflt (refine ⟨by walk_at "c_mem", by walk_at "c_mem", fun p hp => ?_⟩; (simp only [List.mem_singleton] at hp); (rw [hp]); walk_at "c_mem"))
  (case hat => k_dflt assumption)
  (case hs => k_dflt assumption)
  (case hx => k_dflt (first | rfl | (symm; assumption)))
  (case hi => k_dflt (simp only [List.map_append, List.flatten_append, List.length_append, List.map_cons, List.map_nil, List.flatten_cons, List.flatten_nil, List.length_cons, List.length_nil, Int.natCast_add, *] <;> omega))
  (case hr => k_dflt (walk_at "c_sameC"))))
  (k_with "compareOp NotEq str str" => (
  k_here
  (with_reducible show wpAny _ _ (compareOp _ (Value.str (S [_]) _) _) _ _ _)
  k_dflt (refine' r_ne_yes pct_is (one_ne (by assumption)) ?_)))
  (k_with "k_room" => ((try simp only [depth_mark, depth_under_make, depth_under_kw, depth_in1, depth_deeper, depth_caller]); (try dsimp only [ktrTop]); first | omega | decide))
  exact True.intro
namespace Mine
theorem c_skip (w : World) {tl r : List Nat} {c n : Nat} {i : Int} (tt ti : Tok) (D : tl.drop n = c :: r) (hi : i = (n : Int)) (hl : tl.length ≤ 16777216) (hc : c = 34) : Ctr w 3 155 [.str (S tl) tt, .int i ti] (fun t => .int i t) := by
  subst hc
  have h1 := drop_lt D; have h2 := S_len tl
  walk_at "c_open"
  walk_at "c_steps"
  all_goals walk_at "c_close"
theorem c_skip_n (w : World) {tl : List Nat} {n : Nat} {i : Int} (tt ti : Tok) (D : tl.drop n = []) (hi : i = (n : Int)) (hl : tl.length ≤ 16777216) : Ctr w 3 155 [.str (S tl) tt, .int i ti] (fun t => .int i t) := by
  have h1 := drop_ge D; have h2 := S_len tl
  walk_at "c_open"
  walk_at "c_steps"
  all_goals walk_at "c_close"
end Mine
theorem Mine.ln25 : True := by
  (k_with "call ref" => (
  k_here
  (with_reducible show wpAny _ _ (call (Value.ref 155) _) _ _ _)
  k_dflt (first
    | (refine' use (c_skip _ _ _ ?D ?hi ?hl ?hc) ?B ?F ?X ?N ?T ?K ?d ?u ?_; (case D => assumption); (case hi => first | exact rfl | omega); (case hl => first | assumption | omega); (case hc => exact rfl))
    | (refine' use (c_skip_n _ _ _ ?D ?hi ?hl) ?B ?F ?X ?N ?T ?K ?d ?u ?_; (case D => assumption); (case hi => first | exact rfl | omega); (case hl => first | assumption | omega)))
  walk_at "c_use"))
  exact True.intro
theorem Mine.none13 : True := by
  w_top off
  k_with_none
  exact True.intro
open Mine
theorem Mine.ln26 : True := by
  (k_with "c_room" => ((try simp only [depth_under_make, depth_under_kw, depth_in1, depth_deeper, depth_caller]); (try dsimp only [ktrTop]); first | omega | decide))
  (k_with "c_units" => ((have hcL9 := cLine_is); (try simp only [units_in1, units_deeper, Around.mark_units, units_caller]); (try dsimp only [ktrTop]); omega))
  (k_with "c_enter" => (refine' code_def ?k1 ?k2 ?k3 ?k4 ?k5 ?kA ?kF ?kK ?k6 ?k7 ?k8 ?k9 ?kB ?_ ?c2 ?c3 ?c4 ?c5; (case kA => exact rfl); (case kF => exact rfl); (case kK => first | exact rfl | assumption); (case k1 => k_asm); (case k2 => k_asm); (case k3 => k_asm); (case k4 => k_asm); (case k5 => k_asm); (case k6 => k_is); (case k7 => k_is); (case k8 => walk_at "c_room"); (case k9 => exact BindsTo.of_eq rfl); (case c5 => decide); (case kB => exact locs rfl); (case c2 => exact rfl); (case c3 => exact rfl); (case c4 => exact rfl); k_whole; intro g' L' h' FG' F' N' B' X' T'; (try dsimp only); (try k_lift B'); (try k_fold)))
  (k_with "c_pure" => (refine' code_pure ?k1 ?k2 ?k3 ?k5 ?kA ?kF ?kK ?k6 ?k7 ?k8 ?k9 ?kB ?_ ?c2 ?c3 ?c4 ?c5; (case kA => exact rfl); (case kF => exact rfl); (case kK => first | exact rfl | assumption); (case k1 => k_asm); (case k2 => k_asm); (case k3 => k_asm); (case k5 => k_asm); (case k6 => k_is); (case k7 => k_is); (case k8 => walk_at "c_room"); (case k9 => exact BindsTo.of_eq rfl); (case c5 => decide); (case kB => exact locs rfl); (case c2 => exact rfl); (case c3 => exact rfl); (case c4 => exact rfl); k_whole; intro g' L' h' hG F' N' B' X' T'; (try dsimp only); (try k_fold)))
  (k_with "c_open" => (
  (dsimp only [Ctr]); (intros)
  (refine wpAny_call ?_)
  (k_dflt (walk_at "c_pure"))))
  (k_with "LeaveP" => (k_dflt (refine' leaveP_ ?k1 ?_; (case k1 => k_asm); k_whole); intro kP; (try dsimp only)))
  (k_with "c_close" => (
  refine same ?_
  first
  | exact CRet.out (by assumption) (by assumption) (by assumption)
  | (refine' CRet.str (by assumption) (by assumption) ?e (by assumption); (case e => first | exact rfl | decide +kernel | (simp [S]; done)))
  | (refine' CRet.int (by assumption) (by assumption) ?e (by assumption); (case e => omega))))
  (k_with "c_use" => (
  (case B => k_dflt k_asm); (case F => k_dflt k_asm); (case X => k_dflt k_asm); (case N => k_dflt k_asm); (case T => k_dflt k_asm)
  (case K => first | exact rfl | assumption)
  (case d => walk_at "c_room"); (case u => walk_at "c_units")
  (intro t9 h9 tk9 F9 N9)
  (try dsimp only)
  (try k_fold)))
  (k_with "subscriptTail Name Slice str ref" => (
  k_here
  (with_reducible show wpAny _ _ (subscriptTail _ (Expr.Slice (some _) (some _) none _) _ _) _ _ _)
  (with_reducible rename Fr _ _ _ _ => F')
  (with_reducible rename News _ _ _ _ => N')
  k_dflt (first
    | (refine' r_s01 (s := ⟨_, _, _, _, _⟩) (by assumption) F' N' ?hl ?hi ?hj ?_; (case hi => omega); (case hj => omega); (case hl => first | assumption | omega))
    | (refine' r_s01n (s := ⟨_, _, _, _, _⟩) (by assumption) F' N' ?hl ?hi ?hj ?_; (case hi => omega); (case hj => omega); (case hl => first | assumption | omega))
    | (refine' r_s13 (s := ⟨_, _, _, _, _⟩) (by assumption) F' N' ?hl ?hi ?hj ?_; (case hi => omega); (case hj => omega); (case hl => first | assumption | omega))
    | (refine' r_s02 (s := ⟨_, _, _, _, _⟩) (by assumption) F' N' ?hl ?hi ?hj ?_; (case hi => omega); (case hj => omega); (case hl => first | assumption | omega))
    | (refine' r_s02e (s := ⟨_, _, _, _, _⟩) (by assumption) F' N' ?hl ?hi ?hj ?_; (case hi => omega); (case hj => omega); (case hl => first | assumption | omega))
    | (refine' r_s26 (s := ⟨_, _, _, _, _⟩) (by assumption) F' N' ?hl ?hi ?hj ?_; (case hi => omega); (case hj => omega); (case hl => first | assumption | omega))
    | (refine' r_s12 (s := ⟨_, _, _, _, _⟩) (by assumption) F' N' ?hl ?hi ?hj ?_; (case hi => omega); (case hj => omega); (case hl => first | assumption | omega)))
  (intro h' t' k' F' N')))
  (k_with "subscriptTail Name Name str int" => (
  k_here
  k_dflt (refine' r_item 0 ?D ?hk ?hi ?hl ?_)
  (case D => k_dflt assumption)
  (case hk => k_dflt exact rfl)
  (case hl => k_dflt (first | assumption | omega))
  (case hi => k_dflt omega)))
  (k_with "subscriptTail Name BinOp str int" => (
  k_here
  k_dflt (first | refine' r_hex (Int.toNat_of_nonneg (by decide +kernel)).symm (by decide +kernel) ?_ | refine' r_hex (hex_hi _) (by omega) ?_ | refine' r_hex (hex_lo _) (by omega) ?_)))
  (k_with "call ref" => (
  k_here
  (with_reducible show wpAny _ _ (call (Value.ref _) _) _ _ _)
  k_dflt (refine wpAny_call ?_; walk_at "c_enter")))
  (k_with "exec While" => (
  k_here
  (with_reducible show wpAny _ _ (exec (Stmt.While (Expr.BoolOp _ _ _) _ _ _) _) _ _ _)
  (with_reducible rename Fr _ _ _ _ => F')
  (with_reducible rename News _ _ _ _ => N')
  k_dflt (refine' w_zero F' N' ?_)
  (clear F' N'; intro h' tk' F' N')))
  (k_with "exec While" => (
  k_here
  (with_reducible show wpAny _ _ (exec (Stmt.While (Expr.Compare _ _ _ _) _ _ _) _) _ _ _)
  (apply hold)))
  (k_with "compareOp In str str" => (
  k_here
  k_dflt (first
    | refine' r_in_yes plain_is (by assumption) ?_
    | refine' r_in_no plain_is (by assumption) ?_
    | refine' r_in_yes kept_is (by assumption) ?_
    | refine' r_in_no kept_is (by assumption) ?_
    | refine' r_in_no blank_is (by first | assumption | decide) ?_)))
  (k_with "c_step" => (first | (k_unfold; (try dsimp only)) | (refine same ?_; k_unfold; (try dsimp only)) | (k_end; wrow_close) | walk1 | (dsimp only; walk1) | (leave1; walk_say "STEP leave1"; try dsimp only) | fail "no step"))
  (k_with "c_steps" => (repeat' walk_at "c_step"))
  (k_with "callWith" => (
  k_here
  (with_reducible show wpAny _ _ (callWith _ (Value.builtin _) [_] _ _) _ _ _)
  k_dflt (first | with_reducible refine callWith_method0 ?_ | refine callWith_method1 ?_)))
  (k_with "c_ls" => (first | assumption | exact TxtsAre.nil | (apply TxtsAre.cons; walk_at "c_ls")))
  (k_with "call builtin:str.join" => (
  k_here
  (with_reducible show wpAny _ _ (call (Value.builtin "str.join") [Value.str _ _, Value.ref _]) _ _ _)
  k_dflt (refine' r_join ?hl ?hi rfl ?hw ?_)
  (case hl => k_dflt (first | is_list | exact News.isList (by k_asm) (by k_mem)))
  (case hi => (try simp only [List.nil_append, List.cons_append]); k_dflt (walk_at "c_ls"))
  (case hw => k_dflt (first | assumption | decide | exact Nat.le_of_ble_eq_true rfl | omega))
  (intro _ _)))
  (k_with "TPost" => (dsimp only [TPost]))
  (k_with "c_size" => (rw [PySem.sizeLine_eq]; (try simp only [List.size_toArray, Array.size_push, List.length_append, List.length_cons, List.length_nil]); omega))
  (k_with "call builtin:list.append" => (
  k_here
  (with_reducible show wpAny _ _ (call (Value.builtin _) [Value.ref _, _]) _ _ _)
  k_dflt (refine' append_K ?k1 ?k2 ?k3 ?_ ?z)
  (case k1 => k_dflt k_asm); (case k2 => k_dflt k_asm); (case k3 => k_dflt k_upd); (case z => k_dflt (walk_at "c_size"))
  k_whole
  (intro h' F' N'); (try k_sweep)))
  (k_with "c_same" => (intro z h2 h3; have h4 := h3; simp only [List.contains_cons, List.contains_nil, Bool.or_false, beq_eq_false_iff_ne, ne_eq, Bool.or_eq_false_iff] at h4; simp [h2, h3, h4]))
  (k_with "TEnd" => (
  k_here
  (with_reducible rename News _ _ _ _ => nE')
  k_dflt (refine' TEnd.intro ?F nE' ?sub ?hs ?hx ?hat ?hi ?hr)
  (case F => k_dflt assumption)
  (case sub => k_dflt (exact ⟨by k_mem, fun p hp => (nomatch hp)⟩))
  (case hat => k_dflt (exact rfl))
  (case hs => k_dflt assumption)
  (case hx => k_dflt (first | rfl | (symm; assumption) | ((with_reducible rename oc _ = _ => he'); rw [he']; rfl)))
  (case hi => k_dflt (simp only [List.map_append, List.flatten_append, List.length_append, List.map_cons, List.map_nil, List.flatten_cons, List.flatten_nil, List.length_cons, List.length_nil, Int.natCast_add, *] <;> omega))
  (case hr => k_dflt (walk_at "c_same"))))
  (k_with "c_use_l" => (
  (case B => k_dflt k_asm); (case F => k_dflt k_asm); (case X => k_dflt k_asm); (case N => k_dflt k_asm); (case T => k_dflt k_asm)
  (case K => first | exact rfl | assumption)
  (case d => walk_at "c_room"); (case u => walk_at "c_units")
  (intro l9 xs9 e9 h9 tk9 F9 N9 ne9)
  (simp only [List.forall_mem_cons, List.not_mem_nil, false_implies, implies_true, and_true] at ne9)))
  (k_with "c_close_l" => (
  refine same ?_
  (with_reducible rename News _ _ _ _ => nE')
  (refine' CRetL.out (by assumption) (by assumption) (by assumption) nE' ?hm ?hi)
  (case hm => k_dflt (first | walk_at "c_mem" | k_mem))
  (case hi => exact ⟨_, _, _, rfl⟩)))
  (k_with "k_ne" => ((try dsimp only); first
  | with_reducible assumption | with_reducible exact Ne.symm (by assumption)
  | with_reducible exact And.left (by assumption) | with_reducible exact Ne.symm (And.left (by assumption))
  | with_reducible exact And.right (by assumption) | with_reducible exact Ne.symm (And.right (by assumption))
  | with_reducible exact And.left (And.right (by assumption)) | with_reducible exact Ne.symm (And.left (And.right (by assumption)))
  | with_reducible exact And.right (And.right (by assumption)) | with_reducible exact Ne.symm (And.right (And.right (by assumption)))
  | with_reducible exact And.left (And.right (And.right (by assumption))) | with_reducible exact Ne.symm (And.left (And.right (And.right (by assumption))))
  | with_reducible exact And.right (And.right (And.right (by assumption))) | with_reducible exact Ne.symm (And.right (And.right (And.right (by assumption))))
  | with_reducible exact Nat.ne_of_lt (by assumption) | with_reducible exact Nat.ne_of_gt (by assumption)
  | with_reducible exact Nat.ne_of_gt (And.left (by assumption)) | with_reducible exact Nat.ne_of_lt (And.left (by assumption))
  | with_reducible exact Nat.ne_of_gt (And.left (And.right (by assumption))) | with_reducible exact Nat.ne_of_lt (And.left (And.right (by assumption)))))
  (k_with "binaryOp RShift int int" => (
  k_here
  k_dflt (refine rshift_int (by decide) ?_)))
  (k_with "eval ListComp" => (
  k_here
  (with_reducible show wpAny _ _ (eval (Expr.ListComp _ [⟨_, Expr.Name _ _, _, _⟩] _ _) _) _ _ _)
  k_dflt (refine comp_text (by k_asm) (by rfl) (by decide) (by rfl) (by decide) (by rfl) ?_)))
  (k_with "CText" => (apply hold))
  (k_with "CompEnd" => (
  k_here
  (with_reducible rename News _ _ _ _ => nE')
  k_dflt (refine' cend ?F nE' ?sub ?off ?_)
  (case F => k_dflt assumption)
  (case sub => k_dflt lcg_sub)
  (case off => k_dflt (first | exact True.intro | assumption))))
  (k_with "binaryOp Add str str" => (
  k_here
  k_dflt (first | refine' r_add s22 rfl ?hs ?_ | refine' r_add rfl s22 ?hs ?_)
  (case hs => k_dflt (simp only [List.length_append, List.length_cons, List.length_nil]; omega))
  (intro _ _)))
  (k_with "exec For" => (
  k_here
  (with_reducible show wpAny _ _ (exec (Stmt.For (Expr.Name _ _) (Expr.Name _ _) _ _ _) _) _ _ _)
  (with_reducible rename Fr _ _ _ _ => lF')
  (with_unfolding_all refine' For_invVF lF' ?k1 ?k2 ?_; (case k1 => exact rfl); (case k2 => exact rfl); k_whole)))
  (k_with "pyIter str" => (apply hold))
  (k_with "k_all" => (assumption))
  (k_with "FPost" => (dsimp only [FPost]))
  (k_with "FEnd" => (
  k_here
  (with_reducible rename News _ _ _ _ => nE')
  k_dflt (refine' FEnd.intro ?F nE' ?sub ?hs ?hx ?hr)
  (case F => k_dflt assumption)
  (case sub => k_dflt (refine ⟨by k_mem, fun p hp => ?_⟩; simp [hp]))
  (case hs => k_dflt assumption)
  (case hx => k_dflt (first | rfl | (symm; assumption) | ((with_reducible rename es _ = _ => he'); rw [he']; rfl)))
  (case hr => k_dflt (walk_at "c_same"))))
  (k_with "c_sameC" => (intro z h3; have h4 := h3; simp only [List.contains_cons, List.contains_nil, Bool.or_false, beq_eq_false_iff_ne, ne_eq, Bool.or_eq_false_iff] at h4; simp [h3, h4]))
  (k_with "c_mem" => (first
  | exact List.Mem.head _ | exact List.Mem.tail _ (.head _) | exact List.Mem.tail _ (.tail _ (.head _)) | exact List.Mem.tail _ (.tail _ (.tail _ (.head _)))
  | exact List.Mem.tail _ (.tail _ (.tail _ (.tail _ (.head _)))) | exact List.Mem.tail _ (.tail _ (.tail _ (.tail _ (.tail _ (.head _))))) | exact List.Mem.tail _ (.tail _ (.tail _ (.tail _ (.tail _ (.tail _ (.head _))))))))
  (k_with "c_step" => (first
  | (k_unfold; (try dsimp only))
  | (with_reducible refine itT ?_)
  | (with_reducible refine itF ?_)
  | ((with_reducible refine' ite_lt_pos ?h ?_); (case h => omega))
  | ((with_reducible refine' ite_lt_neg ?h ?_); (case h => omega))
  | (refine same ?_; k_unfold; (try dsimp only))
  | (k_end; wrow_close)
  | walk1
  | (dsimp only; walk1)
  | (leave1; walk_say "STEP leave1"; try dsimp only)
  | fail "no step"))
  (k_with "c_pureC" => (refine' code_pureC ?k1 ?k2 ?k3 ?k5 ?kA ?kF ?kK ?k6 ?k7 ?k8 ?k9 ?kB ?kD ?_ ?c2 ?c3 ?c4; (case kA => exact rfl); (case kF => exact rfl); (case kK => first | exact rfl | assumption); (case k1 => k_asm); (case k2 => k_asm); (case k3 => k_asm); (case k5 => k_asm); (case k6 => k_is); (case k7 => k_is); (case k8 => walk_at "c_room"); (case k9 => exact BindsTo.of_eq rfl); (case kB => exact rfl); (case kD => decide +kernel); (case c2 => exact rfl); (case c3 => exact rfl); (case c4 => exact rfl); k_whole; intro g' L' h' tk' cells' hG F' N' Y' B' X' T'; k_cells Y'; (try simp only [List.cons_append, List.nil_append] at N'); (try dsimp only); (try k_fold)))
  (k_with "c_openC" => (
  (dsimp only [Ctr]); (intros)
  (refine wpAny_call ?_)
  (k_dflt (walk_at "c_pureC"))))
  (k_with "TPostC" => (dsimp only [TPostC]))
  (k_with "TEndC" => (
  k_here
  (with_reducible rename News _ _ _ _ => nE')
  k_dflt (refine' TEndC.intro ?F nE' ?sub ?hs ?hx ?hat ?hi ?hr)
  (case F => k_dflt assumption)
  (case sub => k_dflt (refine ⟨by walk_at "c_mem", by walk_at "c_mem", fun p hp => ?_⟩; (simp only [List.mem_singleton] at hp); (rw [hp]); walk_at "c_mem"))
  (case hat => k_dflt assumption)
  (case hs => k_dflt assumption)
  (case hx => k_dflt (first | rfl | (symm; assumption)))
  (case hi => k_dflt (simp only [List.map_append, List.flatten_append, List.length_append, List.map_cons, List.map_nil, List.flatten_cons, List.flatten_nil, List.length_cons, List.length_nil, Int.natCast_add, *] <;> omega))
  (case hr => k_dflt (walk_at "c_sameC"))))
  (k_with "compareOp NotEq str str" => (
  k_here
  (with_reducible show wpAny _ _ (compareOp _ (Value.str (S [_]) _) _) _ _ _)
  k_dflt (refine' r_ne_yes pct_is (one_ne (by assumption)) ?_)))
  (k_with "k_room" => ((try simp only [depth_mark, depth_under_make, depth_under_kw, depth_in1, depth_deeper, depth_caller]); (try dsimp only [ktrTop]); first | omega | decide))
  (k_with "call ref" => (
  k_here
  (with_reducible show wpAny _ _ (call (Value.ref 148) _) _ _ _)
  k_dflt (first
    | (refine' use (c_json_sign0 _ _ _ ?D ?hi ?hl) ?B ?F ?X ?N ?T ?K ?d ?u ?_; (case D => assumption); (case hi => first | exact rfl | omega); (case hl => first | assumption | omega))
    | (refine' use (c_json_sign1 _ _ _ ?D ?hi ?hl) ?B ?F ?X ?N ?T ?K ?d ?u ?_; (case D => assumption); (case hi => omega); (case hl => first | assumption | omega)))
  walk_at "c_use"))
  (k_with "compareOp Eq str str" => (
  k_here
  (first
    | (with_reducible refine' r_eq_yes u_is ?_)
    | (with_reducible refine' r_eq_yes s22 ?_)
    | (with_reducible refine' r_eq_no empty_is (List.cons_ne_nil _ _) ?_)
    | ((with_reducible refine' r_eq_no u_is (one_ne ?h) ?_); (case h => first | assumption | decide))
    | ((with_reducible refine' r_eq_no s22 (one_ne ?h) ?_); (case h => first | assumption | decide)))))
  (k_with "compareOp NotEq str str" => (
  k_here
  (first
    | (with_reducible refine' r_ne_no s22 ?_)
    | (with_reducible refine' r_ne_no s92 ?_)
    | ((with_reducible refine' r_ne_yes s22 (one_ne ?h) ?_); (case h => first | assumption | decide))
    | ((with_reducible refine' r_ne_yes s92 (one_ne ?h) ?_); (case h => first | assumption | decide)))))
  (k_with "subscriptTail Name BinOp str int" => (
  k_here
  (with_reducible show wpAny _ _ (subscriptTail _ _ (Value.str (S _) _) (Value.int _ _)) _ _ _)
  k_dflt (refine' r_item 1 ?D ?hk ?hi ?hl ?_)
  (case D => k_dflt assumption)
  (case hk => k_dflt exact rfl)
  (case hl => k_dflt (first | assumption | omega))
  (case hi => k_dflt omega)))
  (k_with "call ref" => (
  k_here
  (with_reducible show wpAny _ _ (call (Value.ref 155) _) _ _ _)
  k_dflt (first
    | (refine' use (c_skip _ _ _ ?D ?hi ?hl ?hc) ?B ?F ?X ?N ?T ?K ?d ?u ?_; (case D => assumption); (case hi => first | exact rfl | omega); (case hl => first | assumption | omega); (case hc => exact rfl))
    | (refine' use (c_skip_n _ _ _ ?D ?hi ?hl) ?B ?F ?X ?N ?T ?K ?d ?u ?_; (case D => assumption); (case hi => first | exact rfl | omega); (case hl => first | assumption | omega)))
  walk_at "c_use"))
  exact True.intro
namespace Mine
theorem lsq_is : Str.ofString "[" = S [91] := by decide +kernel
theorem lcu_is : Str.ofString "{" = S [123] := by decide +kernel
end Mine
theorem Mine.ln27 : True := by
  (k_with "call ref" => (
  k_here
  (with_reducible show wpAny _ _ (call (Value.ref 148) _) _ _ _)
  k_dflt (refine' use (c_json_sign_n _ _ _ ?D ?hi ?hl) ?B ?F ?X ?N ?T ?K ?d ?u ?_; (case D => assumption); (case hi => first | exact rfl | omega); (case hl => first | assumption | omega))
  walk_at "c_use"))
  (k_with "call ref" => (
  k_here
  (with_reducible show wpAny _ _ (call (Value.ref 148) _) _ _ _)
  k_dflt (refine' use (c_json_sign0 _ _ _ ?D ?hi ?hl) ?B ?F ?X ?N ?T ?K ?d ?u ?_; (case D => assumption); (case hi => first | exact rfl | omega); (case hl => first | assumption | omega))
  walk_at "c_use"))
  (k_with "call ref" => (
  k_here
  (with_reducible show wpAny _ _ (call (Value.ref 176) _) _ _ _)
  k_dflt (refine' use_o (c_jstr _ _ _ ?hl ?ha) ?B ?F ?X ?N ?T ?K ?d ?u ?_)
  (case hl => k_dflt assumption)
  (case ha => k_dflt assumption)
  (case B => k_dflt k_asm); (case F => k_dflt k_asm); (case X => k_dflt k_asm); (case N => k_dflt k_asm); (case T => k_dflt k_asm)
  (case K => first | exact rfl | assumption)
  (case d => walk_at "c_room"); (case u => walk_at "c_units")
  (intro l9 o9 h9 tk9 F9 N9 ne9)
  (simp only [List.forall_mem_cons, List.not_mem_nil, false_implies, implies_true, and_true] at ne9)
  (rintro ⟨x9, i9, t9, u9, ho9, hx9, hi9⟩)
  (subst ho9 hx9)
  (try dsimp only)
  (try k_fold)))
  (k_with "compareOp Eq str str" => (
  k_here
  (first
    | (with_reducible refine' r_eq_yes s22 ?_)
    | (with_reducible refine' r_eq_no empty_is (List.cons_ne_nil _ _) ?_)
    | ((with_reducible refine' r_eq_no null_is (hd_ne ?h) ?_); (case h => decide))
    | ((with_reducible refine' r_eq_no true_is (hd_ne ?h) ?_); (case h => decide))
    | ((with_reducible refine' r_eq_no false_is (hd_ne ?h) ?_); (case h => decide)))))
  (k_with "compareOp Eq str str" => (
  k_here
  (first
    | ((with_reducible refine' r_eq_no lsq_is (hd_ne ?h) ?_); (case h => decide))
    | ((with_reducible refine' r_eq_no lcu_is (hd_ne ?h) ?_); (case h => decide)))))
  (k_with "compareOp NotEq str str" => (
  k_here
  (first
    | (with_reducible refine' r_ne_no empty_is ?_)
    | (with_reducible refine' r_ne_no s22 ?_))))
  (k_with "subscriptTail Name Slice str ref" => (
  k_here
  (with_reducible show wpAny _ _ (subscriptTail _ (Expr.Slice (some _) (some _) none _) _ _) _ _ _)
  (with_reducible rename Fr _ _ _ _ => F')
  (with_reducible rename News _ _ _ _ => N')
  k_dflt (first
    | (refine' r_s04 (s := ⟨_, _, _, _, _⟩) (by assumption) F' N' ?hl ?hi ?hj ?_; (case hi => omega); (case hj => omega); (case hl => first | assumption | omega))
    | (refine' r_s05 (s := ⟨_, _, _, _, _⟩) (by assumption) F' N' ?hl ?hi ?hj ?_; (case hi => omega); (case hj => omega); (case hl => first | assumption | omega)))
  (intro h' t' k' F' N')))
  exact True.intro
namespace Mine
theorem c_read (w : World) {l : List Nat} (tt : Tok) (hl : l.length ≤ 100000) (ha : ∀ c ∈ l, c ∈ ([97, 34, 92, 37, 10, 8364, 55, 110] : List Nat)) :
    CtrO w 9 253 [.str (S (34 :: ((l.map jq).flatten ++ [34]))) tt] (fun o => ∃ x t u, o = { cls := .type "tuple", data := .seq ([.str (Str.ofString "string") t, .str x u] : List Value).toArray 0 } ∧ x = S l) := by
  have h2 := S_len (34 :: ((l.map jq).flatten ++ [34]))
  have hw := flat_len jq_len l
  have D0 : (34 :: ((l.map jq).flatten ++ [34])).drop 0 = 34 :: ((l.map jq).flatten ++ [34]) := rfl
  have De : (34 :: ((l.map jq).flatten ++ [34])).drop (((l.map jq).flatten).length + 2) = [] := by simp
  have hlX : (34 :: ((l.map jq).flatten ++ [34])).length = ((l.map jq).flatten).length + 2 := by simp
  dsimp only [CtrO]; intros
  refine wpAny_call ?_
  k_dflt (walk_at "c_pure")
  walk_at "c_steps"
  (refine same ?_)
  (with_reducible rename News _ _ _ _ => nE')
  refine' CRetO.out (by assumption) (by assumption) (by assumption) nE' ?hm ?hi
  case hm => walk_at "c_mem"
  case hi => exact ⟨_, _, _, rfl, rfl⟩
end Mine
theorem Mine.none14 : True := by
  w_top off
  k_with_none
  exact True.intro
namespace Mine
theorem two_cells (w : List Int) : ∃ a b : Nat, ((w.take 2).map fun k => if k < 0 then -k else k) ++ ([131, 2] : List Int).drop (w.take 2).length = [(a : Int), (b : Int)] := by
  have key : ∀ x : Int, ∃ a : Nat, (if x < 0 then -x else x) = (a : Int) := fun x => ⟨x.natAbs, by split <;> omega⟩
  match w with
  | [] => exact ⟨131, 2, rfl⟩
  | [x] =>
    obtain ⟨a, ha⟩ := key x
    exact ⟨a, 2, by simp only [List.take, List.map, List.length, List.drop, List.cons_append, List.nil_append]; rw [ha]; rfl⟩
  | x :: y :: r =>
    obtain ⟨a, ha⟩ := key x
    obtain ⟨b, hb⟩ := key y
    exact ⟨a, b, by simp only [List.take, List.map, List.length, List.drop, List.cons_append, List.nil_append]; rw [ha, hb]⟩
theorem ints_two {us : List Value} {ns : List Int} {a b : Int} (h : IntsAre us ns) (e : ns = [a, b]) : ∃ t u, us = [.int a t, .int b u] := by
  subst e
  cases h with
  | cons _ t h =>
    cases h with
    | cons _ u h =>
      cases h with
      | nil => exact ⟨t, u, rfl⟩
section
variable {prog : Program} {w : World} {A : Around} {E : Value → Shared → Prop} {s : Shared} {h₀ : Heap} {L : Addr} {m : Str → Option Value} {news : List (Addr × Obj)} {Q : Value → Shared → Prop}
theorem r_cells {p q : Addr} {vs ws : List Value} {ns ms : List Int} (W : List Int) (F : Fr h₀ L s.heap m) (N : News h₀ L s.heap news) (ha : s.heap.IsList p vs.toArray) (hb : s.heap.IsList q ws.toArray) (hi : IntsAre vs ns) (hj : IntsAre ws ms)
    (e1 : ns = (W.take 2).map fun k => if k < 0 then -k else k) (e2 : ms = ([131, 2] : List Int).drop (W.take 2).length)
    (h : ∀ (a b : Nat) (t u : Tok) D h', Fr h₀ L h' m → News h₀ L h' ((D, listOf ([.int (a : Int) t, .int (b : Int) u] : List Value).toArray 0) :: news) → (∀ p ∈ news, p.1 < D) → Q (.ref D) { s with heap := h' }) : wpAny (model prog w) A (binaryOp .Add (.ref p) (.ref q)) Q E s := by
  obtain ⟨a, b, e⟩ := two_cells W
  rw [← e1, ← e2] at e
  have hlen : ns.length + ms.length ≤ sizeLine := by
    have := congrArg List.length e
    rw [List.length_append] at this
    rw [this]
    exact Nat.le_of_ble_eq_true rfl
  refine kmk_add_ints F N ha hb hi hj (fun D us h' F' N' l1 hus => ?_) hlen
  obtain ⟨t, u, rfl⟩ := ints_two hus e
  exact h a b t u D h' F' N' l1
end
end Mine
namespace Mine
theorem sub2 {x y : Addr × Obj} {nx : List (Addr × Obj)} (h1 : x ∈ nx) (h2 : y ∈ nx) : ∀ p ∈ [x, y], p ∈ nx := fun p hp => by
  rcases List.mem_cons.mp hp with rfl | hp
  · exact h1
  · rw [List.mem_singleton.mp hp]; exact h2
def A7 : List Nat := [97, 34, 92, 37, 10, 8364, 55]
theorem fmod7 (n : Nat) : Int.fmod (n : Int) 7 = ((n % 7 : Nat) : Int) := by
  rw [Int.fmod_eq_emod_of_nonneg _ (by decide)]; omega
theorem fdiv7 (n : Nat) : Int.fdiv (n : Int) 7 = ((n / 7 : Nat) : Int) := by
  rw [Int.fdiv_eq_ediv_of_nonneg _ (by decide)]; omega
theorem fmod343 (n : Nat) : Int.fmod (n : Int) 343 = ((n % 343 : Nat) : Int) := by
  rw [Int.fmod_eq_emod_of_nonneg _ (by decide)]; omega
theorem fmod3 (n : Nat) : Int.fmod (n : Int) 3 = ((n % 3 : Nat) : Int) := by
  rw [Int.fmod_eq_emod_of_nonneg _ (by decide)]; omega
theorem item7 {j : Nat} (h : j < 7) : ∃ c, c ∈ A7 ∧ Txt.item (Str.ofString "a\"\\%\n€7") (j : Int) = S [c] :=
  ⟨A7.getD j 0, (by decide : ∀ j, j < 7 → A7.getD j 0 ∈ A7) j h, (by decide +kernel : ∀ j : Nat, j < 7 → Txt.item (Str.ofString "a\"\\%\n€7") (j : Int) = S [A7.getD j 0]) j h⟩
theorem len7 : (Str.ofString "a\"\\%\n€7").length = 7 := by decide +kernel
section
variable {prog : Program} {w : World} {A : Around} {E : Value → Shared → Prop} {s : Shared} {value slice : Expr} {Q : Value → Shared → Prop} {t u : Tok}
theorem r_lit7 {j : Nat} {k : Int} (hk : k = (j : Int)) (hj : j < 7) (h : ∀ c ∈ A7, Q (.str (S [c]) s.toks) { s with toks := s.toks + 1 })
    (hs : subscripted slice false (.str (Str.ofString "a\"\\%\n€7") t) (.int k u) = operate [.str (Str.ofString "a\"\\%\n€7") t, .int k u] (getItem (.str (Str.ofString "a\"\\%\n€7") t) (.int k u)) := by with_unfolding_all rfl)
    (ht : ∀ r, letTemporaryGo value (.str (Str.ofString "a\"\\%\n€7") t) r = pure () := by intro _; with_unfolding_all rfl) :
    wpAny (model prog w) A (subscriptTail value slice (.str (Str.ofString "a\"\\%\n€7") t) (.int k u)) Q E s := by
  subst hk
  obtain ⟨c, hc, e⟩ := item7 hj
  have hl := len7
  exact item_str (fitsSsize_of (N := 9223372036854775808) (by omega) (by omega) (Int.le_refl _)) (by omega) (by omega) (fun _ => by rw [e]; exact h c hc) hs ht
end
def BEnd (h₀ : Heap) (L : Addr) (s : Shared) (news : List (Addr × Obj)) (m₀ : Str → Option Value) (l : List Nat) (n : Nat) (s₂ : Shared) : Prop :=
  ∃ (c : Nat) (t u : Tok) (h' : Heap) (tk : Nat) (m' : Str → Option Value), s₂ = { s with heap := h', toks := tk } ∧ Fr h₀ L h' m' ∧ News h₀ L h' news ∧ c ∈ A7 ∧ m' "text" = some (.str (S (l ++ [c])) t) ∧ m' "rest" = some (.int ((n / 7 : Nat) : Int) u) ∧ ∀ z, z ≠ ("text" : Str) → z ≠ ("rest" : Str) → m' z = m₀ z
def BPost (h₀ : Heap) (L : Addr) (s : Shared) (news : List (Addr × Obj)) (m₀ : Str → Option Value) (l : List Nat) (n : Nat) (Q : Flow → Shared → Prop) (fl : Flow) (s₂ : Shared) : Prop :=
  match fl with
  | .ret v => Q (.ret v) s₂
  | .brk => Q .next s₂
  | _ => BEnd h₀ L s news m₀ l n s₂
theorem BEnd.intro {h₀ : Heap} {L : Addr} {s : Shared} {news nx : List (Addr × Obj)} {m₀ m' : Str → Option Value} {l : List Nat} {n c : Nat} {i : Int} {t u : Tok} {h' : Heap} {tk : Nat}
    (F : Fr h₀ L h' m') (N : News h₀ L h' nx) (sub : ∀ p ∈ news, p ∈ nx) (hc : c ∈ A7) (ht : m' "text" = some (.str (S (l ++ [c])) t)) (hr : m' "rest" = some (.int i u)) (hi : i = ((n / 7 : Nat) : Int)) (ho : ∀ z, z ≠ ("text" : Str) → z ≠ ("rest" : Str) → m' z = m₀ z) :
    BEnd h₀ L s news m₀ l n { s with heap := h', toks := tk } := by
  subst hi
  exact ⟨c, t, u, h', tk, m', rfl, F, fun p hp => N p (sub p hp), hc, ht, hr, ho⟩
section
variable {prog : Program} {w : World} {A : Around} {E : Value → Shared → Prop} {Q : Flow → Shared → Prop} {s : Shared} {env : Env} {h₀ : Heap} {L : Addr} {test : Expr} {body : List Stmt} {p : Pos} {m₀ : Str → Option Value} {news nx : List (Addr × Obj)}
theorem w_build {x : Str} {r₀ : Int} {n₀ : Nat} {t₀ u₀ : Tok} (F : Fr h₀ L s.heap m₀) (N : News h₀ L s.heap nx) (sub : ∀ p ∈ news, p ∈ nx) (ht : m₀ "text" = some (.str x t₀)) (hx : x = S []) (hr : m₀ "rest" = some (.int r₀ u₀)) (hn : r₀ = (n₀ : Int)) (hlt : n₀ < 343)
    (turn : ∀ (l : List Nat) (k : Nat) (t u : Tok) (h : Heap) (tk : Nat), 0 < k → l.length < 3 → Fr h₀ L h (fun z => if z = ("text" : Str) then some (.str (S l) t) else if z = ("rest" : Str) then some (.int (k : Int) u) else m₀ z) → News h₀ L h news →
      wpAny (model prog w) A (isTrue test env (eval test env)) (fun b s₂ => if b = true then wpAny (model prog w) A (execs body env) (BPost h₀ L s news m₀ l k Q) E s₂ else False) E { s with heap := h, toks := tk })
    (stop : ∀ (l : List Nat) (t u : Tok) (h : Heap) (tk : Nat), (∀ c ∈ l, c ∈ A7) → l.length ≤ 3 → Fr h₀ L h (fun z => if z = ("text" : Str) then some (.str (S l) t) else if z = ("rest" : Str) then some (.int 0 u) else m₀ z) → News h₀ L h news →
      wpAny (model prog w) A (isTrue test env (eval test env)) (fun b s₂ => if b = true then False else Q .next s₂) E { s with heap := h, toks := tk })
    (hE : PassesOwn (model prog w) A env E := by passes_own) : wpAny (model prog w) A (exec (.While test body [] p) env) Q E s := by
  have hmap : ∀ (m₁ : Str → Option Value) (v u : Value), m₁ "text" = some v → m₁ "rest" = some u → (∀ z, z ≠ ("text" : Str) → z ≠ ("rest" : Str) → m₁ z = m₀ z) → m₁ = fun z => if z = ("text" : Str) then some v else if z = ("rest" : Str) then some u else m₀ z := by
    intro m₁ v u h1 h2 h3
    funext y
    by_cases hy : y = ("text" : Str)
    · rw [if_pos hy, hy, h1]
    · rw [if_neg hy]
      by_cases hy2 : y = ("rest" : Str)
      · rw [if_pos hy2, hy2, h2]
      · rw [if_neg hy2]; exact h3 y hy hy2
  subst hx hn
  refine While_inv2 (fun n m' ny => ∃ l t u, ny = news ∧ (∀ c ∈ l, c ∈ A7) ∧ l.length ≤ 3 ∧ n < 7 ^ (3 - l.length) ∧ m' "text" = some (.str (S l) t) ∧ m' "rest" = some (.int (n : Int) u) ∧ ∀ z, z ≠ ("text" : Str) → z ≠ ("rest" : Str) → m' z = m₀ z)
    (n₀ := n₀) (news := news) F (fun q hq => N q (sub q hq)) ⟨[], t₀, u₀, rfl, fun _ h => (nomatch h), by decide, hlt, ht, hr, fun _ _ _ => rfl⟩ ?_ hE
  rintro n m₁ ny h₁ tk₁ F₁ N₁ ⟨l, t, u, rfl, ha, hl, hk, h1, h2, h3⟩
  rw [hmap m₁ _ _ h1 h2 h3] at F₁
  rcases Nat.eq_zero_or_pos n with rfl | hpos
  · refine wpAny_mono (stop l t u h₁ tk₁ ha hl F₁ N₁) (fun b s₂ q => ?_) fun _ _ x => x
    cases b with
    | true => simp at q
    | false => simpa using q
  · have hl3 : l.length < 3 := by
      rcases Nat.lt_or_ge l.length 3 with h | h
      · exact h
      · have : 3 - l.length = 0 := by omega
        rw [this] at hk
        simp at hk
        omega
    refine wpAny_mono (turn l n t u h₁ tk₁ hpos hl3 F₁ N₁) (fun b s₂ q => ?_) fun _ _ x => x
    cases b with
    | false => simp at q
    | true =>
      simp only [if_true] at q ⊢
      refine wpAny_mono q (fun fl s₃ q => ?_) fun _ _ x => x
      have up : BEnd h₀ L s ny m₀ l n s₃ → ∃ h' tk m₂ news₂ n', s₃ = { s with heap := h', toks := tk } ∧ Fr h₀ L h' m₂ ∧ News h₀ L h' news₂ ∧ n' < n ∧
          (∃ l t u, news₂ = ny ∧ (∀ c ∈ l, c ∈ A7) ∧ l.length ≤ 3 ∧ n' < 7 ^ (3 - l.length) ∧ m₂ "text" = some (.str (S l) t) ∧ m₂ "rest" = some (.int (n' : Int) u) ∧ ∀ z, z ≠ ("text" : Str) → z ≠ ("rest" : Str) → m₂ z = m₀ z) := by
        rintro ⟨c, t', u', h', tk', m', rfl, F', N', hc, ht', hr', ho'⟩
        refine ⟨h', tk', m', _, n / 7, rfl, F', N', by omega, l ++ [c], t', u', rfl, ?_, by simp; omega, ?_, ht', hr', ho'⟩
        · intro d hd
          rcases List.mem_append.mp hd with hd | hd
          · exact ha d hd
          · rw [List.mem_singleton.mp hd]; exact hc
        · rw [List.length_append, List.length_singleton]
          have e : 7 ^ (3 - l.length) = 7 * 7 ^ (3 - (l.length + 1)) := by
            rw [show 3 - l.length = (3 - (l.length + 1)) + 1 by omega, Nat.pow_succ, Nat.mul_comm]
          rw [e] at hk
          omega
      cases fl with
      | ret v => exact q
      | brk => exact q
      | next => exact up q
      | cont => exact up q
end
end Mine
namespace Mine
theorem close {f : Nat → List Nat} {A : List Nat} (h : ∀ c ∈ A, ∀ d ∈ f c, d ∈ A) {l : List Nat} (ha : ∀ c ∈ l, c ∈ A) : ∀ c ∈ (l.map f).flatten, c ∈ A := by
  intro d hd
  rw [List.mem_flatten] at hd
  obtain ⟨y, hy, hd⟩ := hd
  rw [List.mem_map] at hy
  obtain ⟨c, hc, rfl⟩ := hy
  exact h c (ha c hc) d hd
theorem grow {f : Nat → List Nat} (h : ∀ c, 1 ≤ (f c).length) (l : List Nat) : l.length ≤ ((l.map f).flatten).length := by
  induction l with
  | nil => exact Nat.zero_le _
  | cons c r ih =>
    rw [List.map_cons, List.flatten_cons, List.length_append, List.length_cons]
    have := h c
    omega
theorem oc_pos (c : Nat) : 1 ≤ (oc c).length := by
  unfold oc
  (repeat' split) <;> simp
theorem es_pos (c : Nat) : 1 ≤ (es c).length := by
  unfold es
  (repeat' split) <;> simp
theorem jq_pos (c : Nat) : 1 ≤ (jq c).length := by
  unfold jq
  (repeat' split) <;> simp
theorem oc_close {l : List Nat} : (∀ c ∈ l, c ∈ AU) → ∀ c ∈ (l.map oc).flatten, c ∈ AU := close (by decide)
theorem es_close {l : List Nat} : (∀ c ∈ l, c ∈ AE) → ∀ c ∈ (l.map es).flatten, c ∈ AE := close (by decide)
theorem jq_close {l : List Nat} (h : ∀ c ∈ l, c ∈ ([97, 34, 92, 37, 10, 8364, 55, 110] : List Nat)) : ∀ c ∈ 34 :: ((l.map jq).flatten ++ [34]), c ∈ ([97, 34, 92, 37, 10, 8364, 55, 110] : List Nat) := by
  intro d hd
  rcases List.mem_cons.mp hd with rfl | hd
  · decide
  · rcases List.mem_append.mp hd with hd | hd
    · exact close (f := jq) (by decide) h d hd
    · rw [List.mem_singleton.mp hd]; decide
theorem jq_grow (l : List Nat) : l.length ≤ (34 :: ((l.map jq).flatten ++ [34])).length := by
  have := grow jq_pos l
  simp only [List.length_cons, List.length_append, List.length_nil]
  omega
theorem jq_up (l : List Nat) : (34 :: ((l.map jq).flatten ++ [34])).length ≤ 9 * l.length + 2 := by
  have := flat_len jq_len l
  simp only [List.length_cons, List.length_append, List.length_nil]
  omega
theorem A7_AU : ∀ c ∈ A7, c ∈ AU := by decide
theorem A7_AE : ∀ c ∈ A7, c ∈ AE := by decide
theorem A7_AJ : ∀ c ∈ A7, c ∈ ([97, 34, 92, 37, 10, 8364, 55, 110] : List Nat) := by decide
theorem r_mod {prog : Program} {w : World} {A : Around} {E : Value → Shared → Prop} {s : Shared} {Q : Value → Shared → Prop} {t u : Tok} {a b c : Int} (e : Int.fmod a b = c) (hb : b ≠ 0) (h : Q (.int c s.toks) { s with toks := s.toks + 1 }) : wpAny (model prog w) A (binaryOp .Mod (.int a t) (.int b u)) Q E s :=
  mod_int hb (by rw [e]; exact h)
end Mine
namespace Mine
theorem r_addi {prog : Program} {w : World} {A : Around} {E : Value → Shared → Prop} {s : Shared} {Q : Value → Shared → Prop} {t u : Tok} {a b c : Int} (e : a + b = c) (h : Q (.int c s.toks) { s with toks := s.toks + 1 }) : wpAny (model prog w) A (binaryOp .Add (.int a t) (.int b u)) Q E s :=
  add_int (by rw [e]; exact h)
def LtAll (a : Addr) : List (Addr × Obj) → Prop
  | [] => True
  | p :: r => match r with
    | [] => @LT.lt Nat _ p.1 a
    | _ :: _ => @LT.lt Nat _ p.1 a ∧ LtAll a r
theorem LtAll.ne {a : Addr} {l : List (Addr × Obj)} (h : LtAll a l) : ∀ p ∈ l, p.1 ≠ a := by
  induction l with
  | nil => intro p hp; cases hp
  | cons p r ih =>
    intro x hx
    cases r with
    | nil =>
      rw [List.mem_singleton.mp hx]
      exact Nat.ne_of_lt h
    | cons q r =>
      rcases List.mem_cons.mp hx with rfl | hx
      · exact Nat.ne_of_lt h.1
      · exact ih h.2 x hx
theorem endW {h₀ : Heap} {L : Addr} {x : Addr × Obj} {n : List (Addr × Obj)} {rest : (Str → Option Value) → List (Addr × Obj) → Prop} {s₁ : Shared} {h' : Heap} {tk : Nat} {m' : Str → Option Value}
    (F : Fr h₀ L h' m') (N : News h₀ L h' (x :: n)) (off : LtAll x.1 n) (r : rest m' n) : UnrEndW h₀ L s₁ [x] rest { s₁ with heap := h', toks := tk } :=
  ⟨h', tk, m', n, rfl, F, N, fun p hp q hq => by rw [List.mem_singleton.mp hq]; exact off.ne p hp, r⟩
theorem newsTail {h₀ h : Heap} {L : Addr} {a : Addr × Obj} {n : List (Addr × Obj)} (N : News h₀ L h (a :: n)) : News h₀ L h n := fun p hp => N p (.tail _ hp)
theorem law_post (l : OpenLaw) (args : List WData) : (OpenRow.toRowW l.row).claim.post args (.bool true) args = true := by
  refine postW_of (X := true) ?_ ?_ rfl
  · rfl
  · show WTm.value [] (.eq .res (.lit (.bool true))) _ = _
    simp only [WTm.value]
    simp [PySem.W.same]
/-- held back from arithmetic -/
def Short (l : List Nat) : Prop := l.length ≤ 100000
theorem Short.out {l : List Nat} (h : Short l) : l.length ≤ 100000 := h
def NoLess (a b : List Nat) : Prop := a.length ≤ b.length
section
variable {prog : Program} {w : World} {A : Around} {E : Value → Shared → Prop} {s : Shared} {Q : Value → Shared → Prop} {t u : Tok}
theorem r_len {l : List Nat} (hl : Short l) (h : Q (.int (l.length : Int) (s.toks + 1)) { s with toks := s.toks + 1 + 1 }) : wpAny (model prog w) A (call (.builtin "len") [.str (S l) t]) Q E s := by
  have e := S_len l
  have h2 := hl.out
  have h3 := len_str (prog := prog) (w := w) (A := A) (E := E) (s := s) (x := S l) (t := t) (Q := Q) (by omega) (by rw [e]; exact h)
  exact h3
theorem r_lt_no {a b : List Nat} (hl : NoLess b a) (h : Q (.bool false) s) : wpAny (model prog w) A (compareOp .Lt (.int (a.length : Int) t) (.int (b.length : Int) u)) Q E s := by
  have h2 : decide ((a.length : Int) < (b.length : Int)) = false := by
    have : b.length ≤ a.length := hl
    simp only [decide_eq_false_iff_not]
    omega
  refine lt_int ?_
  rw [h2]
  exact h
end
theorem Short.mk {l : List Nat} (h : l.length ≤ 100000) : Short l := h
theorem NoLess.mk {a b : List Nat} (h : a.length ≤ b.length) : NoLess a b := h
end Mine
theorem Mine.none15 : True := by
  w_top off
  k_with_none
  exact True.intro
namespace Mine
/-- a text told again and again -/
def itr (f : List Nat → List Nat) (l : List Nat) : Nat → List Nat
  | 0 => l
  | n + 1 => f (itr f l n)
/-- a call, wherever the heap is as H says -/
noncomputable abbrev CtrG (w : World) (H : Heap → Prop) (f : Addr) (vs : List Value) (R : Tok → Value) : Prop :=
  ∀ (p : Program) (loose : List Str) (mean : ExcName → Option Value) (mg mb : Str → Option Value)
    (dp un : Nat) (gd : Option (List Code)) (cn : Str) (cs : Scope) (a : Addr) (ccd : Value) (cl : List (Str × Addr)) (outer : List Env) (A₀ : Around) (base h₀ : Heap) (L : Addr) (m : Str → Option Value) (s : Shared) (Q E : Value → Shared → Prop),
    Below A₀ base outer h₀ → Fr h₀ L s.heap m → (hd.heap_39 w.params).In h₀ → Top p loose mean mg mb h₀ → cs.kind = .function →
    dp + 12 < recursionLimit → un + 200 < cLine → H s.heap → CRet s Q R →
      wpAny (model P0 w) (ktrTop dp un gd cn cs L a ccd cl outer) (call (.ref f) vs) Q E s
theorem Ctr.g {w : World} {d : Nat} {H : Heap → Prop} {f : Addr} {vs : List Value} {R : Tok → Value} (C : Ctr w d f vs R) (hd : d ≤ 12 := by decide) : CtrG w H f vs R := by
  intro p loose mean mg mb dp un gd cn cs a ccd cl outer A₀ base h₀ L m s Q E B F X T hk h1 h2 _ r
  exact C _ _ _ _ _ _ _ _ _ _ _ _ _ _ _ _ _ _ _ _ _ _ B F X T hk (by omega) (by omega) r
theorem useG {w : World} {H : Heap → Prop} {f : Addr} {vs : List Value} {R : Tok → Value} {p : Program} {loose : List Str} {mean : ExcName → Option Value} {mg mb : Str → Option Value} {news : List (Addr × Obj)}
    {dp un : Nat} {gd : Option (List Code)} {cn : Str} {cs : Scope} {a : Addr} {ccd : Value} {cl : List (Str × Addr)} {outer : List Env} {A₀ : Around} {base h₀ : Heap} {L : Addr} {m : Str → Option Value} {s : Shared} {Q E : Value → Shared → Prop}
    (C : CtrG w H f vs R) (B : Below A₀ base outer h₀) (F : Fr h₀ L s.heap m) (X : (hd.heap_39 w.params).In h₀) (N : News h₀ L s.heap news) (T : Top p loose mean mg mb h₀) (hk : cs.kind = .function)
    (hd : dp + 12 < recursionLimit) (hu : un + 200 < cLine) (hH : H s.heap) (ret : ∀ (t : Tok) (h' : Heap) (tk' : Nat), Fr h₀ L h' m → News h₀ L h' news → Q (R t) { s with heap := h', toks := tk' }) :
    wpAny (model P0 w) (ktrTop dp un gd cn cs L a ccd cl outer) (call (.ref f) vs) Q E s :=
  C _ _ _ _ _ _ _ _ _ _ _ _ _ _ _ _ _ _ _ _ _ _ B F X T hk hd hu hH fun t h' tk' k => ret t h' tk' (F.after k) fun p hp => ⟨k _ _ (N p hp).1, (N p hp).2⟩
/-- a teller, the law's own teller, and the reader that turns both back -/
structure Way (w : World) (H : Heap → Prop) (ta oa ra : Addr) (P : List Nat → Prop) (f : List Nat → List Nat) : Prop where
  ft : ∀ h, H h → FnAt ta h
  fo : ∀ h, H h → FnAt oa h
  fr : ∀ h, H h → FnAt ra h
  tell : ∀ l t, P l → Short l → CtrG w H ta [.str (S l) t] (fun t => .str (S (f l)) t)
  own : ∀ l t, P l → Short l → CtrG w H oa [.str (S l) t] (fun t => .str (S (f l)) t)
  read : ∀ l t, P l → Short l → CtrG w H ra [.str (S (f l)) t] (fun t => .str (S l) t)
  close : ∀ l, P l → P (f l)
  grow : ∀ l, NoLess l (f l)
  up : ∀ l, (f l).length ≤ 9 * l.length + 2
theorem Way.all {w : World} {H : Heap → Prop} {ta oa ra : Addr} {P : List Nat → Prop} {f : List Nat → List Nat} (W : Way w H ta oa ra P f) {l : List Nat} (hl : P l) : ∀ n, P (itr f l n)
  | 0 => hl
  | n + 1 => W.close _ (W.all hl n)
theorem Way.short {w : World} {H : Heap → Prop} {ta oa ra : Addr} {P : List Nat → Prop} {f : List Nat → List Nat} (W : Way w H ta oa ra P f) {l : List Nat} (hl : l.length ≤ 3) {n : Nat} (hn : n ≤ 3) : Short (itr f l n) := by
  have e1 := W.up l
  have e2 := W.up (f l)
  have e3 := W.up (f (f l))
  unfold Short
  match n, hn with
  | 0, _ => show l.length ≤ _; omega
  | 1, _ => show (f l).length ≤ _; omega
  | 2, _ => show (f (f l)).length ≤ _; omega
  | 3, _ => show (f (f (f l))).length ≤ _; omega
theorem TxtsAre.at {vs : List Value} {ys : List (List Nat)} (h : TxtsAre vs ys) : ∀ {i : Nat} {v : Value} {y : List Nat}, vs[i]? = some v → ys[i]? = some y → ∃ t, v = .str (S y) t := by
  induction h with
  | nil => intro i v y h; simp at h
  | cons h ih =>
    intro i v y h1 h2
    cases i with
    | zero => simp at h1 h2; subst h1 h2; exact ⟨_, rfl⟩
    | succ i => simp at h1 h2; exact ih h1 h2
theorem TxtsAre.rev {vs : List Value} {ys : List (List Nat)} (h : TxtsAre vs ys) : TxtsAre vs.reverse ys.reverse := by
  induction h with
  | nil => exact .nil
  | cons h ih => rw [List.reverse_cons, List.reverse_cons]; exact ih.snoc
theorem range_snoc {vs : List Value} {T : Nat → List Nat} {i : Nat} {t : Tok} (h : TxtsAre vs ((List.range i).map T)) : TxtsAre (vs ++ [Value.str (S (T i)) t]) ((List.range (i + 1)).map T) := by
  rw [List.range_succ, List.map_append]
  exact h.snoc
/-- the end of a turn that tells once more -/
def REnd (h₀ : Heap) (L : Addr) (s : Shared) (ra : Addr) (tl : List (Addr × Obj)) (T : Nat → List Nat) (x : Str) (m₀ : Str → Option Value) (stored : List Str) (i : Nat) (s₂ : Shared) : Prop :=
  ∃ (vs : List Value) (e : Nat) (t : Tok) (h' : Heap) (tk : Nat) (m' : Str → Option Value), s₂ = { s with heap := h', toks := tk } ∧ Fr h₀ L h' m' ∧ News h₀ L h' ((ra, listOf (vs ++ [Value.str (S (T i)) t]).toArray e) :: tl) ∧ TxtsAre vs ((List.range i).map T) ∧ ∀ z, z ≠ x → stored.contains z = false → m' z = m₀ z
def RPost (h₀ : Heap) (L : Addr) (s : Shared) (ra : Addr) (tl : List (Addr × Obj)) (T : Nat → List Nat) (x : Str) (m₀ : Str → Option Value) (stored : List Str) (i : Nat) (Q : Flow → Shared → Prop) (fl : Flow) (s₂ : Shared) : Prop :=
  match fl with
  | .ret v => Q (.ret v) s₂
  | .brk => Q .next s₂
  | _ => REnd h₀ L s ra tl T x m₀ stored i s₂
theorem REnd.intro {h₀ : Heap} {L : Addr} {s : Shared} {ra : Addr} {tl nx : List (Addr × Obj)} {T : Nat → List Nat} {x : Str} {m₀ m' : Str → Option Value} {stored : List Str} {i : Nat} {vs : List Value} {y : List Nat} {e : Nat} {t u : Tok} {h' : Heap} {tk : Nat}
    (F : Fr h₀ L h' m') (N : News h₀ L h' nx) (sub : (ra, listOf ((vs ++ [Value.str (S (T i)) t]).toArray.push (.str (S y) u)) e) ∈ nx) (off : ∀ p ∈ tl, p ∈ nx) (hs : TxtsAre vs ((List.range i).map T)) (hy : y = T (i + 1))
    (hr : ∀ z, z ≠ x → stored.contains z = false → m' z = m₀ z) : REnd h₀ L s ra tl T x m₀ stored (i + 1) { s with heap := h', toks := tk } := by
  subst hy
  refine ⟨vs ++ [.str (S (T i)) t], e, u, h', tk, m', rfl, F, fun p hp => N p ?_, range_snoc hs, hr⟩
  rcases List.mem_cons.mp hp with rfl | hp
  · have := sub
    simpa using this
  · exact off p hp
section
variable {prog : Program} {w : World} {A : Around} {E : Value → Shared → Prop} {s : Shared} {env : Env} {h₀ : Heap} {x : Str} {body : List Stmt} {Q : Flow → Shared → Prop}
theorem w_rows {r ra : Addr} {b₀ : Int} {t₀ u₀ v₀ tt₀ : Tok} {n e₀ : Nat} {m₀ : Str → Option Value} {own nx : List (Addr × Obj)} (T : Nat → List Nat) (stored : List Str)
    (hh : A.handled = none) (hr : IsRange s.heap r 0 b₀ 1 t₀ u₀ v₀) (hb : b₀ = (n : Int)) (hn3 : n ≤ 3) (F : Fr h₀ env.locals s.heap m₀) (N : News h₀ env.locals s.heap nx) (sub : (ra, listOf ([.str (S (T 0)) tt₀] : List Value).toArray e₀) ∈ nx) (off : ∀ p ∈ own, p ∈ nx) (ne : ∀ p ∈ own, @Ne Nat p.1 ra)
    (turn : ∀ (i : Nat) (vs : List Value) (e : Nat) (k : Int) (t tt : Tok) (u : Str → Option Value) (h : Heap) (tk : Nat) (tl : List (Addr × Obj)), i < n → TxtsAre vs ((List.range i).map T) → (∀ p ∈ own, p ∈ tl) → (∀ p ∈ tl, @Ne Nat p.1 ra) →
      Fr h₀ env.locals h (fun y => if y = x then some (.int k t) else if stored.contains y then u y else m₀ y) → News h₀ env.locals h ((ra, listOf (vs ++ [Value.str (S (T i)) tt]).toArray e) :: tl) →
      wpAny (model prog w) A (execs body env) (RPost h₀ env.locals { s with heap := h, toks := tk } ra tl T x m₀ stored (i + 1) Q) E { s with heap := h, toks := tk })
    (done : ∀ (vs : List Value) (e : Nat) (tt : Tok) (u : Str → Option Value) (h : Heap) (tk : Nat), TxtsAre vs ((List.range n).map T) → Fr h₀ env.locals h (fun y => if y = x then u y else if stored.contains y then u y else m₀ y) → News h₀ env.locals h ((ra, listOf (vs ++ [Value.str (S (T n)) tt]).toArray e) :: own) → Q .next { s with heap := h, toks := tk }) :
    wpAny (model prog w) A (pyIter (.ref r)) (fun it s₂ => LoopAtV prog w A h₀ env x body Q E it s₂) E s := by
  subst hb
  have hsz : Builtin.Range.rangeSize 0 (n : Int) 1 = (n : Int) := by
    match n, hn3 with
    | 0, _ => rfl
    | 1, _ => rfl
    | 2, _ => rfl
    | 3, _ => rfl
  have hsm : Builtin.Range.small 0 (n : Int) 1 = true := by
    match n, hn3 with
    | 0, _ => rfl
    | 1, _ => rfl
    | 2, _ => rfl
    | 3, _ => rfl
  have N1 : News h₀ env.locals s.heap ((ra, listOf ([.str (S (T 0)) tt₀] : List Value).toArray e₀) :: own) := fun p hp => N p (by
    rcases List.mem_cons.mp hp with rfl | hp
    · exact sub
    · exact off p hp)
  refine wpAny_pyIter_range hr hsm ?_
  have W : Walks prog w A s.heap.objs.size [s.heap.objs.size] [s.heap.objs.size] n (fun i v => i < n ∧ ∃ t, v = .int (0 + i * 1) t)
      (fun i h => IsRangeIter h s.heap.objs.size (0 + (i : Nat) * 1) ((n : Int) - (i : Nat)) 1) := (Walks.range hh _ 0 1 n).bound
  refine loop_invN (fun i m ny => ∃ vs e tt, ny = (ra, listOf (vs ++ [Value.str (S (T i)) tt]).toArray e) :: own ∧ TxtsAre vs ((List.range i).map T) ∧ ∀ z, z ≠ x → stored.contains z = false → m z = m₀ z) W ?_ ?_ ?_ ?_ (by show IsRangeIter _ _ _ _ _; rw [hsz]; simpa using Heap.get?_push_size _ rfl) (F.push _) (fun p hp => ⟨Heap.get?_push_of_some _ (N1 p hp).1, (N1 p hp).2⟩) ⟨[], e₀, tt₀, rfl, .nil, fun _ _ _ => rfl⟩ ?_ ?_
  · intro hm
    exact absurd F.ns.lt ((List.mem_singleton.mp hm) ▸ Nat.lt_irrefl _)
  · intro b hb
    rw [List.mem_singleton.mp hb]
    exact next_is_new F
  · intro p hp hI
    exact absurd (Heap.lt_size (N1 p hp).1) ((List.mem_singleton.mp hI) ▸ Nat.lt_irrefl _)
  · intro p hp hI
    exact absurd (Heap.lt_size (N1 p hp).1) ((List.mem_singleton.mp hI) ▸ Nat.lt_irrefl _)
  · rintro i v m₁ ny h tk ownI hi ⟨_, t, rfl⟩ _ hoff ⟨vs, e, tt, rfl, hs, hr'⟩ F₁ N₁
    have eF : (fun y => if y = x then some (Value.int (0 + (i : Int) * 1) t) else m₁ y) = fun y => if y = x then some (Value.int (0 + (i : Int) * 1) t) else if stored.contains y then m₁ y else m₀ y := by
      funext z
      by_cases hz : z = x
      · rw [if_pos hz, if_pos hz]
      · rw [if_neg hz, if_neg hz]
        cases h3 : stored.contains z with
        | true => simp
        | false => simp only [Bool.false_eq_true, if_false]; exact hr' z hz h3
    rw [eF] at F₁
    refine wpAny_mono (turn i vs e _ t tt m₁ h tk (own ++ ownI) hi hs (fun p hp => List.mem_append.mpr (.inl hp)) (fun p hp => ?_) F₁ N₁) (fun fl s₂ q => ?_) fun _ _ x => x
    · rcases List.mem_append.mp hp with hp | hp
      · exact ne p hp
      · exact hoff p hp ra (by simp)
    have up : REnd h₀ env.locals { s with heap := h, toks := tk } ra (own ++ ownI) T x m₀ stored (i + 1) s₂ → InvEndN h₀ env.locals (fun m ny => ∃ vs e tt, ny = (ra, listOf (vs ++ [Value.str (S (T (i + 1))) tt]).toArray e) :: own ∧ TxtsAre vs ((List.range (i + 1)).map T) ∧ ∀ z, z ≠ x → stored.contains z = false → m z = m₀ z) ownI (((ra, listOf ([.str (S (T 0)) tt₀] : List Value).toArray e₀) :: own).map (·.1)) { s with heap := h, toks := tk } s₂ := by
      rintro ⟨vs', e', t', h', tk', m', rfl, F', N', hs', hr'⟩
      refine InvEndN.intro F' N' ⟨vs', e', t', rfl, hs', hr'⟩ rfl (fun p hp => ?_) (fun p hp => .tail _ (List.mem_append.mpr (.inr hp)))
      rcases List.mem_cons.mp hp with rfl | hp
      · exact .head _
      · exact .tail _ (List.mem_append.mpr (.inl hp))
    cases fl with
    | ret v => exact q
    | brk => exact q
    | next => exact up q
    | cont => exact up q
  · rintro m₁ ny h tk ⟨vs, e, tt, rfl, hs, hr'⟩ F₁ N₁
    refine done vs e tt m₁ h tk hs ?_ N₁
    have eF : m₁ = fun z => if z = x then m₁ z else if stored.contains z then m₁ z else m₀ z := by
      funext z
      by_cases hz : z = x
      · rw [if_pos hz]
      · rw [if_neg hz]
        cases h3 : stored.contains z with
        | true => simp
        | false => simp only [Bool.false_eq_true, if_false]; exact hr' z hz h3
    rw [← eF]
    exact F₁
end
/-- the end of a turn that reads once more -/
def KEnd (h₀ : Heap) (L : Addr) (s : Shared) (tl : List (Addr × Obj)) (T : Nat → List Nat) (x y : Str) (m₀ : Str → Option Value) (j : Nat) (s₂ : Shared) : Prop :=
  ∃ (t : Tok) (h' : Heap) (tk : Nat) (m' : Str → Option Value), s₂ = { s with heap := h', toks := tk } ∧ Fr h₀ L h' m' ∧ News h₀ L h' tl ∧ m' y = some (.str (S (T j)) t) ∧ ∀ z, z ≠ x → z ≠ y → m' z = m₀ z
def KPost (h₀ : Heap) (L : Addr) (s : Shared) (tl : List (Addr × Obj)) (T : Nat → List Nat) (x y : Str) (m₀ : Str → Option Value) (j : Nat) (Q : Flow → Shared → Prop) (fl : Flow) (s₂ : Shared) : Prop :=
  match fl with
  | .ret v => Q (.ret v) s₂
  | .brk => Q .next s₂
  | _ => KEnd h₀ L s tl T x y m₀ j s₂
theorem KEnd.intro {h₀ : Heap} {L : Addr} {s : Shared} {tl nx : List (Addr × Obj)} {T : Nat → List Nat} {x y : Str} {m₀ m' : Str → Option Value} {j : Nat} {t : Tok} {h' : Heap} {tk : Nat}
    (F : Fr h₀ L h' m') (N : News h₀ L h' nx) (off : ∀ p ∈ tl, p ∈ nx) (hy : m' y = some (.str (S (T j)) t)) (hr : ∀ z, z ≠ x → z ≠ y → m' z = m₀ z) : KEnd h₀ L s tl T x y m₀ j { s with heap := h', toks := tk } :=
  ⟨t, h', tk, m', rfl, F, fun p hp => N p (off p hp), hy, hr⟩
section
variable {prog : Program} {w : World} {A : Around} {E : Value → Shared → Prop} {s : Shared} {env : Env} {h₀ : Heap} {x : Str} {body : List Stmt} {Q : Flow → Shared → Prop}
theorem w_back {D : Addr} {vs : List Value} {nn n : Nat} {t₀ : Tok} {m₀ : Str → Option Value} {own nx : List (Addr × Obj)} (T : Nat → List Nat) (y : Str) (hxy : x ≠ y)
    (hh : A.handled = none) (F : Fr h₀ env.locals s.heap m₀) (N : News h₀ env.locals s.heap nx) (sub : (D, listOf vs.toArray nn) ∈ nx) (off : ∀ p ∈ own, p ∈ nx) (ne : ∀ p ∈ own, @Ne Nat p.1 D) (hv : TxtsAre vs (((List.range n).map T).reverse)) (hy₀ : m₀ y = some (.str (S (T n)) t₀))
    (turn : ∀ (j : Nat) (t te : Tok) (h : Heap) (tk : Nat) (tl : List (Addr × Obj)), j < n → (∀ p ∈ own, p ∈ tl) →
      Fr h₀ env.locals h (fun z => if z = x then some (.str (S (T j)) te) else if z = y then some (.str (S (T (j + 1))) t) else m₀ z) → News h₀ env.locals h tl →
      wpAny (model prog w) A (execs body env) (KPost h₀ env.locals { s with heap := h, toks := tk } tl T x y m₀ j Q) E { s with heap := h, toks := tk })
    (done : ∀ (t : Tok) (u : Str → Option Value) (h : Heap) (tk : Nat), Fr h₀ env.locals h (fun z => if z = x then u z else if z = y then some (.str (S (T 0)) t) else m₀ z) → News h₀ env.locals h own → Q .next { s with heap := h, toks := tk }) :
    wpAny (model prog w) A (pyIter (.ref D)) (fun it s₂ => LoopAtV prog w A h₀ env x body Q E it s₂) E s := by
  have N1 : News h₀ env.locals s.heap own := fun p hp => N p (off p hp)
  have hol : s.heap.get? D = some (listOf vs.toArray nn) := (N _ sub).1
  have hls : s.heap.IsList D vs.toArray := ⟨_, hol, rfl, nn, rfl⟩
  have hne : D ≠ s.heap.objs.size := Nat.ne_of_lt (Heap.lt_size hol)
  have hlen : vs.length = n := by rw [hv.len]; simp
  refine wpAny_pyIter_list hls ?_
  have W := Walks.list (prog := prog) (w := w) hh s.heap.objs.size D hne vs.toArray
  rw [show vs.toArray.size = n by simpa using hlen] at W
  refine loop_invN (fun i m ny => ny = own ∧ (∃ t, m y = some (.str (S (T (n - i))) t)) ∧ ∀ z, z ≠ x → z ≠ y → m z = m₀ z) W ?_ ?_ ?_ ?_ ⟨⟨_, Heap.get?_push_size _ rfl, rfl, rfl⟩, hls.at fun o e => Heap.get?_push_of_some _ e⟩ (F.push _) (fun p hp => ⟨Heap.get?_push_of_some _ (N1 p hp).1, (N1 p hp).2⟩) ⟨rfl, ⟨t₀, hy₀⟩, fun _ _ _ => rfl⟩ ?_ ?_
  · intro hm
    rcases List.mem_cons.mp hm with e | hm
    · exact absurd F.ns.lt (e ▸ Nat.lt_irrefl _)
    · exact (N _ sub).2.1 ((List.mem_singleton.mp hm).symm)
  · intro b hb
    rw [List.mem_singleton.mp hb]
    exact next_is_new F
  · intro p hp hI
    exact absurd (Heap.lt_size (N1 p hp).1) ((List.mem_singleton.mp hI) ▸ Nat.lt_irrefl _)
  · intro p hp hI
    rcases List.mem_cons.mp hI with e | hI
    · exact absurd (Heap.lt_size (N1 p hp).1) (e ▸ Nat.lt_irrefl _)
    · exact ne p hp (List.mem_singleton.mp hI)
  · rintro i v m₁ ny h tk ownI hi hP _ hoff ⟨rfl, ⟨t, hy⟩, hr⟩ F₁ N₁
    have hP' : vs[i]? = some v := by simpa using hP
    have hg : (((List.range n).map T).reverse)[i]? = some (T (n - 1 - i)) := by
      rw [List.getElem?_reverse (by simpa using hi)]
      simp only [List.length_map, List.length_range, List.getElem?_map]
      rw [List.getElem?_range (by omega)]
      rfl
    obtain ⟨te, rfl⟩ := hv.at hP' hg
    have e1 : n - i = (n - 1 - i) + 1 := by omega
    rw [e1] at hy
    have eF : (fun z => if z = x then some (Value.str (S (T (n - 1 - i))) te) else m₁ z) = fun z => if z = x then some (Value.str (S (T (n - 1 - i))) te) else if z = y then some (.str (S (T (n - 1 - i + 1))) t) else m₀ z := by
      funext z
      by_cases hz : z = x
      · rw [if_pos hz, if_pos hz]
      · rw [if_neg hz, if_neg hz]
        by_cases hz2 : z = y
        · rw [if_pos hz2, hz2, hy]
        · rw [if_neg hz2]; exact hr z hz hz2
    rw [eF] at F₁
    refine wpAny_mono (turn (n - 1 - i) t te h tk (ny ++ ownI) (by omega) (fun p hp => List.mem_append.mpr (.inl hp)) F₁ N₁) (fun fl s₂ q => ?_) fun _ _ x => x
    have up : KEnd h₀ env.locals { s with heap := h, toks := tk } (ny ++ ownI) T x y m₀ (n - 1 - i) s₂ → InvEndN h₀ env.locals (fun m n2 => n2 = ny ∧ (∃ t, m y = some (.str (S (T (n - (i + 1)))) t)) ∧ ∀ z, z ≠ x → z ≠ y → m z = m₀ z) ownI (ny.map (·.1)) { s with heap := h, toks := tk } s₂ := by
      rintro ⟨t', h', tk', m', rfl, F', N', hy', hr'⟩
      refine InvEndN.intro F' N' ⟨rfl, ⟨t', by rw [show n - (i + 1) = n - 1 - i by omega]; exact hy'⟩, hr'⟩ rfl (fun p hp => List.mem_append.mpr (.inl hp)) (fun p hp => List.mem_append.mpr (.inr hp))
    cases fl with
    | ret v => exact q
    | brk => exact q
    | next => exact up q
    | cont => exact up q
  · rintro m₁ ny h tk ⟨rfl, ⟨t, hy⟩, hr⟩ F₁ N₁
    rw [Nat.sub_self] at hy
    refine done t m₁ h tk ?_ N₁
    have eF : m₁ = fun z => if z = x then m₁ z else if z = y then some (.str (S (T 0)) t) else m₀ z := by
      funext z
      by_cases hz : z = x
      · rw [if_pos hz]
      · rw [if_neg hz]
        by_cases hz2 : z = y
        · rw [if_pos hz2, hz2, hy]
        · rw [if_neg hz2]; exact hr z hz hz2
    rw [← eF]
    exact F₁
end
section
variable {prog : Program} {w : World} {A : Around} {E : Value → Shared → Prop} {s : Shared} {h₀ : Heap} {L : Addr} {m : Str → Option Value} {news : List (Addr × Obj)} {value slice : Expr} {Q : Value → Shared → Prop}
theorem r_last {D : Addr} {vs : List Value} {a : Value} {k : Int} {u : Tok} {e : Nat} (N : News h₀ L s.heap news) (hm : (D, listOf (vs ++ [a]).toArray e) ∈ news) (hk : k = -1) (h : Q a s)
    (hs : subscripted slice false (.ref D) (.int k u) = operate [.ref D, .int k u] (getItem (.ref D) (.int k u)) := by with_unfolding_all rfl) :
    wpAny (model prog w) A (subscriptTail value slice (.ref D) (.int k u)) Q E s := by
  subst hk
  have hl : s.heap.IsList D (vs ++ [a]).toArray := News.isList N hm
  refine tail_any hl.typeIs slot_list_getitem.lookup (wpAny_getItem_list_neg hl (by decide) (by simp; omega) (by decide) (x := a) ?_ h) hs
  have e1 : ((-1 : Int) + ((vs ++ [a]).toArray.size : Int)).toNat = vs.length := by simp; omega
  rw [e1]
  simp
theorem r_init {D : Addr} {vs : List Value} {a : Value} {k : Int} {u : Tok} {e : Nat} (F : Fr h₀ L s.heap m) (N : News h₀ L s.heap news) (hm : (D, listOf (vs ++ [a]).toArray e) ∈ news) (hk : k = -1) (hz : vs.length ≤ 1000)
    (h : ∀ D h', Fr h₀ L h' m → News h₀ L h' ((D, listOf vs.toArray 0) :: news) → (∀ p ∈ news, p.1 < D) → Q (.ref D) { s with heap := h' })
    (hs : subscripted slice false (.ref D) (.ref s.heap.objs.size) = operate [.ref s.heap.objs.size, .ref D] (getItem (.ref D) (.ref s.heap.objs.size))) (ht : ∀ r, letTemporaryGo value (.ref D) r = pure ()) :
    wpAny (model prog w) A (subscriptTail value slice (.ref D) (.ref s.heap.objs.size)) Q E { s with heap := s.heap.push { cls := .type "slice", data := .fields #[.none, .int k u, .none] } } := by
  subst hk
  have ez : (vs ++ [a]).toArray.size ≤ sizeLine := by rw [PySem.sizeLine_eq]; simp; omega
  refine kmk_slice_lit F N (News.isList N hm) IsPart.none (IsPart.int _ _) ?_ h hs ht ez
  have e : sliceBounds none (some (-1)) none (vs ++ [a]).toArray.size = (((0 : Nat) : Int), ((vs.length : Nat) : Int), 1) := by
    simp only [sliceBounds, Option.getD_none, show (1 : Int) > 0 by decide, if_true, if_pos (show (-1 : Int) < 0 by decide), List.size_toArray, List.length_append, List.length_singleton]
    congr 1
    congr 1
    omega
  rw [kmk_pick_nat _ e]
  simp
end
/-- what a turn of the ways' loop does -/
def WayP (w : World) (A : Around) (env : Env) (E : Value → Shared → Prop) (h₀ : Heap) (l : List Nat) (t : Tok) (ca : Addr) (n : Nat) (body : List Stmt) : Prop :=
  ∀ (H : Heap → Prop) (ta oa ra : Addr) (P : List Nat → Prop) (f : List Nat → List Nat) (own : List (Addr × Obj)) (m : Str → Option Value) (s : Shared) (Q : Flow → Shared → Prop),
    Way w H ta oa ra P f → P l → (∀ h m, Fr h₀ env.locals h m → News h₀ env.locals h own → H h) → Fr h₀ env.locals s.heap m → News h₀ env.locals s.heap own →
    m "teller" = some (.ref ta) → m "own" = some (.ref oa) → m "reader" = some (.ref ra) → m "text" = some (.str (S l) t) → m "cells" = some (.ref ca) →
    (∃ x y u v, (ca, listOf ([.int x u, .int ((y : Nat) : Int) v] : List Value).toArray 0) ∈ own ∧ 1 + y % 3 = n) →
    (∀ h' tk m', Fr h₀ env.locals h' m' → News h₀ env.locals h' own → m' "text" = some (.str (S l) t) → m' "cells" = some (.ref ca) → Q .next { s with heap := h', toks := tk }) →
      wpAny (model P0 w) A (execs body env) Q E s
/-- what holds of the loop's body, said ahead of the loop -/
theorem cut_way {w : World} {A : Around} {E : Value → Shared → Prop} {s : Shared} {env : Env} {tgt iter : Expr} {body : List Stmt} {pos : Pos} {Q : Flow → Shared → Prop} {h₀ : Heap} {m : Str → Option Value} (l : List Nat) (t : Tok) (ca : Addr) (n : Nat) (_F : Fr h₀ env.locals s.heap m)
    (h : WayP w A env E h₀ l t ca n body) (k : WayP w A env E h₀ l t ca n body → wpAny (model P0 w) A (exec (.For tgt iter body [] pos) env) Q E s) : wpAny (model P0 w) A (exec (.For tgt iter body [] pos) env) Q E s := k h
theorem news_off {h₀ h : Heap} {L : Addr} {a b : List (Addr × Obj)} (N : News h₀ L h a) (off : ∀ p ∈ b, p ∈ a) : News h₀ L h b := fun p hp => N p (off p hp)
theorem lt_ne {l : List (Addr × Obj)} {a : Addr} (h : ∀ p ∈ l, p.1 < a) : ∀ p ∈ l, @Ne Nat p.1 a := fun p hp => Nat.ne_of_lt (h p hp)
/-- a call of a lambda, whatever stands around -/
theorem lam_pure {prog : Program} {w : World} {A₀ A : Around} {s : Shared} {base h₀ : Heap} {L : Addr} {m : Str → Option Value} {K : Frag} {p : Program} {loose : List Str} {mean : ExcName → Option Value} {mg mb : Str → Option Value}
    {env : Env} {outer : List Env} {R : Result → Shared → Prop} {name qual : Str} {params : Arguments} {body : Expr} {scope : Scope} {cl : List (Str × Addr)} {pm ctv : Value} {c' f : Addr} {args : Args} {binds : List (Str × Value)}
    (B : Below A₀ base outer h₀) (F : Fr h₀ L s.heap m) (X₀ : K.In h₀) (T : Top p loose mean mg mb h₀) (hA : A.frames = some (env :: outer)) (hf : env.frame = some L) (hke : env.scope.kind = .function)
    (ho : s.heap.get? f = some (kla_obj name qual params body scope cl pm c' ctv)) (hcd : s.heap.CodeRec (.ref c') qual) (hroom : A.depth < recursionLimit)
    (hbind : bindArgs (kla_fn name qual params body scope cl pm (.ref c') ctv) args = pure binds) (hloc : ∀ y ∈ binds, scope.names.lookup y.1 = some .local)
    (h : ∀ g L' h₁, Kept s.heap g → Fr g L' h₁ (fun y => binds.reverse.lookup y) → News g L' h₁ [] → Below A base (env :: outer) g → K.In g → Top p loose mean mg mb g →
      wpAny (model prog w) (A.deeper (envX qual scope L' f (.ref c') cl)) (eval body (envX qual scope L' f (.ref c') cl))
        (fun v s' => LeaveP g R v s')
        (fun e s' => wpAny (model prog w) (A.deeper (envX qual scope L' f (.ref c') cl)) (leaving (envX qual scope L' f (.ref c') cl) e) (fun _ s'' => R (.error e) s'') (fun e' s'' => R (.error e') s'') s')
        { s with heap := h₁, toks := s.toks + binds.length })
    (hco : scope.isCoroutine = false) (hgen : scope.isGenerator = false) (hk : scope.kind = .function)
    (hcell : ∀ x ∈ scope.names, x.2 ≠ .cell) : codeAny (model prog w) A (.call (.ref f) args) R s := by
  obtain ⟨_, BG, st, _⟩ := groundX (R := R) B F (News.nil (h₀ := h₀) (L := L) (h := s.heap)) hA hf hke
  have hX := X₀.keeps F.keep
  have BG' : Below A base (env :: outer) s.heap := by
    refine ⟨BG.stack, fun b o e => of_hideAll _ (BG.stays b o e), BG.frames.of_keeps fun b o e _ => ⟨o, of_hideAll _ e, rfl⟩⟩
  refine kla_callFunE hroom ho rfl hco hgen rfl hcd ?_
  rw [hbind]
  refine wpAny_pure (wpAny_newFunctionEnv hcell hloc (fun h₁ hns hsb => ⟨((T.nolimit).keeps F.keep).fresh _ hsb, ?_⟩) hk)
  show codeAny _ _ (.expr body (envX qual scope s.heap.objs.size f (.ref c') cl)) _ _
  have hk₁ : ∀ b o, s.heap.get? b = some o → h₁.get? b = some o := fun b o e => hsb.extBut b o (Nat.ne_of_lt (Heap.lt_size e)) (Heap.get?_push_of_some _ e)
  exact kla_codeExpr (wpAny_mono (h s.heap s.heap.objs.size h₁ (fun _ _ e => e) ⟨hns, hk₁, Nat.le_refl _⟩ News.nil BG' hX (T.keeps F.keep)) (fun v s' hl => by
    obtain ⟨_, _, F', k⟩ := hl
    exact k F'.keep) fun _ _ y => y)
/-- the heap bears this lambda -/
def LamH (w : World) (name qual : Str) (params : Arguments) (body : Expr) (scope : Scope) (cl : List (Str × Addr)) (pm ctv : Value) (c' f : Addr) (h : Heap) : Prop :=
  (hd.heap_39 w.params).In h ∧ h.get? f = some (kla_obj name qual params body scope cl pm c' ctv) ∧ h.CodeRec (.ref c') qual
end Mine
namespace Mine
/-- what a call of this lambda gives -/
def LamP (w : World) (name qual : Str) (params : Arguments) (body : Expr) (scope : Scope) (cl : List (Str × Addr)) (pm ctv : Value) (c' f : Addr) : Prop :=
  ∀ (l : List Nat) (t : Tok), (∀ c ∈ l, c ∈ ([97, 34, 92, 37, 10, 8364, 55, 110] : List Nat)) → Short l → CtrG w (LamH w name qual params body scope cl pm ctv c' f) f [.str (S (34 :: ((l.map jq).flatten ++ [34]))) t] (fun t => .str (S l) t)
theorem cut_lam {w : World} {name qual : Str} {params : Arguments} {body : Expr} {scope : Scope} {cl : List (Str × Addr)} {pm ctv : Value} {c' f : Addr} {news : List (Addr × Obj)} {G : Prop} {h₀ h : Heap} {L : Addr}
    (_X : (hd.heap_39 w.params).In h₀) (_N : News h₀ L h news) (_hm : (f, kla_obj name qual params body scope cl pm c' ctv) ∈ news) (Z : LamP w name qual params body scope cl pm ctv c' f) (k : LamP w name qual params body scope cl pm ctv c' f → G) : G := k Z
theorem lamH_of {w : World} {name qual : Str} {params : Arguments} {body : Expr} {scope : Scope} {cl : List (Str × Addr)} {pm ctv : Value} {c' f L : Addr} {news : List (Addr × Obj)} {h₀ h : Heap} {m : Str → Option Value} {oc : Obj} {vs : Array Value} {t : Tok}
    (X : (hd.heap_39 w.params).In h₀) (F : Fr h₀ L h m) (N : News h₀ L h news) (hm : (f, kla_obj name qual params body scope cl pm c' ctv) ∈ news) (hc : (c', oc) ∈ news) (hd : oc.data = .fields vs) (hv : vs[1]? = some (.str qual t)) : LamH w name qual params body scope cl pm ctv c' f h :=
  ⟨X.keeps F.keep, (N _ hm).1, codeRec_news N hc hd hv⟩
theorem fnAt {w : World} {h : Heap} {f : Addr} {oc : Value} {od : Option Addr} {fd : FuncData} {sl : Array (Option Value)} (X : (hd.heap_39 w.params).In h) (ho : (hd.heap_39 w.params).lookup f = some ⟨oc, od, .func fd, sl⟩) : FnAt f h := ⟨oc, od, fd, sl, X _ _ ho⟩
theorem fr5 {h₀ h : Heap} {L : Addr} {m : Str → Option Value} {a b c d e : Str} {va vb vc vd ve : Value} (F : Fr h₀ L h m) (h1 : m a = some va) (h2 : m b = some vb) (h3 : m c = some vc) (h4 : m d = some vd) (h5 : m e = some ve) :
    Fr h₀ L h (fun z => if z = a then some va else if z = b then some vb else if z = c then some vc else if z = d then some vd else if z = e then some ve else m z) := by
  have q : (fun z => if z = a then some va else if z = b then some vb else if z = c then some vc else if z = d then some vd else if z = e then some ve else m z) = m := by
    funext z
    by_cases ha : z = a
    · rw [if_pos ha, ha, h1]
    rw [if_neg ha]
    by_cases hb : z = b
    · rw [if_pos hb, hb, h2]
    rw [if_neg hb]
    by_cases hc : z = c
    · rw [if_pos hc, hc, h3]
    rw [if_neg hc]
    by_cases hd : z = d
    · rw [if_pos hd, hd, h4]
    rw [if_neg hd]
    by_cases he : z = e
    · rw [if_pos he, he, h5]
    rw [if_neg he]
  rw [q]; exact F
section
variable {prog : Program} {w : World} {A : Around} {E : Value → Shared → Prop} {s : Shared} {h₀ : Heap} {L : Addr} {m : Str → Option Value} {news : List (Addr × Obj)} {value slice : Expr} {Q : Value → Shared → Prop}
theorem r_rev {D : Addr} {vs : List Value} {k : Int} {u : Tok} {e : Nat} {ops : List Value} (F : Fr h₀ L s.heap m) (N : News h₀ L s.heap news) (hm : (D, listOf vs.toArray e) ∈ news) (hk : k = -1) (hz : vs.length ≤ 1000)
    (h : ∀ D h', Fr h₀ L h' m → News h₀ L h' ((D, listOf (vs.reverse).toArray 0) :: news) → (∀ p ∈ news, p.1 < D) → Q (.ref D) { s with heap := h' })
    (hs : subscripted slice false (.ref D) (.ref s.heap.objs.size) = operate ops (getItem (.ref D) (.ref s.heap.objs.size))) (ht : ∀ r, letTemporaryGo value (.ref D) r = pure ()) :
    wpAny (model prog w) A (subscriptTail value slice (.ref D) (.ref s.heap.objs.size)) Q E { s with heap := s.heap.push { cls := .type "slice", data := .fields #[.none, .none, .int k u] } } := by
  subst hk
  exact krv_lit (its := vs.toArray) (zs := vs.reverse) F N (News.isList N hm) (IsPart.int _ _) (by simp) h hs ht (by rw [PySem.sizeLine_eq]; simp; omega)
end
end Mine
theorem Mine.none16 : True := by
  w_top off
  k_with_none
  exact True.intro
open Mine
theorem Mine.ln28 : True := by
  (k_with "c_room" => ((try simp only [depth_under_make, depth_under_kw, depth_in1, depth_deeper, depth_caller]); (try dsimp only [ktrTop]); first | omega | decide))
  (k_with "c_units" => ((have hcL9 := cLine_is); (try simp only [units_in1, units_deeper, Around.mark_units, units_caller]); (try dsimp only [ktrTop]); omega))
  (k_with "c_enter" => (refine' code_def ?k1 ?k2 ?k3 ?k4 ?k5 ?kA ?kF ?kK ?k6 ?k7 ?k8 ?k9 ?kB ?_ ?c2 ?c3 ?c4 ?c5; (case kA => exact rfl); (case kF => exact rfl); (case kK => first | exact rfl | assumption); (case k1 => k_asm); (case k2 => k_asm); (case k3 => k_asm); (case k4 => k_asm); (case k5 => k_asm); (case k6 => k_is); (case k7 => k_is); (case k8 => walk_at "c_room"); (case k9 => exact BindsTo.of_eq rfl); (case c5 => decide); (case kB => exact locs rfl); (case c2 => exact rfl); (case c3 => exact rfl); (case c4 => exact rfl); k_whole; intro g' L' h' FG' F' N' B' X' T'; (try dsimp only); (try k_lift B'); (try k_fold)))
  (k_with "c_pure" => (refine' code_pure ?k1 ?k2 ?k3 ?k5 ?kA ?kF ?kK ?k6 ?k7 ?k8 ?k9 ?kB ?_ ?c2 ?c3 ?c4 ?c5; (case kA => exact rfl); (case kF => exact rfl); (case kK => first | exact rfl | assumption); (case k1 => k_asm); (case k2 => k_asm); (case k3 => k_asm); (case k5 => k_asm); (case k6 => k_is); (case k7 => k_is); (case k8 => walk_at "c_room"); (case k9 => exact BindsTo.of_eq rfl); (case c5 => decide); (case kB => exact locs rfl); (case c2 => exact rfl); (case c3 => exact rfl); (case c4 => exact rfl); k_whole; intro g' L' h' hG F' N' B' X' T'; (try dsimp only); (try k_fold)))
  (k_with "c_open" => (
  (dsimp only [Ctr]); (intros)
  (refine wpAny_call ?_)
  (k_dflt (walk_at "c_pure"))))
  (k_with "LeaveP" => (k_dflt (refine' leaveP_ ?k1 ?_; (case k1 => k_asm); k_whole); intro kP; (try dsimp only)))
  (k_with "c_close" => (
  refine same ?_
  first
  | exact CRet.out (by assumption) (by assumption) (by assumption)
  | (refine' CRet.str (by assumption) (by assumption) ?e (by assumption); (case e => first | exact rfl | decide +kernel | (simp [S]; done)))
  | (refine' CRet.int (by assumption) (by assumption) ?e (by assumption); (case e => omega))))
  (k_with "c_use" => (
  (case B => k_dflt k_asm); (case F => k_dflt k_asm); (case X => k_dflt k_asm); (case N => k_dflt k_asm); (case T => k_dflt k_asm)
  (case K => first | exact rfl | assumption)
  (case d => walk_at "c_room"); (case u => walk_at "c_units")
  (intro t9 h9 tk9 F9 N9)
  (try dsimp only)
  (try k_fold)))
  (k_with "subscriptTail Name Slice str ref" => (
  k_here
  (with_reducible show wpAny _ _ (subscriptTail _ (Expr.Slice (some _) (some _) none _) _ _) _ _ _)
  (with_reducible rename Fr _ _ _ _ => F')
  (with_reducible rename News _ _ _ _ => N')
  k_dflt (first
    | (refine' r_s01 (s := ⟨_, _, _, _, _⟩) (by assumption) F' N' ?hl ?hi ?hj ?_; (case hi => omega); (case hj => omega); (case hl => first | assumption | omega))
    | (refine' r_s01n (s := ⟨_, _, _, _, _⟩) (by assumption) F' N' ?hl ?hi ?hj ?_; (case hi => omega); (case hj => omega); (case hl => first | assumption | omega))
    | (refine' r_s13 (s := ⟨_, _, _, _, _⟩) (by assumption) F' N' ?hl ?hi ?hj ?_; (case hi => omega); (case hj => omega); (case hl => first | assumption | omega))
    | (refine' r_s02 (s := ⟨_, _, _, _, _⟩) (by assumption) F' N' ?hl ?hi ?hj ?_; (case hi => omega); (case hj => omega); (case hl => first | assumption | omega))
    | (refine' r_s02e (s := ⟨_, _, _, _, _⟩) (by assumption) F' N' ?hl ?hi ?hj ?_; (case hi => omega); (case hj => omega); (case hl => first | assumption | omega))
    | (refine' r_s26 (s := ⟨_, _, _, _, _⟩) (by assumption) F' N' ?hl ?hi ?hj ?_; (case hi => omega); (case hj => omega); (case hl => first | assumption | omega))
    | (refine' r_s12 (s := ⟨_, _, _, _, _⟩) (by assumption) F' N' ?hl ?hi ?hj ?_; (case hi => omega); (case hj => omega); (case hl => first | assumption | omega)))
  (intro h' t' k' F' N')))
  (k_with "subscriptTail Name Name str int" => (
  k_here
  k_dflt (refine' r_item 0 ?D ?hk ?hi ?hl ?_)
  (case D => k_dflt assumption)
  (case hk => k_dflt exact rfl)
  (case hl => k_dflt (first | assumption | omega))
  (case hi => k_dflt omega)))
  (k_with "subscriptTail Name BinOp str int" => (
  k_here
  k_dflt (first | refine' r_hex (Int.toNat_of_nonneg (by decide +kernel)).symm (by decide +kernel) ?_ | refine' r_hex (hex_hi _) (by omega) ?_ | refine' r_hex (hex_lo _) (by omega) ?_)))
  (k_with "call ref" => (
  k_here
  (with_reducible show wpAny _ _ (call (Value.ref _) _) _ _ _)
  k_dflt (refine wpAny_call ?_; walk_at "c_enter")))
  (k_with "exec While" => (
  k_here
  (with_reducible show wpAny _ _ (exec (Stmt.While (Expr.BoolOp _ _ _) _ _ _) _) _ _ _)
  (with_reducible rename Fr _ _ _ _ => F')
  (with_reducible rename News _ _ _ _ => N')
  k_dflt (refine' w_zero F' N' ?_)
  (clear F' N'; intro h' tk' F' N')))
  (k_with "exec While" => (
  k_here
  (with_reducible show wpAny _ _ (exec (Stmt.While (Expr.Compare _ _ _ _) _ _ _) _) _ _ _)
  (apply hold)))
  (k_with "compareOp In str str" => (
  k_here
  k_dflt (first
    | refine' r_in_yes plain_is (by assumption) ?_
    | refine' r_in_no plain_is (by assumption) ?_
    | refine' r_in_yes kept_is (by assumption) ?_
    | refine' r_in_no kept_is (by assumption) ?_
    | refine' r_in_no blank_is (by first | assumption | decide) ?_)))
  (k_with "c_step" => (first | (k_unfold; (try dsimp only)) | (refine same ?_; k_unfold; (try dsimp only)) | (k_end; wrow_close) | walk1 | (dsimp only; walk1) | (leave1; walk_say "STEP leave1"; try dsimp only) | fail "no step"))
  (k_with "c_steps" => (repeat' walk_at "c_step"))
  (k_with "callWith" => (
  k_here
  (with_reducible show wpAny _ _ (callWith _ (Value.builtin _) [_] _ _) _ _ _)
  k_dflt (first | with_reducible refine callWith_method0 ?_ | refine callWith_method1 ?_)))
  (k_with "c_ls" => (first | assumption | exact TxtsAre.nil | (apply TxtsAre.cons; walk_at "c_ls")))
  (k_with "call builtin:str.join" => (
  k_here
  (with_reducible show wpAny _ _ (call (Value.builtin "str.join") [Value.str _ _, Value.ref _]) _ _ _)
  k_dflt (refine' r_join ?hl ?hi rfl ?hw ?_)
  (case hl => k_dflt (first | is_list | exact News.isList (by k_asm) (by k_mem)))
  (case hi => (try simp only [List.nil_append, List.cons_append]); k_dflt (walk_at "c_ls"))
  (case hw => k_dflt (first | assumption | decide | exact Nat.le_of_ble_eq_true rfl | omega))
  (intro _ _)))
  (k_with "TPost" => (dsimp only [TPost]))
  (k_with "c_size" => (rw [PySem.sizeLine_eq]; (try simp only [List.size_toArray, Array.size_push, List.length_append, List.length_cons, List.length_nil]); omega))
  (k_with "call builtin:list.append" => (
  k_here
  (with_reducible show wpAny _ _ (call (Value.builtin _) [Value.ref _, _]) _ _ _)
  k_dflt (refine' append_K ?k1 ?k2 ?k3 ?_ ?z)
  (case k1 => k_dflt k_asm); (case k2 => k_dflt k_asm); (case k3 => k_dflt k_upd); (case z => k_dflt (walk_at "c_size"))
  k_whole
  (intro h' F' N'); (try k_sweep)))
  (k_with "c_same" => (intro z h2 h3; have h4 := h3; simp only [List.contains_cons, List.contains_nil, Bool.or_false, beq_eq_false_iff_ne, ne_eq, Bool.or_eq_false_iff] at h4; simp [h2, h3, h4]))
  (k_with "TEnd" => (
  k_here
  (with_reducible rename News _ _ _ _ => nE')
  k_dflt (refine' TEnd.intro ?F nE' ?sub ?hs ?hx ?hat ?hi ?hr)
  (case F => k_dflt assumption)
  (case sub => k_dflt (exact ⟨by k_mem, fun p hp => (nomatch hp)⟩))
  (case hat => k_dflt (exact rfl))
  (case hs => k_dflt assumption)
  (case hx => k_dflt (first | rfl | (symm; assumption) | ((with_reducible rename oc _ = _ => he'); rw [he']; rfl)))
  (case hi => k_dflt (simp only [List.map_append, List.flatten_append, List.length_append, List.map_cons, List.map_nil, List.flatten_cons, List.flatten_nil, List.length_cons, List.length_nil, Int.natCast_add, *] <;> omega))
  (case hr => k_dflt (walk_at "c_same"))))
  (k_with "c_use_l" => (
  (case B => k_dflt k_asm); (case F => k_dflt k_asm); (case X => k_dflt k_asm); (case N => k_dflt k_asm); (case T => k_dflt k_asm)
  (case K => first | exact rfl | assumption)
  (case d => walk_at "c_room"); (case u => walk_at "c_units")
  (intro l9 xs9 e9 h9 tk9 F9 N9 ne9)
  (simp only [List.forall_mem_cons, List.not_mem_nil, false_implies, implies_true, and_true] at ne9)))
  (k_with "c_close_l" => (
  refine same ?_
  (with_reducible rename News _ _ _ _ => nE')
  (refine' CRetL.out (by assumption) (by assumption) (by assumption) nE' ?hm ?hi)
  (case hm => k_dflt (first | walk_at "c_mem" | k_mem))
  (case hi => exact ⟨_, _, _, rfl⟩)))
  (k_with "k_ne" => ((try dsimp only); first
  | with_reducible assumption | with_reducible exact Ne.symm (by assumption)
  | with_reducible exact And.left (by assumption) | with_reducible exact Ne.symm (And.left (by assumption))
  | with_reducible exact And.right (by assumption) | with_reducible exact Ne.symm (And.right (by assumption))
  | with_reducible exact And.left (And.right (by assumption)) | with_reducible exact Ne.symm (And.left (And.right (by assumption)))
  | with_reducible exact And.right (And.right (by assumption)) | with_reducible exact Ne.symm (And.right (And.right (by assumption)))
  | with_reducible exact And.left (And.right (And.right (by assumption))) | with_reducible exact Ne.symm (And.left (And.right (And.right (by assumption))))
  | with_reducible exact And.right (And.right (And.right (by assumption))) | with_reducible exact Ne.symm (And.right (And.right (And.right (by assumption))))
  | with_reducible exact Nat.ne_of_lt (by assumption) | with_reducible exact Nat.ne_of_gt (by assumption)
  | with_reducible exact Nat.ne_of_gt (And.left (by assumption)) | with_reducible exact Nat.ne_of_lt (And.left (by assumption))
  | with_reducible exact Nat.ne_of_gt (And.left (And.right (by assumption))) | with_reducible exact Nat.ne_of_lt (And.left (And.right (by assumption)))))
  (k_with "binaryOp RShift int int" => (
  k_here
  k_dflt (refine rshift_int (by decide) ?_)))
  (k_with "eval ListComp" => (
  k_here
  (with_reducible show wpAny _ _ (eval (Expr.ListComp _ [⟨_, Expr.Name _ _, _, _⟩] _ _) _) _ _ _)
  k_dflt (refine comp_text (by k_asm) (by rfl) (by decide) (by rfl) (by decide) (by rfl) ?_)))
  (k_with "CText" => (apply hold))
  (k_with "CompEnd" => (
  k_here
  (with_reducible rename News _ _ _ _ => nE')
  k_dflt (refine' cend ?F nE' ?sub ?off ?_)
  (case F => k_dflt assumption)
  (case sub => k_dflt lcg_sub)
  (case off => k_dflt (first | exact True.intro | assumption))))
  (k_with "binaryOp Add str str" => (
  k_here
  k_dflt (first | refine' r_add s22 rfl ?hs ?_ | refine' r_add rfl s22 ?hs ?_)
  (case hs => k_dflt (simp only [List.length_append, List.length_cons, List.length_nil]; omega))
  (intro _ _)))
  (k_with "exec For" => (
  k_here
  (with_reducible show wpAny _ _ (exec (Stmt.For (Expr.Name _ _) (Expr.Name _ _) _ _ _) _) _ _ _)
  (with_reducible rename Fr _ _ _ _ => lF')
  (with_unfolding_all refine' For_invVF lF' ?k1 ?k2 ?_; (case k1 => exact rfl); (case k2 => exact rfl); k_whole)))
  (k_with "pyIter str" => (apply hold))
  (k_with "k_all" => (assumption))
  (k_with "FPost" => (dsimp only [FPost]))
  (k_with "FEnd" => (
  k_here
  (with_reducible rename News _ _ _ _ => nE')
  k_dflt (refine' FEnd.intro ?F nE' ?sub ?hs ?hx ?hr)
  (case F => k_dflt assumption)
  (case sub => k_dflt (refine ⟨by k_mem, fun p hp => ?_⟩; simp [hp]))
  (case hs => k_dflt assumption)
  (case hx => k_dflt (first | rfl | (symm; assumption) | ((with_reducible rename es _ = _ => he'); rw [he']; rfl)))
  (case hr => k_dflt (walk_at "c_same"))))
  (k_with "c_sameC" => (intro z h3; have h4 := h3; simp only [List.contains_cons, List.contains_nil, Bool.or_false, beq_eq_false_iff_ne, ne_eq, Bool.or_eq_false_iff] at h4; simp [h3, h4]))
  (k_with "c_mem" => (first
  | exact List.Mem.head _ | exact List.Mem.tail _ (.head _) | exact List.Mem.tail _ (.tail _ (.head _)) | exact List.Mem.tail _ (.tail _ (.tail _ (.head _)))
  | exact List.Mem.tail _ (.tail _ (.tail _ (.tail _ (.head _)))) | exact List.Mem.tail _ (.tail _ (.tail _ (.tail _ (.tail _ (.head _))))) | exact List.Mem.tail _ (.tail _ (.tail _ (.tail _ (.tail _ (.tail _ (.head _))))))))
  (k_with "c_step" => (first
  | (k_unfold; (try dsimp only))
  | (with_reducible refine itT ?_)
  | (with_reducible refine itF ?_)
  | ((with_reducible refine' ite_lt_pos ?h ?_); (case h => omega))
  | ((with_reducible refine' ite_lt_neg ?h ?_); (case h => omega))
  | (refine same ?_; k_unfold; (try dsimp only))
  | (k_end; wrow_close)
  | walk1
  | (dsimp only; walk1)
  | (leave1; walk_say "STEP leave1"; try dsimp only)
  | fail "no step"))
  (k_with "c_pureC" => (refine' code_pureC ?k1 ?k2 ?k3 ?k5 ?kA ?kF ?kK ?k6 ?k7 ?k8 ?k9 ?kB ?kD ?_ ?c2 ?c3 ?c4; (case kA => exact rfl); (case kF => exact rfl); (case kK => first | exact rfl | assumption); (case k1 => k_asm); (case k2 => k_asm); (case k3 => k_asm); (case k5 => k_asm); (case k6 => k_is); (case k7 => k_is); (case k8 => walk_at "c_room"); (case k9 => exact BindsTo.of_eq rfl); (case kB => exact rfl); (case kD => decide +kernel); (case c2 => exact rfl); (case c3 => exact rfl); (case c4 => exact rfl); k_whole; intro g' L' h' tk' cells' hG F' N' Y' B' X' T'; k_cells Y'; (try simp only [List.cons_append, List.nil_append] at N'); (try dsimp only); (try k_fold)))
  (k_with "c_openC" => (
  (dsimp only [Ctr]); (intros)
  (refine wpAny_call ?_)
  (k_dflt (walk_at "c_pureC"))))
  (k_with "TPostC" => (dsimp only [TPostC]))
  (k_with "TEndC" => (
  k_here
  (with_reducible rename News _ _ _ _ => nE')
  k_dflt (refine' TEndC.intro ?F nE' ?sub ?hs ?hx ?hat ?hi ?hr)
  (case F => k_dflt assumption)
  (case sub => k_dflt (refine ⟨by walk_at "c_mem", by walk_at "c_mem", fun p hp => ?_⟩; (simp only [List.mem_singleton] at hp); (rw [hp]); walk_at "c_mem"))
  (case hat => k_dflt assumption)
  (case hs => k_dflt assumption)
  (case hx => k_dflt (first | rfl | (symm; assumption)))
  (case hi => k_dflt (simp only [List.map_append, List.flatten_append, List.length_append, List.map_cons, List.map_nil, List.flatten_cons, List.flatten_nil, List.length_cons, List.length_nil, Int.natCast_add, *] <;> omega))
  (case hr => k_dflt (walk_at "c_sameC"))))
  (k_with "compareOp NotEq str str" => (
  k_here
  (with_reducible show wpAny _ _ (compareOp _ (Value.str (S [_]) _) _) _ _ _)
  k_dflt (refine' r_ne_yes pct_is (one_ne (by assumption)) ?_)))
  (k_with "k_room" => ((try simp only [depth_mark, depth_under_make, depth_under_kw, depth_in1, depth_deeper, depth_caller]); (try dsimp only [ktrTop]); first | omega | decide))
  exact True.intro
namespace Mine
theorem way_oc (w : World) : Way w (fun h => (hd.heap_39 w.params).In h) 361 392 368 (fun l => ∀ c ∈ l, c ∈ AU) (fun l => (l.map oc).flatten) where
  ft := fun h X => fnAt X (by k_is)
  fo := fun h X => fnAt X (by k_is)
  fr := fun h X => fnAt X (by k_is)
  tell := fun l t hP hS => (c_enc w t hS hP).g
  own := fun l t hP hS => (c_lawo w t hS).g
  read := fun l t hP hS => (c_dec w t hS hP).g
  close := fun l h => oc_close h
  grow := fun l => grow oc_pos l
  up := fun l => Nat.le_trans (flat_len oc_len l) (Nat.le_add_right _ _)
theorem way_es (w : World) : Way w (fun h => (hd.heap_39 w.params).In h) 375 397 382 (fun l => ∀ c ∈ l, c ∈ AE) (fun l => (l.map es).flatten) where
  ft := fun h X => fnAt X (by k_is)
  fo := fun h X => fnAt X (by k_is)
  fr := fun h X => fnAt X (by k_is)
  tell := fun l t hP hS => (c_esc w t hS hP).g
  own := fun l t hP hS => (c_lawe w t hS).g
  read := fun l t hP hS => by
    have h := c_unesc w t hS hP
    rw [flat1] at h
    exact h.g
  close := fun l h => es_close h
  grow := fun l => grow es_pos l
  up := fun l => Nat.le_trans (flat_len es_len l) (Nat.le_add_right _ _)
theorem way_jq {w : World} {name qual : Str} {params : Arguments} {body : Expr} {scope : Scope} {cl : List (Str × Addr)} {pm ctv : Value} {c' f : Addr} (Z : LamP w name qual params body scope cl pm ctv c' f) :
    Way w (LamH w name qual params body scope cl pm ctv c' f) 266 387 f (fun l => ∀ c ∈ l, c ∈ ([97, 34, 92, 37, 10, 8364, 55, 110] : List Nat)) (fun l => 34 :: ((l.map jq).flatten ++ [34])) where
  ft := fun h X => fnAt X.1 (by k_is)
  fo := fun h X => fnAt X.1 (by k_is)
  fr := fun h X => ⟨_, _, _, _, X.2.1⟩
  tell := fun l t hP hS => (c_jq w t hS hP).g
  own := fun l t hP hS => (c_lawq w t hS).g
  read := fun l t hP hS => Z l t hP hS
  close := fun l h => jq_close h
  grow := fun l => jq_grow l
  up := fun l => jq_up l
end Mine
theorem Mine.none17 : True := by
  w_top off
  k_with_none
  exact True.intro
open Mine
theorem Mine.ln29 : True := by
  (k_with "c_room" => ((try simp only [depth_under_make, depth_under_kw, depth_in1, depth_deeper, depth_caller]); (try dsimp only [ktrTop]); first | omega | decide))
  (k_with "c_units" => ((have hcL9 := cLine_is); (try simp only [units_in1, units_deeper, Around.mark_units, units_caller]); (try dsimp only [ktrTop]); omega))
  (k_with "c_enter" => (refine' code_def ?k1 ?k2 ?k3 ?k4 ?k5 ?kA ?kF ?kK ?k6 ?k7 ?k8 ?k9 ?kB ?_ ?c2 ?c3 ?c4 ?c5; (case kA => exact rfl); (case kF => exact rfl); (case kK => first | exact rfl | assumption); (case k1 => k_asm); (case k2 => k_asm); (case k3 => k_asm); (case k4 => k_asm); (case k5 => k_asm); (case k6 => k_is); (case k7 => k_is); (case k8 => walk_at "c_room"); (case k9 => exact BindsTo.of_eq rfl); (case c5 => decide); (case kB => exact locs rfl); (case c2 => exact rfl); (case c3 => exact rfl); (case c4 => exact rfl); k_whole; intro g' L' h' FG' F' N' B' X' T'; (try dsimp only); (try k_lift B'); (try k_fold)))
  (k_with "c_pure" => (refine' code_pure ?k1 ?k2 ?k3 ?k5 ?kA ?kF ?kK ?k6 ?k7 ?k8 ?k9 ?kB ?_ ?c2 ?c3 ?c4 ?c5; (case kA => exact rfl); (case kF => exact rfl); (case kK => first | exact rfl | assumption); (case k1 => k_asm); (case k2 => k_asm); (case k3 => k_asm); (case k5 => k_asm); (case k6 => k_is); (case k7 => k_is); (case k8 => walk_at "c_room"); (case k9 => exact BindsTo.of_eq rfl); (case c5 => decide); (case kB => exact locs rfl); (case c2 => exact rfl); (case c3 => exact rfl); (case c4 => exact rfl); k_whole; intro g' L' h' hG F' N' B' X' T'; (try dsimp only); (try k_fold)))
  (k_with "c_open" => (
  (dsimp only [Ctr]); (intros)
  (refine wpAny_call ?_)
  (k_dflt (walk_at "c_pure"))))
  (k_with "LeaveP" => (k_dflt (refine' leaveP_ ?k1 ?_; (case k1 => k_asm); k_whole); intro kP; (try dsimp only)))
  (k_with "c_close" => (
  refine same ?_
  first
  | exact CRet.out (by assumption) (by assumption) (by assumption)
  | (refine' CRet.str (by assumption) (by assumption) ?e (by assumption); (case e => first | exact rfl | decide +kernel | (simp [S]; done)))
  | (refine' CRet.int (by assumption) (by assumption) ?e (by assumption); (case e => omega))))
  (k_with "c_use" => (
  (case B => k_dflt k_asm); (case F => k_dflt k_asm); (case X => k_dflt k_asm); (case N => k_dflt k_asm); (case T => k_dflt k_asm)
  (case K => first | exact rfl | assumption)
  (case d => walk_at "c_room"); (case u => walk_at "c_units")
  (intro t9 h9 tk9 F9 N9)
  (try dsimp only)
  (try k_fold)))
  (k_with "subscriptTail Name Slice str ref" => (
  k_here
  (with_reducible show wpAny _ _ (subscriptTail _ (Expr.Slice (some _) (some _) none _) _ _) _ _ _)
  (with_reducible rename Fr _ _ _ _ => F')
  (with_reducible rename News _ _ _ _ => N')
  k_dflt (first
    | (refine' r_s01 (s := ⟨_, _, _, _, _⟩) (by assumption) F' N' ?hl ?hi ?hj ?_; (case hi => omega); (case hj => omega); (case hl => first | assumption | omega))
    | (refine' r_s01n (s := ⟨_, _, _, _, _⟩) (by assumption) F' N' ?hl ?hi ?hj ?_; (case hi => omega); (case hj => omega); (case hl => first | assumption | omega))
    | (refine' r_s13 (s := ⟨_, _, _, _, _⟩) (by assumption) F' N' ?hl ?hi ?hj ?_; (case hi => omega); (case hj => omega); (case hl => first | assumption | omega))
    | (refine' r_s02 (s := ⟨_, _, _, _, _⟩) (by assumption) F' N' ?hl ?hi ?hj ?_; (case hi => omega); (case hj => omega); (case hl => first | assumption | omega))
    | (refine' r_s02e (s := ⟨_, _, _, _, _⟩) (by assumption) F' N' ?hl ?hi ?hj ?_; (case hi => omega); (case hj => omega); (case hl => first | assumption | omega))
    | (refine' r_s26 (s := ⟨_, _, _, _, _⟩) (by assumption) F' N' ?hl ?hi ?hj ?_; (case hi => omega); (case hj => omega); (case hl => first | assumption | omega))
    | (refine' r_s12 (s := ⟨_, _, _, _, _⟩) (by assumption) F' N' ?hl ?hi ?hj ?_; (case hi => omega); (case hj => omega); (case hl => first | assumption | omega)))
  (intro h' t' k' F' N')))
  (k_with "subscriptTail Name Name str int" => (
  k_here
  k_dflt (refine' r_item 0 ?D ?hk ?hi ?hl ?_)
  (case D => k_dflt assumption)
  (case hk => k_dflt exact rfl)
  (case hl => k_dflt (first | assumption | omega))
  (case hi => k_dflt omega)))
  (k_with "subscriptTail Name BinOp str int" => (
  k_here
  k_dflt (first | refine' r_hex (Int.toNat_of_nonneg (by decide +kernel)).symm (by decide +kernel) ?_ | refine' r_hex (hex_hi _) (by omega) ?_ | refine' r_hex (hex_lo _) (by omega) ?_)))
  (k_with "call ref" => (
  k_here
  (with_reducible show wpAny _ _ (call (Value.ref _) _) _ _ _)
  k_dflt (refine wpAny_call ?_; walk_at "c_enter")))
  (k_with "exec While" => (
  k_here
  (with_reducible show wpAny _ _ (exec (Stmt.While (Expr.BoolOp _ _ _) _ _ _) _) _ _ _)
  (with_reducible rename Fr _ _ _ _ => F')
  (with_reducible rename News _ _ _ _ => N')
  k_dflt (refine' w_zero F' N' ?_)
  (clear F' N'; intro h' tk' F' N')))
  (k_with "exec While" => (
  k_here
  (with_reducible show wpAny _ _ (exec (Stmt.While (Expr.Compare _ _ _ _) _ _ _) _) _ _ _)
  (apply hold)))
  (k_with "compareOp In str str" => (
  k_here
  k_dflt (first
    | refine' r_in_yes plain_is (by assumption) ?_
    | refine' r_in_no plain_is (by assumption) ?_
    | refine' r_in_yes kept_is (by assumption) ?_
    | refine' r_in_no kept_is (by assumption) ?_
    | refine' r_in_no blank_is (by first | assumption | decide) ?_)))
  (k_with "c_step" => (first | (k_unfold; (try dsimp only)) | (refine same ?_; k_unfold; (try dsimp only)) | (k_end; wrow_close) | walk1 | (dsimp only; walk1) | (leave1; walk_say "STEP leave1"; try dsimp only) | fail "no step"))
  (k_with "c_steps" => (repeat' walk_at "c_step"))
  (k_with "callWith" => (
  k_here
  (with_reducible show wpAny _ _ (callWith _ (Value.builtin _) [_] _ _) _ _ _)
  k_dflt (first | with_reducible refine callWith_method0 ?_ | refine callWith_method1 ?_)))
  (k_with "c_ls" => (first | assumption | exact TxtsAre.nil | (apply TxtsAre.cons; walk_at "c_ls")))
  (k_with "call builtin:str.join" => (
  k_here
  (with_reducible show wpAny _ _ (call (Value.builtin "str.join") [Value.str _ _, Value.ref _]) _ _ _)
  k_dflt (refine' r_join ?hl ?hi rfl ?hw ?_)
  (case hl => k_dflt (first | is_list | exact News.isList (by k_asm) (by k_mem)))
  (case hi => (try simp only [List.nil_append, List.cons_append]); k_dflt (walk_at "c_ls"))
  (case hw => k_dflt (first | assumption | decide | exact Nat.le_of_ble_eq_true rfl | omega))
  (intro _ _)))
  (k_with "TPost" => (dsimp only [TPost]))
  (k_with "c_size" => (rw [PySem.sizeLine_eq]; (try simp only [List.size_toArray, Array.size_push, List.length_append, List.length_cons, List.length_nil]); omega))
  (k_with "call builtin:list.append" => (
  k_here
  (with_reducible show wpAny _ _ (call (Value.builtin _) [Value.ref _, _]) _ _ _)
  k_dflt (refine' append_K ?k1 ?k2 ?k3 ?_ ?z)
  (case k1 => k_dflt k_asm); (case k2 => k_dflt k_asm); (case k3 => k_dflt k_upd); (case z => k_dflt (walk_at "c_size"))
  k_whole
  (intro h' F' N'); (try k_sweep)))
  (k_with "c_same" => (intro z h2 h3; have h4 := h3; simp only [List.contains_cons, List.contains_nil, Bool.or_false, beq_eq_false_iff_ne, ne_eq, Bool.or_eq_false_iff] at h4; simp [h2, h3, h4]))
  (k_with "TEnd" => (
  k_here
  (with_reducible rename News _ _ _ _ => nE')
  k_dflt (refine' TEnd.intro ?F nE' ?sub ?hs ?hx ?hat ?hi ?hr)
  (case F => k_dflt assumption)
  (case sub => k_dflt (exact ⟨by k_mem, fun p hp => (nomatch hp)⟩))
  (case hat => k_dflt (exact rfl))
  (case hs => k_dflt assumption)
  (case hx => k_dflt (first | rfl | (symm; assumption) | ((with_reducible rename oc _ = _ => he'); rw [he']; rfl)))
  (case hi => k_dflt (simp only [List.map_append, List.flatten_append, List.length_append, List.map_cons, List.map_nil, List.flatten_cons, List.flatten_nil, List.length_cons, List.length_nil, Int.natCast_add, *] <;> omega))
  (case hr => k_dflt (walk_at "c_same"))))
  (k_with "c_use_l" => (
  (case B => k_dflt k_asm); (case F => k_dflt k_asm); (case X => k_dflt k_asm); (case N => k_dflt k_asm); (case T => k_dflt k_asm)
  (case K => first | exact rfl | assumption)
  (case d => walk_at "c_room"); (case u => walk_at "c_units")
  (intro l9 xs9 e9 h9 tk9 F9 N9 ne9)
  (simp only [List.forall_mem_cons, List.not_mem_nil, false_implies, implies_true, and_true] at ne9)))
  (k_with "c_close_l" => (
  refine same ?_
  (with_reducible rename News _ _ _ _ => nE')
  (refine' CRetL.out (by assumption) (by assumption) (by assumption) nE' ?hm ?hi)
  (case hm => k_dflt (first | walk_at "c_mem" | k_mem))
  (case hi => exact ⟨_, _, _, rfl⟩)))
  (k_with "k_ne" => ((try dsimp only); first
  | with_reducible assumption | with_reducible exact Ne.symm (by assumption)
  | with_reducible exact And.left (by assumption) | with_reducible exact Ne.symm (And.left (by assumption))
  | with_reducible exact And.right (by assumption) | with_reducible exact Ne.symm (And.right (by assumption))
  | with_reducible exact And.left (And.right (by assumption)) | with_reducible exact Ne.symm (And.left (And.right (by assumption)))
  | with_reducible exact And.right (And.right (by assumption)) | with_reducible exact Ne.symm (And.right (And.right (by assumption)))
  | with_reducible exact And.left (And.right (And.right (by assumption))) | with_reducible exact Ne.symm (And.left (And.right (And.right (by assumption))))
  | with_reducible exact And.right (And.right (And.right (by assumption))) | with_reducible exact Ne.symm (And.right (And.right (And.right (by assumption))))
  | with_reducible exact Nat.ne_of_lt (by assumption) | with_reducible exact Nat.ne_of_gt (by assumption)
  | with_reducible exact Nat.ne_of_gt (And.left (by assumption)) | with_reducible exact Nat.ne_of_lt (And.left (by assumption))
  | with_reducible exact Nat.ne_of_gt (And.left (And.right (by assumption))) | with_reducible exact Nat.ne_of_lt (And.left (And.right (by assumption)))))
  (k_with "binaryOp RShift int int" => (
  k_here
  k_dflt (refine rshift_int (by decide) ?_)))
  (k_with "eval ListComp" => (
  k_here
  (with_reducible show wpAny _ _ (eval (Expr.ListComp _ [⟨_, Expr.Name _ _, _, _⟩] _ _) _) _ _ _)
  k_dflt (refine comp_text (by k_asm) (by rfl) (by decide) (by rfl) (by decide) (by rfl) ?_)))
  (k_with "CText" => (apply hold))
  (k_with "CompEnd" => (
  k_here
  (with_reducible rename News _ _ _ _ => nE')
  k_dflt (refine' cend ?F nE' ?sub ?off ?_)
  (case F => k_dflt assumption)
  (case sub => k_dflt lcg_sub)
  (case off => k_dflt (first | exact True.intro | assumption))))
  (k_with "binaryOp Add str str" => (
  k_here
  k_dflt (first | refine' r_add s22 rfl ?hs ?_ | refine' r_add rfl s22 ?hs ?_)
  (case hs => k_dflt (simp only [List.length_append, List.length_cons, List.length_nil]; omega))
  (intro _ _)))
  (k_with "exec For" => (
  k_here
  (with_reducible show wpAny _ _ (exec (Stmt.For (Expr.Name _ _) (Expr.Name _ _) _ _ _) _) _ _ _)
  (with_reducible rename Fr _ _ _ _ => lF')
  (with_unfolding_all refine' For_invVF lF' ?k1 ?k2 ?_; (case k1 => exact rfl); (case k2 => exact rfl); k_whole)))
  (k_with "pyIter str" => (apply hold))
  (k_with "k_all" => (assumption))
  (k_with "FPost" => (dsimp only [FPost]))
  (k_with "FEnd" => (
  k_here
  (with_reducible rename News _ _ _ _ => nE')
  k_dflt (refine' FEnd.intro ?F nE' ?sub ?hs ?hx ?hr)
  (case F => k_dflt assumption)
  (case sub => k_dflt (refine ⟨by k_mem, fun p hp => ?_⟩; simp [hp]))
  (case hs => k_dflt assumption)
  (case hx => k_dflt (first | rfl | (symm; assumption) | ((with_reducible rename es _ = _ => he'); rw [he']; rfl)))
  (case hr => k_dflt (walk_at "c_same"))))
  (k_with "c_sameC" => (intro z h3; have h4 := h3; simp only [List.contains_cons, List.contains_nil, Bool.or_false, beq_eq_false_iff_ne, ne_eq, Bool.or_eq_false_iff] at h4; simp [h3, h4]))
  (k_with "c_mem" => (first
  | exact List.Mem.head _ | exact List.Mem.tail _ (.head _) | exact List.Mem.tail _ (.tail _ (.head _)) | exact List.Mem.tail _ (.tail _ (.tail _ (.head _)))
  | exact List.Mem.tail _ (.tail _ (.tail _ (.tail _ (.head _)))) | exact List.Mem.tail _ (.tail _ (.tail _ (.tail _ (.tail _ (.head _))))) | exact List.Mem.tail _ (.tail _ (.tail _ (.tail _ (.tail _ (.tail _ (.head _))))))))
  (k_with "c_step" => (first
  | (k_unfold; (try dsimp only))
  | (with_reducible refine itT ?_)
  | (with_reducible refine itF ?_)
  | ((with_reducible refine' ite_lt_pos ?h ?_); (case h => omega))
  | ((with_reducible refine' ite_lt_neg ?h ?_); (case h => omega))
  | (refine same ?_; k_unfold; (try dsimp only))
  | (k_end; wrow_close)
  | walk1
  | (dsimp only; walk1)
  | (leave1; walk_say "STEP leave1"; try dsimp only)
  | fail "no step"))
  (k_with "c_pureC" => (refine' code_pureC ?k1 ?k2 ?k3 ?k5 ?kA ?kF ?kK ?k6 ?k7 ?k8 ?k9 ?kB ?kD ?_ ?c2 ?c3 ?c4; (case kA => exact rfl); (case kF => exact rfl); (case kK => first | exact rfl | assumption); (case k1 => k_asm); (case k2 => k_asm); (case k3 => k_asm); (case k5 => k_asm); (case k6 => k_is); (case k7 => k_is); (case k8 => walk_at "c_room"); (case k9 => exact BindsTo.of_eq rfl); (case kB => exact rfl); (case kD => decide +kernel); (case c2 => exact rfl); (case c3 => exact rfl); (case c4 => exact rfl); k_whole; intro g' L' h' tk' cells' hG F' N' Y' B' X' T'; k_cells Y'; (try simp only [List.cons_append, List.nil_append] at N'); (try dsimp only); (try k_fold)))
  (k_with "c_openC" => (
  (dsimp only [Ctr]); (intros)
  (refine wpAny_call ?_)
  (k_dflt (walk_at "c_pureC"))))
  (k_with "TPostC" => (dsimp only [TPostC]))
  (k_with "TEndC" => (
  k_here
  (with_reducible rename News _ _ _ _ => nE')
  k_dflt (refine' TEndC.intro ?F nE' ?sub ?hs ?hx ?hat ?hi ?hr)
  (case F => k_dflt assumption)
  (case sub => k_dflt (refine ⟨by walk_at "c_mem", by walk_at "c_mem", fun p hp => ?_⟩; (simp only [List.mem_singleton] at hp); (rw [hp]); walk_at "c_mem"))
  (case hat => k_dflt assumption)
  (case hs => k_dflt assumption)
  (case hx => k_dflt (first | rfl | (symm; assumption)))
  (case hi => k_dflt (simp only [List.map_append, List.flatten_append, List.length_append, List.map_cons, List.map_nil, List.flatten_cons, List.flatten_nil, List.length_cons, List.length_nil, Int.natCast_add, *] <;> omega))
  (case hr => k_dflt (walk_at "c_sameC"))))
  (k_with "compareOp NotEq str str" => (
  k_here
  (with_reducible show wpAny _ _ (compareOp _ (Value.str (S [_]) _) _) _ _ _)
  k_dflt (refine' r_ne_yes pct_is (one_ne (by assumption)) ?_)))
  (k_with "k_room" => ((try simp only [depth_mark, depth_under_make, depth_under_kw, depth_in1, depth_deeper, depth_caller]); (try dsimp only [ktrTop]); first | omega | decide))
  (k_with "subscriptTail List cons Slice ref ref" => (
  k_here
  (with_reducible rename Fr _ _ _ _ => F1')
  (with_reducible rename News _ _ _ _ => N1')
  k_dflt (refine kba_turn (value' := PySem.Expr.Name (PySem.Str.ofString "_") ⟨0, 0, 0, 0⟩) (fun _ => rfl) ?_)
  k_dflt (refine' kmk_slice_ints F1' N1' ?zl ?zp ?zq ?zi ?zm ?zc ?_ ?zs ?zt ?zz)
  (case zl => exact News.isList N1' (by walk_at "c_mem"))
  (case zp => exact IsPart.int _ _)
  (case zq => exact IsPart.none)
  (case zi => exact IntsAre.cons _ _ (IntsAre.cons _ _ IntsAre.nil))
  (case zm => exact kmk_from (IntsAre.cons _ _ (IntsAre.cons _ _ IntsAre.nil)) (Int.natCast_nonneg _))
  (case zc => exact rfl)
  (case zs => with_unfolding_all rfl)
  (case zt => (intro _; with_unfolding_all rfl))
  (case zz => exact Nat.le_of_ble_eq_true rfl)
  (intro D' ws' h' F' N' l1 hI' hC' hL')
  (try k_lt l1)))
  (k_with "binaryOp Add ref ref" => (
  k_here
  (with_reducible show wpAny _ _ (binaryOp _ (Value.ref _) (Value.ref _)) _ _ _)
  (apply hold)))
  (k_with "BPost" => (dsimp only [BPost]))
  (k_with "BEnd" => (
  k_here
  (with_reducible rename News _ _ _ _ => nE')
  k_dflt (refine' BEnd.intro ?zF nE' ?zsub ?zc ?zt ?zr ?zi ?zo)
  (case zF => k_dflt assumption)
  (case zsub => k_dflt lcg_sub)
  (case zt => k_dflt (exact rfl))
  (case zr => k_dflt (exact rfl))
  (case zc => k_dflt assumption)
  (case zi => k_dflt (exact fdiv7 _))
  (case zo => k_dflt (intro z h1 h2; simp [h1, h2]))))
  (k_with "subscriptTail Constant str BinOp str int" => (
  k_here
  k_dflt (refine' r_lit7 (fmod7 _) (Nat.mod_lt _ (by decide)) ?_)
  (intro c7 hc7)))
  (k_with "binaryOp Mod int int" => (
  k_here
  (with_reducible rename Int.fmod _ 3 = _ => e3')
  k_dflt (refine' r_mod e3' (by decide) ?_)))
  (k_with "subscriptTail Subscript Name Slice Slice ref ref" => (
  k_here
  (with_reducible rename Fr _ _ _ _ => F1')
  (with_reducible rename News _ _ _ _ => N1')
  k_dflt (refine kba_turn (value' := PySem.Expr.Name (PySem.Str.ofString "_") ⟨0, 0, 0, 0⟩) (fun _ => rfl) ?_)
  k_dflt (refine' krv_lit F1' N1' ?zl ?zk ?ze ?_ ?zs ?zt ?zz)
  (case zl => exact News.isList N1' (by walk_at "c_mem"))
  (case zk => exact IsPart.int _ _)
  (case ze => kl_lit)
  (case zs => with_unfolding_all rfl)
  (case zt => (intro _; with_unfolding_all rfl))
  (case zz => exact Nat.le_of_ble_eq_true rfl)
  (intro D' h' F' N' l1)
  (try k_lt l1)))
  (k_with "binaryOp Add int int" => (
  k_here
  (with_reducible rename (1 : Int) + _ = _ => e5')
  k_dflt (refine' r_addi e5' ?_)))
  (k_with "c_endW" => (
  (with_reducible rename News _ _ _ _ => nE')
  first
  | ((k_dflt (refine' endW ?zF nE' ?zo ?_)); (case zF => k_dflt k_asm); (case zo => k_dflt assumption); (k_dflt (refine And.intro (by k_subL) ?_)))
  | ((have nT' := newsTail nE'); (clear nE'); walk_at "c_endW")))
  (k_with "UnrEndW" => (
  k_here
  walk_at "c_endW"))
  (k_with "exec For Name Subscript cons nil" => (
  k_here
  (with_reducible rename Fr _ _ _ _ => lF')
  (with_unfolding_all refine' For_turns lF' ?_; k_whole)))
  (k_with "CompSrc" => (
  k_here
  k_dflt (refine LCg.CompSrc.range (by rfl) (by k_asm) (by k_asm) (by assumption) (by first | decide | rfl) (by first | rfl | decide) (by first | size_fits | exact Nat.le_of_ble_eq_true rfl) ?_)
  intro g'
  k_dflt lcg_lit))
  (k_with "exec Assign cons ListComp" => (
  k_here
  lcf_look
  k_dflt (refine LCg.Assign_ListComp_U (F₀ := by k_asm) (by rfl) (by with_unfolding_all rfl) (by with_unfolding_all rfl) (by decide) (by rfl) (by decide) (by rfl) (by rfl) (by rfl) ?_)
  k_dflt lcg_toSrc))
  (k_with "call ref" => (
  k_here
  (with_reducible show wpAny _ _ (call (Value.ref 302) _) _ _ _)
  k_dflt (first
    | (refine' use (c_units _ _ rfl ?ho) ?B ?F ?X ?N ?T ?K ?d ?u ?_; (case ho => first | assumption | omega))
    | (refine' use (c_units (o := 8364) _ _ ?hi ?ho) ?B ?F ?X ?N ?T ?K ?d ?u ?_; (case hi => decide +kernel); (case ho => decide)))
  walk_at "c_use"))
  (k_with "subscriptTail Name Name ref int" => (
  k_here
  (with_unfolding_all refine' r_pick 3 (listIn ?kx ?kf ?ko) ?k3 ?k4 ?k5 ?_ ?k6; (case kx => k_asm); (case kf => k_asm); (case ko => k_is); (case k3 => exact rfl); (case k4 => exact rfl); (case k5 => decide); (case k6 => with_unfolding_all rfl); k_whole)))
  (k_with "call ref" => (
  k_here
  (with_reducible show wpAny _ _ (call (Value.ref 354) _) _ _ _)
  k_dflt (refine' use (c_ds _ _ _ ?hl ?hu) ?B ?F ?X ?N ?T ?K ?d ?u ?_)
  (case hl => k_dflt assumption)
  (case hu => k_dflt assumption)
  walk_at "c_use"))
  (k_with "call ref" => (
  k_here
  (with_reducible show wpAny _ _ (call (Value.ref 266) _) _ _ _)
  k_dflt (refine' use (c_jq _ _ ?hl ?hu) ?B ?F ?X ?N ?T ?K ?d ?u ?_)
  (case hl => k_dflt (exact Short.out (by with_reducible assumption)))
  (case hu => with_reducible assumption)
  walk_at "c_use"))
  (k_with "call ref" => (
  k_here
  (with_reducible show wpAny _ _ (call (Value.ref 387) _) _ _ _)
  k_dflt (refine' use (c_lawq _ _ ?hl) ?B ?F ?X ?N ?T ?K ?d ?u ?_)
  (case hl => k_dflt (exact Short.out (by with_reducible assumption)))
  walk_at "c_use"))
  (k_with "call ref" => (
  k_here
  (with_reducible show wpAny _ _ (call (Value.ref 361) _) _ _ _)
  k_dflt (refine' use (c_enc _ _ ?hl ?hu) ?B ?F ?X ?N ?T ?K ?d ?u ?_)
  (case hl => k_dflt (exact Short.out (by with_reducible assumption)))
  (case hu => with_reducible assumption)
  walk_at "c_use"))
  (k_with "call ref" => (
  k_here
  (with_reducible show wpAny _ _ (call (Value.ref 392) _) _ _ _)
  k_dflt (refine' use (c_lawo _ _ ?hl) ?B ?F ?X ?N ?T ?K ?d ?u ?_)
  (case hl => k_dflt (exact Short.out (by with_reducible assumption)))
  walk_at "c_use"))
  (k_with "call ref" => (
  k_here
  (with_reducible show wpAny _ _ (call (Value.ref 368) _) _ _ _)
  k_dflt (refine' use (c_dec _ _ ?hl ?hu) ?B ?F ?X ?N ?T ?K ?d ?u ?_)
  (case hl => k_dflt (exact Short.out (by with_reducible assumption)))
  (case hu => with_reducible assumption)
  walk_at "c_use"))
  (k_with "call ref" => (
  k_here
  (with_reducible show wpAny _ _ (call (Value.ref 375) _) _ _ _)
  k_dflt (refine' use (c_esc _ _ ?hl ?hu) ?B ?F ?X ?N ?T ?K ?d ?u ?_)
  (case hl => k_dflt (exact Short.out (by with_reducible assumption)))
  (case hu => with_reducible assumption)
  walk_at "c_use"))
  (k_with "call ref" => (
  k_here
  (with_reducible show wpAny _ _ (call (Value.ref 397) _) _ _ _)
  k_dflt (refine' use (c_lawe _ _ ?hl) ?B ?F ?X ?N ?T ?K ?d ?u ?_)
  (case hl => k_dflt (exact Short.out (by with_reducible assumption)))
  walk_at "c_use"))
  (k_with "call ref" => (
  k_here
  (with_reducible show wpAny _ _ (call (Value.ref 382) _) _ _ _)
  k_dflt (refine' use (c_unesc1 _ _ ?hl ?hu) ?B ?F ?X ?N ?T ?K ?d ?u ?_)
  (case hl => k_dflt (exact Short.out (by with_reducible assumption)))
  (case hu => with_reducible assumption)
  walk_at "c_use"))
  (k_with "call ref" => (
  k_here
  (with_reducible show wpAny _ _ (call (Value.ref 253) _) _ _ _)
  k_dflt (refine' use_o (c_read _ _ ?hl ?hu) ?B ?F ?X ?N ?T ?K ?d ?u ?_)
  (case hl => k_dflt (exact Short.out (by with_reducible assumption)))
  (case hu => with_reducible assumption)
  (case B => k_dflt k_asm); (case F => k_dflt k_asm); (case X => k_dflt k_asm); (case N => k_dflt k_asm); (case T => k_dflt k_asm)
  (case K => first | exact rfl | assumption)
  (case d => walk_at "c_room"); (case u => walk_at "c_units")
  (intro l9 o9 h9 tk9 F9 N9 ne9)
  (simp only [List.forall_mem_cons, List.not_mem_nil, false_implies, implies_true, and_true] at ne9)
  (rintro ⟨x9, t9, u9, ho9, hx9⟩)
  (subst ho9 hx9)
  (try dsimp only)
  (try k_fold)))
  (k_with "compareOp NotEq str str" => (
  k_here
  (with_reducible refine' r_ne_no rfl ?_)))
  (k_with "c_size" => (exact Nat.le_of_ble_eq_true rfl))
  (k_with "callWith ref" => (k_here; k_dflt (refine' callWith_K ?zx ?zi ?_; (case zx => with_reducible assumption); (case zi => k_is); k_whole)))
  (k_with "call builtin:len" => (
  k_here
  (with_reducible show wpAny _ _ (call (Value.builtin _) [Value.str (S _) _]) _ _ _)
  k_dflt (refine' r_len ?zl ?_)
  (case zl => with_reducible assumption)))
  (k_with "compareOp Lt int int" => (
  k_here
  k_dflt (refine' r_lt_no ?zl ?_)
  (case zl => with_reducible assumption)))
  (k_with "k_ne" => ((try dsimp only); first
  | with_reducible exact Nat.ne_of_gt (by assumption)
  | with_reducible exact Nat.ne_of_lt (by assumption)
  | with_reducible exact (And.right (And.right (And.right (And.right (And.right (by assumption))))))
  | with_reducible exact Ne.symm (And.right (And.right (And.right (And.right (And.right (by assumption))))))
  | with_reducible exact (And.right (And.right (And.right (And.right (by assumption)))))
  | with_reducible exact Ne.symm (And.right (And.right (And.right (And.right (by assumption)))))
  | with_reducible exact (And.right (And.right (And.right (by assumption))))
  | with_reducible exact Ne.symm (And.right (And.right (And.right (by assumption))))
  | with_reducible exact (And.right (And.right (by assumption)))
  | with_reducible exact Ne.symm (And.right (And.right (by assumption)))
  | with_reducible exact (And.right (by assumption))
  | with_reducible exact Ne.symm (And.right (by assumption))
  | with_reducible exact (And.left (And.right (And.right (And.right (And.right (by assumption))))))
  | with_reducible exact Ne.symm (And.left (And.right (And.right (And.right (And.right (by assumption))))))
  | with_reducible exact (And.left (And.right (And.right (And.right (by assumption)))))
  | with_reducible exact Ne.symm (And.left (And.right (And.right (And.right (by assumption)))))
  | with_reducible exact (And.left (And.right (And.right (by assumption))))
  | with_reducible exact Ne.symm (And.left (And.right (And.right (by assumption))))
  | with_reducible exact (And.left (And.right (by assumption)))
  | with_reducible exact Ne.symm (And.left (And.right (by assumption)))
  | with_reducible exact (And.left (by assumption))
  | with_reducible exact Ne.symm (And.left (by assumption))
  | with_reducible exact (by assumption)
  | with_reducible exact Ne.symm (by assumption)
  | with_reducible exact Nat.ne_of_gt (And.left (by assumption))
  | with_reducible exact Nat.ne_of_lt (And.left (by assumption))
  | with_reducible exact Nat.ne_of_gt (And.left (And.right (by assumption)))
  | with_reducible exact Nat.ne_of_lt (And.left (And.right (by assumption)))
  | with_reducible exact Nat.ne_of_gt (And.left (And.right (And.right (by assumption))))
  | with_reducible exact Nat.ne_of_lt (And.left (And.right (And.right (by assumption))))
  | with_reducible exact Nat.ne_of_gt (And.left (And.right (And.right (And.right (by assumption)))))
  | with_reducible exact Nat.ne_of_lt (And.left (And.right (And.right (And.right (by assumption)))))
  | with_reducible exact Nat.ne_of_gt (And.left (And.right (And.right (And.right (And.right (by assumption))))))
  | with_reducible exact Nat.ne_of_lt (And.left (And.right (And.right (And.right (And.right (by assumption))))))
  | with_reducible exact Nat.ne_of_gt (And.left (And.right (And.right (And.right (And.right (And.right (by assumption)))))))
  | with_reducible exact Nat.ne_of_lt (And.left (And.right (And.right (And.right (And.right (And.right (by assumption)))))))
  | with_reducible exact Nat.ne_of_gt (And.left (And.right (And.right (And.right (And.right (And.right (And.right (by assumption))))))))
  | with_reducible exact Nat.ne_of_lt (And.left (And.right (And.right (And.right (And.right (And.right (And.right (by assumption))))))))
  | with_reducible exact Nat.ne_of_gt (And.left (And.right (And.right (And.right (And.right (And.right (And.right (And.right (by assumption)))))))))
  | with_reducible exact Nat.ne_of_lt (And.left (And.right (And.right (And.right (And.right (And.right (And.right (And.right (by assumption)))))))))
  | with_reducible exact Nat.ne_of_gt (And.left (And.right (And.right (And.right (And.right (And.right (And.right (And.right (And.right (by assumption))))))))))
  | with_reducible exact Nat.ne_of_lt (And.left (And.right (And.right (And.right (And.right (And.right (And.right (And.right (And.right (by assumption))))))))))
  | with_reducible exact Nat.ne_of_gt (And.left (And.right (And.right (And.right (And.right (And.right (And.right (And.right (And.right (And.right (by assumption)))))))))))
  | with_reducible exact Nat.ne_of_lt (And.left (And.right (And.right (And.right (And.right (And.right (And.right (And.right (And.right (And.right (by assumption)))))))))))
  | with_reducible exact Nat.ne_of_gt (And.left (And.right (And.right (And.right (And.right (And.right (And.right (And.right (And.right (And.right (And.right (by assumption))))))))))))
  | with_reducible exact Nat.ne_of_lt (And.left (And.right (And.right (And.right (And.right (And.right (And.right (And.right (And.right (And.right (And.right (by assumption))))))))))))
  | with_reducible exact Nat.ne_of_gt (And.right (by assumption))
  | with_reducible exact Nat.ne_of_lt (And.right (by assumption))
  | with_reducible exact Nat.ne_of_gt (And.right (And.right (by assumption)))
  | with_reducible exact Nat.ne_of_lt (And.right (And.right (by assumption)))
  | with_reducible exact Nat.ne_of_gt (And.right (And.right (And.right (by assumption))))
  | with_reducible exact Nat.ne_of_lt (And.right (And.right (And.right (by assumption))))
  | with_reducible exact Nat.ne_of_gt (And.right (And.right (And.right (And.right (by assumption)))))
  | with_reducible exact Nat.ne_of_lt (And.right (And.right (And.right (And.right (by assumption)))))
  | with_reducible exact Nat.ne_of_gt (And.right (And.right (And.right (And.right (And.right (by assumption))))))
  | with_reducible exact Nat.ne_of_lt (And.right (And.right (And.right (And.right (And.right (by assumption))))))
  | with_reducible exact Nat.ne_of_gt (And.right (And.right (And.right (And.right (And.right (And.right (by assumption)))))))
  | with_reducible exact Nat.ne_of_lt (And.right (And.right (And.right (And.right (And.right (And.right (by assumption)))))))
  | with_reducible exact Nat.ne_of_gt (And.right (And.right (And.right (And.right (And.right (And.right (And.right (by assumption))))))))
  | with_reducible exact Nat.ne_of_lt (And.right (And.right (And.right (And.right (And.right (And.right (And.right (by assumption))))))))
  | with_reducible exact Nat.ne_of_gt (And.right (And.right (And.right (And.right (And.right (And.right (And.right (And.right (by assumption)))))))))
  | with_reducible exact Nat.ne_of_lt (And.right (And.right (And.right (And.right (And.right (And.right (And.right (And.right (by assumption)))))))))
  | with_reducible exact Nat.ne_of_gt (And.right (And.right (And.right (And.right (And.right (And.right (And.right (And.right (And.right (by assumption))))))))))
  | with_reducible exact Nat.ne_of_lt (And.right (And.right (And.right (And.right (And.right (And.right (And.right (And.right (And.right (by assumption))))))))))
  | with_reducible exact Nat.ne_of_gt (And.right (And.right (And.right (And.right (And.right (And.right (And.right (And.right (And.right (And.right (by assumption)))))))))))
  | with_reducible exact Nat.ne_of_lt (And.right (And.right (And.right (And.right (And.right (And.right (And.right (And.right (And.right (And.right (by assumption)))))))))))
  | with_reducible exact Nat.ne_of_gt (And.right (And.right (And.right (And.right (And.right (And.right (And.right (And.right (And.right (And.right (And.right (by assumption))))))))))))
  | with_reducible exact Nat.ne_of_lt (And.right (And.right (And.right (And.right (And.right (And.right (And.right (And.right (And.right (And.right (And.right (by assumption))))))))))))))
  (k_with "c_tidy" => (
  (with_reducible rename Fr _ _ _ _ => lFt)
  (with_reducible rename News _ _ _ _ => nEt)
  (revert lFt nEt)
  (repeat (with_reducible rename News _ _ _ _ => zz9; clear zz9))
  (repeat (with_reducible rename Fr _ _ _ _ => zz9; clear zz9))
  (intro lFt nEt)))
  (k_with "execs cons" => (k_here; (with_reducible refine wpAny_execs_cons ?_); (try dsimp only); (try walk_at "c_tidy")))
  (k_with "newList" => (k_here; k_dflt (refine' newList_K ?k1 ?k2 ?_; (case k1 => k_asm); (case k2 => k_asm); k_whole); intro l' h' F' N' l1; (try k_lt l1)))
  (k_with "eval Name" => (
  k_here
  (with_reducible rename Fr _ _ _ _ => kF)
  with_unfolding_all refine guard_global (by rfl) ?_
  k_dflt (refine' name_B kF ?k1 ?k2 ?k3 ?k4 ?k5 ?_; (case k1 => k_asm); (case k2 => k_asm); (case k3 => k_is); (case k4 => boot_by_name); (case k5 => decide); k_whole)))
  (k_with "eval Name" => (k_here; k_dflt (refine' ld ?k1 ?k2 ?_; (case k1 => k_asm); (case k2 => exact rfl); k_whole)))
  (k_with "eval Name" => (
  k_here
  (with_reducible rename Fr _ _ _ _ => kF)
  with_unfolding_all refine guard_global (by rfl) ?_
  k_dflt (refine' name_K kF ?k1 ?k2 ?k3 ?_; (case k1 => k_asm); (case k2 => k_asm); (case k3 => k_is); k_whole)))
  exact True.intro
local macro_rules | `(tactic| wrow_close) => `(tactic| k_extra "wrow_close")
theorem Mine.ln30 : True := by
  (k_with "wrow_close" => ((with_reducible show GoodW _ _ _ _ _ _ _); (apply hold)))
  exact True.intro
local macro_rules  | `(tactic| walk_at "pyIter ref") => `(tactic| ((with_reducible show wpAny _ _ (pyIter _) (fun it s₂ => LoopAtV _ _ _ _ _ _ _ _ _ it s₂) _ _); (apply hold)))
theorem Mine.ways_lines : True := by
  (k_with "exec For Tuple Name cons nil" => ((fail_if_success (with_reducible rename WayP _ _ _ _ _ _ _ _ _ _ => hz9)); (apply hold)))
  (k_with "execs cons Assign cons" => ((with_reducible rename WayP _ _ _ _ _ _ _ _ _ _ => hz9); (with_reducible show wpAny _ _ (execs (Stmt.Assign _ (Expr.List _ _) _ :: _) _) _ _ _); (apply hold)))
  (k_with "exec For Name Call cons nil" => (
    k_here
    (with_reducible rename Fr _ _ _ _ => lF')
    (with_unfolding_all refine' For_invVF lF' ?k1 ?k2 ?_; (case k1 => exact rfl); (case k2 => exact rfl); k_whole)))
  (k_with "exec For Name Subscript cons nil" => (
    k_here
    (with_reducible rename Fr _ _ _ _ => lF')
    (with_unfolding_all refine' For_invVF lF' ?k1 ?k2 ?_; (case k1 => exact rfl); (case k2 => exact rfl); k_whole)))
  (k_with "newList" => (k_here; k_dflt (refine' newList_K ?k1 ?k2 ?_; (case k1 => k_asm); (case k2 => k_asm); k_whole); intro l' h' F' N' lN7))
  (k_with "call type:range" => (
    k_here
    (with_reducible rename Fr _ _ _ _ => lF')
    (with_reducible rename News _ _ _ _ => nE')
    (k_dflt (refine range1_rows lF' nE' ?_))
    (intro h7 tk7 t7 u7 v7 hR7 F7 N7 _)))
  (k_with "c_offm" => first | exact hp9 | exact hoff _ hp9 | (apply List.Mem.tail; walk_at "c_offm"))
  (k_with "c_off" => (intro p9 hp9; walk_at "c_offm"))
  (k_with "c_cells" => first | exact hcm | exact hoff _ hcm | (apply List.Mem.tail; walk_at "c_cells"))
  (k_with "subscriptTail Name Constant" => (
    k_here
    (with_reducible rename News _ _ _ _ => nE')
    (k_dflt (refine' r_pick 1 (News.isList nE' ?zm) ?zk ?zv ?zf ?_))
    (case zm => k_dflt (walk_at "c_cells"))
    (case zk => k_dflt (exact rfl))
    (case zv => k_dflt (exact rfl))
    (case zf => decide)))
  (k_with "subscriptTail Name UnaryOp" => (
    k_here
    (with_reducible rename News _ _ _ _ => nE')
    (k_dflt (refine' r_last nE' ?zm ?zk ?_))
    (case zm => k_dflt (walk_at "c_mem"))
    (case zk => k_dflt (exact rfl))))
  (k_with "subscriptTail Name Slice ref ref" => (
    k_here
    (with_reducible show wpAny _ _ (subscriptTail _ (Expr.Slice none (some _) none _) _ _) _ _ _)
    (with_reducible rename Fr _ _ _ _ => lF')
    (with_reducible rename News _ _ _ _ => nE')
    (k_dflt (refine' r_init lF' nE' ?zm ?zk ?zz ?_ ?zs ?zt))
    (case zm => k_dflt (walk_at "c_mem"))
    (case zk => k_dflt (exact rfl))
    (case zz => omega)
    (case zs => with_unfolding_all rfl)
    (case zt => (intro _; with_unfolding_all rfl))
    (intro D7 h7 F7 N7 l7)))
  (k_with "subscriptTail Subscript Name Slice Slice ref ref" => (
    k_here
    (with_reducible rename Fr _ _ _ _ => lF')
    (with_reducible rename News _ _ _ _ => nE')
    (k_dflt (refine kba_turn (value' := PySem.Expr.Name (PySem.Str.ofString "_") ⟨0, 0, 0, 0⟩) (fun _ => rfl) ?_))
    (k_dflt (refine' r_rev lF' nE' ?zm ?zk ?zz ?_ ?zs ?zt))
    (case zm => k_dflt (walk_at "c_mem"))
    (case zk => k_dflt (exact rfl))
    (case zz => omega)
    (case zs => with_unfolding_all rfl)
    (case zt => (intro _; with_unfolding_all rfl))
    (intro D8 h8 F8 N8 l8)))
  (k_with "callWith ref" => (
    k_here
    (with_reducible rename Fr _ _ _ _ => lF')
    (with_reducible rename News _ _ _ _ => nE')
    (k_dflt (first
      | (refine' callWith_F (hWay.ft _ (hH _ _ lF' (news_off nE' ?zo))) ?_; (case zo => walk_at "c_off"); k_whole)
      | (refine' callWith_F (hWay.fo _ (hH _ _ lF' (news_off nE' ?zo))) ?_; (case zo => walk_at "c_off"); k_whole)
      | (refine' callWith_F (hWay.fr _ (hH _ _ lF' (news_off nE' ?zo))) ?_; (case zo => walk_at "c_off"); k_whole)))))
  (k_with "FnAt" => (
    (with_reducible rename Fr _ _ _ _ => lF')
    (with_reducible rename News _ _ _ _ => nE')
    (k_dflt (first
      | exact hWay.ft _ (hH _ _ lF' (news_off nE' (by walk_at "c_off")))
      | exact hWay.fo _ (hH _ _ lF' (news_off nE' (by walk_at "c_off")))
      | exact hWay.fr _ (hH _ _ lF' (news_off nE' (by walk_at "c_off")))))))
  (k_with "call ref" => (
    k_here
    (with_reducible rename Fr _ _ _ _ => lF')
    (with_reducible rename News _ _ _ _ => nE')
    (k_dflt (first
      | (refine' useG (cT _) ?B ?F ?X ?N ?T ?K ?d ?u (hH _ _ lF' (news_off nE' ?zo)) ?_; (case zo => walk_at "c_off"))
      | (refine' useG (cO _) ?B ?F ?X ?N ?T ?K ?d ?u (hH _ _ lF' (news_off nE' ?zo)) ?_; (case zo => walk_at "c_off"))
      | (refine' useG (cR _) ?B ?F ?X ?N ?T ?K ?d ?u (hH _ _ lF' (news_off nE' ?zo)) ?_; (case zo => walk_at "c_off"))))
    walk_at "c_use"))
  (k_with "binaryOp Add str str" => (
    k_here
    k_dflt (refine' r_add rfl rfl ?hs ?_)
    (case hs => k_dflt (simp only [List.length_append, List.length_cons, List.length_nil]; omega))
    (intro _ _)))
  (k_with "RPost" => (dsimp only [RPost]))
  (k_with "KPost" => (dsimp only [KPost]))
  (k_with "REnd" => (
    k_here
    (with_reducible rename Fr _ _ _ _ => lF')
    (with_reducible rename News _ _ _ _ => nE')
    (k_dflt (refine' REnd.intro lF' nE' ?zm ?zo ?zs ?zy ?zr))
    (case zm => k_dflt (walk_at "c_mem"))
    (case zo => k_dflt (walk_at "c_off2"))
    (case zs => k_dflt assumption)
    (case zy => k_dflt (exact rfl))
    (case zr => k_dflt (walk_at "c_same"))))
  (k_with "c_mem" => first | exact List.Mem.head _ | (apply List.Mem.tail; walk_at "c_mem"))
  (k_with "c_off2m" => first | exact hp9 | (apply List.Mem.tail; walk_at "c_off2m"))
  (k_with "c_off2" => (intro p9 hp9; walk_at "c_off2m"))
  (k_with "KEnd" => (
    k_here
    (with_reducible rename Fr _ _ _ _ => lF')
    (with_reducible rename News _ _ _ _ => nE')
    (k_dflt (refine' KEnd.intro lF' nE' ?zo ?zy ?zr))
    (case zo => k_dflt (walk_at "c_off2"))
    (case zy => k_dflt (exact rfl))
    (case zr => k_dflt (intro z h2 h3; simp [h2, h3]))))
  (k_with "c_lam" => (
    (with_reducible rename LamH _ _ _ _ _ _ _ _ _ _ _ _ => hL9)
    refine' lam_pure ?k1 ?k2 ?k3 ?k5 ?kA ?kF ?kK hL9.2.1 hL9.2.2 ?k8 ?k9 ?kB ?_ ?c2 ?c3 ?c4 ?c5; (case kA => exact rfl); (case kF => exact rfl); (case kK => first | exact rfl | assumption); (case k1 => k_asm); (case k2 => k_asm); (case k3 => k_asm); (case k5 => k_asm); (case k8 => walk_at "c_room"); (case k9 => exact rfl); (case c5 => decide); (case kB => exact locs rfl); (case c2 => exact rfl); (case c3 => exact rfl); (case c4 => exact rfl); k_whole; intro g' L' h' hG F' N' B' X' T'; (try dsimp only); (try k_fold)))
  exact True.intro
theorem PySem.Challenge.cw_sz0080_01_holds : PySem.Challenge.rw_sz0080_01.Holds :=
  hd (by
  k_go0
  (all_goals try k_fold)
  walk_at "c_steps"
  (with_reducible rename Fr _ _ _ _ => F1')
  (with_reducible rename News _ _ _ _ => N1')
  (with_reducible rename IntsAre _ (List.map _ _) => I1')
  (with_reducible rename IntsAre _ (List.drop _ _) => I2')
  refine' unhold (r_cells _ F1' N1' ?za ?zb I1' I2' rfl rfl ?_)
  case za => exact News.isList N1' (by walk_at "c_mem")
  case zb => exact News.isList N1' (by walk_at "c_mem")
  intro a b t u D h' F' N' l1
  (try k_lt l1)
  clear F1' N1'
  walk_at "c_steps"
  (with_reducible rename Fr _ _ _ _ => F1')
  (with_reducible rename News _ _ _ _ => N1')
  refine' unhold (w_build F1' N1' (sub2 (.tail _ (.head _)) (.tail _ (.tail _ (.tail _ (.tail _ (.tail _ (.tail _ (.tail _ (.head _))))))))) rfl empty_is rfl (fmod343 a) (Nat.mod_lt _ (by decide)) ?turn ?stop)
  case turn =>
    intro l k tl tk h tk1 hk hl3 F N
    clear F1' N1'
    have hk2 : (0 : Int) < (k : Int) := by omega
    walk_at "c_steps"
  case stop =>
    intro l tl tk h tk1 ha hl F N
    clear F1' N1'
    walk_at "c_steps"
    (with_reducible rename Fr _ _ _ _ => F2')
    (with_reducible rename News _ _ _ _ => N2')
    (with_reducible rename Frag.In _ _ => X2')
    refine unhold (cut_lam X2' N2' (by walk_at "c_mem") ?lam ?_)
    case lam =>
      intro lx tx hax hSx
      dsimp only [CtrG]
      intros
      refine wpAny_call ?_
      k_dflt (walk_at "c_lam")
      walk_at "c_steps"
      all_goals walk_at "c_close"
    intro hLam
    refine cut_way l tl D (1 + b % 3) F2' ?way ?_
    case way =>
      clear hLam F2' N2'
      intro H ta oa ra P f own m s Q hWay hP hH F N m1 m2 m3 m4 m5 hc ret
      obtain ⟨x, y, ux, v, hcm, hn⟩ := hc
      have hn3 : 1 + b % 3 ≤ 3 := by omega
      generalize 1 + b % 3 = n at hn hn3 ret
      have e3 := fmod3 y
      have e5 : (1 : Int) + ((y % 3 : Nat) : Int) = (n : Int) := by omega
      have gT : ∀ i, i ≤ 3 → ∀ t, CtrG _ H ta [.str (S (itr f l i)) t] (fun t => .str (S (itr f l (i + 1))) t) := fun i hi t => hWay.tell _ t (hWay.all hP i) (hWay.short hl hi)
      have gO : ∀ i, i ≤ 3 → ∀ t, CtrG _ H oa [.str (S (itr f l i)) t] (fun t => .str (S (itr f l (i + 1))) t) := fun i hi t => hWay.own _ t (hWay.all hP i) (hWay.short hl hi)
      have gR : ∀ i, i ≤ 3 → ∀ t, CtrG _ H ra [.str (S (itr f l (i + 1))) t] (fun t => .str (S (itr f l i)) t) := fun i hi t => hWay.read _ t (hWay.all hP i) (hWay.short hl hi)
      have gS : ∀ i, i ≤ 3 → Short (itr f l i) := fun i hi => hWay.short hl hi
      have gG : ∀ i, NoLess (itr f l i) (itr f l (i + 1)) := fun i => hWay.grow _
      replace F := fr5 F m1 m2 m3 m4 m5
      have hoff : ∀ p ∈ own, p ∈ own := fun _ h => h
      walk_at "c_steps"
      refine unhold (w_rows (own := own) (itr f l) [Str.ofString "told"] rfl hR7 rfl hn3 F7 N7 (.head _) (by walk_at "c_off2") (lt_ne lN7) ?turn ?done)
      case turn =>
        clear F7 N7 hR7 lN7 hoff
        (try clear F)
        (try clear N)
        intro i vs e k tk7 tt u h tk tl hi hs hoff hne F N
        have cT := gT i (by omega)
        have cO := gO i (by omega)
        have hs0 := gS i (by omega)
        have hs1 := gS (i + 1) (by omega)
        have hG := gG i
        have hvl : vs.length = i := by rw [hs.len]; simp
        walk_at "c_steps"
      case done =>
        clear F7 N7 hR7 lN7 hoff
        (try clear F)
        (try clear N)
        have hoff : ∀ p ∈ own, p ∈ own := fun _ h => h
        intro vs e tt u h tk hs F N
        have hvl : vs.length = n := by rw [hs.len]; simp
        walk_at "c_steps"
        refine unhold (w_back (own := own) (itr f l) (Str.ofString "back") (by decide) rfl F8 N8 (.head _) (by walk_at "c_off2") (lt_ne fun p9 hp9 => l8 p9 (by walk_at "c_off2m")) hs.rev rfl ?turn ?done)
        case turn =>
          clear F8 N8 l8 hoff
          (try clear F)
          (try clear N)
          intro j t te h tk tl hj hoff F N
          have cR := gR j (by omega)
          walk_at "c_steps"
        case done =>
          clear F8 N8 l8 hoff
          (try clear F)
          (try clear N)
          intro t u h tk F N
          walk_at "c_steps"
          exact ret _ _ _ F N rfl rfl
    intro hWayP
    walk_at "c_steps"
    (with_reducible rename Fr _ _ _ _ => F3'); (with_reducible rename News _ _ _ _ => N3')
    (with_reducible rename WayP _ _ _ _ _ _ _ _ _ _ => hWayP)
    refine unhold (hWayP _ _ _ _ _ _ _ _ _ _ (way_jq hLam) (fun c hc => A7_AJ c (ha c hc)) ?hH F3' N3' rfl rfl rfl rfl rfl ⟨_, _, _, _, by walk_at "c_mem", rfl⟩ ?_)
    case hH =>
      intro h m F N
      exact lamH_of X2' F N (by walk_at "c_mem") (by walk_at "c_mem") (by assumption) (by assumption)
    clear F3' N3' hLam
    intro h4 tk4 m4 F4 N4 mt4 mc4
    walk_at "c_steps"
    (with_reducible rename Fr _ _ _ _ => F3'); (with_reducible rename News _ _ _ _ => N3')
    (with_reducible rename WayP _ _ _ _ _ _ _ _ _ _ => hWayP)
    refine unhold (hWayP _ _ _ _ _ _ _ _ _ _ (way_oc _) (fun c hc => A7_AU c (ha c hc)) ?hH F3' N3' rfl rfl rfl mt4 mc4 ⟨_, _, _, _, by walk_at "c_mem", rfl⟩ ?_)
    case hH => exact fun h m F N => X2'.keeps F.keep
    clear F3' N3'
    intro h5 tk5 m5 F5 N5 mt5 mc5
    walk_at "c_steps"
    (with_reducible rename Fr _ _ _ _ => F3'); (with_reducible rename News _ _ _ _ => N3')
    (with_reducible rename WayP _ _ _ _ _ _ _ _ _ _ => hWayP)
    refine unhold (hWayP _ _ _ _ _ _ _ _ _ _ (way_es _) (fun c hc => A7_AE c (ha c hc)) ?hH F3' N3' rfl rfl rfl mt5 mc5 ⟨_, _, _, _, by walk_at "c_mem", rfl⟩ ?_)
    case hH => exact fun h m F N => X2'.keeps F.keep
    clear F3' N3'
    intro h6 tk6 m6 F6 N6 mt6 mc6
    walk_at "c_steps"
    all_goals (
      refine unhold ?_
      refine goodW_bool (by assumption) (by assumption) (raisesW_false ?_) ?_
      · wrow_none_raised
      · exact law_post _ _))
