import PyProof.Rows.All
import Wide.All
import OpenK.AllK
import Wide.FinOn
import PySem.Challenge.RW_no0417_01
open PySem PySem.W PyProof.Rows PySem.Calls
open Nat (le_of_not_lt reducePow add_le_add lt_of_not_le le_refl le_of_eq mod_lt ne_of_lt lt_succ_self not_lt_of_le div_lt_of_lt_mul lt_of_lt_of_le lt_of_le_of_lt le_total min_eq_left min_eq_right le_add_right min_le_left add_le_add_left mul_le_mul_left lt_irrefl le_antisymm min_le_right lt_or_ge add_mod mod_two_eq_zero_or_one pos_of_ne_zero div_add_mod shiftRight_eq_div_pow shiftLeft_eq sub_le lt_of_le_of_ne xor_assoc xor_comm zero_xor xor_lt_two_pow and_le_right mod_eq_of_lt mul_comm add_zero succ_pos succ_ne_zero le_succ sub_eq_zero_of_le zero_le add_assoc le_of_lt_succ ne_of_gt le_of_add_right_le add_comm add_left_cancel add_right_cancel)
open Int (toNat_lt toNat_of_nonneg add_nonneg natCast_nonneg toNat_le ofNat natCast_add ofNat_sub toNat_natCast ofNat_inj mul_one)
open Bool (false_eq_true and_eq_true or_eq_false_iff)
open List (take_nil drop_nil flatMap_cons nodup_append mem_cons_of_mem map_cons nodup_cons mem_of_getElem? mem_map_of_mem lookup_cons find?_cons size_toArray take_of_length_le drop_zero drop_of_length_le getElem?_eq_none getElem?_set length_map getElem_inj getElem_map nodup_nil all_cons mem_cons length_cons length_set getElem?_eq_getElem length_append not_mem_nil getElem?_map length_take length_drop replicate_succ flatten_cons map_append nil_append mem_append_left getElem?_append_left forIn_nil forIn_cons getElem?_of_mem map_congr_left getD_eq_getElem?_getD length_nil length_replicate cons_append append_assoc getElem_mem set_cons_succ set_cons_zero take_add_one foldl_append take_length getD append_nil take_append drop_drop drop_eq_getElem_cons drop_length take_zero take map_take range_succ map_nil take_append_drop take_left drop_left prefix_refl drop_set set_append_right mem_append_right)
open Option (elim map map_some)
open Array (ext')
set_option Elab.async false
set_option maxRecDepth 100000
set_option linter.all false
set_option compiler.extract_closed false
set_option bootstrap.genMatcherCode false
set_option genSizeOfSpec false
set_option genSizeOf false
namespace N0
set_option tactic.hygienic false
set_option hygiene false
set_option autoImplicit false
@[elab_as_elim] theorem rr {α:Sort _} {a b:α} (h:a=b) {p:α→Prop} (m:p b):p a:=Eq.substr h m
theorem dK {p:Prop} [Decidable p] (h:decide p=true:=by kernel_rfl):p:=of_decide_eq_true h
theorem dD {p:Prop} [Decidable p] (h:decide p=true:=by exact Eq.refl true):p:=of_decide_eq_true h
theorem lnl {a b:Nat} (h:b+1≤a→False):a≤b:=le_of_not_lt h
theorem lA0 {a b:Nat}  (u:b+1≤a→False:=by intro u; simp +arith only [reducePow] at u):a≤b:=lnl fun z=>u z
theorem lA1 {a b c d:Nat} (h1:c≤d) (u:b+1+c≤a+d→False:=by intro u; simp +arith only [reducePow] at u):a≤b:=lnl fun z=>u (add_le_add z h1)
theorem lA2 {a b c d e f:Nat} (h1:c≤d) (h2:e≤f) (u:b+1+c+e≤a+d+f→False:=by intro u; simp +arith only [reducePow] at u):a≤b:=lnl fun z=>u (add_le_add (add_le_add z h1) h2)
theorem lA3 {a b c d e f g h:Nat} (h1:c≤d) (h2:e≤f) (h3:g≤h) (u:b+1+c+e+g≤a+d+f+h→False:=by intro u; simp +arith only [reducePow] at u):a≤b:=lnl fun z=>u (add_le_add (add_le_add (add_le_add z h1) h2) h3)
theorem eq_1 {a b c d e f g h i j:Nat} (h1:c≤d) (h2:e≤f) (h3:g≤h) (h4:i≤j) (u:b+1+c+e+g+i≤a+d+f+h+j→False:=by intro u; simp +arith only [reducePow] at u):a≤b:=lnl fun z=>u (add_le_add (add_le_add (add_le_add (add_le_add z h1) h2) h3) h4)
theorem eq_2 {a b c d e f g h i j k l:Nat} (h1:c≤d) (h2:e≤f) (h3:g≤h) (h4:i≤j) (h5:k≤l) (u:b+1+c+e+g+i+k≤a+d+f+h+j+l→False:=by intro u; simp +arith only [reducePow] at u):a≤b:=lnl fun z=>u (add_le_add (add_le_add (add_le_add (add_le_add (add_le_add z h1) h2) h3) h4) h5)
theorem sA0 {a b:Nat}  (u:b≤a→False:=by intro u; simp +arith only [reducePow] at u):a<b:=lt_of_not_le fun z=>u z
theorem sA1 {a b c d:Nat} (h1:c≤d) (u:b+c≤a+d→False:=by intro u; simp +arith only [reducePow] at u):a<b:=lt_of_not_le fun z=>u (add_le_add z h1)
theorem sA2 {a b c d e f:Nat} (h1:c≤d) (h2:e≤f) (u:b+c+e≤a+d+f→False:=by intro u; simp +arith only [reducePow] at u):a<b:=lt_of_not_le fun z=>u (add_le_add (add_le_add z h1) h2)
theorem sA3 {a b c d e f g h:Nat} (h1:c≤d) (h2:e≤f) (h3:g≤h) (u:b+c+e+g≤a+d+f+h→False:=by intro u; simp +arith only [reducePow] at u):a<b:=lt_of_not_le fun z=>u (add_le_add (add_le_add (add_le_add z h1) h2) h3)
theorem sA4 {a b c d e f g h i j:Nat} (h1:c≤d) (h2:e≤f) (h3:g≤h) (h4:i≤j) (u:b+c+e+g+i≤a+d+f+h+j→False:=by intro u; simp +arith only [reducePow] at u):a<b:=lt_of_not_le fun z=>u (add_le_add (add_le_add (add_le_add (add_le_add z h1) h2) h3) h4)
theorem eq_3 {a b c d e f g h i j k l:Nat} (h1:c≤d) (h2:e≤f) (h3:g≤h) (h4:i≤j) (h5:k≤l) (u:b+c+e+g+i+k≤a+d+f+h+j+l→False:=by intro u; simp +arith only [reducePow] at u):a<b:=lt_of_not_le fun z=>u (add_le_add (add_le_add (add_le_add (add_le_add (add_le_add z h1) h2) h3) h4) h5)
theorem eq_4 {c d:Nat} (h1:c≤d) (u:c≤d→False:=by intro u; simp +arith only [reducePow] at u):False:=u h1
theorem eq_5 {c d e f:Nat} (h1:c≤d) (h2:e≤f) (u:c+e≤d+f→False:=by intro u; simp +arith only [reducePow] at u):False:=u (add_le_add h1 h2)
theorem fA3 {c d e f g h:Nat} (h1:c≤d) (h2:e≤f) (h3:g≤h) (u:c+e+g≤d+f+h→False:=by intro u; simp +arith only [reducePow] at u):False:=u (add_le_add (add_le_add h1 h2) h3)
theorem eq_6 {c d e f g h i j:Nat} (h1:c≤d) (h2:e≤f) (h3:g≤h) (h4:i≤j) (u:c+e+g+i≤d+f+h+j→False:=by intro u; simp +arith only [reducePow] at u):False:=u (add_le_add (add_le_add (add_le_add h1 h2) h3) h4)
theorem eq_7 {a b c d e f g h i j k l m n:Nat} (h1:c≤d) (h2:e≤f) (h3:g≤h) (h4:i≤j) (h5:k≤l) (h6:m≤n) (u:b+1+c+e+g+i+k+m≤a+d+f+h+j+l+n→False:=by intro u; simp +arith only [reducePow] at u):a≤b:=lnl fun z=>u (add_le_add (add_le_add (add_le_add (add_le_add (add_le_add (add_le_add z h1) h2) h3) h4) h5) h6)
theorem eq_8 {a b c d e f g h i j k l m n:Nat} (h1:c≤d) (h2:e≤f) (h3:g≤h) (h4:i≤j) (h5:k≤l) (h6:m≤n) (u:b+c+e+g+i+k+m≤a+d+f+h+j+l+n→False:=by intro u; simp +arith only [reducePow] at u):a<b:=lt_of_not_le fun z=>u (add_le_add (add_le_add (add_le_add (add_le_add (add_le_add (add_le_add z h1) h2) h3) h4) h5) h6)
theorem eq_9 {a b c d e f g h i j k l m n o p:Nat} (h1:c≤d) (h2:e≤f) (h3:g≤h) (h4:i≤j) (h5:k≤l) (h6:m≤n) (h7:o≤p) (u:b+c+e+g+i+k+m+o≤a+d+f+h+j+l+n+p→False:=by intro u; simp +arith only [reducePow] at u):a<b:=lt_of_not_le fun z=>u (add_le_add (add_le_add (add_le_add (add_le_add (add_le_add (add_le_add (add_le_add z h1) h2) h3) h4) h5) h6) h7)
theorem eq_10 {c d e f g h i j k l m n:Nat} (h1:c≤d) (h2:e≤f) (h3:g≤h) (h4:i≤j) (h5:k≤l) (h6:m≤n) (u:c+e+g+i+k+m≤d+f+h+j+l+n→False:=by intro u; simp +arith only [reducePow] at u):False:=u (add_le_add (add_le_add (add_le_add (add_le_add (add_le_add h1 h2) h3) h4) h5) h6)
theorem eq_11 {a b:Nat} (u:a=b:=by simp +arith only):a=b:=u
theorem nas (a b:Nat):a≤a - b+b:=Nat.sub_le_iff_le_add.mp (le_refl _)
theorem nsa (a b:Nat) (h:b≤a):a - b+b≤a:=le_of_eq (Nat.sub_add_cancel h)
theorem eq_12 (a b:Nat) (h:0<b):a % b+1≤b:=mod_lt a h
theorem eq_13 {x a b:Nat} (h:x≤a) (k:x≤b):x≤min a b:=Nat.le_min.mpr ⟨h,k⟩
theorem eq_14 {x a b:Nat} (h:x<a) (k:x<b):x<min a b:=Nat.lt_min.mpr ⟨h,k⟩
theorem ilt {i:Int} {n:Nat} (h0:0≤i) (h:i.toNat<n):i<n:=(toNat_lt h0).mp h
theorem i63 {i:Int} {n:Nat} (h0:0≤i) (h:i.toNat<n) (hn:n≤1000000):i<2 ^ 63:=Int.lt_of_lt_of_le (ilt h0 h) (Int.le_trans (Int.ofNat_le.mpr hn) (by decide))
theorem Y1 {i:Int} (h0:0≤i) : -2 ^ 63≤i:=Int.le_trans (by decide) h0
theorem eqL {a b:Nat} (h:a=b):a≤b:=le_of_eq h
theorem eqG {a b:Nat} (h:a=b):b≤a:=le_of_eq h.symm
theorem lsl {a b:Nat} (h:a<b):a+1≤b:=h
theorem nlt {a b:Nat} (h:¬ a<b):b≤a:=le_of_not_lt h
theorem eq_15 {a b:Nat} (h:¬ a≤b):b+1≤a:=lt_of_not_le h
@[elab_as_elim] theorem rl {α:Sort _} {a b:α} (h:a=b) {p:α→Prop} (m:p a):p b:=Eq.subst h m
deriving instance Nonempty for PySem.Drawn
deriving instance Nonempty for PySem.Params
deriving instance Nonempty for PySem.World
deriving instance Nonempty for PySem.Shared
deriving instance Nonempty for PySem.Model
deriving instance Nonempty for PySem.Around
deriving instance Nonempty for PySem.Ctx
noncomputable def kx {A:Type} (i:Nonempty A) (S:A→Prop):A:=Classical.epsilon fun x=>¬ S x
noncomputable def T1 {A:Type} (x:A):A:=x
noncomputable def T2 {A:Type} (x:A):A:=x
noncomputable def T3 {A:Type} (x:A):A:=x
noncomputable def T4 {A:Type} (x:A):A:=x
noncomputable def T5 {A:Type} (x:A):A:=x
noncomputable def T6 {A:Type} (x:A):A:=x
noncomputable def T7 {A:Type} (x:A):A:=x
noncomputable def T8 {A:Type} (x:A):A:=x
noncomputable def T9 {A:Type} (x:A):A:=x
noncomputable def T10 {A:Type} (x:A):A:=x
noncomputable def T11 {A:Type} (x:A):A:=x
noncomputable def T12 {A:Type} (x:A):A:=x
theorem eq_16 {A:Type} (i:Nonempty A) {S:A→Prop} (h:S (kx i S)) (x:A):S x:=Classical.byContradiction fun q=>Classical.epsilon_spec (p:=fun x=>¬ S x) ⟨x,q⟩ h
noncomputable def k1 {A1:Type} (i:Nonempty (A1)) (S:A1→Prop):A1:=kx i fun p=>S p
theorem s1 {A1:Type} [i:Nonempty (A1)] {S:A1→Prop} (h:S (T1 (k1 i S))):∀ x1,S x1:=fun x1=>eq_16 i (S:=fun p=>S p) h (x1)
noncomputable def k2 {A1 A2:Type} (i:Nonempty (A1 × A2)) (S:A1→A2→Prop):A1 × A2:=kx i fun p=>S p.1 p.2
theorem s2 {A1 A2:Type} [i:Nonempty (A1 × A2)] {S:A1→A2→Prop} (h:S (T1 (k2 i S).1) (T2 (k2 i S).2)):∀ x1 x2,S x1 x2:=fun x1 x2=>eq_16 i (S:=fun p=>S p.1 p.2) h (x1,x2)
noncomputable def k3 {A1 A2 A3:Type} (i:Nonempty (A1 × A2 × A3)) (S:A1→A2→A3→Prop):A1 × A2 × A3:=kx i fun p=>S p.1 p.2.1 p.2.2
theorem s3 {A1 A2 A3:Type} [i:Nonempty (A1 × A2 × A3)] {S:A1→A2→A3→Prop} (h:S (T1 (k3 i S).1) (T2 (k3 i S).2.1) (T3 (k3 i S).2.2)):∀ x1 x2 x3,S x1 x2 x3:=fun x1 x2 x3=>eq_16 i (S:=fun p=>S p.1 p.2.1 p.2.2) h (x1,x2,x3)
noncomputable def k4 {A1 A2 A3 A4:Type} (i:Nonempty (A1 × A2 × A3 × A4)) (S:A1→A2→A3→A4→Prop):A1 × A2 × A3 × A4:=kx i fun p=>S p.1 p.2.1 p.2.2.1 p.2.2.2
theorem s4 {A1 A2 A3 A4:Type} [i:Nonempty (A1 × A2 × A3 × A4)] {S:A1→A2→A3→A4→Prop} (h:S (T1 (k4 i S).1) (T2 (k4 i S).2.1) (T3 (k4 i S).2.2.1) (T4 (k4 i S).2.2.2)):∀ x1 x2 x3 x4,S x1 x2 x3 x4:=fun x1 x2 x3 x4=>eq_16 i (S:=fun p=>S p.1 p.2.1 p.2.2.1 p.2.2.2) h (x1,x2,x3,x4)
noncomputable def k5 {A1 A2 A3 A4 A5:Type} (i:Nonempty (A1 × A2 × A3 × A4 × A5)) (S:A1→A2→A3→A4→A5→Prop):A1 × A2 × A3 × A4 × A5:=kx i fun p=>S p.1 p.2.1 p.2.2.1 p.2.2.2.1 p.2.2.2.2
theorem s5 {A1 A2 A3 A4 A5:Type} [i:Nonempty (A1 × A2 × A3 × A4 × A5)] {S:A1→A2→A3→A4→A5→Prop} (h:S (T1 (k5 i S).1) (T2 (k5 i S).2.1) (T3 (k5 i S).2.2.1) (T4 (k5 i S).2.2.2.1) (T5 (k5 i S).2.2.2.2)):∀ x1 x2 x3 x4 x5,S x1 x2 x3 x4 x5:=fun x1 x2 x3 x4 x5=>eq_16 i (S:=fun p=>S p.1 p.2.1 p.2.2.1 p.2.2.2.1 p.2.2.2.2) h (x1,x2,x3,x4,x5)
noncomputable def k6 {A1 A2 A3 A4 A5 A6:Type} (i:Nonempty (A1 × A2 × A3 × A4 × A5 × A6)) (S:A1→A2→A3→A4→A5→A6→Prop):A1 × A2 × A3 × A4 × A5 × A6:=kx i fun p=>S p.1 p.2.1 p.2.2.1 p.2.2.2.1 p.2.2.2.2.1 p.2.2.2.2.2
theorem s6 {A1 A2 A3 A4 A5 A6:Type} [i:Nonempty (A1 × A2 × A3 × A4 × A5 × A6)] {S:A1→A2→A3→A4→A5→A6→Prop} (h:S (T1 (k6 i S).1) (T2 (k6 i S).2.1) (T3 (k6 i S).2.2.1) (T4 (k6 i S).2.2.2.1) (T5 (k6 i S).2.2.2.2.1) (T6 (k6 i S).2.2.2.2.2)):∀ x1 x2 x3 x4 x5 x6,S x1 x2 x3 x4 x5 x6:=fun x1 x2 x3 x4 x5 x6=>eq_16 i (S:=fun p=>S p.1 p.2.1 p.2.2.1 p.2.2.2.1 p.2.2.2.2.1 p.2.2.2.2.2) h (x1,x2,x3,x4,x5,x6)
noncomputable def k7 {A1 A2 A3 A4 A5 A6 A7:Type} (i:Nonempty (A1 × A2 × A3 × A4 × A5 × A6 × A7)) (S:A1→A2→A3→A4→A5→A6→A7→Prop):A1 × A2 × A3 × A4 × A5 × A6 × A7:=kx i fun p=>S p.1 p.2.1 p.2.2.1 p.2.2.2.1 p.2.2.2.2.1 p.2.2.2.2.2.1 p.2.2.2.2.2.2
theorem s7 {A1 A2 A3 A4 A5 A6 A7:Type} [i:Nonempty (A1 × A2 × A3 × A4 × A5 × A6 × A7)] {S:A1→A2→A3→A4→A5→A6→A7→Prop} (h:S (T1 (k7 i S).1) (T2 (k7 i S).2.1) (T3 (k7 i S).2.2.1) (T4 (k7 i S).2.2.2.1) (T5 (k7 i S).2.2.2.2.1) (T6 (k7 i S).2.2.2.2.2.1) (T7 (k7 i S).2.2.2.2.2.2)):∀ x1 x2 x3 x4 x5 x6 x7,S x1 x2 x3 x4 x5 x6 x7:=fun x1 x2 x3 x4 x5 x6 x7=>eq_16 i (S:=fun p=>S p.1 p.2.1 p.2.2.1 p.2.2.2.1 p.2.2.2.2.1 p.2.2.2.2.2.1 p.2.2.2.2.2.2) h (x1,x2,x3,x4,x5,x6,x7)
noncomputable def k8 {A1 A2 A3 A4 A5 A6 A7 A8:Type} (i:Nonempty (A1 × A2 × A3 × A4 × A5 × A6 × A7 × A8)) (S:A1→A2→A3→A4→A5→A6→A7→A8→Prop):A1 × A2 × A3 × A4 × A5 × A6 × A7 × A8:=kx i fun p=>S p.1 p.2.1 p.2.2.1 p.2.2.2.1 p.2.2.2.2.1 p.2.2.2.2.2.1 p.2.2.2.2.2.2.1 p.2.2.2.2.2.2.2
theorem s8 {A1 A2 A3 A4 A5 A6 A7 A8:Type} [i:Nonempty (A1 × A2 × A3 × A4 × A5 × A6 × A7 × A8)] {S:A1→A2→A3→A4→A5→A6→A7→A8→Prop} (h:S (T1 (k8 i S).1) (T2 (k8 i S).2.1) (T3 (k8 i S).2.2.1) (T4 (k8 i S).2.2.2.1) (T5 (k8 i S).2.2.2.2.1) (T6 (k8 i S).2.2.2.2.2.1) (T7 (k8 i S).2.2.2.2.2.2.1) (T8 (k8 i S).2.2.2.2.2.2.2)):∀ x1 x2 x3 x4 x5 x6 x7 x8,S x1 x2 x3 x4 x5 x6 x7 x8:=fun x1 x2 x3 x4 x5 x6 x7 x8=>eq_16 i (S:=fun p=>S p.1 p.2.1 p.2.2.1 p.2.2.2.1 p.2.2.2.2.1 p.2.2.2.2.2.1 p.2.2.2.2.2.2.1 p.2.2.2.2.2.2.2) h (x1,x2,x3,x4,x5,x6,x7,x8)
noncomputable def k9 {A1 A2 A3 A4 A5 A6 A7 A8 A9:Type} (i:Nonempty (A1 × A2 × A3 × A4 × A5 × A6 × A7 × A8 × A9)) (S:A1→A2→A3→A4→A5→A6→A7→A8→A9→Prop):A1 × A2 × A3 × A4 × A5 × A6 × A7 × A8 × A9:=kx i fun p=>S p.1 p.2.1 p.2.2.1 p.2.2.2.1 p.2.2.2.2.1 p.2.2.2.2.2.1 p.2.2.2.2.2.2.1 p.2.2.2.2.2.2.2.1 p.2.2.2.2.2.2.2.2
theorem s9 {A1 A2 A3 A4 A5 A6 A7 A8 A9:Type} [i:Nonempty (A1 × A2 × A3 × A4 × A5 × A6 × A7 × A8 × A9)] {S:A1→A2→A3→A4→A5→A6→A7→A8→A9→Prop} (h:S (T1 (k9 i S).1) (T2 (k9 i S).2.1) (T3 (k9 i S).2.2.1) (T4 (k9 i S).2.2.2.1) (T5 (k9 i S).2.2.2.2.1) (T6 (k9 i S).2.2.2.2.2.1) (T7 (k9 i S).2.2.2.2.2.2.1) (T8 (k9 i S).2.2.2.2.2.2.2.1) (T9 (k9 i S).2.2.2.2.2.2.2.2)):∀ x1 x2 x3 x4 x5 x6 x7 x8 x9,S x1 x2 x3 x4 x5 x6 x7 x8 x9:=fun x1 x2 x3 x4 x5 x6 x7 x8 x9=>eq_16 i (S:=fun p=>S p.1 p.2.1 p.2.2.1 p.2.2.2.1 p.2.2.2.2.1 p.2.2.2.2.2.1 p.2.2.2.2.2.2.1 p.2.2.2.2.2.2.2.1 p.2.2.2.2.2.2.2.2) h (x1,x2,x3,x4,x5,x6,x7,x8,x9)
noncomputable def k10 {A1 A2 A3 A4 A5 A6 A7 A8 A9 A10:Type} (i:Nonempty (A1 × A2 × A3 × A4 × A5 × A6 × A7 × A8 × A9 × A10)) (S:A1→A2→A3→A4→A5→A6→A7→A8→A9→A10→Prop):A1 × A2 × A3 × A4 × A5 × A6 × A7 × A8 × A9 × A10:=kx i fun p=>S p.1 p.2.1 p.2.2.1 p.2.2.2.1 p.2.2.2.2.1 p.2.2.2.2.2.1 p.2.2.2.2.2.2.1 p.2.2.2.2.2.2.2.1 p.2.2.2.2.2.2.2.2.1 p.2.2.2.2.2.2.2.2.2
theorem eq_17 {A1 A2 A3 A4 A5 A6 A7 A8 A9 A10:Type} [i:Nonempty (A1 × A2 × A3 × A4 × A5 × A6 × A7 × A8 × A9 × A10)] {S:A1→A2→A3→A4→A5→A6→A7→A8→A9→A10→Prop} (h:S (T1 (k10 i S).1) (T2 (k10 i S).2.1) (T3 (k10 i S).2.2.1) (T4 (k10 i S).2.2.2.1) (T5 (k10 i S).2.2.2.2.1) (T6 (k10 i S).2.2.2.2.2.1) (T7 (k10 i S).2.2.2.2.2.2.1) (T8 (k10 i S).2.2.2.2.2.2.2.1) (T9 (k10 i S).2.2.2.2.2.2.2.2.1) (T10 (k10 i S).2.2.2.2.2.2.2.2.2)):∀ x1 x2 x3 x4 x5 x6 x7 x8 x9 x10,S x1 x2 x3 x4 x5 x6 x7 x8 x9 x10:=fun x1 x2 x3 x4 x5 x6 x7 x8 x9 x10=>eq_16 i (S:=fun p=>S p.1 p.2.1 p.2.2.1 p.2.2.2.1 p.2.2.2.2.1 p.2.2.2.2.2.1 p.2.2.2.2.2.2.1 p.2.2.2.2.2.2.2.1 p.2.2.2.2.2.2.2.2.1 p.2.2.2.2.2.2.2.2.2) h (x1,x2,x3,x4,x5,x6,x7,x8,x9,x10)
noncomputable def k11 {A1 A2 A3 A4 A5 A6 A7 A8 A9 A10 A11:Type} (i:Nonempty (A1 × A2 × A3 × A4 × A5 × A6 × A7 × A8 × A9 × A10 × A11)) (S:A1→A2→A3→A4→A5→A6→A7→A8→A9→A10→A11→Prop):A1 × A2 × A3 × A4 × A5 × A6 × A7 × A8 × A9 × A10 × A11:=kx i fun p=>S p.1 p.2.1 p.2.2.1 p.2.2.2.1 p.2.2.2.2.1 p.2.2.2.2.2.1 p.2.2.2.2.2.2.1 p.2.2.2.2.2.2.2.1 p.2.2.2.2.2.2.2.2.1 p.2.2.2.2.2.2.2.2.2.1 p.2.2.2.2.2.2.2.2.2.2
theorem s11 {A1 A2 A3 A4 A5 A6 A7 A8 A9 A10 A11:Type} [i:Nonempty (A1 × A2 × A3 × A4 × A5 × A6 × A7 × A8 × A9 × A10 × A11)] {S:A1→A2→A3→A4→A5→A6→A7→A8→A9→A10→A11→Prop} (h:S (T1 (k11 i S).1) (T2 (k11 i S).2.1) (T3 (k11 i S).2.2.1) (T4 (k11 i S).2.2.2.1) (T5 (k11 i S).2.2.2.2.1) (T6 (k11 i S).2.2.2.2.2.1) (T7 (k11 i S).2.2.2.2.2.2.1) (T8 (k11 i S).2.2.2.2.2.2.2.1) (T9 (k11 i S).2.2.2.2.2.2.2.2.1) (T10 (k11 i S).2.2.2.2.2.2.2.2.2.1) (T11 (k11 i S).2.2.2.2.2.2.2.2.2.2)):∀ x1 x2 x3 x4 x5 x6 x7 x8 x9 x10 x11,S x1 x2 x3 x4 x5 x6 x7 x8 x9 x10 x11:=fun x1 x2 x3 x4 x5 x6 x7 x8 x9 x10 x11=>eq_16 i (S:=fun p=>S p.1 p.2.1 p.2.2.1 p.2.2.2.1 p.2.2.2.2.1 p.2.2.2.2.2.1 p.2.2.2.2.2.2.1 p.2.2.2.2.2.2.2.1 p.2.2.2.2.2.2.2.2.1 p.2.2.2.2.2.2.2.2.2.1 p.2.2.2.2.2.2.2.2.2.2) h (x1,x2,x3,x4,x5,x6,x7,x8,x9,x10,x11)
noncomputable def k12 {A1 A2 A3 A4 A5 A6 A7 A8 A9 A10 A11 A12:Type} (i:Nonempty (A1 × A2 × A3 × A4 × A5 × A6 × A7 × A8 × A9 × A10 × A11 × A12)) (S:A1→A2→A3→A4→A5→A6→A7→A8→A9→A10→A11→A12→Prop):A1 × A2 × A3 × A4 × A5 × A6 × A7 × A8 × A9 × A10 × A11 × A12:=kx i fun p=>S p.1 p.2.1 p.2.2.1 p.2.2.2.1 p.2.2.2.2.1 p.2.2.2.2.2.1 p.2.2.2.2.2.2.1 p.2.2.2.2.2.2.2.1 p.2.2.2.2.2.2.2.2.1 p.2.2.2.2.2.2.2.2.2.1 p.2.2.2.2.2.2.2.2.2.2.1 p.2.2.2.2.2.2.2.2.2.2.2
theorem s12 {A1 A2 A3 A4 A5 A6 A7 A8 A9 A10 A11 A12:Type} [i:Nonempty (A1 × A2 × A3 × A4 × A5 × A6 × A7 × A8 × A9 × A10 × A11 × A12)] {S:A1→A2→A3→A4→A5→A6→A7→A8→A9→A10→A11→A12→Prop} (h:S (T1 (k12 i S).1) (T2 (k12 i S).2.1) (T3 (k12 i S).2.2.1) (T4 (k12 i S).2.2.2.1) (T5 (k12 i S).2.2.2.2.1) (T6 (k12 i S).2.2.2.2.2.1) (T7 (k12 i S).2.2.2.2.2.2.1) (T8 (k12 i S).2.2.2.2.2.2.2.1) (T9 (k12 i S).2.2.2.2.2.2.2.2.1) (T10 (k12 i S).2.2.2.2.2.2.2.2.2.1) (T11 (k12 i S).2.2.2.2.2.2.2.2.2.2.1) (T12 (k12 i S).2.2.2.2.2.2.2.2.2.2.2)):∀ x1 x2 x3 x4 x5 x6 x7 x8 x9 x10 x11 x12,S x1 x2 x3 x4 x5 x6 x7 x8 x9 x10 x11 x12:=fun x1 x2 x3 x4 x5 x6 x7 x8 x9 x10 x11 x12=>eq_16 i (S:=fun p=>S p.1 p.2.1 p.2.2.1 p.2.2.2.1 p.2.2.2.2.1 p.2.2.2.2.2.1 p.2.2.2.2.2.2.1 p.2.2.2.2.2.2.2.1 p.2.2.2.2.2.2.2.2.1 p.2.2.2.2.2.2.2.2.2.1 p.2.2.2.2.2.2.2.2.2.2.1 p.2.2.2.2.2.2.2.2.2.2.2) h (x1,x2,x3,x4,x5,x6,x7,x8,x9,x10,x11,x12)
theorem Ex1 {A1:Type} {P:A1→Prop} {G:Prop} (h:∃ x1,P x1) (k:∀ x1,P x1→G):G:=h.elim fun x1 h=>k x1 h
theorem Ex2 {A1 A2:Type} {P:A1→A2→Prop} {G:Prop} (h:∃ x1 x2,P x1 x2) (k:∀ x1 x2,P x1 x2→G):G:=h.elim fun x1 h=>Ex1 h (k x1)
theorem Ex3 {A1 A2 A3:Type} {P:A1→A2→A3→Prop} {G:Prop} (h:∃ x1 x2 x3,P x1 x2 x3) (k:∀ x1 x2 x3,P x1 x2 x3→G):G:=h.elim fun x1 h=>Ex2 h (k x1)
theorem Ex4 {A1 A2 A3 A4:Type} {P:A1→A2→A3→A4→Prop} {G:Prop} (h:∃ x1 x2 x3 x4,P x1 x2 x3 x4) (k:∀ x1 x2 x3 x4,P x1 x2 x3 x4→G):G:=h.elim fun x1 h=>Ex3 h (k x1)
theorem Ex5 {A1 A2 A3 A4 A5:Type} {P:A1→A2→A3→A4→A5→Prop} {G:Prop} (h:∃ x1 x2 x3 x4 x5,P x1 x2 x3 x4 x5) (k:∀ x1 x2 x3 x4 x5,P x1 x2 x3 x4 x5→G):G:=h.elim fun x1 h=>Ex4 h (k x1)
theorem eq_18 {A1 A2 A3 A4 A5 A6:Type} {P:A1→A2→A3→A4→A5→A6→Prop} {G:Prop} (h:∃ x1 x2 x3 x4 x5 x6,P x1 x2 x3 x4 x5 x6) (k:∀ x1 x2 x3 x4 x5 x6,P x1 x2 x3 x4 x5 x6→G):G:=h.elim fun x1 h=>Ex5 h (k x1)
theorem eq_19 {A1 A2 A3 A4 A5 A6 A7:Type} {P:A1→A2→A3→A4→A5→A6→A7→Prop} {G:Prop} (h:∃ x1 x2 x3 x4 x5 x6 x7,P x1 x2 x3 x4 x5 x6 x7) (k:∀ x1 x2 x3 x4 x5 x6 x7,P x1 x2 x3 x4 x5 x6 x7→G):G:=h.elim fun x1 h=>eq_18 h (k x1)
theorem Ex8 {A1 A2 A3 A4 A5 A6 A7 A8:Type} {P:A1→A2→A3→A4→A5→A6→A7→A8→Prop} {G:Prop} (h:∃ x1 x2 x3 x4 x5 x6 x7 x8,P x1 x2 x3 x4 x5 x6 x7 x8) (k:∀ x1 x2 x3 x4 x5 x6 x7 x8,P x1 x2 x3 x4 x5 x6 x7 x8→G):G:=h.elim fun x1 h=>eq_19 h (k x1)
theorem An2 {A1 A2 G:Prop} (h:A1∧A2) (k:A1→A2→G):G:=k h.1 h.2
theorem An3 {A1 A2 A3 G:Prop} (h:A1∧A2∧A3) (k:A1→A2→A3→G):G:=An2 h.2 (k h.1)
theorem An4 {A1 A2 A3 A4 G:Prop} (h:A1∧A2∧A3∧A4) (k:A1→A2→A3→A4→G):G:=An3 h.2 (k h.1)
theorem An5 {A1 A2 A3 A4 A5 G:Prop} (h:A1∧A2∧A3∧A4∧A5) (k:A1→A2→A3→A4→A5→G):G:=An4 h.2 (k h.1)
theorem An6 {A1 A2 A3 A4 A5 A6 G:Prop} (h:A1∧A2∧A3∧A4∧A5∧A6) (k:A1→A2→A3→A4→A5→A6→G):G:=An5 h.2 (k h.1)
theorem eq_20 {A1 A2 A3 A4 A5 A6 A7 G:Prop} (h:A1∧A2∧A3∧A4∧A5∧A6∧A7) (k:A1→A2→A3→A4→A5→A6→A7→G):G:=An6 h.2 (k h.1)
theorem eq_21 {A1 A2 A3 A4 A5 A6 A7 A8 G:Prop} (h:A1∧A2∧A3∧A4∧A5∧A6∧A7∧A8) (k:A1→A2→A3→A4→A5→A6→A7→A8→G):G:=eq_20 h.2 (k h.1)
theorem An9 {A1 A2 A3 A4 A5 A6 A7 A8 A9 G:Prop} (h:A1∧A2∧A3∧A4∧A5∧A6∧A7∧A8∧A9) (k:A1→A2→A3→A4→A5→A6→A7→A8→A9→G):G:=eq_21 h.2 (k h.1)
theorem eq_22 {A1 A2 A3 A4 A5 A6 A7 A8 A9 A10 G:Prop} (h:A1∧A2∧A3∧A4∧A5∧A6∧A7∧A8∧A9∧A10) (k:A1→A2→A3→A4→A5→A6→A7→A8→A9→A10→G):G:=An9 h.2 (k h.1)
theorem eq_23 {A1 A2 A3 A4 A5 A6 A7 A8 A9 A10 A11 G:Prop} (h:A1∧A2∧A3∧A4∧A5∧A6∧A7∧A8∧A9∧A10∧A11) (k:A1→A2→A3→A4→A5→A6→A7→A8→A9→A10→A11→G):G:=eq_22 h.2 (k h.1)
theorem eq_24 {A1 A2 A3 A4 A5 A6 A7 A8 A9 A10 A11 A12 G:Prop} (h:A1∧A2∧A3∧A4∧A5∧A6∧A7∧A8∧A9∧A10∧A11∧A12) (k:A1→A2→A3→A4→A5→A6→A7→A8→A9→A10→A11→A12→G):G:=eq_23 h.2 (k h.1)
theorem X12 {A1:Type} {P1 P2:A1→Prop} {G:Prop} (h:∃ x1,P1 x1∧P2 x1) (k:∀ x1,P1 x1→P2 x1→G):G:=Ex1 h fun x1 h=>An2 h (k x1)
theorem X13 {A1:Type} {P1 P2 P3:A1→Prop} {G:Prop} (h:∃ x1,P1 x1∧P2 x1∧P3 x1) (k:∀ x1,P1 x1→P2 x1→P3 x1→G):G:=Ex1 h fun x1 h=>An3 h (k x1)
theorem X14 {A1:Type} {P1 P2 P3 P4:A1→Prop} {G:Prop} (h:∃ x1,P1 x1∧P2 x1∧P3 x1∧P4 x1) (k:∀ x1,P1 x1→P2 x1→P3 x1→P4 x1→G):G:=Ex1 h fun x1 h=>An4 h (k x1)
theorem eq_25 {A1:Type} {P1 P2 P3 P4 P5:A1→Prop} {G:Prop} (h:∃ x1,P1 x1∧P2 x1∧P3 x1∧P4 x1∧P5 x1) (k:∀ x1,P1 x1→P2 x1→P3 x1→P4 x1→P5 x1→G):G:=Ex1 h fun x1 h=>An5 h (k x1)
theorem X22 {A1 A2:Type} {P1 P2:A1→A2→Prop} {G:Prop} (h:∃ x1 x2,P1 x1 x2∧P2 x1 x2) (k:∀ x1 x2,P1 x1 x2→P2 x1 x2→G):G:=Ex2 h fun x1 x2 h=>An2 h (k x1 x2)
theorem X23 {A1 A2:Type} {P1 P2 P3:A1→A2→Prop} {G:Prop} (h:∃ x1 x2,P1 x1 x2∧P2 x1 x2∧P3 x1 x2) (k:∀ x1 x2,P1 x1 x2→P2 x1 x2→P3 x1 x2→G):G:=Ex2 h fun x1 x2 h=>An3 h (k x1 x2)
theorem X24 {A1 A2:Type} {P1 P2 P3 P4:A1→A2→Prop} {G:Prop} (h:∃ x1 x2,P1 x1 x2∧P2 x1 x2∧P3 x1 x2∧P4 x1 x2) (k:∀ x1 x2,P1 x1 x2→P2 x1 x2→P3 x1 x2→P4 x1 x2→G):G:=Ex2 h fun x1 x2 h=>An4 h (k x1 x2)
theorem X32 {A1 A2 A3:Type} {P1 P2:A1→A2→A3→Prop} {G:Prop} (h:∃ x1 x2 x3,P1 x1 x2 x3∧P2 x1 x2 x3) (k:∀ x1 x2 x3,P1 x1 x2 x3→P2 x1 x2 x3→G):G:=Ex3 h fun x1 x2 x3 h=>An2 h (k x1 x2 x3)
theorem X33 {A1 A2 A3:Type} {P1 P2 P3:A1→A2→A3→Prop} {G:Prop} (h:∃ x1 x2 x3,P1 x1 x2 x3∧P2 x1 x2 x3∧P3 x1 x2 x3) (k:∀ x1 x2 x3,P1 x1 x2 x3→P2 x1 x2 x3→P3 x1 x2 x3→G):G:=Ex3 h fun x1 x2 x3 h=>An3 h (k x1 x2 x3)
theorem X34 {A1 A2 A3:Type} {P1 P2 P3 P4:A1→A2→A3→Prop} {G:Prop} (h:∃ x1 x2 x3,P1 x1 x2 x3∧P2 x1 x2 x3∧P3 x1 x2 x3∧P4 x1 x2 x3) (k:∀ x1 x2 x3,P1 x1 x2 x3→P2 x1 x2 x3→P3 x1 x2 x3→P4 x1 x2 x3→G):G:=Ex3 h fun x1 x2 x3 h=>An4 h (k x1 x2 x3)
theorem X36 {A1 A2 A3:Type} {P1 P2 P3 P4 P5 P6:A1→A2→A3→Prop} {G:Prop} (h:∃ x1 x2 x3,P1 x1 x2 x3∧P2 x1 x2 x3∧P3 x1 x2 x3∧P4 x1 x2 x3∧P5 x1 x2 x3∧P6 x1 x2 x3) (k:∀ x1 x2 x3,P1 x1 x2 x3→P2 x1 x2 x3→P3 x1 x2 x3→P4 x1 x2 x3→P5 x1 x2 x3→P6 x1 x2 x3→G):G:=Ex3 h fun x1 x2 x3 h=>An6 h (k x1 x2 x3)
theorem EI2 {A1 A2:Type} {P:A1→A2→Prop} (x1:A1) (x2:A2) (h:P x1 x2):∃ x1 x2,P x1 x2:=⟨x1,x2,h⟩
theorem EI3 {A1 A2 A3:Type} {P:A1→A2→A3→Prop} (x1:A1) (x2:A2) (x3:A3) (h:P x1 x2 x3):∃ x1 x2 x3,P x1 x2 x3:=⟨x1,x2,x3,h⟩
theorem EI4 {A1 A2 A3 A4:Type} {P:A1→A2→A3→A4→Prop} (x1:A1) (x2:A2) (x3:A3) (x4:A4) (h:P x1 x2 x3 x4):∃ x1 x2 x3 x4,P x1 x2 x3 x4:=⟨x1,x2,x3,x4,h⟩
theorem EI5 {A1 A2 A3 A4 A5:Type} {P:A1→A2→A3→A4→A5→Prop} (x1:A1) (x2:A2) (x3:A3) (x4:A4) (x5:A5) (h:P x1 x2 x3 x4 x5):∃ x1 x2 x3 x4 x5,P x1 x2 x3 x4 x5:=⟨x1,x2,x3,x4,x5,h⟩
theorem eq_26 {A1 A2 A3 A4 A5 A6:Type} {P:A1→A2→A3→A4→A5→A6→Prop} (x1:A1) (x2:A2) (x3:A3) (x4:A4) (x5:A5) (x6:A6) (h:P x1 x2 x3 x4 x5 x6):∃ x1 x2 x3 x4 x5 x6,P x1 x2 x3 x4 x5 x6:=⟨x1,x2,x3,x4,x5,x6,h⟩
theorem eq_27 {A1 A2 A3 A4 A5 A6 A7:Type} {P:A1→A2→A3→A4→A5→A6→A7→Prop} (x1:A1) (x2:A2) (x3:A3) (x4:A4) (x5:A5) (x6:A6) (x7:A7) (h:P x1 x2 x3 x4 x5 x6 x7):∃ x1 x2 x3 x4 x5 x6 x7,P x1 x2 x3 x4 x5 x6 x7:=⟨x1,x2,x3,x4,x5,x6,x7,h⟩
theorem eq_28 {A1 A2 A3 A4 A5 A6 A7 A8:Type} {P:A1→A2→A3→A4→A5→A6→A7→A8→Prop} (x1:A1) (x2:A2) (x3:A3) (x4:A4) (x5:A5) (x6:A6) (x7:A7) (x8:A8) (h:P x1 x2 x3 x4 x5 x6 x7 x8):∃ x1 x2 x3 x4 x5 x6 x7 x8,P x1 x2 x3 x4 x5 x6 x7 x8:=⟨x1,x2,x3,x4,x5,x6,x7,x8,h⟩
local macro_rules | `(tactic| rw [$r,$rs,*])=>`(tactic| (rewrite [$r]; rw [$rs,*]))
local macro_rules | `(tactic| rewrite [$t:term])=>`(tactic| first | with_reducible_and_instances refine rr ($t ..) ?_ | rewrite [$t:term] at ⊢)
local macro_rules | `(tactic| rewrite [← $t:term])=>`(tactic| first | with_reducible_and_instances refine rl ($t ..) ?_ | rewrite [← $t:term] at ⊢)
local macro_rules | `(tactic| lia)=>`(tactic| first | (with_reducible_and_instances refine lt_of_not_le fun z=>?_; lia -abstractProof) | (with_reducible_and_instances refine lnl fun z=>?_; lia -abstractProof) | lia -abstractProof)
local macro_rules | `(tactic| exists $x1:ident)=>`(tactic| (revert $x1; apply s1; generalize T1 _ = $x1))
noncomputable def dirtyId (id:String):Bool:=Builtin.Bytes.decodersThatHold.contains id || ["bytearray.__contains__","bytearray.__mod__","bytearray.__rmod__","_struct.pack_into.held","bytearray.find.held"].contains id
noncomputable def dirty:Code→Bool
 | .builtin id _=>dirtyId id
 | _=>false
noncomputable def Cl (l:List (Code × Pos)):Prop:=∀ x∈l,dirty x.1=false
noncomputable def Good (A:Around) (Γ:Ctx):Prop:=Γ.In A∧dirty Γ.code=false∧Cl Γ.below
noncomputable def GoodB (A:Around) (Γ:Ctx):Prop:=Γ.Below A∧Cl Γ.below
noncomputable def wpAny {α:Type} (M:Model) (A:Around) (t:Sem α) (Q:α→Shared→Prop) (E:Value→Shared→Prop) (s:Shared):Prop :=
 ∀ Γ p,Good A Γ→Sem.wp M Γ t (fun a _ s'=>Q a s') (fun e _ s'=>E e s') p s
noncomputable def codeAny (M:Model) (A:Around) (c:Code) (R:Result→Shared→Prop) (s:Shared):Prop :=
 ∀ Γ p,Γ.code=c→GoodB A Γ→wpCode M Γ R p s
section
variable {α β:Type} {M:Model} {A:Around} {E:Value→Shared→Prop} {s:Shared} {env:Env}
theorem Y2 {P:Prop} (h:∀ G:Prop,(P→G)→G):P:=h P id
theorem of {t:Sem α} {Q:α→Shared→Prop} (h:PySem.wpAny M A t Q E s):wpAny M A t Q E s:=fun Γ p hΓ=>h Γ p hΓ.1
theorem kit {t:Sem α} {Q:α→Shared→Prop} (h:PySem.wpAny M A t Q E s):wpAny M A t Q E s:=fun Γ p hΓ=>h Γ p hΓ.1
theorem Good.enter {Γ:Ctx} (h:Good A Γ) (c:Code) (hd:Option Value) (p:Pos) (hnb:hd≠some byPass):GoodB (A.mark hd) (Γ.enter c hd p) :=
 ⟨h.1.enter c hd p hnb,fun x hx=>by
  rcases List.mem_cons.mp hx with rfl | hx
  ·exact h.2.1
  ·exact h.2.2 x hx⟩
theorem GoodB.in {Γ:Ctx} (h:GoodB A Γ) (hd:dirty Γ.code=false):Good (A.under Γ.code) Γ:=⟨h.1.in,hd,h.2⟩
theorem wpAny_pure {a:α} {Q:α→Shared→Prop} (h:Q a s):wpAny M A (pure a) Q E s:=of (PySem.wpAny_pure h)
theorem wpAny_mono {t:Sem α} {Q Q':α→Shared→Prop} {E':Value→Shared→Prop} (h:wpAny M A t Q E s) (hQ:∀ a s,Q a s→Q' a s) (hE:∀ e s,E e s→E' e s):wpAny M A t Q' E' s :=
 fun Γ p hΓ=>Sem.wp_mono M Γ t (fun a _ s=>hQ a s) (fun e _ s=>hE e s) p s (h Γ p hΓ)
theorem Y3 {t:Sem α} {Q Q':α→Shared→Prop} (h:wpAny M A t Q E s) (hQ:∀ a s,Q a s→Q' a s):wpAny M A t Q' E s:=wpAny_mono h hQ fun _ _ q=>q
theorem Y4 {m:Sem α} {f:α→Sem β} {Q:β→Shared→Prop} (h:wpAny M A m (fun a s'=>wpAny M A (f a) Q E s') E s):wpAny M A (m >>= f) Q E s:=fun Γ p hΓ=>by
 rw [Sem.wp_bind']
 exact Sem.wp_mono M Γ m (fun a p' s' h'=>h' Γ p' hΓ) (fun _ _ _ h'=>h') p s (h Γ p hΓ)
theorem eq_29 {m:Sem α} {k:Value→Sem Unit} {Q:α→Shared→Prop} (h:wpAny M A m Q (fun e s'=>wpAny M A (k e) (fun _ s''=>E e s'') E s') s):wpAny M A (m.onRaise k) Q E s:=fun Γ p hΓ=>by
 rw [Sem.wp_onRaise]
 exact Sem.wp_mono M Γ m (fun _ _ _ h'=>h') (fun e p' s' h'=>h' Γ p' hΓ) p s (h Γ p hΓ)
theorem Y5 {m:Sem α} {Q:Except Value α→Shared→Prop} (h:wpAny M A m (fun a=>Q (.ok a)) (fun e=>Q (.error e)) s):wpAny M A m.attempt Q E s:=fun Γ p hΓ=>by
 rw [Sem.wp_attempt]; exact h Γ p hΓ
theorem Y6 {vs:List Value} {m:Sem α} {Q:α→Shared→Prop} (h:wpAny M A m Q E s):wpAny M A (holding vs m) Q E s:=fun Γ p hΓ=>by
 rw [Sem.wp_holding]; exact h Γ p hΓ
theorem eq_30 {vs:List Value} {m:Sem α} {Q:α→Shared→Prop} (h:wpAny M A m Q E s):wpAny M A (m.keep vs) Q E s:=fun Γ p hΓ=>by
 rw [Sem.wp_keep]; exact h Γ p hΓ
theorem eq_31 {vs:List Value} {m:Sem Value} {Q:Value→Shared→Prop} (h:wpAny M A m Q E s):wpAny M A (operate vs m) Q E s:=fun Γ p hΓ=>by
 rw [Sem.wp_operate]; exact h Γ p hΓ
theorem Y7 {pos:Pos} {Q:Unit→Shared→Prop} (h:Q () s):wpAny M A (standAt pos) Q E s:=of (PySem.wpAny_standAt h)
theorem seq {m:Sem α} {f:α→Sem β} {Q:β→Shared→Prop} {P:α→Shared→Prop} (h:wpAny M A m P E s) (k:∀ a s',P a s'→wpAny M A (f a) Q E s'):wpAny M A (m >>= f) Q E s :=
 Y4 (Y3 h k)
theorem eq_32 {c:Code} {h:Option Value} {Q:Flow→Shared→Prop} (hc:codeAny M (A.mark h) c (fun r s'=>match r with | .ok f=>Q f s' | .error e=>E e s') s) (hnb:h≠some byPass:=by intro x; cases x):wpAny M A (run c h) Q E s :=
 fun Γ p hΓ=>by rw [Sem.wp_run]; exact hc _ p rfl (hΓ.enter c h p hnb)
theorem Y8 {f:Value} {pos:List Value} {kw:List (Str × Value)} {Q:Value→Shared→Prop} (hc:codeAny M A (.call f ⟨pos,kw⟩) (fun r s'=>match r with | .ok (.ret v)=>Q v s' | .ok _=>False | .error e=>E e s') s):wpAny M A (call f pos kw) Q E s :=
 fun Γ p hΓ=>by
  show Sem.wp M Γ (runValue _) _ _ p s
  rw [Sem.wp_runValue]; exact hc _ p rfl (hΓ.enter _ none p (by intro x; cases x))
theorem Y9 {c:Code} {R R':Result→Shared→Prop} (h:codeAny M A c R s) (hR:∀ r s,R r s→R' r s):codeAny M A c R' s:=fun Γ p hc hΓ=>wpCode_mono hR (h Γ p hc hΓ)
theorem Y10 {c:Code} {R:Result→Shared→Prop} (h:wpAny M (A.under c) (M.den c) (fun fin s'=>match fin with | .done f=>R (.ok f) s' | .again c'=>c'.quiet=true∧codeAny M A c' R s') (fun e s'=>R (.error e) s') s) (hd:dirty c=false:=by rfl):codeAny M A c R s:=fun Γ p hc hΓ=>by
 rw [wpCode_iff_wp,hc]
 refine Sem.wp_mono M Γ _ (fun fin p' s' h'=>?_) (fun _ _ _ h'=>h') p s (h Γ p (hc▸hΓ.in (by rw [hc]; exact hd)))
 cases fin with
 | done f=>exact h'
 | again c'=>exact ⟨h'.1,h'.2 (Γ.goto c') p' rfl hΓ⟩
theorem eq_33 {c:Code} {R:Result→Shared→Prop} (hq:c.quiet=true) (I:Nat→Shared→Prop)
  (turn:∀ n s,I n s→wpAny M (A.under c) (M.den c) (fun fin s'=>match fin with | .done f=>R (.ok f) s' | .again c'=>(c'=c∧∃ m,m<n∧I m s')∨(c'.quiet=true∧codeAny M A c' R s')) (fun e s'=>R (.error e) s') s)
  (n:Nat) (h:I n s) (hd:dirty c=false:=by rfl):codeAny M A c R s:=by
 induction n using Nat.strongRecOn generalizing s with
 | ind n ih =>
  refine Y10 (wpAny_mono (turn n s h) (fun fin s' hf=>?_) fun _ _ h'=>h') hd
  cases fin with
  | done f=>exact hf
  | again c' =>
   rcases hf with ⟨rfl,m,hm,hI⟩ | hf
   ·exact ⟨hq,ih m hm hI⟩
   ·exact hf
theorem Y11 {x:Str} {pos:Pos} {Q:Value→Shared→Prop} (h:wpAny M A (loadName env x) Q E s) (hd:(x == ("__debug__" : Str))=false):wpAny M A (eval (.Name x pos) env) Q E s:=by
 rw [eval_Name env x pos hd]; exact Y4 (Y7 h)
theorem Y12 {l r:Expr} {op:Operator} {pos:Pos} {Q:Value→Shared→Prop} (h:wpAny M A (eval l env) (fun a s₁=>wpAny M A (eval r env) (fun b s₂=>wpAny M A (binaryOp op a b) Q E s₂) E s₁) E s):wpAny M A (eval (.BinOp l op r pos) env) Q E s:=by
 rw [eval_BinOp]
 exact seq h fun a s₁ h₁=>Y4 (Y6 (Y3 h₁ (fun b s₂ h₂=>Y4 (Y7 (eq_31 h₂)))))
theorem Y13 {op:UnaryOp} {x:Expr} {pos:Pos} {Q:Value→Shared→Prop} (h:wpAny M A (eval x env) (fun v s₁=>wpAny M A (unaryOp op v) Q E s₁) E s):wpAny M A (eval (.UnaryOp op x pos) env) Q E s:=by
 rw [eval_UnaryOp]
 exact seq h fun v s₁ h₁=>Y4 (Y7 (Y6 h₁))
theorem Y14 {value slice:Expr} {pos:Pos} {Q:Value→Shared→Prop} (h:wpAny M A (eval value env) (fun o s₁=>wpAny M A (eval slice env) (fun i s₂=>wpAny M A (subscriptTail value slice o i) Q E s₂) E s₁) E s):wpAny M A (eval (.Subscript value slice pos) env) Q E s:=by
 rw [eval_Subscript]
 exact seq h fun o s₁ h₁=>Y4 (Y6 (Y3 h₁ (fun i s₂ h₂=>Y4 (Y7 h₂))))
theorem Y15 {lower upper step:Option Expr} {p:Pos} {Q:Value→Shared→Prop}
  (h:wpAny M A (evalPart lower env) (fun l s₁=>wpAny M A (evalPart upper env) (fun u s₂=>wpAny M A (evalPart step env) (fun st s₃=>Q (.ref s₃.heap.objs.size) { s₃ with heap:=s₃.heap.push { cls:=.type "slice",data:=.fields #[l,u,st] } }) E s₂) E s₁) E s) :
  wpAny M A (eval (.Slice lower upper step p) env) Q E s:=by
 rw [arm_eval_Slice]
 exact seq h fun l s₁ h₁=>Y4 (Y6 (wpAny_mono h₁ (fun u s₂ h₂=>Y4 (Y6 (Y3 h₂ (fun st s₃ h₃=>of (wpAny_newObj_type h₃))))) fun _ _ x=>x))
theorem Y16 {Q:Value→Shared→Prop} (h:Q .none s):wpAny M A (evalPart none env) Q E s:=wpAny_pure h
theorem Y17 {e:Expr} {Q:Value→Shared→Prop} (h:wpAny M A (eval e env) Q E s):wpAny M A (evalPart (some e) env) Q E s:=h
theorem Y18 {l r:Expr} {op:CmpOp} {pos:Pos} {Q:Value→Shared→Prop} (h:wpAny M A (eval l env) (fun a s₁=>wpAny M A (eval r env) (fun b s₂=>wpAny M A (compareOp op a b) Q E s₂) E s₁) E s) (hm:behindInMarks op r=false):wpAny M A (eval (.Compare l [op] [r] pos) env) Q E s:=fun Γ p hΓ=>by
 simp only [eval_Compare1,markedBehindIn_of_false hm,Sem.wp_bind',Sem.wp_holding,Sem.wp_cmd_standAt,Sem.wp_operate]
 exact Sem.wp_mono M Γ _ (fun a p₁ s₁ h₁=>Sem.wp_mono M Γ _ (fun b _ s₂ h₂=>h₂ Γ _ hΓ) (fun _ _ _ h'=>h') _ _ (h₁ Γ p₁ hΓ)) (fun _ _ _ h'=>h') _ _ (h Γ p hΓ)
theorem Y19 {l r:Expr} {op:CmpOp} {pos:Pos} {whole:Sem Value} {Q:Bool→Shared→Prop}
  (h:wpAny M A (eval l env) (fun a s₁=>wpAny M A (eval r env) (fun b s₂=>wpAny M A (compareOp op a b) (fun c s₃=>wpAny M A (truthy c) Q E s₃) E s₂) E s₁) E s) (hm:behindInMarks op r=false):wpAny M A (isTrue (.Compare l [op] [r] pos) env whole) Q E s:=fun Γ p hΓ=>by
 simp only [isTrue_Compare1,markedBehindIn_of_false hm,Sem.wp_bind',Sem.wp_holding,Sem.wp_cmd_standAt,Sem.wp_operate]
 exact Sem.wp_mono M Γ _ (fun a p₁ s₁ h₁=>Sem.wp_mono M Γ _ (fun b _ s₂ h₂=>Sem.wp_mono M Γ _ (fun c p₃ s₃ h₃=>h₃ Γ p₃ hΓ) (fun _ _ _ h'=>h') _ _ (h₂ Γ _ hΓ)) (fun _ _ _ h'=>h') _ _ (h₁ Γ p₁ hΓ)) (fun _ _ _ h'=>h') _ _ (h Γ p hΓ)
theorem Y20 {e:Expr} {whole:Sem Value} {Q:Bool→Shared→Prop} (h:wpAny M A whole (fun v s₁=>wpAny M A (truthy v) Q E s₁) E s) (he:isTrue e env whole=(do let v ← whole; standAt e.pos; holding [v] (truthy v))):wpAny M A (isTrue e env whole) Q E s:=by
 rw [he]
 exact seq h fun v s₁ h₁=>Y4 (Y7 (Y6 h₁))
theorem Y21 {b:Bool} {Q:Bool→Shared→Prop} (h:Q b s):wpAny M A (truthy (.bool b)) Q E s:=of (PySem.wpAny_truthy_bool h)
theorem Y22 {x:Expr} {pos:Pos} {whole:Sem Value} {Q:Bool→Shared→Prop} (h:wpAny M A (isTrue x env (eval x env)) (fun c s'=>Q (!c) s') E s):wpAny M A (isTrue (.UnaryOp .Not x pos) env whole) Q E s:=by
 show wpAny M A (do return !(← isTrue x env (eval x env))) Q E s
 exact seq h fun c s' h'=>wpAny_pure h'
theorem Y23 {pos:Pos} {whole:Sem Value} {Q:Bool→Shared→Prop} (h:Q true s):wpAny M A (isTrue (.BoolOp .And [] pos) env whole) Q E s:=wpAny_pure (a:=true) h
theorem Y24 {pos:Pos} {whole:Sem Value} {Q:Bool→Shared→Prop} (h:Q false s):wpAny M A (isTrue (.BoolOp .Or [] pos) env whole) Q E s:=wpAny_pure (a:=false) h
theorem Y25 {x:Expr} {rest:List Expr} {pos:Pos} {whole:Sem Value} {Q:Bool→Shared→Prop} (h:wpAny M A (isTrue x env (eval x env)) (fun c s'=>if c then wpAny M A (isTrue (.BoolOp .And rest pos) env whole) Q E s' else Q false s') E s):wpAny M A (isTrue (.BoolOp .And (x :: rest) pos) env whole) Q E s:=by
 show wpAny M A (do
  match BoolOp.And,← isTrue x env (eval x env) with
  | .And,false=>pure false
  | .Or,true=>pure true
  | _,_=>allTrue .And rest env) Q E s
 refine seq h fun c s' h'=>?_
 cases c with
 | false=>exact wpAny_pure h'
 | true=>exact h'
theorem Y26 {x:Expr} {rest:List Expr} {pos:Pos} {whole:Sem Value} {Q:Bool→Shared→Prop} (h:wpAny M A (isTrue x env (eval x env)) (fun c s'=>if c then Q true s' else wpAny M A (isTrue (.BoolOp .Or rest pos) env whole) Q E s') E s):wpAny M A (isTrue (.BoolOp .Or (x :: rest) pos) env whole) Q E s:=by
 show wpAny M A (do
  match BoolOp.Or,← isTrue x env (eval x env) with
  | .And,false=>pure false
  | .Or,true=>pure true
  | _,_=>allTrue .Or rest env) Q E s
 refine seq h fun c s' h'=>?_
 cases c with
 | false=>exact h'
 | true=>exact wpAny_pure h'
theorem Y27 {test body orelse:Expr} {pos:Pos} {Q:Value→Shared→Prop} (h:wpAny M A (isTrue test env (eval test env)) (fun c s₂=>if c then wpAny M A (eval body env) Q E s₂ else wpAny M A (eval orelse env) Q E s₂) E s):wpAny M A (eval (.IfExp test body orelse pos) env) Q E s:=by
 rw [eval_IfExp]
 refine seq h fun c s₂ h₂=>?_
 cases c <;> exact h₂
theorem Y28 {Q:List Value→Shared→Prop} (h:Q [] s):wpAny M A (spliced []) Q E s:=of (PySem.Calls.spliced_nil h)
theorem Y29 {x:Sem Value} {rest:List (Bool × Sem Value)} {Q:List Value→Shared→Prop} (h:wpAny M A x (fun v s₁=>wpAny M A (spliced rest) (fun vs s₂=>Q (v :: vs) s₂) E s₁) E s):wpAny M A (spliced ((false,x) :: rest)) Q E s:=by
 rw [spliced]
 refine seq h fun v s₁ h₁=>?_
 simp only [false_eq_true,if_false]
 exact Y4 (wpAny_pure (Y4 (Y6 (Y3 h₁ (fun vs s₂ h₂=>wpAny_pure h₂)))))
theorem Y30 {elts:List Expr} {k:Nat} {pos:Pos} {Q:Value→Shared→Prop} (h:wpAny M A (spliced (backTo pos (starEach elts env))) (fun vs s₁=>wpAny M A (newTuple vs) Q E s₁) E s):wpAny M A (eval (.Tuple elts k pos) env) Q E s:=by
 show wpAny M A (do standAt pos; newTuple (← spliced (backTo pos (starEach elts env)))) Q E s
 exact Y4 (Y7 (Y4 h))
theorem Y31 {elts:List Expr} {pos:Pos} {Q:Value→Shared→Prop} (h:wpAny M A (spliced (backTo pos (starEach elts env))) (fun vs s₁=>wpAny M A (newList vs) Q E s₁) E s):wpAny M A (eval (.List elts pos) env) Q E s:=by
 show wpAny M A (do standAt pos; newList (← spliced (backTo pos (starEach elts env)))) Q E s
 exact Y4 (Y7 (Y4 h))
theorem Y32 {f:Value} {x:Sem Value} {rest:List (Bool × Sem Value)} {Q:Args→Shared→Prop} (h:wpAny M A (spliced ((false,x) :: rest)) (fun vs s'=>Q ⟨vs,[]⟩ s') E s):wpAny M A (evalArgs f true ((false,x) :: rest) []) Q E s:=by
 unfold evalArgs
 show wpAny M A (spliced ((false,x) :: rest) >>= _) Q E s
 refine seq h fun vs s' h'=>?_
 exact Y6 (Y4 (wpAny_pure (Y4 (wpAny_pure (wpAny_pure h')))))
theorem Y33 {f:Value} {Q:Args→Shared→Prop} (h:Q ⟨[],[]⟩ s):wpAny M A (evalArgs f true [] []) Q E s:=of (PyProof.Rows.evalArgs_nil3 h)
theorem Y34 {pos:Pos} {f:Value} {first:List Value} {P:Heap→Prop} {args:List (Bool × Sem Value)} {keywords:List (Option Str × Sem Value)} {Q:Value→Shared→Prop} (hplain:(args.any (·.1) || keywords.any (·.1.isNone))=false)
  (hk:∀ h,P h→∃ k,(k=Keeper.frame∨k=Keeper.machine∨k=Keeper.boundFrame)∧Looks M h (keeperOf f) k)
  (h:wpAny M A (evalArgs f true args keywords) (fun a s₁=>P s₁.heap∧wpAny M A (call f (first++a.pos) a.kw) Q E s₁) E s):wpAny M A (callWith pos f first args keywords) Q E s:=by
 unfold callWith
 refine Y4 (Y6 (Y3 h (fun a s₁ h₁=>Y4 (Y7 ?_))))
 refine X12 (hk _ h₁.1) fun k hk' L=>?_
 simp only [hplain]
 refine Y4 (of (L.here ?_))
 have tail:∀ {t:Sem Value},wpAny M A t Q E s₁→wpAny M A (t >>= fun r=>holding [r] point >>= fun _=>pure r) Q E s₁ :=
  fun ht=>seq ht fun r s₂ hr=>Y4 (Y6 (of (wpAny_point (wpAny_pure hr))))
 have marked (mk:Value):wpAny M A (callMarked mk f (first++a.pos) a.kw) Q E s₁:=by
  unfold callMarked
  exact eq_30 h₁.2
 rcases hk' with rfl | rfl | rfl <;> dsimp only <;> first | exact tail h₁.2 | (split <;> first | exact tail h₁.2 | exact tail (marked _))
theorem Y35 {o:Expr} {name:Str} {apos pos:Pos} {args:List Expr} {kws:List Keyword} {pl:Sem Bool} {Q:Value→Shared→Prop}
  (h:wpAny M A (eval o env) (fun ov s₁=>wpAny M A (getMethod ov name pl) (fun fx s₂=>wpAny M A (callWith pos fx.1 fx.2 (backTo pos (starEach args env)) (backToKw pos (keywordEach kws env))) Q E s₂) E s₁) E s)
  (he:eval (.Call (.Attribute o name apos) args kws pos) env=(do
   let ov ← eval o env
   standAt apos.atName
   let (f,first) ← holding [ov] (getMethod ov name pl)
   callWith pos f first (backTo pos (starEach args env)) (backToKw pos (keywordEach kws env)))):wpAny M A (eval (.Call (.Attribute o name apos) args kws pos) env) Q E s:=by
 rw [he]
 exact seq h fun ov s₁ h₁=>Y4 (Y7 (Y4 (Y6 (Y3 h₁ (fun fx s₂ h₂=>h₂)))))
end
section
variable {prog:Program} {w:World} {A:Around} {E:Value→Shared→Prop} {s:Shared} {env:Env} {R:Result→Shared→Prop}
theorem Y36 {value:Expr} {attr:Str} {pos:Pos} {Q:Value→Shared→Prop} (h:wpAny (model prog w) A (eval value env) (fun o s₁=>wpAny (model prog w) A (getAttr o attr true) Q E s₁) E s)
  (he:eval (.Attribute value attr pos) env=(do
   let o ← eval value env
   standAt pos.atName
   let r ← holding [o] (getAttr o attr true)
   letTemporaryGo value o r
   pure r)):wpAny (model prog w) A (eval (.Attribute value attr pos) env) Q E s:=by
 rw [he]
 exact seq h fun o s₁ h₁=>Y4 (Y7 (Y4 (Y6 (Y3 h₁ (fun r s₂ h₂=>Y4 (of (wpAny_letTemporaryGo (wpAny_pure h₂))))))))
theorem wpAny_execs_nil {Q:Flow→Shared→Prop} (h:Q .next s):wpAny (model prog w) A (execs [] env) Q E s:=of (PySem.wpAny_execs_nil h)
theorem Y37 {st:Stmt} {rest:List Stmt} {Q:Flow→Shared→Prop} (h:wpAny (model prog w) A (exec st env) (fun f s'=>match f with | .next=>wpAny (model prog w) A (execs rest env) Q E s' | f=>Q f s') E s):wpAny (model prog w) A (execs (st :: rest) env) Q E s:=by
 rw [execs_cons]
 refine seq h fun f s' h'=>?_
 cases f <;> first | exact h' | exact wpAny_pure h'
theorem Y38 {test:Expr} {body orelse:List Stmt} {pos:Pos} {Q:Flow→Shared→Prop} (h:wpAny (model prog w) A (isTrue test env (eval test env)) (fun b s₂=>if b then wpAny (model prog w) A (execs body env) Q E s₂ else wpAny (model prog w) A (execs orelse env) Q E s₂) E s):wpAny (model prog w) A (exec (.If test body orelse pos) env) Q E s:=by
 rw [exec_If]
 refine Y4 (Y7 (seq h fun b s₂ h₂=>?_))
 cases b <;> exact h₂
theorem Y39 {e:Expr} {pos:Pos} {Q:Flow→Shared→Prop} (h:wpAny (model prog w) A (eval e env) (fun v=>Q (.ret v)) E s):wpAny (model prog w) A (exec (.Return (some e) pos) env) Q E s:=by
 rw [exec_Return_some]
 exact Y4 (Y7 (seq h fun v s₁ h₁=>wpAny_pure h₁))
theorem Y40 {e:Expr} {pos:Pos} {Q:Flow→Shared→Prop} (h:wpAny (model prog w) A (eval e env) (fun _=>Q .next) E s) (hi:interactive env=false) (hs:swapsWith e none pos.line env=pure false):wpAny (model prog w) A (exec (.Expr e pos) env) Q E s:=by
 rw [exec_Expr env e pos hi hs]
 exact Y4 (Y7 (seq h fun v s' h'=>of (wpAny_dropValue h')))
theorem Y41 {x:Str} {pos' pos:Pos} {op:Operator} {value:Expr} {Q:Flow→Shared→Prop}
  (h:wpAny (model prog w) A (loadName env x) (fun old s₁=>wpAny (model prog w) A (eval value env) (fun v s₂=>wpAny (model prog w) A (inplaceOp op old v) (fun r s₃=>wpAny (model prog w) A (storeName env x r) (fun _=>Q .next) E s₃) E s₂) E s₁) E s) :
  wpAny (model prog w) A (exec (.AugAssign (.Name x pos') op value pos) env) Q E s:=by
 rw [exec_AugAssign_Name]
 refine Y4 (Y7 (seq h fun old s₁ h₁=>Y4 (Y6 (Y3 h₁ (fun v s₂ h₂=>?_)))))
 refine Y4 (Y7 (Y4 (eq_31 (Y3 h₂ (fun r s₃ h₃=>Y4 (Y7 (Y4 ?_)))))))
 intro Γ p hΓ
 simp only [Sem.wp_bindName]
 refine Sem.wp_mono (model prog w) Γ _ ?_ ?_ p s₃ (h₃ Γ p hΓ)
 ·intro a p₁ s₄ h₄
  exact wpAny_pure h₄
 ·intro e p₁ s₄ h₄
  exact h₄
theorem Y42 {o value:Expr} {attr:Str} {tpos pos:Pos} {op:Operator} {Q:Flow→Shared→Prop}
  (h:wpAny (model prog w) A (eval o env) (fun ov s₁=>wpAny (model prog w) A (getAttr ov attr true) (fun old s₂=>wpAny (model prog w) A (eval value env) (fun v s₃=>wpAny (model prog w) A (inplaceOp op old v) (fun new s₄=>wpAny (model prog w) A (setAttr ov attr new) (fun _=>Q .next) E s₄) E s₃) E s₂) E s₁) E s) :
  wpAny (model prog w) A (exec (.AugAssign (.Attribute o attr tpos) op value pos) env) Q E s:=by
 have e:exec (.AugAssign (.Attribute o attr tpos) op value pos) env=(do
   standAt pos
   let ov ← eval o env
   let new ← holding [ov] do
    standAt tpos.atName
    let old ← getAttr ov attr true
    let v ← holding [old] (eval value env)
    standAt pos
    operate [old,v] (inplaceOp op old v)
   standAt tpos.atName
   holding [new,ov] (setAttr ov attr new)
   release [new,ov] []
   pure .next):=rfl
 rw [e]
 refine Y4 (Y7 (seq h fun ov s₁ h₁=>Y4 (Y6 (Y4 (Y7 (seq h₁ fun old s₂ h₂=>?_))))))
 refine Y4 (Y6 (wpAny_mono h₂ (fun v s₃ h₃=>Y4 (Y7 (eq_31 (Y3 h₃ (fun new s₄ h₄=>?_))))) fun _ _ x=>x))
 exact Y4 (Y7 (Y4 (Y6 (Y3 h₄ (fun _ _ h₅=>Y4 (of (wpAny_release (wpAny_pure h₅))))))))
theorem Y43 {o i:Expr} {pos:Pos} {v:Value} {Q:Unit→Shared→Prop} (h:wpAny (model prog w) A (eval o env) (fun ov s₂=>wpAny (model prog w) A (eval i env) (fun iv s₃=>wpAny (model prog w) A (setItem ov iv v) (fun _ s₄=>Q () s₄) E s₃) E s₂) E s):wpAny (model prog w) A (assign (.Subscript o i pos) env v) Q E s:=by
 rw [PySem.assign_Subscript]
 refine Y4 (Y6 (Y3 h (fun ov s₂ h₂=>Y4 (Y6 (wpAny_mono h₂ (fun iv s₃ h₃=>?_) fun _ _ x=>x)))))
 exact Y4 (Y7 (Y4 (Y6 (Y3 h₃ (fun _ s₄ h₄=>of (wpAny_release h₄))))))
theorem Y44 {o:Expr} {attr:Str} {pos:Pos} {v:Value} {Q:Unit→Shared→Prop} (h:wpAny (model prog w) A (eval o env) (fun ov s₂=>wpAny (model prog w) A (setAttr ov attr v) (fun _ s₃=>Q () s₃) E s₂) E s):wpAny (model prog w) A (assign (.Attribute o attr pos) env v) Q E s:=by
 rw [PySem.assign_Attribute]
 refine Y4 (Y6 (Y3 h (fun ov s₂ h₂=>?_)))
 exact Y4 (Y7 (Y4 (Y6 (Y3 h₂ (fun _ s₄ h₄=>of (wpAny_release h₄))))))
theorem eq_34 {α:Type} {m:Sem α} {Q:α→Shared→Prop} (h:wpAny (model prog w) A m Q (notedBy (model prog w) A env E) s):wpAny (model prog w) A (m.onRaise fun x=>do noteFrame x env; theTreesLotGoes x) Q E s :=
 eq_29 (wpAny_mono h (fun _ _ q=>q) fun _ _ hx=>Y4 (Y3 (of hx) (fun _ _ e=>of (wpAny_theTreesLotGoes e))))
theorem eq_35 {c:Code} {Q:Flow→Shared→Prop} (hc:codeAny (model prog w) A c (fun r s'=>match r with | .ok f=>Q f s' | .error e=>cameBackBy (model prog w) A env E e s') s):wpAny (model prog w) A (runOwn c env none) Q E s:=by
 unfold runOwn
 refine eq_29 (eq_32 (Y9 hc fun r s' q=>?_))
 match r,q with
 | .ok f,q=>exact q
 | .error e,q=>exact of q
theorem Y45 {test:Expr} {body orelse:List Stmt} (I:Nat→Shared→Prop)
  (turn:∀ n s,I n s→wpAny (model prog w) A (isTrue test env (eval test env)) (fun b s₂ =>
    if b then wpAny (model prog w) A (execs body env) (fun f s₃=>match f with
      | .next | .cont=>∃ m,m<n∧I m s₃
      | .brk=>R (.ok .next) s₃
      | .ret v=>R (.ok (.ret v)) s₃) (notedBy (model prog w) A env fun e s'=>R (.error e) s') s₂
    else wpAny (model prog w) A (execs orelse env) (fun f s₃=>R (.ok f) s₃) (notedBy (model prog w) A env fun e s'=>R (.error e) s') s₂) (notedBy (model prog w) A env fun e s'=>R (.error e) s') s)
  (n:Nat) (h:I n s):codeAny (model prog w) A (.whileLoop test body orelse env) R s:=by
 refine eq_33 rfl I (fun n s hI=>?_) n h
 show wpAny _ A ((whileTurn test body orelse env).onRaise (fun x=>do noteFrame x env; theTreesLotGoes x)) _ _ s
 refine eq_34 ?_
 simp only [whileTurn]
 refine seq (turn n s hI) fun b s₂ h₂=>?_
 cases b with
 | false =>
  simp only [false_eq_true,if_false] at h₂ ⊢
  exact seq h₂ fun f s₃ h₃=>wpAny_pure h₃
 | true =>
  simp only [if_true] at h₂ ⊢
  refine seq h₂ fun f s₃ h₃=>?_
  cases f with
  | next=>exact wpAny_pure (.inl ⟨rfl,h₃⟩)
  | cont=>exact wpAny_pure (.inl ⟨rfl,h₃⟩)
  | brk=>exact wpAny_pure h₃
  | ret v=>exact wpAny_pure h₃
theorem Y46 {test:Expr} {body orelse:List Stmt} {pos:Pos} {Q:Flow→Shared→Prop} (h:codeAny (model prog w) A (.whileLoop test body orelse env) (fun r s'=>match r with | .ok f=>Q f s' | .error e=>cameBackBy (model prog w) A env E e s') s):wpAny (model prog w) A (exec (.While test body orelse pos) env) Q E s:=by
 rw [exec_While]; exact Y4 (Y7 (eq_35 h))
theorem eq_36 {stmts:List Stmt} (h:wpAny (model prog w) A (execs stmts env) (fun f s'=>R (.ok f) s') (notedBy (model prog w) A env fun e s'=>R (.error e) s') s):codeAny (model prog w) A (.block stmts env) R s:=by
 refine Y10 ?_
 show wpAny _ A (do return Fin.done (← (execs stmts env).onRaise (fun x=>do noteFrame x env; theTreesLotGoes x))) _ _ s
 exact Y4 (eq_34 (wpAny_mono h (fun f s' h'=>wpAny_pure h') fun _ _ h'=>h'))
theorem Y47 {target:Expr} {it:Value} {body orelse:List Stmt} (I:Nat→Shared→Prop)
  (turn:∀ n s,I n s→wpAny (model prog w) A (pyNext it) (fun r s₁=>match r with
   | none=>wpAny (model prog w) A (execs orelse env) (fun f s₃=>R (.ok f) s₃) (notedBy (model prog w) A env fun e s'=>R (.error e) s') s₁
   | some v=>wpAny (model prog w) A (letOwnedTupleGo target it v) (fun _ s₁'=>wpAny (model prog w) A (assign target env v) (fun _ s₂=>wpAny (model prog w) A (execs body env) (fun f s₃=>match f with
      | .next | .cont=>∃ m,m<n∧I m s₃
      | .brk=>R (.ok .next) s₃
      | .ret v=>R (.ok (.ret v)) s₃) (notedBy (model prog w) A env fun e s'=>R (.error e) s') s₂) (notedBy (model prog w) A env fun e s'=>R (.error e) s') s₁') (notedBy (model prog w) A env fun e s'=>R (.error e) s') s₁) (notedBy (model prog w) A env fun e s'=>R (.error e) s') s)
  (n:Nat) (h:I n s):codeAny (model prog w) A (.forLoop target it body orelse env) R s:=by
 revert turn h; revert prog w A s env R target it body orelse I n; apply s12; generalize T1 _=prog,T2 _=w,T3 _=A,T4 _=s,T5 _=env,T6 _=R,T7 _=target,T8 _=it,T9 _=body,T10 _=orelse,T11 _=I,T12 _=n; intro turn h
 refine eq_33 rfl I (fun n s hI=>?_) n h
 show wpAny _ A ((forTurn target it body orelse env).onRaise (fun x=>do noteFrame x env; theTreesLotGoes x)) _ _ s
 refine eq_34 ?_
 simp only [forTurn]
 refine Y4 (Y7 (Y4 (eq_29 (wpAny_mono (turn n s hI) (fun r s₁ h₁=>?_) fun _ _ h'=>Y7 h'))))
 cases r with
 | none=>exact wpAny_pure (.inr ⟨rfl,eq_36 h₁⟩)
 | some v =>
  refine seq h₁ fun _ s₁' h₁'=>seq h₁' fun _ s₂ h₂=>seq h₂ fun f s₃ h₃=>?_
  cases f with
  | next=>exact wpAny_pure (.inl ⟨rfl,h₃⟩)
  | cont=>exact wpAny_pure (.inl ⟨rfl,h₃⟩)
  | brk=>exact wpAny_pure h₃
  | ret v=>exact wpAny_pure h₃
theorem Y48 {target iter:Expr} {body orelse:List Stmt} {pos:Pos} {Q:Flow→Shared→Prop}
  (h:wpAny (model prog w) A (eval iter env) (fun x s₁=>wpAny (model prog w) A (pyIter x) (fun it s₂=>codeAny (model prog w) A (.forLoop target it body orelse env) (fun r s'=>match r with | .ok f=>Q f s' | .error e=>cameBackBy (model prog w) A env E e s') s₂) E s₁) E s)
  (hs:∀ x,foldedSetIterable iter env x=pure x):wpAny (model prog w) A (exec (.For target iter body orelse pos) env) Q E s:=by
 rw [exec_For]
 refine Y4 (Y7 (seq h fun x s₁ h₁=>?_))
 rw [hs]
 exact Y4 (wpAny_pure (Y4 (Y7 (Y4 (Y6 (wpAny_mono h₁ (fun it s₂ h₂=>eq_35 h₂) fun _ _ h'=>h'))))))
theorem Y49 {body:List Stmt} (h:wpAny (model prog w) (A.deeper env) (execs body env) (fun f s'=>R (.ok (.ret (match f with | .ret v=>v | _=>.none))) s')
   (fun e s'=>wpAny (model prog w) (A.deeper env) (leaving env e) (fun _ s''=>R (.error e) s'') (fun e' s''=>R (.error e') s'') s') s):codeAny (model prog w) A (.func body env) R s:=by
 refine Y10 ?_
 show wpAny _ (A.deeper env) (do point; match ← (execs body env).onRaise (leaving env) with | .ret v=>ret v | _=>ret .none) _ _ s
 refine Y4 (of (wpAny_point (Y4 (eq_29 (wpAny_mono h (fun f s' h'=>?_) fun _ _ h'=>h')))))
 cases f <;> exact wpAny_pure h'
theorem Y50 {a:Addr} {args:Args} {o:Obj} {fd:FuncData} {body:List Stmt} (hroom:A.depth<recursionLimit) (ho:s.heap.get? a=some o) (hd':o.data=.func fd) (hco:fd.scope.isCoroutine=false) (hgen:fd.scope.isGenerator=false)
  (hbody:fd.body=.stmts body) (hcd:s.heap.CodeRec fd.code fd.qualname)
  (h:wpAny (model prog w) A.in1 (bindArgs fd args) (fun binds s₁=>wpAny (model prog w) A.in1 (newFunctionEnv fd.scope fd.globals fd.closure binds (fd.qualname++".<locals>.") (some a) fd.code none fd.builtins)
    (fun env s₂=>s₂.heap.NoLimit∧codeAny (model prog w) A (.func body env) R s₂) (fun e s'=>R (.error e) s') s₁) (fun e s'=>R (.error e) s') s):codeAny (model prog w) A (.call (.ref a) args) R s:=by
 revert hroom ho hd' hco hgen hbody hcd h; revert prog w A s R a args o fd body; apply eq_17; generalize T1 _=prog,T2 _=w,T3 _=A,T4 _=s,T5 _=R,T6 _=a,T7 _=args,T8 _=o,T9 _=fd,T10 _=body; intro hroom ho hd' hco hgen hbody hcd h
 refine Y10 ?_
 show wpAny _ A.in1 (callAny (.ref a) args) _ _ s
 simp only [callAny]
 refine Y4 (of (wpAny_load ho ?_))
 refine Ex4 hcd fun c oc vs tq Z0=>?_; clear hcd; refine An4 Z0 fun hc hoc hdc hq=>?_; clear Z0
 simp only [hd',callFunction,hco,hgen,hbody,hc]
 rw [hc] at h
 refine Y4 (m:=field (.ref c) 1) (of (wpAny_field hoc hdc hq (Y4 (wpAny_pure ?_))))
 exact seq h fun binds s₁ h₁=>seq h₁ fun env s₂ h₂=>Y4 (of (wpAny_enterFrame h₂.1 hroom (wpAny_pure (And.intro rfl h₂.2))))
theorem Y51 {a:Addr} {o:Obj} {fd:FuncData} {body:List Stmt} {args:Args} {binds:List (Str × Value)} (hroom:A.depth<recursionLimit) (ho:s.heap.get? a=some o) (hdata:o.data=.func fd) (hlim:s.heap.NoLimit) (hcd:s.heap.CodeRec fd.code fd.qualname)
  (hbody:fd.body=.stmts body) (hbind:BindsTo s fd args binds) (hcell:∀ x∈fd.scope.names,x.2≠.cell) (hloc:∀ x∈binds,fd.scope.names.lookup x.1=some .local)
  (h:∀ h₀,h₀.Ns s.heap.objs.size (fun x=>binds.reverse.lookup x)→(∀ b o,s.heap.get? b=some o→h₀.get? b=some o) →
   wpAny (model prog w) (A.deeper (callEnv fd s.heap.objs.size a)) (execs body (callEnv fd s.heap.objs.size a)) (fun f s'=>R (.ok (.ret (match f with | .ret v=>v | _=>.none))) s')
    (fun e s'=>wpAny (model prog w) (A.deeper (callEnv fd s.heap.objs.size a)) (leaving (callEnv fd s.heap.objs.size a) e) (fun _ s''=>R (.error e) s'') (fun e' s''=>R (.error e') s'') s')
    { s with heap:=h₀,toks:=s.toks+binds.length })
  (hco:fd.scope.isCoroutine=false) (hgen:fd.scope.isGenerator=false) (hk:fd.scope.kind=.function):codeAny (model prog w) A (.call (.ref a) args) R s:=by
 refine Y50 hroom ho hdata hco hgen hbody hcd (of (hbind _ _ _ _ ?_))
 refine of (wpAny_newFunctionEnv hcell hloc (fun h₀ hns₀ hsb₀=>⟨hlim.fresh _ hsb₀,Y49 (h h₀ hns₀ fun b o e=>?_)⟩) hk)
 exact hsb₀.extBut b o (ne_of_lt (Heap.lt_size e)) (Heap.get?_push_of_some _ e)
end
section
variable {prog:Program} {w:World} {A:Around} {E:Value→Shared→Prop} {s:Shared} {R:Result→Shared→Prop} {K:Frag} {C:Addr}
theorem Y52 (args:Args):dirty (.builtin "type.__call__" args)=false:=by
 show dirtyId "type.__call__" = false
 decide +kernel
theorem eq_37 {c c':Code} {t:Sem Fin} (ht:(model prog w).den c=t) (hq:c'.quiet=true) (hd:dirty c=false) (h:PySem.wpAny (model prog w) (A.under c) t (fun fin s'=>fin=.again c'∧s'=s) (fun _ _=>False) s) (k:codeAny (model prog w) A c' R s):codeAny (model prog w) A c R s:=by
 refine Y10 ?_ hd
 rw [ht]
 refine wpAny_mono (of h) (fun fin s' q=>?_) fun _ _ q=>q.elim
 obtain ⟨rfl,rfl⟩:=q
 exact ⟨hq,k⟩
theorem Y53 {id:String} {args:Args} {b:Builtin} (hb:entryFor table id=some b) (hd:dirty (.builtin id args)=false)
  (h:wpAny (model prog w) (A.under (.builtin id args)) (b args) (fun fin s'=>match fin with | .done f=>R (.ok f) s' | .again c'=>c'.quiet=true∧codeAny (model prog w) A c' R s') (fun e s'=>R (.error e) s') s):codeAny (model prog w) A (.builtin id args) R s:=by
 refine Y10 ?_ hd
 show wpAny _ _ (match entryFor table id with | some b=>b args | none=>unsupported ((withoutEnding? id "#data").getD id)) _ _ s
 rw [hb]; exact h
theorem Y54 {id:String} {args:Args} {b:Builtin} (hq:(Code.builtin id args).quiet=true) (hb:entryFor table id=some b) (hd:dirty (.builtin id args)=false)
  (hc:PySem.wpAny (model prog w) A.in1 (checkBuiltinCall id args) (fun _ s'=>s'=s) (fun _ _=>False) s)
  (h:wpAny (model prog w) (A.under (.builtin id args)) (b args) (fun fin s'=>match fin with | .done f=>R (.ok f) s' | .again c'=>c'.quiet=true∧codeAny (model prog w) A c' R s') (fun e s'=>R (.error e) s') s):codeAny (model prog w) A (.call (.builtin id) args) R s:=by
 refine Y10 ?_
 show wpAny _ A.in1 (do checkBuiltinCall id args; again (.builtin id args)) _ _ s
 refine seq (P:=fun _ s'=>s'=s) (wpAny_mono (of hc) (fun _ _ q=>q) fun _ _ q=>q.elim) fun _ s' q=>?_
 subst q
 exact wpAny_pure ⟨hq,Y53 hb hd h⟩
theorem eq_38 {rest:List Value} {kw:List (Str × Value)} {fI:Addr} (X:K.In s.heap) (hm:makesIn K C=true) (hi:findIn K (.ref C) "__init__" = some (some (.ref fI))) (hf:isFn K (.ref fI)=true)
  (hq:codeAny (model prog w) (A.under (.builtin "type.__call__" ⟨.ref C :: rest,kw⟩)) (.call (.ref fI) ⟨.ref (s.heap.objs.size+1) :: rest,kw⟩) (InitBack (s.heap.objs.size+1) R) { s with heap:=(s.heap.push emptyDict).push (instObj C s.heap.objs.size) }) :
  codeAny (model prog w) A (.call (.ref C) ⟨rest,kw⟩) R s:=by
 revert X hm hi hf hq; revert prog w A s R K C rest kw fI; apply eq_17; generalize T1 _=prog,T2 _=w,T3 _=A,T4 _=s,T5 _=R,T6 _=K,T7 _=C,T8 _=rest,T9 _=kw,T10 _=fI; intro X hm hi hf hq
 have Y:=makes_of (M:=model prog w) X hm
 have Y':=Y
 obtain ⟨⟨oc,od,cd,sl,hC,e1,e2,e4⟩,made,base,self,top,call,typ⟩:=Y
 refine eq_37 (c':=.call (.builtin "type.__call__") ⟨.ref C :: rest,kw⟩) rfl rfl rfl ?_ ?_
 ·show PySem.wpAny _ _ (callAny (.ref C) _) _ _ _
  refine nd_load hC ?_
  show PySem.wpAny _ _ (callAny.viaDunder (.ref C) _) _ _ _
  unfold callAny.viaDunder
  refine PySem.wpAny_bind (call.here ?_)
  dsimp only
  rw [tc_bind]
  refine PySem.wpAny_bind (PySem.wpAny_pure (PySem.wpAny_bind (PySem.wpAny_pure ?_)))
  exact PySem.wpAny_pure (a:=Fin.again (.call (.builtin "type.__call__") ⟨.ref C :: rest,kw⟩)) ⟨rfl,rfl⟩
 refine Y54 (Code.quiet_builtin _ dK) entry_typeCall (Y52 _) (check_slot tc_kind tc_split typ (tc_args _ _ _) rfl) ?_
 have hm:Looks (model prog w) s.heap (mroOf (.ref C)) cd.mro:=((Looks.ld (part:=none) hC).andThen .now).andThen .now
 show wpAny _ _ (mroOf (.ref C) >>= _) _ _ s
 refine Y4 (of (hm.here ?_))
 rw [e4]
 show wpAny _ _ (Bind.madeBy (.ref C) >>= _) _ _ s
 refine Y4 (of (made.here ?_))
 show wpAny _ _ (pure (Value.builtin "object.__new__") >>= _) _ _ s
 refine Y4 (wpAny_pure (Y4 (Y6 ?_)))
 have k:∀ b o,s.heap.get? b=some o→((s.heap.push emptyDict).push (instObj C s.heap.objs.size)).get? b=some o:=fun b o e=>Heap.get?_push_of_some _ (Heap.get?_push_of_some _ e)
 have hx:((s.heap.push emptyDict).push (instObj C s.heap.objs.size)).get? (s.heap.objs.size+1)=some (instObj C s.heap.objs.size):=by
  have:=Heap.get?_push_size (s.heap.push emptyDict) (o:=instObj C s.heap.objs.size) rfl
  rwa [Heap.size_push] at this
 refine of (PySem.wpAny_call ?_)
 obtain ⟨h,g,d,t,os⟩:=s
 refine new_K Y' (looks_findIn X hi) (.inl rfl) ?_
 have t1:Looks (model prog w) ((h.push emptyDict).push (instObj C h.objs.size)) (typeOf (.ref (h.objs.size+1))) (.ref C):=(Looks.ld hx).andThen .now
 have s1:=self.keeps k
 have i1:=(looks_findIn (M:=model prog w) X hi).keeps k
 have b1:=(bind_fn (M:=model prog w) X (.ref (h.objs.size+1)) (beq_iff_eq.mp hf)).keeps k
 refine Y4 (of (Looks.here (Looks.andThen (f:=fun t=>isSubtype t (.ref C)) t1 s1) ?_))
 show wpAny _ _ (holding _ (callSpecial? _ _ _ _) >>= _) _ _ _
 refine Y4 (Y6 ?_)
 unfold callSpecial? specialOf
 refine Y4 (of (Looks.here (Looks.andThen (f:=fun t=>typeLookup t "__init__") t1 i1) ?_))
 refine Y6 (Y4 (of (b1.here (Y4 (Y8 (Y9 hq fun r s' z=>?_))))))
 rcases r with e | (v | _ | _ | _) <;> first | exact z | exact z.elim | skip
 obtain ⟨rfl,z⟩:=z
 exact wpAny_pure (wpAny_pure z)
theorem Y55 {pos:List Value} {kw:List (Str × Value)} {fI:Addr} {h₀:Heap} {L:Addr} {m:Str→Option Value} {news:List (Addr × Obj)} {Q:Value→Shared→Prop} (F:Fr h₀ L s.heap m) (X₀:K.In h₀) (N:News h₀ L s.heap news) (hm:makesIn K C=true) (hi:findIn K (.ref C) "__init__" = some (some (.ref fI))) (hf:isFn K (.ref fI)=true)
  (h:∀ x dx h',Fr h₀ L h' m→News h₀ L h' ((x,instObj C dx) :: (dx,dictOf [] 0) :: news)→(∀ p∈news,p.1<dx)→dx<x →
   codeAny (model prog w) (A.under (.builtin "type.__call__" ⟨.ref C :: pos,kw⟩)) (.call (.ref fI) ⟨.ref x :: pos,kw⟩) (InitBack x fun r s'=>match r with | .ok (.ret v)=>Q v s' | .ok _=>False | .error e=>E e s') { s with heap:=h' }) :
  wpAny (model prog w) A (call (.ref C) pos kw) Q E s:=by
 refine Y8 (eq_38 (X₀.keeps F.keep) hm hi hf (h _ s.heap.objs.size _ ((F.push _).push _) ?_ (fun p hp=>Heap.lt_size (N p hp).1) (lt_succ_self _)))
 have:=(N.push F emptyDict).push (F.push _) (instObj C s.heap.objs.size)
 rwa [Heap.size_push] at this
end
noncomputable abbrev PH:=Addr→Option Obj
noncomputable def PLe (G G':PH):Prop:=∀ a o,G a=some o→G' a=some o
theorem PLe.refl (G:PH):PLe G G:=fun _ _ h=>h
theorem PLe.trans {G G' G'':PH} (h:PLe G G') (h':PLe G' G''):PLe G G'':=fun a o e=>h' a o (h a o e)
inductive V where
 | none | bool (b:Bool) | int (i:Int) | str (s:Str) | byt (b:List UInt8)
 | tup (vs:List V) | lst (vs:List V) | obj (a:Addr) | bi (v:Value)
mutual
inductive VR (G:PH):Value→V→Prop
 | none:VR G .none .none
 | bool (b:Bool):VR G (.bool b) (.bool b)
 | int (i:Int) (t:Tok):VR G (.int i t) (.int i)
 | str (x:Str) (t:Tok):VR G (.str x t) (.str x)
 | byt (b:List UInt8) (t:Tok):VR G (.bytes b.toArray t) (.byt b)
 | tup {a:Addr} {o:Obj} {vs:List Value} {n:Nat} {xs:List V} (h:G a=some o) (hc:o.cls=.type "tuple") (hd:o.data=.seq vs.toArray n) (hs:VRs G vs xs):VR G (.ref a) (.tup xs)
 | lst {a:Addr} {o:Obj} {vs:List Value} {n:Nat} {xs:List V} (h:G a=some o) (hc:o.cls=.type "list") (hd:o.data=.seq vs.toArray n) (hs:VRs G vs xs):VR G (.ref a) (.lst xs)
 | obj (a:Addr):VR G (.ref a) (.obj a)
 | ty (n:String):VR G (.type n) (.bi (.type n))
 | bu (n:String):VR G (.builtin n) (.bi (.builtin n))
inductive VRs (G:PH):List Value→List V→Prop
 | nil:VRs G [] []
 | cons {v:Value} {x:V} {vs:List Value} {xs:List V} (h:VR G v x) (hs:VRs G vs xs):VRs G (v :: vs) (x :: xs)
end
theorem VR.mono {G G':PH} (hle:PLe G G') {v:Value} {x:V} (h:VR G v x):VR G' v x:=by
 induction h using VR.rec (motive_2:=fun vs xs _=>VRs G' vs xs) with
 | none=>exact .none
 | bool b=>exact .bool b
 | int i t=>exact .int i t
 | str x t=>exact .str x t
 | byt b t=>exact .byt b t
 | tup h hc hd _ ih=>exact .tup (hle _ _ h) hc hd ih
 | lst h hc hd _ ih=>exact .lst (hle _ _ h) hc hd ih
 | obj a=>exact .obj a
 | ty n=>exact .ty n
 | bu n=>exact .bu n
 | nil=>exact .nil
 | cons _ _ h hs=>exact .cons h hs
noncomputable def VInv (G:PH) (v:Value):V→Prop
 | .none=>v=.none
 | .bool b=>v=.bool b
 | .int i=>∃ t,v=.int i t
 | .str x=>∃ t,v=.str x t
 | .byt b=>∃ t,v=.bytes b.toArray t
 | .tup xs=>∃ a o vs n,v=.ref a∧G a=some o∧o.cls=.type "tuple"∧o.data=.seq (List.toArray vs) n∧VRs G vs xs
 | .lst xs=>∃ a o vs n,v=.ref a∧G a=some o∧o.cls=.type "list"∧o.data=.seq (List.toArray vs) n∧VRs G vs xs
 | .obj a=>v=.ref a
 | .bi w=>v=w
theorem VR.inv {G:PH} {v:Value} {x:V} (h:VR G v x):VInv G v x:=by
 cases h with
 | none=>exact rfl
 | bool b=>exact rfl
 | int i t=>exact ⟨_,rfl⟩
 | str x t=>exact ⟨_,rfl⟩
 | byt b t=>exact ⟨_,rfl⟩
 | tup h hc hd hs=>exact (EI4 _ _ _ _ ⟨rfl,h,hc,hd,hs⟩)
 | lst h hc hd hs=>exact (EI4 _ _ _ _ ⟨rfl,h,hc,hd,hs⟩)
 | obj a=>exact rfl
 | ty n=>exact rfl
 | bu n=>exact rfl
noncomputable def VsInv (G:PH) (vs:List Value):List V→Prop
 | []=>vs=[]
 | x :: xs=>∃ v ws,vs=v :: ws∧VR G v x∧VRs G ws xs
theorem VRs.inv {G:PH} {vs:List Value} {xs:List V} (h:VRs G vs xs):VsInv G vs xs:=by
 cases h with
 | nil=>exact rfl
 | cons h hs=>exact (EI2 _ _ ⟨rfl,h,hs⟩)
theorem VRs.un {G:PH} {v:Value} {x:V} {vs:List Value} {xs:List V} (h:VRs G (v :: vs) (x :: xs)):VR G v x∧VRs G vs xs:=by
 refine X23 h.inv fun _ _ e h1 h2=>?_; obtain ⟨rfl,rfl⟩:=List.cons.inj e; exact ⟨h1,h2⟩
theorem VRs.mono {G G':PH} (hle:PLe G G') {vs:List Value} {xs:List V} (h:VRs G vs xs):VRs G' vs xs:=by
 induction xs generalizing vs with
 | nil=>rw [show vs=[] from h.inv]; exact .nil
 | cons x xs ih=>refine Ex2 h.inv fun v ws Z1=>?_; obtain ⟨rfl,Z0⟩:=Z1; refine An2 Z0 fun h1 h2=>?_; clear Z0; exact .cons (h1.mono hle) (ih h2)
theorem VRs.length {G:PH} {vs:List Value} {xs:List V} (h:VRs G vs xs):vs.length=xs.length:=by
 induction xs generalizing vs with
 | nil=>rw [show vs=[] from h.inv]; rfl
 | cons x xs ih=>refine Ex2 h.inv fun v ws Z1=>?_; obtain ⟨rfl,Z0⟩:=Z1; refine An2 Z0 fun h1 h2=>?_; clear Z0; exact congrArg (· + 1) (ih h2)
theorem VRs.append {G:PH} {vs ws:List Value} {xs ys:List V} (h:VRs G vs xs) (h':VRs G ws ys):VRs G (vs++ws) (xs++ys):=by
 induction xs generalizing vs with
 | nil=>rw [show vs=[] from h.inv]; exact h'
 | cons x xs ih=>refine Ex2 h.inv fun v us Z1=>?_; obtain ⟨rfl,Z0⟩:=Z1; refine An2 Z0 fun h1 h2=>?_; clear Z0; exact .cons h1 (ih h2)
theorem VRs.get {G:PH} {vs:List Value} {xs:List V} (h:VRs G vs xs) {i:Nat} {x:V} (e:xs[i]?=some x):∃ v,vs[i]?=some v∧VR G v x:=by
 induction xs generalizing vs i with
 | nil=>exact nomatch e
 | cons y ys ih =>
  refine Ex2 h.inv fun v ws Z1=>?_; obtain ⟨rfl,Z0⟩:=Z1; refine An2 Z0 fun h1 h2=>?_; clear Z0
  cases i with
  | zero=>exact ⟨v,rfl,Option.some.inj e▸h1⟩
  | succ i=>exact ih h2 e
theorem VRs.get' {G:PH} {vs:List Value} {xs:List V} (h:VRs G vs xs) {i:Nat} {v:Value} (e:vs[i]?=some v):∃ x,xs[i]?=some x∧VR G v x:=by
 induction xs generalizing vs i with
 | nil=>rw [show vs=[] from h.inv] at e; exact nomatch e
 | cons y ys ih =>
  refine Ex2 h.inv fun w ws Z1=>?_; obtain ⟨rfl,Z0⟩:=Z1; refine An2 Z0 fun h1 h2=>?_; clear Z0
  cases i with
  | zero=>exact ⟨y,rfl,Option.some.inj e▸h1⟩
  | succ i=>exact ih h2 e
theorem VRs.take {G:PH} {vs:List Value} {xs:List V} (h:VRs G vs xs) (n:Nat):VRs G (vs.take n) (xs.take n):=by
 induction xs generalizing vs n with
 | nil=>rw [show vs=[] from h.inv,take_nil,take_nil]; exact .nil
 | cons x xs ih =>
  refine Ex2 h.inv fun v ws Z1=>?_; obtain ⟨rfl,Z0⟩:=Z1; refine An2 Z0 fun h1 h2=>?_; clear Z0
  cases n with
  | zero=>exact .nil
  | succ n=>exact .cons h1 (ih h2 n)
theorem VRs.drop {G:PH} {vs:List Value} {xs:List V} (h:VRs G vs xs) (n:Nat):VRs G (vs.drop n) (xs.drop n):=by
 induction xs generalizing vs n with
 | nil=>rw [show vs=[] from h.inv,drop_nil,drop_nil]; exact .nil
 | cons x xs ih =>
  refine Ex2 h.inv fun v ws Z1=>?_; obtain ⟨rfl,Z0⟩:=Z1; refine An2 Z0 fun h1 h2=>?_; clear Z0
  cases n with
  | zero=>exact .cons h1 h2
  | succ n=>exact ih h2 n
theorem VRs.set {G:PH} {vs:List Value} {xs:List V} (h:VRs G vs xs) (n:Nat) {v:Value} {x:V} (h':VR G v x):VRs G (vs.set n v) (xs.set n x):=by
 induction xs generalizing vs n with
 | nil=>rw [show vs=[] from h.inv]; exact .nil
 | cons y ys ih =>
  refine Ex2 h.inv fun w ws Z1=>?_; obtain ⟨rfl,Z0⟩:=Z1; refine An2 Z0 fun h1 h2=>?_; clear Z0
  cases n with
  | zero=>exact .cons h' h2
  | succ n=>exact .cons h1 (ih h2 n)
inductive O where
 | list (vs:List V)
 | ba (b:List UInt8)
 | inst (C:Addr) (ns:List Str) (vs:List V)
 | sd (fs:List (Str × V))
 | idd (fs:List (Int × V))
noncomputable abbrev HP:=Addr→Option O
noncomputable def upd (h:HP) (a:Addr) (o:O):HP:=fun b=>if b=a then some o else h b
noncomputable def del (h:HP) (a:Addr):HP:=fun b=>if b=a then none else h b
theorem Y56 {h:HP} {a:Addr} {o:O}:upd h a o a=some o:=if_pos rfl
theorem Y57 {h:HP} {a b:Addr} {o:O} (e:b≠a):upd h a o b=h b:=if_neg e
theorem Y58 {h:HP} {a b:Addr} {o:O} {r:Option O} (e:b≠a) (q:h b=r):upd h a o b=r:=(if_neg e).trans q
theorem eq_39 {h:HP} {a:Addr} {o o':O}:upd (upd h a o) a o'=upd h a o':=by
 funext b; unfold upd; split <;> rfl
inductive ERs (P:Params) (G:PH):List DictEntry→List (Str × V)→Prop
 | nil:ERs P G [] []
 | cons {x:Str} {t:Tok} {v:Value} {u:V} {es:List DictEntry} {fs:List (Str × V)} (h:VR G v u) (hs:ERs P G es fs):ERs P G (⟨PyData.keyHash P x,.str x t,v⟩ :: es) ((x,u) :: fs)
inductive IRs (G:PH):List DictEntry→List (Int × V)→Prop
 | nil:IRs G [] []
 | cons {x:Int} {t:Tok} {v:Value} {u:V} {es:List DictEntry} {fs:List (Int × V)} (h:VR G v u) (hs:IRs G es fs):IRs G (⟨PySem.hashInt x,.int x t,v⟩ :: es) ((x,u) :: fs)
theorem ERs.mono {P:Params} {G G':PH} (hle:PLe G G') {es:List DictEntry} {fs:List (Str × V)} (h:ERs P G es fs):ERs P G' es fs:=by
 induction h with
 | nil=>exact .nil
 | cons h hs ih=>exact .cons (h.mono hle) ih
theorem IRs.mono {G G':PH} (hle:PLe G G') {es:List DictEntry} {fs:List (Int × V)} (h:IRs G es fs):IRs G' es fs:=by
 induction h with
 | nil=>exact .nil
 | cons h hs ih=>exact .cons (h.mono hle) ih
theorem ERs.un {P:Params} {G:PH} {es:List DictEntry} {x:Str} {u:V} {fs:List (Str × V)} (h:ERs P G es ((x,u) :: fs)):∃ t v r,es=⟨PyData.keyHash P x,.str x t,v⟩ :: r∧VR G v u∧ERs P G r fs:=by
 cases h with
 | cons h hs=>exact (EI3 _ _ _ ⟨rfl,h,hs⟩)
noncomputable def OR (P:Params) (G own:PH) (d a:Addr):O→Prop
 | .list xs=>∃ vs n,own a=some (listOf (List.toArray vs) n)∧VRs G vs xs
 | .ba b=>own a=some { cls:=.type "bytearray",data:=.bytearray b.toArray 0 }
 | .inst C ns vs=>∃ es n,own a=some (instObj C d)∧own d=some (dictOf es n)∧ERs P G es (ns.zip vs)∧ns.length=vs.length
 | .sd fs=>∃ es n,own a=some (dictOf es n)∧ERs P G es fs∧(fs.map (·.1)).Nodup∧a≠1
 | .idd fs=>∃ es n,own a=some (dictOf es n)∧IRs G es fs∧(fs.map (·.1)).Nodup∧a≠1
theorem OR.mono {P:Params} {G G' own:PH} (hle:PLe G G') {d a:Addr} {o:O} (h:OR P G own d a o):OR P G' own d a o:=by
 cases o with
 | list xs=>refine X22 h fun vs n h1 h4=>?_; clear h; exact (EI2 vs n ⟨h1,h4.mono hle⟩)
 | ba b=>exact h
 | inst C ns vs=>refine X24 h fun es n h1 h2 h3 h4=>?_; clear h; exact (EI2 es n ⟨h1,h2,h3.mono hle,h4⟩)
 | sd fs=>refine X22 h fun es n h1 h2=>?_; clear h; exact (EI2 es n ⟨h1,h2.1.mono hle,h2.2⟩)
 | idd fs=>refine X22 h fun es n h1 h2=>?_; clear h; exact (EI2 es n ⟨h1,h2.1.mono hle,h2.2⟩)
set_option genInjectivity false in
structure Gam where
 prog:Program
 w:World
 B:Heap
 os:OsState
 K:Frag
 pv:Program
 loose:List Str
 mg:Str→Option Value
 mb:Str→Option Value
 xc:Addr
 hK:K.In B
 hT:TopRead pv loose mg mb B
set_option genInjectivity false in
structure FnS where
 addr:Addr
 fd:FuncData
 body:List Stmt
 comp:Bool:=false
noncomputable def FnS.names (fn:FnS):List (Str × NameKind):=fn.fd.scope.names
structure FnOk (Γ:Gam) (fn:FnS):Prop where
 at_:fn.comp=false→∃ oc od osl,Γ.K.lookup fn.addr=some ⟨oc,od,.func fn.fd,osl⟩
 code:fn.comp=false→codeIn Γ.K fn.fd.code fn.fd.qualname=true
 body:fn.comp=false→fn.fd.body=.stmts fn.body
 glob:fn.fd.globals=mainGlobals
 bi:fn.fd.builtins=builtinsNs
 kind:fn.fd.scope.kind=.function
 co:fn.fd.scope.isCoroutine=false
 gen:fn.fd.scope.isGenerator=false
 nd:(fn.names.map (·.1)).Nodup
 dbg:("__debug__" : Str)∉fn.names.map (·.1)
set_option genInjectivity false in
structure FrI where
 env:Env
 m:Str→Option Value
 cs:Str→Option Value
 cp:Bool
noncomputable def FrI.addrs (f:FrI):List Addr:=f.env.locals :: (if f.cp then [] else f.env.cells.map (·.2))
structure FrOk (Γ:Gam) (G own:PH) (h:Heap) (f:FrI):Prop where
 frame:f.cp=false→f.env.frame=some f.env.locals
 kind:f.env.scope.kind=.function
 cnd:(f.env.cells.map (·.1)).Nodup
 above:Γ.B.objs.size≤f.env.locals
 ns:h.Ns f.env.locals f.m
 offG:G f.env.locals=none
 offO:own f.env.locals=none
 cell:∀ x c,f.env.cells.lookup x=some c→h.IsCell c (f.cs x)∧G c=none∧own c=none
structure Base (Γ:Gam) (G own:PH) (frs:List FrI) (s:Shared):Prop where
 gens:s.gens = #[]
 os:s.os=Γ.os
 hB:∀ a o,Γ.B.get? a=some o→G a=some o
 hG:∀ a o,G a=some o→s.heap.get? a=some o
 hO:∀ a o,own a=some o→s.heap.get? a=some o
 disj:∀ a o,own a=some o→G a=none
 fr:∀ f∈frs,FrOk Γ G own s.heap f
 nodup:(frs.flatMap FrI.addrs).Nodup
 real:∀ f∈frs.tail,f.cp=false
inductive HR (Γ:Gam) (G own:PH) (hp:HP):Prop
 | intro (dx:Addr→Addr) (h1:∀ a o,hp a=some o→OR Γ.w.params G own (dx a) a o) (h2:∀ a C ns vs,hp a=some (.inst C ns vs)→hp (dx a)=none)
  (h3:∀ a a' C ns vs C' ns' vs',hp a=some (.inst C ns vs)→hp a'=some (.inst C' ns' vs')→dx a=dx a'→a=a')
structure St where
 loc:List (Option V)
 hp:HP
noncomputable def LRk (env:Env) (G:PH) (m cs:Str→Option Value) (x:Str) (u:V):NameKind→Prop
 | .local=>∃ v,m x=some v∧VR G v u
 | .cell=>∃ c v,env.cells.lookup x=some c∧cs x=some v∧VR G v u
 | _=>False
structure LR (P:Prop) (fn:FnS) (env:Env) (G:PH) (m cs:Str→Option Value) (loc:List (Option V)):Prop where
 l:∀ (k:Nat) (x:Str) (kd:NameKind) (u:V),fn.names[k]?=some (x,kd)→loc[k]?=some (some u)→LRk env G m cs x u kd
 c:∀ (k:Nat) (x:Str),fn.names[k]?=some (x,NameKind.cell)→∃ c,env.cells.lookup x=some c
 p:P
inductive Rep (P:Prop) (Γ:Gam) (fn:FnS) (env:Env) (fr:List FrI) (G:PH) (σ:St) (s:Shared):Prop
 | intro (own:PH) (m cs:Str→Option Value) (b:Base Γ G own (⟨env,m,cs,fn.comp⟩ :: fr) s) (hr:HR Γ G own σ.hp) (lr:LR P fn env G m cs σ.loc)
noncomputable def Off (G own:PH) (frs:List FrI) (a:Addr):Prop:=G a=none∧own a=none∧∀ f∈frs,f.env.locals≠a∧∀ x,f.env.cells.lookup x≠some a
noncomputable def XAt (Γ:Gam) (G own:PH) (frs:List FrI) (h:Heap) (e:Addr) (fl:Option Value):Prop :=
 ∃ oe vs a0,h.get? e=some oe∧oe.cls=.ref Γ.xc∧oe.data=.fields vs∧vs[0]?=some a0∧Off G own frs e ∧
  match fl with
  | none=>vs[1]?=some .none
  | some f=>∃ T oT ts,vs[1]?=some (.ref T)∧h.get? T=some oT∧oT.data=.fields ts∧ts[3]?=some f∧T≠e∧Off G own frs T
noncomputable def RepX (P:Prop) (Γ:Gam) (fn:FnS) (env:Env) (fr:List FrI) (G:PH) (σ:St) (e:Value) (s:Shared):Prop :=
 ∃ own m cs a fl,Base Γ G own (⟨env,m,cs,fn.comp⟩ :: fr) s∧HR Γ G own σ.hp∧LR P fn env G m cs σ.loc∧e=.ref a∧XAt Γ G own (⟨env,m,cs,fn.comp⟩ :: fr) s.heap a fl ∧
  (fl=none∨fl=some .none∨fl=some (rawInt env.locals))
structure EnvOk (fn:FnS) (env:Env):Prop where
 scope:env.scope=fn.fd.scope
 globals:env.globals=fn.fd.globals
 builtins:env.builtins=fn.fd.builtins
 new:fn.comp=false→∃ L cl,env=newEnv fn.fd.scope L fn.fd.globals cl (fn.fd.qualname++".<locals>.") (some fn.addr) fn.fd.code none fn.fd.builtins
structure AOk (n:Nat) (A:Around) (envs:List Env):Prop where
 frames:A.frames=some envs
 handled:A.handled=none
 depth:A.depth+n≤900
 units:A.units+10*n≤9000
set_option genInjectivity false in
structure Cx (Γ:Gam) (fn:FnS) (n:Nat) where
 A:Around
 env:Env
 fr:List FrI
structure Cx.Good {Γ:Gam} {fn:FnS} {n:Nat} (c:Cx Γ fn n):Prop where
 ok:FnOk Γ fn
 eo:EnvOk fn c.env
 ao:AOk n c.A ((if fn.comp then [] else [c.env])++c.fr.map (·.env))
section
variable {Γ:Gam} {fn:FnS} {n:Nat}
noncomputable def Cx.Rep (c:Cx Γ fn n) (G:PH) (σ:St) (s:Shared):Prop:=N0.Rep c.Good Γ fn c.env c.fr G σ s
theorem Cx.Rep.good {c:Cx Γ fn n} {G:PH} {σ:St} {s:Shared} (r:c.Rep G σ s):c.Good:=by obtain ⟨_,_,_,_,_,lr⟩:=r; exact lr.3
inductive Cx.RP (c:Cx Γ fn n) (G:PH) (σ:St) (x:V) (v:Value) (s':Shared):Prop
 | intro (G':PH) (l:PLe G G') (r:c.Rep G' σ s') (h:VR G' v x)
inductive Cx.XP (c:Cx Γ fn n) (G:PH) (Q:V→St→Prop) (v:Value) (s':Shared):Prop
 | intro (G':PH) (x:V) (σ':St) (l:PLe G G') (r:c.Rep G' σ' s') (h:VR G' v x) (q:Q x σ')
inductive Cx.EP (c:Cx Γ fn n) (G:PH) (X:St→Prop) (e:Value) (s':Shared):Prop
 | intro (G':PH) (σ':St) (l:PLe G G') (r:RepX c.Good Γ fn c.env c.fr G' σ' e s') (x:X σ')
noncomputable def NoX (_:Value) (_:Shared):Prop:=False
theorem Cx.RP.el {c:Cx Γ fn n} {G:PH} {σ:St} {Q:Value→Shared→Prop} {x:V} (k:∀ v s' G',PLe G G'→c.Rep G' σ s'→VR G' v x→Q v s') (v:Value) (s':Shared) (h:c.RP G σ x v s'):Q v s':=by
 obtain ⟨G',l,r,hv⟩:=h; exact k v s' G' l r hv
theorem Cx.RP.obj {c:Cx Γ fn n} {G:PH} {σ:St} {Q:Value→Shared→Prop} {a:Addr} (k:∀ s' G',PLe G G'→c.Rep G' σ s'→VR G' (.ref a) (.obj a)→Q (.ref a) s') (v:Value) (s':Shared) (h:c.RP G σ (.obj a) v s'):Q v s':=by
 obtain ⟨G',l,r,hv⟩:=h; obtain rfl:=hv.inv; exact k s' G' l r hv
theorem Cx.RP.bool {c:Cx Γ fn n} {G:PH} {σ:St} {Q:Value→Shared→Prop} {b:Bool} (k:∀ s' G',PLe G G'→c.Rep G' σ s'→VR G' (.bool b) (.bool b)→Q (.bool b) s') (v:Value) (s':Shared) (h:c.RP G σ (.bool b) v s'):Q v s':=by
 obtain ⟨G',l,r,hv⟩:=h; obtain rfl:=hv.inv; exact k s' G' l r hv
theorem Cx.RP.bi {c:Cx Γ fn n} {G:PH} {σ:St} {Q:Value→Shared→Prop} {w:Value} (k:∀ s' G',PLe G G'→c.Rep G' σ s'→VR G' (w) (.bi w)→Q (w) s') (v:Value) (s':Shared) (h:c.RP G σ (.bi w) v s'):Q v s':=by
 obtain ⟨G',l,r,hv⟩:=h; obtain rfl:=hv.inv; exact k s' G' l r hv
theorem Cx.RP.int {c:Cx Γ fn n} {G:PH} {σ:St} {Q:Value→Shared→Prop} {i:Int} (k:∀ s' G' t,PLe G G'→c.Rep G' σ s'→VR G' (.int i t) (.int i)→Q (.int i t) s') (v:Value) (s':Shared) (h:c.RP G σ (.int i) v s'):Q v s':=by
 obtain ⟨G',l,r,hv⟩:=h; obtain ⟨t,rfl⟩:=hv.inv; exact k s' G' t l r hv
theorem Cx.RP.str {c:Cx Γ fn n} {G:PH} {σ:St} {Q:Value→Shared→Prop} {y:Str} (k:∀ s' G' t,PLe G G'→c.Rep G' σ s'→VR G' (.str y t) (.str y)→Q (.str y t) s') (v:Value) (s':Shared) (h:c.RP G σ (.str y) v s'):Q v s':=by
 obtain ⟨G',l,r,hv⟩:=h; obtain ⟨t,rfl⟩:=hv.inv; exact k s' G' t l r hv
theorem Cx.RP.byt {c:Cx Γ fn n} {G:PH} {σ:St} {Q:Value→Shared→Prop} {b:List UInt8} (k:∀ s' G' t,PLe G G'→c.Rep G' σ s'→VR G' (.bytes b.toArray t) (.byt b)→Q (.bytes b.toArray t) s') (v:Value) (s':Shared) (h:c.RP G σ (.byt b) v s'):Q v s':=by
 obtain ⟨G',l,r,hv⟩:=h; obtain ⟨t,rfl⟩:=hv.inv; exact k s' G' t l r hv
noncomputable def noX (_:St):Prop:=False
structure PE (Γ:Gam) (fn:FnS) (n:Nat) (σ:St) (e:Expr) (x:V):Prop where
 run:∀ (c:Cx Γ fn n) G s,c.Rep G σ s→wpAny (model Γ.prog Γ.w) c.A (eval e c.env) (c.RP G σ x) NoX s
structure PT (Γ:Gam) (fn:FnS) (n:Nat) (σ:St) (e:Expr) (b:Bool):Prop where
 run:∀ (c:Cx Γ fn n) G s,c.Rep G σ s→wpAny (model Γ.prog Γ.w) c.A (isTrue e c.env (eval e c.env)) (fun b' s'=>b'=b∧∃ G',PLe G G'∧c.Rep G' σ s') NoX s
structure XE (Γ:Gam) (fn:FnS) (n:Nat) (σ:St) (e:Expr) (Q:V→St→Prop) (X:St→Prop):Prop where
 run:∀ (c:Cx Γ fn n) G s,c.Rep G σ s→wpAny (model Γ.prog Γ.w) c.A (eval e c.env) (c.XP G Q) (c.EP G X) s
end
noncomputable def allNews (B:Heap) (D:Addr→Bool) (h:Heap):List (Addr × Obj) :=
 (List.range h.objs.size).filterMap fun a=>if D a then none else if (B.get? a).isSome then none else (h.get? a).map fun o=>(a,o)
theorem Y59 {B h:Heap} {D:Addr→Bool} {p:Addr × Obj}:p∈allNews B D h↔D p.1=false∧B.get? p.1=none∧h.get? p.1=some p.2:=by
 unfold allNews
 rw [List.mem_filterMap]
 constructor
 ·rintro ⟨a,_,e⟩
  split at e
  ·cases e
  ·split at e
   ·cases e
   ·rename_i h1 h2
    refine X12 (Option.map_eq_some_iff.mp e) fun o ho Z0=>?_; obtain rfl:=Z0
    exact ⟨by simpa using h1,by simpa using h2,ho⟩
 ·rintro ⟨h1,h2,h3⟩
  refine ⟨p.1,List.mem_range.mpr (Heap.lt_size h3),?_⟩
  rw [h1,h2,h3]
  rfl
section
variable {Γ:Gam} {G own:PH} {fr:List FrI} {env:Env} {m cs:Str→Option Value} {cp:Bool} {s:Shared}
theorem Base.L (b:Base Γ G own (⟨env,m,cs,cp⟩ :: fr) s):FrOk Γ G own s.heap ⟨env,m,cs,cp⟩:=b.fr ⟨env,m,cs,cp⟩ (.head _)
theorem Base.Fr (b:Base Γ G own (⟨env,m,cs,cp⟩ :: fr) s):Fr Γ.B env.locals s.heap m :=
 ⟨b.L.ns,fun a o e=>b.hG a o (b.hB a o e),b.L.above⟩
noncomputable def isL (env:Env) (a:Addr):Bool:=decide (a=env.locals)
theorem Base.News (_:Base Γ G own (⟨env,m,cs,cp⟩ :: fr) s):News Γ.B env.locals s.heap (allNews Γ.B (isL env) s.heap):=fun p hp=>by
 refine An3 (Y59.mp hp) fun h1 h2 h3=>?_
 exact ⟨h3,by simpa [isL] using h1,h2⟩
theorem Base.locals_ne (b:Base Γ G own (⟨env,m,cs,cp⟩ :: fr) s) {f:FrI} (hf:f∈fr):f.env.locals≠env.locals:=fun q=>by
 have hn:=b.nodup
 rw [flatMap_cons,nodup_append] at hn
 exact hn.2.2 _ (.head _) _ (List.mem_flatMap.mpr ⟨f,hf,.head _⟩) q.symm
theorem Y60 {h:Heap} {a:Addr} {m:Str→Option Value} {v:Option Value} (hn:h.Ns a m) (hc:h.IsCell a v):False:=by
 refine X33 hn fun o es ep ho hd _=>?_; clear hn
 refine X12 hc fun o' ho' hd'=>?_; clear hc
 rw [ho'] at ho; obtain rfl:=Option.some.inj ho; rw [hd'] at hd; cases hd
theorem Base.kept (b:Base Γ G own (⟨env,m,cs,cp⟩ :: fr) s) {h':Heap} {m':Str→Option Value} {tk:Nat} (hn:h'.Ns env.locals m') (hk:∀ a o,a≠env.locals→s.heap.get? a=some o→h'.get? a=some o) :
  Base Γ G own (⟨env,m',cs,cp⟩ :: fr) { s with heap:=h',toks:=tk }:=by
 have cell:∀ f∈(⟨env,m,cs,cp⟩ :: fr:List FrI),∀ x c,f.env.cells.lookup x=some c→h'.IsCell c (f.cs x)∧G c=none∧own c=none:=fun f hf x c hc=>by
  obtain ⟨h1,h2⟩:=(b.fr f hf).cell x c hc
  have hne:c≠env.locals:=fun q=>Y60 b.L.ns (q▸h1)
  refine X12 h1 fun o ho hd=>?_; clear h1
  exact ⟨⟨o,hk c _ hne ho,hd⟩,h2⟩
 refine ⟨b.gens,b.os,b.hB,fun a o e=>hk a o (fun q=>?_) (b.hG a o e),fun a o e=>hk a o (fun q=>?_) (b.hO a o e),b.disj,fun f hf=>?_,b.nodup,b.real⟩
 ·have:=b.L.offG; rw [q] at e; rw [this] at e; cases e
 ·have:=b.L.offO; rw [q] at e; rw [this] at e; cases e
 ·rcases List.mem_cons.mp hf with rfl | hf
  ·exact ⟨b.L.frame,b.L.kind,b.L.cnd,b.L.above,hn,b.L.offG,b.L.offO,cell ⟨env,m,cs,cp⟩ (.head _)⟩
  ·have F:=b.fr f (mem_cons_of_mem _ hf)
   refine X32 F.ns fun o es ep h4 h5=>?_
   exact ⟨F.frame,F.kind,F.cnd,F.above,⟨o,es,ep,hk _ _ (b.locals_ne hf) h4,h5⟩,F.offG,F.offO,cell f (mem_cons_of_mem _ hf)⟩
theorem Base.keptN (b:Base Γ G own (⟨env,m,cs,cp⟩ :: fr) s) {h':Heap} {m':Str→Option Value} {tk:Nat} (F:PyProof.Rows.Fr Γ.B env.locals h' m') (N:PyProof.Rows.News Γ.B env.locals h' (allNews Γ.B (isL env) s.heap)) :
  Base Γ G own (⟨env,m',cs,cp⟩ :: fr) { s with heap:=h',toks:=tk }:=b.kept F.ns fun a o h1 h2=>by
 cases q:Γ.B.get? a with
 | none=>exact (N (a,o) (Y59.mpr ⟨by simpa [isL] using h1,q,h2⟩)).1
 | some o' =>
  have:=b.hG a o' (b.hB a o' q)
  rw [h2] at this; obtain rfl:=Option.some.inj this
  exact F.keep a o q
theorem Base.toks {fr:List FrI} (b:Base Γ G own fr s) {tk:Nat}:Base Γ G own fr { s with toks:=tk }:=⟨b.gens,b.os,b.hB,b.hG,b.hO,b.disj,b.fr,b.nodup,b.real⟩
end
theorem Rep.toks {P:Prop} {Γ:Gam} {fn:FnS} {env:Env} {fr:List FrI} {G:PH} {σ:St} {s:Shared} {tk:Nat} (h:Rep P Γ fn env fr G σ s):Rep P Γ fn env fr G σ { s with toks:=tk }:=by
 obtain ⟨own,m,cs,b,r,lr⟩:=h
 exact ⟨own,m,cs,b.toks,r,lr⟩
theorem Y61 {l:List (Str × NameKind)} (hn:(l.map (·.1)).Nodup) {k:Nat} {x:Str} {kd:NameKind} (h:l[k]?=some (x,kd)):l.lookup x=some kd:=by
 induction l generalizing k with
 | nil=>simp at h
 | cons p r ih =>
  obtain ⟨y,ky⟩:=p
  rw [map_cons,nodup_cons] at hn
  cases k with
  | zero=>simp at h; obtain ⟨rfl,rfl⟩:=h; simp
  | succ k =>
   simp at h
   have hm:(x,kd)∈r:=mem_of_getElem? h
   have hx:x≠y:=fun q=>hn.1 (by rw [← q]; exact mem_map_of_mem (f:=(·.1)) hm)
   rw [lookup_cons,beq_eq_false_iff_ne.mpr hx]
   exact ih hn.2 h
deriving instance Nonempty for V,O,FnS,FrI,St,Cx
theorem eq_40 (t:Tok) (x:Str):∀ L:List (Str × Value),nsFind (L.map fun y=>(⟨0,.str y.1 t,y.2⟩:DictEntry)).toArray x=L.lookup x
 | []=>rfl
 | (k,v) :: L=>by
  have ih:=eq_40 t x L
  simp only [nsFind,findBy,List.find?_toArray,map_cons,find?_cons,lookup_cons,Value.isStr] at ih ⊢
  rw [show (x == k)=(k == x) from Bool.beq_comm ..]
  cases k == x
  ·exact ih
  ·rfl
theorem eq_41 {t:Tok} {h:Heap} {a:Addr} (L:List (Str × Value)) (e:h.get? a=some ⟨.type "dict",none,.dict (L.map fun y=>(⟨0,.str y.1 t,y.2⟩:DictEntry)).toArray 0,#[]⟩):h.Ns a (fun x=>L.lookup x) :=
 ⟨_,_,_,e,rfl,fun e he=>by simp at he; obtain ⟨a,b,-,rfl⟩:=he; exact ⟨_,_,rfl⟩,fun x=>eq_40 t x L⟩
theorem eq_42:Nonempty Gam:=by
 obtain ⟨w⟩:Nonempty World:=inferInstance
 obtain ⟨p⟩:Nonempty Program:=inferInstance
 obtain ⟨os⟩:Nonempty OsState:=inferInstance
 obtain ⟨t⟩:Nonempty Tok:=inferInstance
 let D:=fun L:List (Str × Value)=>(⟨.type "dict",none,.dict (L.map fun y=>(⟨0,.str y.1 t,y.2⟩:DictEntry)).toArray 0,#[]⟩:Obj)
 let B:Heap:={ objs:=#[D (Manifest.builtinsNames.map fun y=>(Str.ofString y.1,bootValue y.2 y.1)).reverse,D [],D [],D []] }
 have hK:Frag.In [] B:=fun _ _ q=>by simp at q
 exact ⟨⟨p,w,B,os,[],p,[],fun x=>List.lookup x [],bootBuiltins,0,hK,⟨eq_41 (t:=t) [] rfl,eq_41 (t:=t) _ rfl,⟨_,eq_41 (t:=t) [] rfl,rfl⟩,fun _ _=>rfl,fun _ _ _ _ _ _=>rfl⟩⟩⟩
instance:Nonempty Gam:=eq_42
section
variable {Γ:Gam} {fn:FnS} {n:Nat} {σ:St} {env:Env} {G:PH} {s:Shared} {c:Cx Γ fn n}
theorem Cx.RP.now {x:V} {v:Value} (r:c.Rep G σ s) (h:VR G v x):c.RP G σ x v s:=⟨G,.refl G,r,h⟩
theorem Cx.RP.mk {G':PH} {x:V} {v:Value} (l:PLe G G') (r:c.Rep G' σ s) (h:VR G' v x):c.RP G σ x v s:=⟨G',l,r,h⟩
theorem Cx.RP.up {G':PH} {x:V} {v:Value} (l:PLe G G') (h:c.RP G' σ x v s):c.RP G σ x v s:=by obtain ⟨G'',l',r,v⟩:=h; exact ⟨G'',l.trans l',r,v⟩
theorem Cx.XP.up {G':PH} {Q:V→St→Prop} {v:Value} (l:PLe G G') (h:c.XP G' Q v s):c.XP G Q v s:=by obtain ⟨G'',x,σ',l',r,v,q⟩:=h; exact ⟨G'',x,σ',l.trans l',r,v,q⟩
theorem Cx.EP.up {G':PH} {X:St→Prop} {v:Value} (l:PLe G G') (h:c.EP G' X v s):c.EP G X v s:=by obtain ⟨G'',σ',l',r,x⟩:=h; exact ⟨G'',σ',l.trans l',r,x⟩
theorem Cx.Rep.toks {tk:Nat} (h:c.Rep G σ s):c.Rep G σ { s with toks:=tk }:=N0.Rep.toks h
theorem Cx.Good.hh {c:Cx Γ fn n} (g:c.Good):c.A.handled=none:=g.ao.handled
theorem EnvOk.kindOf (h:EnvOk fn env) (ok:FnOk Γ fn) {k:Nat} {x:Str} {kd:NameKind} (e:fn.names[k]?=some (x,kd)):env.kindOf x=some kd:=by
 show env.scope.names.lookup x=some kd
 rw [h.scope]; exact Y61 ok.nd e
theorem EnvOk.fun_ (h:EnvOk fn env) (ok:FnOk Γ fn):env.scope.kind=.function:=by rw [h.scope]; exact ok.kind
theorem EnvOk.glob (h:EnvOk fn env) (ok:FnOk Γ fn):env.globals=mainGlobals:=h.globals.trans ok.glob
theorem EnvOk.bi (h:EnvOk fn env) (ok:FnOk Γ fn):env.builtins=builtinsNs:=h.builtins.trans ok.bi
theorem Y62 (ok:FnOk Γ fn) {k:Nat} {x:Str} {kd:NameKind} (e:fn.names[k]?=some (x,kd)):(x == ("__debug__" : Str))=false:=by
 rw [beq_eq_false_iff_ne]
 intro q
 exact ok.dbg (q▸mem_map_of_mem (f:=(·.1)) (mem_of_getElem? e))
theorem Cx.Rep.ground (r:c.Rep G σ s):∀ a o,Γ.B.get? a=some o→s.heap.get? a=some o:=by
 obtain ⟨own,m,cs,b,_⟩:=r
 exact fun a o e=>b.hG a o (b.hB a o e)
theorem PE.int {i:Int} {k:Nat} {p:Pos}:PE Γ fn n σ (.Constant (.int i) k p) (.int i):=⟨fun _ _ _ r=>by with_reducible exact kit <| wpAny_Constant_int (Cx.RP.now r.toks (.int _ _))⟩
theorem PE.none {k:Nat} {p:Pos}:PE Γ fn n σ (.Constant .none k p) .none:=⟨fun _ _ _ r=>by
 show wpAny _ _ (pure Value.none) _ _ _
 with_reducible exact wpAny_pure (Cx.RP.now r .none)⟩
theorem PE.bool {b:Bool} {k:Nat} {p:Pos}:PE Γ fn n σ (.Constant (.bool b) k p) (.bool b):=⟨fun _ _ _ r=>by
 show wpAny _ _ (pure (Value.bool b)) _ _ _
 with_reducible exact wpAny_pure (Cx.RP.now r (.bool b))⟩
theorem PE.str {x:Str} {k:Nat} {p:Pos}:PE Γ fn n σ (.Constant (.str x) k p) (.str x):=⟨fun _ _ _ r=>by
 rw [eval_Constant]; exact kit <| wpAny_mkText (Cx.RP.now r.toks (.str _ _))⟩
theorem PE.byt {x:List UInt8} {k:Nat} {p:Pos}:PE Γ fn n σ (.Constant (.bytes x) k p) (.byt x):=⟨fun _ _ _ r=>by with_reducible exact kit <| Constant_bytes (Cx.RP.now r.toks (.byt _ _))⟩
theorem PE.loc (k:Nat) {x:Str} {p:Pos} {u:V} (hn:fn.names[k]?=some (x,.local)) (hv:σ.loc[k]?=some (some u)):PE Γ fn n σ (.Name x p) u:=⟨fun c G s r=>by
 obtain ⟨own,m,cs,b,hr,lr⟩:=id r
 refine X12 (lr.1 k x _ u hn hv) fun v hm hvr=>?_
 with_reducible exact Y11 (kit <| wpAny_loadName_local (lr.3.eo.fun_ lr.3.ok) (lr.3.eo.kindOf lr.3.ok hn) b.L.ns hm (Cx.RP.now r hvr)) (Y62 lr.3.ok hn)⟩
theorem PE.cell (k:Nat) {x:Str} {p:Pos} {u:V} (hn:fn.names[k]?=some (x,.cell)) (hv:σ.loc[k]?=some (some u)):PE Γ fn n σ (.Name x p) u:=⟨fun c G s r=>by
 obtain ⟨own,m,cs,b,hr,lr⟩:=id r
 refine X23 (lr.1 k x _ u hn hv) fun a v hc ho hvr=>?_
 have hcell:=(b.L.cell x a hc).1
 dsimp only at hcell
 rw [ho] at hcell
 with_reducible exact Y11 (kit <| wpAny_loadName_cell (lr.3.eo.fun_ lr.3.ok) (lr.3.eo.kindOf lr.3.ok hn) hc hcell (Cx.RP.now r hvr)) (Y62 lr.3.ok hn)⟩
noncomputable def GV (Γ:Gam) (x:Str) (u:V):Prop :=
 (∃ v,nsIn Γ.K mainGlobals x=some (some v)∧∀ G,VR G v u)∨(nsIn Γ.K mainGlobals x=some none∧x≠"__name__"∧∃ v,bootBuiltins x=some v∧∀ G,VR G v u)
theorem PE.glob (k:Nat) {x:Str} {p:Pos} {u:V} (hn:fn.names[k]?=some (x,.globalImplicit)) (hg:GV Γ x u):PE Γ fn n σ (.Name x p) u:=⟨fun c G s r=>by
 have hG:=Γ.hT.g.keeps r.ground
 have hb:=Γ.hT.b.keeps r.ground
 refine kit <| Name_function_global (r.good.eo.fun_ r.good.ok) (r.good.eo.kindOf r.good.ok hn) ?_ (Y62 r.good.ok hn)
 rcases hg with ⟨v,e,hv⟩ | ⟨e,hne,v,hbv,hv⟩
 ·exact loadGlobal_global (mg:=Γ.mg) (by rw [r.good.eo.glob r.good.ok]; exact hG) (mg_of Γ.hK Γ.hT.g e) (Cx.RP.now r (hv G))
 ·exact loadGlobal_builtin (mg:=Γ.mg) (mb:=Γ.mb) (by rw [r.good.eo.glob r.good.ok]; exact hG) (mg_none_of Γ.hK Γ.hT.g e) (by rw [r.good.eo.bi r.good.ok]; exact hb) ((Γ.hT.builtins x hne).trans hbv) (Cx.RP.now r (hv G))⟩
theorem PE.two {l r:Expr} {a b x:V} (h1:PE Γ fn n σ l a) (h2:PE Γ fn n σ r b) {c:Cx Γ fn n} {G:PH} {s:Shared} {t:Value→Value→Sem Value} (rep:c.Rep G σ s)
  (k:∀ G₁ s₁ v w,c.Rep G₁ σ s₁→VR G₁ v a→VR G₁ w b→wpAny (model Γ.prog Γ.w) c.A (t v w) (c.RP G₁ σ x) NoX s₁) :
  wpAny (model Γ.prog Γ.w) c.A (eval l c.env) (fun v s₁=>wpAny (model Γ.prog Γ.w) c.A (eval r c.env) (fun w s₂=>wpAny (model Γ.prog Γ.w) c.A (t v w) (c.RP G σ x) NoX s₂) NoX s₁) NoX s :=
 Y3 (h1.run c G s rep) (fun v s₁ ⟨G₁,l₁,r₁,v₁⟩=>wpAny_mono (h2.run c G₁ s₁ r₁) (fun w s₂ ⟨G₂,l₂,r₂,v₂⟩ =>
  wpAny_mono (k G₂ s₂ v w r₂ (v₁.mono l₂) v₂) (fun _ _ q=>q.up (l₁.trans l₂)) fun _ _ q=>q) fun _ _ q=>q)
theorem PE.bin {l r:Expr} {op:Operator} {p:Pos} {a b x:V} (h1:PE Γ fn n σ l a) (h2:PE Γ fn n σ r b)
  (k:∀ (c:Cx Γ fn n) G s v w,c.Rep G σ s→VR G v a→VR G w b→wpAny (model Γ.prog Γ.w) c.A (binaryOp op v w) (c.RP G σ x) NoX s):PE Γ fn n σ (.BinOp l op r p) x:=⟨fun c G s rep=>by
 with_reducible exact Y12 (PE.two h1 h2 rep fun G₁ s₁ v w=>k c G₁ s₁ v w)⟩
theorem Y63 {a b:Int} (h:a.natAbs<2 ^ 64∨b.natAbs<2 ^ 64):IntMulOk a b:=by
 unfold IntMulOk
 have key:∀ x:Int,x.natAbs<2 ^ 64→decide (Builtin.Int.intBits x > shortFactorBits)=false:=fun x hx=>by
  rw [decide_eq_false_iff_not]
  unfold Builtin.Int.intBits shortFactorBits
  intro hlt
  split at hlt
  ·exact absurd hlt dD
  ·rename_i h0
   have h0':x.natAbs≠0:=fun q=>h0 (by simpa using q)
   have:=(Nat.log2_lt h0').mpr hx
   exact absurd hlt (not_lt_of_le (lA1 (lsl this)))
 rcases h with h | h
 ·rw [key a h]; simp
 ·rw [key b h]; simp
theorem PE.neg {l:Expr} {p:Pos} {a:Int} (h1:PE Γ fn n σ l (.int a)):PE Γ fn n σ (.UnaryOp .USub l p) (.int (-a)):=⟨fun c G s rep=>by
 with_reducible refine Y13 (Y3 (h1.run c G s rep) (Cx.RP.el fun v s₁ G₁ l₁ r₁ v₁=>?_))
 obtain ⟨_,rfl⟩:=v₁.inv; with_reducible exact kit <| neg_int (Cx.RP.mk l₁ r₁.toks (.int _ _))⟩
theorem Y64 {a b:Int} (h:b.natAbs<2 ^ 64):Builtin.divisionGoesByPylong a b=false:=by
 unfold Builtin.divisionGoesByPylong
 have:(if (b == 0)=true then 0 else b.natAbs.log2 / 30+1)≤3:=by
  split
  ·exact lA0
  ·rename_i h0
   have h0':b.natAbs≠0:=fun q=>h0 (by simpa using q)
   exact div_lt_of_lt_mul (lt_of_lt_of_le ((Nat.log2_lt h0').mpr h) dD)
 simp only [Bool.and_eq_false_iff,decide_eq_false_iff_not]
 exact .inl (not_lt_of_le (lA1 this))
noncomputable def ins (G:PH) (a:Addr) (o:Obj):PH:=fun b=>if b=a then some o else G b
theorem Y65 {G:PH} {a:Addr} {o:Obj}:ins G a o a=some o:=if_pos rfl
theorem Y66 {G:PH} {a:Addr} {o:Obj} (h:G a=none):PLe G (ins G a o):=fun b x e=>by
 unfold ins; split
 ·rename_i q; subst q; rw [h] at e; cases e
 ·exact e
structure Use (c:Cx Γ fn n) (G:PH) (σ:St) (s:Shared) (m:Str→Option Value) (news:List (Addr × Obj)):Prop where
 F:Fr Γ.B c.env.locals s.heap m
 N:News Γ.B c.env.locals s.heap news
 back:∀ h' tk,Fr Γ.B c.env.locals h' m→News Γ.B c.env.locals h' news→c.Rep G σ { s with heap:=h',toks:=tk }
 put:∀ h' tk a o,s.heap.get? a=none→Fr Γ.B c.env.locals h' m→News Γ.B c.env.locals h' ((a,o) :: news)→c.Rep (ins G a o) σ { s with heap:=h',toks:=tk }∧PLe G (ins G a o)
 full:∀ a o,s.heap.get? a=some o→a≠c.env.locals→Γ.B.get? a=none→(a,o)∈news
theorem HR.grow {G own:PH} {hp:HP} (h:HR Γ G own hp) {G':PH} (l:PLe G G'):HR Γ G' own hp:=by
 obtain ⟨dx,h1,h2,h3⟩:=h
 exact ⟨dx,fun a o e=>(h1 a o e).mono l,h2,h3⟩
theorem LRk.grow {env:Env} {G:PH} {m cs:Str→Option Value} {x:Str} {u:V} {kd:NameKind} (h:LRk env G m cs x u kd) {G':PH} (l:PLe G G'):LRk env G' m cs x u kd:=by
 cases kd <;> try exact h
 ·refine X12 h fun v h1 h2=>?_; clear h; exact ⟨v,h1,h2.mono l⟩
 ·refine X23 h fun a v h1 h2 h3=>?_; clear h; exact (EI2 a v ⟨h1,h2,h3.mono l⟩)
theorem LR.grow {P:Prop} {env:Env} {G:PH} {m cs:Str→Option Value} {loc:List (Option V)} (h:LR P fn env G m cs loc) {G':PH} (l:PLe G G'):LR P fn env G' m cs loc :=
 ⟨fun k x kd u h1 h2=>(h.1 k x kd u h1 h2).grow l,h.2,h.3⟩
theorem Base.ins {own:PH} {frs:List FrI} (b:Base Γ G own frs s) {a:Addr} {o:Obj} (h:s.heap.get? a=some o) (ho:own a=none) (hf:∀ f∈frs,f.env.locals≠a∧∀ x,f.env.cells.lookup x≠some a) (hg:G a=none) :
  Base Γ (ins G a o) own frs s:=by
 have ne:∀ b,b≠a→N0.ins G a o b=G b:=fun b q=>if_neg q
 refine ⟨b.gens,b.os,fun x y e=>Y66 hg x y (b.hB x y e),fun x y e=>?_,b.hO,fun x y e=>?_,fun f hf'=>?_,b.nodup,b.real⟩
 ·unfold N0.ins at e
  split at e
  ·rename_i q; subst q; obtain rfl:=Option.some.inj e; exact h
  ·exact b.hG x y e
 ·unfold N0.ins
  split
  ·rename_i q; subst q; rw [ho] at e; cases e
  ·exact b.disj x y e
 ·have F:=b.fr f hf'
  refine ⟨F.frame,F.kind,F.cnd,F.above,F.ns,(ne _ (hf f hf').1).trans F.offG,F.offO,fun x c hc=>?_⟩
  refine An3 (F.cell x c hc) fun h1 h2 h3=>?_
  exact ⟨h1,(ne _ fun q=>(hf f hf').2 x (q▸hc)).trans h2,h3⟩
theorem Base.fresh {own:PH} {frs:List FrI} (b:Base Γ G own frs s) {a:Addr} (hn:s.heap.get? a=none):own a=none∧G a=none∧∀ f∈frs,f.env.locals≠a∧∀ x,f.env.cells.lookup x≠some a:=by
 refine ⟨?_,?_,fun f hf=>⟨fun q=>?_,fun x q=>?_⟩⟩
 ·cases q:own a with
  | none=>rfl
  | some x=>rw [b.hO a x q] at hn; cases hn
 ·cases q:G a with
  | none=>rfl
  | some x=>rw [b.hG a x q] at hn; cases hn
 ·refine X32 ((b.fr f hf).ns) fun o' U0 U1 h4 U2=>?_
  rw [q,hn] at h4; cases h4
 ·refine X12 (((b.fr f hf).cell x a q).1) fun o' h4 U3=>?_
  rw [hn] at h4; cases h4
theorem Cx.Rep.use (r:c.Rep G σ s):∃ m news,Use c G σ s m news:=by
 obtain ⟨own,m,cs,b,hr,lr⟩:=r
 refine (EI2 m _ ⟨b.Fr,b.News,fun h' tk F N=>⟨own,m,cs,b.keptN F N,hr,lr⟩,fun h' tk a o hn F N=>?_,fun a o e h1 h2=>Y59.mpr ⟨by simpa [isL] using h1,h2,e⟩⟩)
 have N':=fun p hp=>N p (mem_cons_of_mem _ hp)
 refine An3 (b.fresh hn) fun ho hg hf=>?_
 have l:=Y66 (o:=o) hg
 exact ⟨⟨own,m,cs,(b.keptN (tk:=tk) F N').ins (N (a,o) (.head _)).1 ho (fun f hf'=>by
  rcases List.mem_cons.mp hf' with rfl | h
  ·exact hf _ (.head _)
  ·exact hf f (mem_cons_of_mem _ h)) hg,hr.grow l,lr.grow l⟩,l⟩
theorem Cx.Rep.get (r:c.Rep G σ s) {a:Addr} {o:Obj} (h:G a=some o):s.heap.get? a=some o:=by
 obtain ⟨own,m,cs,b,_⟩:=r
 exact b.hG a o h
structure PEs (Γ:Gam) (fn:FnS) (n:Nat) (σ:St) (es:List Expr) (xs:List V):Prop where
 run:∀ (c:Cx Γ fn n) G s pos,c.Rep G σ s→wpAny (model Γ.prog Γ.w) c.A (spliced (backTo pos (starEach es c.env))) (fun vs s'=>∃ G',PLe G G'∧c.Rep G' σ s'∧VRs G' vs xs) NoX s
 plain:∀ env pos,((backTo pos (starEach es env)).any (·.1))=false
theorem PEs.nil:PEs Γ fn n σ [] []:=⟨fun c G s pos r=>Y28 ⟨G,.refl G,r,.nil⟩,fun _ _=>rfl⟩
theorem Y67 {e:Expr} {rest:List Expr} {env:Env} (h:isStarred e=false):starEach (e :: rest) env=(false,eval e env) :: starEach rest env:=by
 cases e <;> first | rfl | cases h
theorem PEs.cons {e:Expr} {es:List Expr} {x:V} {xs:List V} (h:PE Γ fn n σ e x) (hs:PEs Γ fn n σ es xs) (hst:isStarred e=false:=by rfl):PEs Γ fn n σ (e :: es) (x :: xs):=by
 refine ⟨fun c G s pos r=>?_,fun env pos=>?_⟩
 ·rw [Y67 hst]
  show wpAny _ _ (spliced ((false,eval e c.env) :: backTo pos (starEach es c.env))) _ _ _
  refine Y29 (Y3 (h.run c G s r) (fun v s₁ ⟨G₁,l₁,r₁,v₁⟩=>wpAny_mono (hs.run c G₁ s₁ pos r₁) (fun vs s₂ ⟨G₂,l₂,r₂,v₂⟩=>?_) fun _ _ q=>q))
  exact ⟨G₂,l₁.trans l₂,r₂,.cons (v₁.mono l₂) v₂⟩
 ·rw [Y67 hst]
  exact hs.plain env pos
theorem Y68 {M:Model} {A:Around} {E:Value→Shared→Prop} {pos:Pos} {f:Value} {es:List Expr} {Q:Value→Shared→Prop} (hf:∀ a,f≠.ref a)
  (hp:((backTo pos (starEach es env)).any (·.1))=false) (h:wpAny M A (spliced (backTo pos (starEach es env))) (fun vs s₁=>wpAny M A (call f vs) Q E s₁) E s) :
  wpAny M A (callWith pos f [] (backTo pos (starEach es env)) (backToKw pos (keywordEach [] env))) Q E s:=by
 refine Y34 (P:=fun _=>True) (by rw [hp]; rfl) (fun h _=>⟨.machine,.inr (.inl rfl),?_⟩) ?_
 ·cases f <;> first | exact Looks.now | exact absurd rfl (hf _)
 ·cases q:backTo pos (starEach es env) with
  | nil =>
   rw [q] at h
   intro Γ p hΓ
   have h':wpAny M A (call f []) Q E s:=h Γ p hΓ
   exact Y33 (Q:=fun a s₁=>True∧wpAny M A (call f ([]++a.pos) a.kw) Q E s₁) ⟨trivial,h'⟩ Γ p hΓ
  | cons p rest =>
   rw [q] at h hp
   obtain ⟨b,t⟩:=p
   cases b with
   | true=>cases hp
   | false=>exact Y32 (Y3 h (fun vs s₁ h₁=>⟨trivial,h₁⟩))
theorem Y69 {env:Env} {x:Str} {p pos:Pos} {args:List Expr} {ks:List Keyword} {M:Model} {A:Around} {E:Value→Shared→Prop} {Q:Value→Shared→Prop}
  (h:wpAny M A (eval (.Name x p) env) (fun f s₁=>wpAny M A (callWith pos f [] (backTo pos (starEach args env)) (backToKw pos (keywordEach ks env))) Q E s₁) E s) :
  wpAny M A (eval (.Call (.Name x p) args ks pos) env) Q E s:=by
 show wpAny M A (do callWith pos (← eval (.Name x p) env) [] (backTo pos (starEach args env)) (backToKw pos (keywordEach ks env))) Q E s
 exact Y4 h
theorem PE.call {x:Str} {p pos:Pos} {f:Value} {args:List Expr} {xs:List V} {u:V} (hf:PE Γ fn n σ (.Name x p) (.bi f)) (ha:PEs Γ fn n σ args xs)
  (k:∀ (c:Cx Γ fn n) G s vs,c.Rep G σ s→VRs G vs xs→wpAny (model Γ.prog Γ.w) c.A (PySem.call f vs) (c.RP G σ u) NoX s):PE Γ fn n σ (.Call (.Name x p) args [] pos) u:=⟨fun c G s rep=>by
 refine Y69 (Y3 (hf.run c G s rep) (Cx.RP.el fun v s₁ G₁ l₁ r₁ v₁=>?_))
 have hv:v=f∧∀ a,v≠.ref a:=by cases v₁ <;> exact ⟨rfl,by intro _ e; cases e⟩
 obtain ⟨rfl,hn⟩:=hv
 refine Y68 hn (ha.plain _ _) (Y3 (ha.run c G₁ s₁ pos r₁) (fun vs s₂ q=>?_))
 refine X13 q fun G₂ l₂ r₂ v₂=>?_; clear q
 exact Y3 (k c G₂ s₂ vs r₂ v₂) (fun _ _ q=>q.up (l₁.trans l₂))⟩
set_option tactic.hygienic true in
theorem VRs.one {v:List Value} {x:V} (h:VRs G v [x]):∃ a,v=[a]∧VR G a x:=by cases h; rename_i h hs; cases hs; exact ⟨_,rfl,h⟩
set_option tactic.hygienic true in
theorem VRs.two {v:List Value} {x y:V} (h:VRs G v [x,y]):∃ a b,v=[a,b]∧VR G a x∧VR G b y:=by
 cases h; rename_i h hs; refine Ex1 hs.one fun b Z0=>?_; obtain ⟨rfl,h'⟩:=Z0; exact (EI2 _ _ ⟨rfl,h,h'⟩)
theorem PE.min {x:Str} {p pos:Pos} {e₁ e₂:Expr} {a b:Int} (hf:PE Γ fn n σ (.Name x p) (.bi (.builtin "min"))) (ha:PEs Γ fn n σ [e₁,e₂] [.int a,.int b]) :
  PE Γ fn n σ (.Call (.Name x p) [e₁,e₂] [] pos) (.int (if b<a then b else a)):=PE.call hf ha fun c G s vs rep hv=>by
 refine Ex2 hv.two fun v w Z1=>?_; obtain ⟨rfl,Z0⟩:=Z1; refine An2 Z0 fun h1 h2=>?_; clear Z0
 obtain ⟨_,rfl⟩:=h1.inv; obtain ⟨_,rfl⟩:=h2.inv
 refine Ex2 rep.use fun m news U=>?_
 exact kit <| min_two_N rep.good.hh U.F U.N fun h' tk F N=>.now (U.back h' tk F N) (.int _ _)
theorem PE.max {x:Str} {p pos:Pos} {e₁ e₂:Expr} {a b:Int} (hf:PE Γ fn n σ (.Name x p) (.bi (.builtin "max"))) (ha:PEs Γ fn n σ [e₁,e₂] [.int a,.int b]) :
  PE Γ fn n σ (.Call (.Name x p) [e₁,e₂] [] pos) (.int (if b > a then b else a)):=PE.call hf ha fun c G s vs rep hv=>by
 refine Ex2 hv.two fun v w Z1=>?_; obtain ⟨rfl,Z0⟩:=Z1; refine An2 Z0 fun h1 h2=>?_; clear Z0
 obtain ⟨_,rfl⟩:=h1.inv; obtain ⟨_,rfl⟩:=h2.inv
 refine Ex2 rep.use fun m news U=>?_
 exact kit <| max_two_N rep.good.hh U.F U.N fun h' tk F N=>.now (U.back h' tk F N) (.int _ _)
theorem VR.isList {c:Cx Γ fn n} (r:c.Rep G σ s) {v:Value} {xs:List V} (h:VR G v (.lst xs)):∃ a vs,v=.ref a∧s.heap.IsList a (List.toArray vs)∧VRs G vs xs:=by
 refine Ex4 h.inv fun U0 U1 U2 U3 Z1=>?_; obtain ⟨rfl,Z0⟩:=Z1; refine An4 Z0 fun h hc hd hs=>?_; clear Z0
 exact (EI2 _ _ ⟨rfl,⟨_,r.get h,hc,_,hd⟩,hs⟩)
theorem PE.lenL {x:Str} {p pos:Pos} {e:Expr} {xs:List V} (hf:PE Γ fn n σ (.Name x p) (.bi (.builtin "len"))) (ha:PE Γ fn n σ e (.lst xs)) (hz:xs.length≤1000000) (hst:isStarred e=false:=by rfl) :
  PE Γ fn n σ (.Call (.Name x p) [e] [] pos) (.int xs.length):=PE.call hf (.cons ha .nil hst) fun c G s vs rep hv=>by
 refine Ex1 hv.one fun v Z1=>?_; obtain ⟨rfl,h1⟩:=Z1
 refine Ex2 (h1.isList rep) fun a vs Z2=>?_; obtain ⟨rfl,Z0⟩:=Z2; refine An2 Z0 fun hl hs=>?_; clear Z0
 have e1:(List.toArray vs).size=xs.length:=by rw [size_toArray]; exact hs.length
 exact kit <| call_len_list hl (by rw [e1]; exact Int.ofNat_lt.mpr (lt_of_le_of_lt hz dD)) (by rw [e1]; exact .now rep.toks (.int _ _))
theorem PE.lenB {x:Str} {p pos:Pos} {e:Expr} {b:List UInt8} (hf:PE Γ fn n σ (.Name x p) (.bi (.builtin "len"))) (ha:PE Γ fn n σ e (.byt b)) (hz:b.length≤1000000) (hst:isStarred e=false:=by rfl) :
  PE Γ fn n σ (.Call (.Name x p) [e] [] pos) (.int b.length):=PE.call hf (.cons ha .nil hst) fun c G s vs rep hv=>by
 refine Ex1 hv.one fun v Z0=>?_; obtain ⟨rfl,h1⟩:=Z0
 obtain ⟨_,rfl⟩:=h1.inv
 exact kit <| len_bytes (by rw [size_toArray]; exact lA1 hz) (by rw [size_toArray]; exact .now rep.toks (.int _ _))
end
section
variable {Γ:Gam} {fn:FnS} {n:Nat} {σ:St} {env:Env} {G:PH} {s:Shared} {c:Cx Γ fn n}
noncomputable def NoSl (e:Expr):Prop:=∀ o i,subscripted e false o i=operate [o,i] (getItem o i)
theorem PE.sub2 {value slice:Expr} {p:Pos} {a b x:V} (h1:PE Γ fn n σ value a) (h2:PE Γ fn n σ slice b)
  (k:∀ (c:Cx Γ fn n) G s v w,c.Rep G σ s→VR G v a→VR G w b→wpAny (model Γ.prog Γ.w) c.A (subscriptTail value slice v w) (c.RP G σ x) NoX s):PE Γ fn n σ (.Subscript value slice p) x:=⟨fun c G s rep=>by
 with_reducible exact Y14 (PE.two h1 h2 rep fun G₁ s₁ v w=>k c G₁ s₁ v w)⟩
theorem PE.itemL {value slice:Expr} {p:Pos} {xs:List V} {i:Int} {x:V} (h1:PE Γ fn n σ value (.lst xs)) (h2:PE Γ fn n σ slice (.int i)) (h0:0≤i) (hx:xs[i.toNat]?=some x) (hz:xs.length≤1000000) (hs:NoSl slice) :
  PE Γ fn n σ (.Subscript value slice p) x:=PE.sub2 h1 h2 fun c G s v w rep hv hw=>by
 obtain ⟨_,rfl⟩:=hw.inv
 refine Ex2 (hv.isList rep) fun a vs Z1=>?_; obtain ⟨rfl,Z0⟩:=Z1; refine An2 Z0 fun hl hvs=>?_; clear Z0
 refine X12 (hvs.get hx) fun u hu hvr=>?_
 have hlt:i.toNat<xs.length:=(List.getElem?_eq_some_iff.mp hx).1
 exact kit <| tail_any hl.typeIs slot_list_getitem.lookup (wpAny_getItem_list hl h0 (i63 h0 hlt hz) (by simpa using hu) (.now rep hvr)) (hs _ _)
theorem PE.itemT {value slice:Expr} {p:Pos} {xs:List V} {i:Int} {x:V} (h1:PE Γ fn n σ value (.tup xs)) (h2:PE Γ fn n σ slice (.int i)) (h0:0≤i) (hx:xs[i.toNat]?=some x) (hz:xs.length≤1000000) (hs:NoSl slice) :
  PE Γ fn n σ (.Subscript value slice p) x:=PE.sub2 h1 h2 fun c G s v w rep hv hw=>by
 obtain ⟨_,rfl⟩:=hw.inv
 refine Ex4 hv.inv fun U0 U1 U2 U3 Z1=>?_; obtain ⟨rfl,Z0⟩:=Z1; refine An4 Z0 fun h hc hd hvs=>?_; clear Z0
 refine X12 (hvs.get hx) fun u hu hvr=>?_
 have hlt:i.toNat<xs.length:=(List.getElem?_eq_some_iff.mp hx).1
 have hlen:=hvs.length
 exact kit <| item_tupleT ⟨_,rep.get h,hc,_,hd⟩ (Y1 h0) (i63 h0 hlt hz) (j:=i.toNat) (by unfold seqIndex?; simp only [Int.not_lt.mpr h0,if_false]; rw [if_pos (by simp only [and_eq_true,decide_eq_true_eq]; exact ⟨h0,ilt h0 (Nat.lt_of_lt_of_eq hlt hlen.symm)⟩)]) (by simpa using hu) (.now rep hvr) (hs _ _)
theorem PE.itemB {value slice:Expr} {p:Pos} {b:List UInt8} {i:Int} (h1:PE Γ fn n σ value (.byt b)) (h2:PE Γ fn n σ slice (.int i)) (h0:0≤i) (hi:i<b.length) (hz:b.length≤1000000) (hs:NoSl slice) :
  PE Γ fn n σ (.Subscript value slice p) (.int (b.getD i.toNat 0).toNat):=PE.sub2 h1 h2 fun c G s v w rep hv hw=>by
 obtain ⟨_,rfl⟩:=hw.inv
 obtain ⟨_,rfl⟩:=hv.inv
 exact kit <| tail_any (typeIs_bytes _ _ _) FB.slot_bytes_getitem.lookup (getItem_bytes (lA1 hz) h0 hi (.now rep.toks (.int _ _))) (hs _ _)
inductive PP (Γ:Gam) (fn:FnS) (n:Nat) (σ:St):Option Expr→Option Int→Prop
 | none:PP Γ fn n σ none none
 | some {e:Expr} {i:Int} (h:PE Γ fn n σ e (.int i)):PP Γ fn n σ (some e) (some i)
noncomputable def cutL {α:Type} (lo hi:Option Int) (l:List α):List α:=(l.drop (lo.elim 0 Int.toNat)).take (hi.elim l.length Int.toNat - lo.elim 0 Int.toNat)
theorem Y70 {α:Type} (i:Int) (l:List α):cutL (some i) none l=l.drop i.toNat:=by
 unfold cutL; simp only [elim]; rw [take_of_length_le (by simp)]
theorem Y71 {α:Type} (i:Int) (l:List α):cutL none (some i) l=l.take i.toNat:=by
 unfold cutL; simp only [elim,drop_zero,Nat.sub_zero]
theorem Y72 {α:Type} (i j:Int) (l:List α):cutL (some i) (some j) l=(l.drop i.toNat).take (j.toNat - i.toNat):=rfl
noncomputable def NN (x:Option Int):Prop:=∀ i,x=some i→0≤i
theorem NN.none:NN none:=fun _ e=>by cases e
theorem NN.some {i:Int} (h:0≤i):NN (some i):=fun _ e=>by cases e; exact h
theorem eq_43 {k:Nat} {i:Int} (h:0≤i):clipAt k i=min i.toNat k:=by
 have:=clipAt_nat k i.toNat
 rwa [toNat_of_nonneg h] at this
theorem Y73 {α:Type} {lo hi:Option Int} (h1:NN lo) (h2:NN hi) (l:List α) :
  (l.drop (lo.elim 0 (clipAt l.length))).take (hi.elim l.length (clipAt l.length) - lo.elim 0 (clipAt l.length))=cutL lo hi l:=by
 unfold cutL
 have e1:l.drop (lo.elim 0 (clipAt l.length))=l.drop (lo.elim 0 Int.toNat):=by
  cases lo with
  | none=>rfl
  | some i =>
   show l.drop (clipAt l.length i)=l.drop i.toNat
   rw [eq_43 (h1 i rfl)]
   rcases le_total i.toNat l.length with h | h
   ·rw [min_eq_left h]
   ·rw [min_eq_right h,drop_of_length_le (le_refl _),drop_of_length_le h]
 rw [e1]
 have a1:lo.elim 0 (clipAt l.length)=min (lo.elim 0 Int.toNat) l.length:=by
  cases lo with
  | none=>simp
  | some i=>exact eq_43 (h1 i rfl)
 have a2:hi.elim l.length (clipAt l.length)=min (hi.elim l.length Int.toNat) l.length:=by
  cases hi with
  | none=>simp
  | some i=>exact eq_43 (h2 i rfl)
 rw [a1,a2]
 apply List.ext_getElem?
 intro j
 simp only [List.getElem?_take,List.getElem?_drop]
 split <;> split <;> first | rfl | (rename_i p q; rw [getElem?_eq_none (le_of_not_lt fun z=>q (lt_of_lt_of_le p (by rw [min_eq_left (Nat.le_of_lt (lt_of_le_of_lt (le_add_right ..) z))]; exact Nat.sub_le_sub_right (min_le_left ..) _)))]) | (rename_i p q; rw [eq_comm,getElem?_eq_none (le_of_not_lt fun z=>p (by rw [min_eq_left (Nat.le_of_lt (lt_of_le_of_lt (le_add_right ..) z))]; exact Nat.lt_sub_iff_add_lt'.mpr (Nat.lt_min.mpr ⟨Nat.lt_sub_iff_add_lt'.mp q,z⟩)))])
theorem PP.part {c:Cx Γ fn n} {x:Option Expr} {i:Option Int} (h:PP Γ fn n σ x i) {G:PH} {s:Shared} (r:c.Rep G σ s) :
  wpAny (model Γ.prog Γ.w) c.A (evalPart x c.env) (fun v s'=>∃ G',PLe G G'∧c.Rep G' σ s'∧IsPart v i) NoX s:=by
 cases h with
 | none=>exact Y16 ⟨G,.refl G,r,.none⟩
 | some h =>
  refine Y17 (Y3 (h.run c G s r) (Cx.RP.int fun s₁ G₁ U0 l₁ r₁ v₁=>?_))
  exact ⟨G₁,l₁,r₁,.int _ _⟩
theorem PE.slice {value:Expr} {lo hi:Option Expr} {sp p:Pos} {a x:V} {i j:Option Int} (h1:PE Γ fn n σ value a) (hl:PP Γ fn n σ lo i) (hu:PP Γ fn n σ hi j)
  (k:∀ (c:Cx Γ fn n) G s v l u,c.Rep G σ s→VR G v a→IsPart l i→IsPart u j →
   wpAny (model Γ.prog Γ.w) c.A (subscriptTail value (.Slice lo hi Option.none sp) v (.ref s.heap.objs.size)) (c.RP G σ x) NoX { s with heap:=s.heap.push { cls:=.type "slice",data:=.fields #[l,u,.none] } }) :
  PE Γ fn n σ (.Subscript value (.Slice lo hi Option.none sp) p) x:=⟨fun c G s rep=>by
 refine Y14 (Y3 (h1.run c G s rep) (Cx.RP.el fun v s₁ G₁ l₁ r₁ v₁=>?_))
 refine Y15 (Y3 (hl.part r₁) (fun l s₂ q=>?_))
 refine X13 q fun G₂ l₂ r₂ p₂=>?_; clear q
 refine Y3 (hu.part r₂) (fun u s₃ q=>?_)
 refine X13 q fun G₃ l₃ r₃ p₃=>?_; clear q
 refine Y16 (Y3 (k c G₃ s₃ v l u r₃ (v₁.mono (l₂.trans l₃)) p₂ p₃) (fun _ _ q=>q.up (l₁.trans (l₂.trans l₃))))⟩
theorem PE.sliceB {value:Expr} {lo hi:Option Expr} {sp p:Pos} {b:List UInt8} {i j:Option Int} (h1:PE Γ fn n σ value (.byt b)) (hl:PP Γ fn n σ lo i) (hu:PP Γ fn n σ hi j) (hi0:NN i) (hj0:NN j) (hz:b.length≤1000000) :
  PE Γ fn n σ (.Subscript value (.Slice lo hi Option.none sp) p) (.byt (cutL i j b)):=PE.slice h1 hl hu fun c G s v l u rep hv pl pu=>by
 obtain ⟨_,rfl⟩:=hv.inv
 refine Ex2 rep.use fun m news U=>?_
 refine kit <| KBc.slice_K U.F U.N rfl pl pu (by simp [KBw.bInts]; exact lA1 hz) (fun h' t' k F N U0=>?_) rfl (fun r=>by rcases value with _ | _ <;> rfl)
 refine .now (U.back h' k F N) ?_
 rw [KBc.picked_eq,show (List.toArray b).size=b.length from size_toArray ..,show (List.toArray b).toList=b from rfl,Y73 hi0 hj0]
 exact .byt _ _
theorem Y74 {prog:Program} {w:World} {A:Around} {E:Value→Shared→Prop} {value slice:Expr} {h₀:Heap} {L:Addr} {m:Str→Option Value} {news:List (Addr × Obj)} {l:Addr} {items:Array Value} {vl vu:Value} {lo hi:Option Int} {Q:Value→Shared→Prop}
  (F:Fr h₀ L s.heap m) (N:News h₀ L s.heap news) (hl:s.heap.IsList l items) (pl:IsPart vl lo) (pu:IsPart vu hi)
  (h:∀ h',Fr h₀ L h' m→News h₀ L h' ((s.heap.objs.size+1,{ cls:=.type "list",data:=.seq (slicePick items lo hi none) }) :: news)→Q (.ref (s.heap.objs.size+1)) { s with heap:=h' })
  (hs:subscripted slice false (.ref l) (.ref s.heap.objs.size)=operate [.ref s.heap.objs.size,.ref l] (getItem (.ref l) (.ref s.heap.objs.size))) (hsz:items.size≤sizeLine) :
  PySem.wpAny (model prog w) A (subscriptTail value slice (.ref l) (.ref s.heap.objs.size)) Q E { s with heap:=s.heap.push { cls:=.type "slice",data:=.fields #[vl,vu,.none] } }:=by
 refine tail_any (Heap.IsList.typeIs (s:={ s with heap:=s.heap.push { cls:=.type "slice",data:=.fields #[vl,vu,.none] } }) (hl.push _)) list_getitem_lookup
  (wpAny_getItem_list_slice (hl.push _) (Heap.IsSliceOf.new ..) pl pu .none (by simp) ?_ hsz) hs
 have N1:=News.push (F.push { cls:=.type "slice",data:=.fields #[vl,vu,.none] }) (N.grown fun _ _ e=>Heap.get?_push_of_some _ e) { cls:=.type "list",data:=.seq (slicePick items lo hi none) }
 rw [Heap.size_push] at N1
 show Q (.ref (s.heap.push _).objs.size) _
 rw [Heap.size_push]
 exact h _ ((F.push _).push _) N1
theorem PE.sliceL {value:Expr} {lo hi:Option Expr} {sp p:Pos} {xs:List V} {i j:Option Int} (h1:PE Γ fn n σ value (.lst xs)) (hl:PP Γ fn n σ lo i) (hu:PP Γ fn n σ hi j) (hi0:NN i) (hj0:NN j) (hz:xs.length≤1000000) :
  PE Γ fn n σ (.Subscript value (.Slice lo hi Option.none sp) p) (.lst (cutL i j xs)):=PE.slice h1 hl hu fun c G s v l u rep hv pl pu=>by
 refine Ex2 (hv.isList rep) fun a vs Z1=>?_; obtain ⟨rfl,Z0⟩:=Z1; refine An2 Z0 fun hl' hvs=>?_; clear Z0
 refine Ex2 rep.use fun m news U=>?_
 have hlen:=hvs.length
 refine kit <| Y74 U.F U.N hl' pl pu (fun h' F N=>?_) rfl (by rw [size_toArray,sizeLine_eq]; exact lA2 (eqL hlen) hz)
 obtain ⟨r',le⟩:=U.put h' s.toks _ _ (Heap.get?_none_of_le (lA0)) F N
 have hp:slicePick (List.toArray vs) i j Option.none=(cutL i j vs).toArray:=by
  rw [slicePick_plain,show (List.toArray vs).size=vs.length from size_toArray ..,show (List.toArray vs).toList=vs from rfl,Y73 hi0 hj0]
 refine .mk le r' (.lst (vs:=cutL i j vs) (n:=0) Y65 rfl (by show Data.seq _ 0=_; rw [hp]) ?_)
 have h':=((hvs.mono le).drop (i.elim 0 Int.toNat)).take (j.elim xs.length Int.toNat - i.elim 0 Int.toNat)
 unfold cutL
 rw [hlen]
 exact h'
end
section
variable {Γ:Gam} {fn:FnS} {n:Nat} {σ:St} {env:Env} {G:PH} {s:Shared} {c:Cx Γ fn n}
structure CmpOk (Γ:Gam) (fn:FnS) (n:Nat) (σ:St) (op:CmpOp) (a b:V) (r:Bool):Prop where
 run:∀ (c:Cx Γ fn n) G s v w,c.Rep G σ s→VR G v a→VR G w b→wpAny (model Γ.prog Γ.w) c.A (compareOp op v w) (c.RP G σ (.bool r)) NoX s
theorem CmpOk.lt {a b:Int}:CmpOk Γ fn n σ .Lt (.int a) (.int b) (decide (a<b)):=⟨fun c G s v w rep hv hw=>by obtain ⟨_,rfl⟩:=hv.inv; obtain ⟨_,rfl⟩:=hw.inv; with_reducible exact kit <| lt_int (Cx.RP.now rep (.bool _))⟩
theorem CmpOk.le {a b:Int}:CmpOk Γ fn n σ .LtE (.int a) (.int b) (decide (a≤b)):=⟨fun c G s v w rep hv hw=>by obtain ⟨_,rfl⟩:=hv.inv; obtain ⟨_,rfl⟩:=hw.inv; with_reducible exact kit <| le_int (Cx.RP.now rep (.bool _))⟩
theorem CmpOk.gt {a b:Int}:CmpOk Γ fn n σ .Gt (.int a) (.int b) (decide (b<a)):=⟨fun c G s v w rep hv hw=>by obtain ⟨_,rfl⟩:=hv.inv; obtain ⟨_,rfl⟩:=hw.inv; with_reducible exact kit <| gt_int (Cx.RP.now rep (.bool _))⟩
theorem CmpOk.ge {a b:Int}:CmpOk Γ fn n σ .GtE (.int a) (.int b) (decide (b≤a)):=⟨fun c G s v w rep hv hw=>by obtain ⟨_,rfl⟩:=hv.inv; obtain ⟨_,rfl⟩:=hw.inv; with_reducible exact kit <| ge_int (Cx.RP.now rep (.bool _))⟩
theorem CmpOk.eq {a b:Int}:CmpOk Γ fn n σ .Eq (.int a) (.int b) (decide (a=b)):=⟨fun c G s v w rep hv hw=>by
 obtain ⟨_,rfl⟩:=hv.inv; obtain ⟨_,rfl⟩:=hw.inv; refine kit <| eq_int ?_; rw [show (a == b)=decide (a=b) by rw [Bool.eq_iff_iff]; simp]; exact Cx.RP.now rep (.bool _)⟩
theorem CmpOk.ne {a b:Int}:CmpOk Γ fn n σ .NotEq (.int a) (.int b) (decide (a≠b)):=⟨fun c G s v w rep hv hw=>by
 obtain ⟨_,rfl⟩:=hv.inv; obtain ⟨_,rfl⟩:=hw.inv; refine kit <| ne_int ?_
 rw [show (a != b)=decide (a≠b) by rw [Bool.eq_iff_iff]; simp]; exact Cx.RP.now rep (.bool _)⟩
theorem CmpOk.neB {a b:List UInt8}:CmpOk Γ fn n σ .NotEq (.byt a) (.byt b) (decide (a≠b)):=⟨fun c G s v w rep hv hw=>by
 obtain ⟨_,rfl⟩:=hv.inv; obtain ⟨_,rfl⟩:=hw.inv; refine kit <| ne_bytes ?_
 rw [show (a.toArray.toList != b.toArray.toList)=decide (a≠b) by rw [Bool.eq_iff_iff]; simp]; exact Cx.RP.now rep (.bool _)⟩
noncomputable def V.isNone:V→Bool
 | .none=>true
 | _=>false
theorem VR.isNone {v:Value} {x:V} (h:VR G v x):(v == Value.none)=x.isNone:=by cases h <;> rfl
theorem CmpOk.isNot {a:V}:CmpOk Γ fn n σ .IsNot a .none (!a.isNone):=⟨fun c G s v w rep hv hw=>by
 obtain rfl:=hw.inv; refine kit <| isNot_none ?_; rw [hv.isNone]; exact Cx.RP.now rep (.bool _)⟩
theorem PE.cmp {l r:Expr} {op:CmpOp} {p:Pos} {a b:V} {x:Bool} (h1:PE Γ fn n σ l a) (h2:PE Γ fn n σ r b) (k:CmpOk Γ fn n σ op a b x) (hm:behindInMarks op r=false:=by rfl) :
  PE Γ fn n σ (.Compare l [op] [r] p) (.bool x):=⟨fun c G s rep=>Y18 (PE.two h1 h2 rep fun G₁ s₁ v w=>k.run c G₁ s₁ v w) hm⟩
theorem PT.cmp {l r:Expr} {op:CmpOp} {p:Pos} {a b:V} {x:Bool} (h1:PE Γ fn n σ l a) (h2:PE Γ fn n σ r b) (k:CmpOk Γ fn n σ op a b x) (hm:behindInMarks op r=false:=by rfl) :
  PT Γ fn n σ (.Compare l [op] [r] p) x:=⟨fun c G s rep=>by
 refine Y19 (Y3 (h1.run c G s rep) (Cx.RP.el fun v s₁ G₁ l₁ r₁ v₁=>?_)) hm
 refine Y3 (h2.run c G₁ s₁ r₁) (Cx.RP.el fun w s₂ G₂ l₂ r₂ v₂=>?_)
 refine Y3 (k.run c G₂ s₂ v w r₂ (v₁.mono l₂) v₂) (Cx.RP.bool fun s₃ G₃ l₃ r₃ v₃=>?_)
 exact Y21 ⟨rfl,G₃,l₁.trans (l₂.trans l₃),r₃⟩⟩
noncomputable def Plain (e:Expr):Prop:=∀ env w,PySem.isTrue e env w=(do let v ← w; standAt e.pos; holding [v] (truthy v))
theorem PT.bool {e:Expr} {b:Bool} (h:PE Γ fn n σ e (.bool b)) (hp:Plain e):PT Γ fn n σ e b:=⟨fun c G s rep=>by
 refine Y20 (Y3 (h.run c G s rep) (Cx.RP.bool fun s₁ G₁ l₁ r₁ v₁=>?_)) (hp _ _)
 exact Y21 ⟨rfl,G₁,l₁,r₁⟩⟩
theorem PT.int {e:Expr} {i:Int} (h:PE Γ fn n σ e (.int i)) (hp:Plain e):PT Γ fn n σ e (decide (i≠0)):=⟨fun c G s rep=>by
 refine Y20 (Y3 (h.run c G s rep) (Cx.RP.int fun s₁ G₁ U0 l₁ r₁ v₁=>?_)) (hp _ _)
 refine kit <| truthy_int ⟨by rw [Bool.eq_iff_iff]; simp,G₁,l₁,r₁⟩⟩
theorem PT.not {e:Expr} {p:Pos} {b:Bool} (h:PT Γ fn n σ e b):PT Γ fn n σ (.UnaryOp .Not e p) (!b):=⟨fun c G s rep =>
 Y22 (Y3 (h.run c G s rep) (fun x s₁ q=>⟨by rw [q.1],q.2⟩))⟩
theorem PT.andN {p:Pos}:PT Γ fn n σ (.BoolOp .And [] p) true:=⟨fun c G s rep=>Y23 ⟨rfl,G,.refl G,rep⟩⟩
theorem PT.orN {p:Pos}:PT Γ fn n σ (.BoolOp .Or [] p) false:=⟨fun c G s rep=>Y24 ⟨rfl,G,.refl G,rep⟩⟩
theorem PT.and {e:Expr} {es:List Expr} {p:Pos} {a b:Bool} (h:PT Γ fn n σ e a) (hs:a=true→PT Γ fn n σ (.BoolOp .And es p) b):PT Γ fn n σ (.BoolOp .And (e :: es) p) (a&&b):=⟨fun c G s rep=>by
 refine Y25 (Y3 (h.run c G s rep) (fun x s₁ q=>?_))
 obtain ⟨rfl,Z0⟩:=q; refine X12 Z0 fun G₁ l₁ r₁=>?_; clear Z0
 cases x with
 | false=>exact ⟨rfl,G₁,l₁,r₁⟩
 | true =>
  refine Y3 ((hs rfl).run c G₁ s₁ r₁) (fun x s₂ q=>?_)
  obtain ⟨rfl,Z1⟩:=q; refine X12 Z1 fun G₂ l₂ r₂=>?_; clear Z1
  exact ⟨rfl,G₂,l₁.trans l₂,r₂⟩⟩
theorem PT.or {e:Expr} {es:List Expr} {p:Pos} {a b:Bool} (h:PT Γ fn n σ e a) (hs:a=false→PT Γ fn n σ (.BoolOp .Or es p) b):PT Γ fn n σ (.BoolOp .Or (e :: es) p) (a || b):=⟨fun c G s rep=>by
 refine Y26 (Y3 (h.run c G s rep) (fun x s₁ q=>?_))
 obtain ⟨rfl,Z0⟩:=q; refine X12 Z0 fun G₁ l₁ r₁=>?_; clear Z0
 cases x with
 | true=>exact ⟨rfl,G₁,l₁,r₁⟩
 | false =>
  refine Y3 ((hs rfl).run c G₁ s₁ r₁) (fun x s₂ q=>?_)
  obtain ⟨rfl,Z1⟩:=q; refine X12 Z1 fun G₂ l₂ r₂=>?_; clear Z1
  exact ⟨rfl,G₂,l₁.trans l₂,r₂⟩⟩
theorem PT.of {e:Expr} {a b:Bool} (h:PT Γ fn n σ e a) (q:a=b):PT Γ fn n σ e b:=q▸h
theorem PE.ite {t a b:Expr} {p:Pos} {x:Bool} {u:V} (h:PT Γ fn n σ t x) (ha:x=true→PE Γ fn n σ a u) (hb:x=false→PE Γ fn n σ b u):PE Γ fn n σ (.IfExp t a b p) u:=⟨fun c G s rep=>by
 refine Y27 (Y3 (h.run c G s rep) (fun y s₁ q=>?_))
 obtain ⟨rfl,Z0⟩:=q; refine X12 Z0 fun G₁ l₁ r₁=>?_; clear Z0
 cases y with
 | true=>exact Y3 ((ha rfl).run c G₁ s₁ r₁) (fun _ _ q=>q.up l₁)
 | false=>exact Y3 ((hb rfl).run c G₁ s₁ r₁) (fun _ _ q=>q.up l₁)⟩
structure PB (Γ:Gam) (fn:FnS) (n:Nat) (σ:St) (op:BoolOp) (es:List Expr) (b:Bool):Prop where
 run:∀ (c:Cx Γ fn n) G s p,c.Rep G σ s→wpAny (model Γ.prog Γ.w) c.A (PySem.boolOp p op (evalEach es c.env)) (c.RP G σ (.bool b)) NoX s
theorem PB.last {op:BoolOp} {e:Expr} {b:Bool} (h:PE Γ fn n σ e (.bool b)):PB Γ fn n σ op [e] b:=⟨fun c G s p rep=>h.run c G s rep⟩
theorem PB.and {e f:Expr} {es:List Expr} {a b:Bool} (h:PE Γ fn n σ e (.bool a)) (hs:a=true→PB Γ fn n σ .And (f :: es) b):PB Γ fn n σ .And (e :: f :: es) (a&&b):=⟨fun c G s p rep=>by
 show wpAny _ _ (do
  let v ← eval e c.env
  standAt p
  let t ← holding [v] (truthy v)
  match BoolOp.And,t with
  | .And,false | .Or,true=>pure v
  | _,_=>PySem.boolOp p .And (evalEach (f :: es) c.env)) _ _ _
 refine Y4 (Y3 (h.run c G s rep) (Cx.RP.bool fun s₁ G₁ l₁ r₁ v₁=>?_))
 refine Y4 (Y7 (Y4 (Y6 (Y21 ?_))))
 cases a with
 | false=>exact wpAny_pure (.mk l₁ r₁ (.bool _))
 | true=>exact Y3 ((hs rfl).run c G₁ s₁ p r₁) (fun _ _ q=>q.up l₁)⟩
theorem PB.or {e f:Expr} {es:List Expr} {a b:Bool} (h:PE Γ fn n σ e (.bool a)) (hs:a=false→PB Γ fn n σ .Or (f :: es) b):PB Γ fn n σ .Or (e :: f :: es) (a || b):=⟨fun c G s p rep=>by
 show wpAny _ _ (do
  let v ← eval e c.env
  standAt p
  let t ← holding [v] (truthy v)
  match BoolOp.Or,t with
  | .And,false | .Or,true=>pure v
  | _,_=>PySem.boolOp p .Or (evalEach (f :: es) c.env)) _ _ _
 refine Y4 (Y3 (h.run c G s rep) (Cx.RP.bool fun s₁ G₁ l₁ r₁ v₁=>?_))
 refine Y4 (Y7 (Y4 (Y6 (Y21 ?_))))
 cases a with
 | true=>exact wpAny_pure (.mk l₁ r₁ (.bool _))
 | false=>exact Y3 ((hs rfl).run c G₁ s₁ p r₁) (fun _ _ q=>q.up l₁)⟩
theorem PE.boolOp {op:BoolOp} {es:List Expr} {p:Pos} {b:Bool} (h:PB Γ fn n σ op es b):PE Γ fn n σ (.BoolOp op es p) (.bool b):=⟨fun c G s rep=>h.run c G s p rep⟩
theorem PE.tuple {es:List Expr} {k:Nat} {p:Pos} {xs:List V} (h:PEs Γ fn n σ es xs) (hz:xs.length≤1000000):PE Γ fn n σ (.Tuple es k p) (.tup xs):=⟨fun c G s rep=>by
 refine Y30 (Y3 (h.run c G s p rep) (fun vs s₁ q=>?_))
 refine X13 q fun G₁ l₁ r₁ v₁=>?_; clear q
 refine Ex2 r₁.use fun m news U=>?_
 have hlen:=v₁.length
 refine kit <| newTuple_N U.F U.N (fun h' F N=>?_) (by rw [sizeLine_eq]; exact lA2 (eqL hlen) hz)
 obtain ⟨r',le⟩:=U.put h' s₁.toks _ _ (Heap.get?_none_of_le (le_refl _)) F N
 exact .mk (l₁.trans le) r' (.tup Y65 rfl rfl (v₁.mono le))⟩
structure ClsOk (Γ:Gam) (C:Addr):Prop where
 get:∀ nm,plainGet Γ.K C nm=true
 dict:hasDictIn Γ.K C=true
 set:findIn Γ.K (.ref C) "__setattr__" = some (some (.builtin "object.__setattr__"))
 over:plainOver Γ.K C=true
theorem ERs.find {P:Params} {nm:Str} {es:List DictEntry} {ns:List Str} {vs:List V} (h:ERs P G es (ns.zip vs)) (hl:ns.length=vs.length) (hn:ns.Nodup) {k:Nat} {u:V} (e1:ns[k]?=some nm) (e2:vs[k]?=some u) :
  ∃ v,getL nm es=some (some v)∧VR G v u:=by
 induction ns generalizing es vs k with
 | nil=>exact nomatch e1
 | cons y ns ih =>
  cases vs with
  | nil=>exact nomatch hl
  | cons x vs =>
  refine Ex3 h.un fun t v r Z1=>?_; obtain ⟨rfl,Z0⟩:=Z1; refine An2 Z0 fun h1 h2=>?_; clear Z0
  cases k with
  | zero =>
   refine ⟨v,?_,Option.some.inj e2▸h1⟩
   unfold getL
   rw [find?_cons]
   have:(Value.str y t).isStr nm=true:=beq_iff_eq.mpr (Option.some.inj e1)
   dsimp only
   rw [this]
  | succ k =>
   rw [nodup_cons] at hn
   refine X12 (ih h2 (Nat.succ.inj hl) hn.2 e1 e2) fun v' h1 h3=>?_
   refine ⟨v',?_,h3⟩
   have hne:(Value.str y t).isStr nm=false:=beq_eq_false_iff_ne.mpr fun q=>hn.1 (q▸mem_of_getElem? (show ns[k]?=some nm from e1))
   unfold getL at h1 ⊢
   rw [find?_cons]
   dsimp only
   rw [hne]
   dsimp only
   split at h1
   ·rename_i e he; rw [he]; exact h1
   ·split at h1 <;> cases h1
theorem VR.handed {v:Value} {x:V} (h:VR G v x) (hx:∀ i,x≠.bi (.builtin i)):handedIn v=true:=by
 cases h <;> first | rfl | exact absurd rfl (hx _)
noncomputable def AttrPl (o:Expr) (nm:Str):Prop:=∀ env p,eval (.Attribute o nm p) env=(do let x ← eval o env; standAt p.atName; let r ← holding [x] (getAttr x nm true); letTemporaryGo o x r; pure r)
noncomputable def V.isBu:V→Bool
 | .bi (.builtin _)=>true
 | _=>false
theorem PE.attr (k:Nat) {o:Expr} {nm:Str} {p:Pos} {a C:Addr} {ns:List Str} {vs:List V} {u:V} (ho:PE Γ fn n σ o (.obj a)) (hi:σ.hp a=some (.inst C ns vs)) (hn:ns[k]?=some nm) (hv:vs[k]?=some u)
  (hC:ClsOk Γ C) (hnd:ns.Nodup) (hfn:findIn Γ.K (.ref C) nm=some Option.none) (hb:u.isBu=false:=by rfl) (hp:AttrPl o nm:=by intro _ _; rfl):PE Γ fn n σ (.Attribute o nm p) u:=⟨fun c G s rep=>by
 refine Y36 (Y3 (ho.run c G s rep) (Cx.RP.obj fun s₁ G₁ l₁ r₁ v₁=>?_)) (hp _ _)
 obtain ⟨own,m,cs,b,⟨dx,hr,_⟩,lr⟩:=id r₁
 refine X24 (hr a _ hi) fun es nn h1 h2 h3 h4=>?_
 refine X12 (h3.find h4 hnd hn hv) fun v hg hvr=>?_
 refine kit <| get_own b.Fr Γ.hK ⟨b.hO _ _ h1,rfl,rfl,b.hO _ _ h2⟩ (hC.get _) hC.dict hfn rfl hg (hvr.handed fun i e=>?_) (.mk l₁ r₁.toks hvr)
 subst e; cases hb⟩
end
section
variable {Γ:Gam} {G own:PH} {frs:List FrI} {s:Shared} {hp:HP}
theorem Y75 {G:PH} {a b:Addr} {o:Obj} (h:b≠a):ins G a o b=G b:=if_neg h
theorem FrOk.atO {h:Heap} {f:FrI} {own':PH} (F:FrOk Γ G own h f) (hL:own' f.env.locals=none) (hc:∀ x c,f.env.cells.lookup x=some c→own' c=none):FrOk Γ G own' h f :=
 ⟨F.frame,F.kind,F.cnd,F.above,F.ns,F.offG,hL,fun x c e=>⟨(F.cell x c e).1,(F.cell x c e).2.1,hc x c e⟩⟩
theorem FrOk.heap {h h':Heap} {f:FrI} (F:FrOk Γ G own h f) (hk:∀ a o,(a=f.env.locals∨∃ x,f.env.cells.lookup x=some a)→h.get? a=some o→h'.get? a=some o):FrOk Γ G own h' f:=by
 refine X32 F.ns fun o es ep h4 h5=>?_
 exact ⟨F.frame,F.kind,F.cnd,F.above,⟨o,es,ep,hk _ _ (.inl rfl) h4,h5⟩,F.offG,F.offO,fun x c e=>by
  obtain ⟨⟨o,h1,h2⟩,h3⟩:=F.cell x c e
  exact ⟨⟨o,hk c _ (.inr ⟨x,e⟩) h1,h2⟩,h3⟩⟩
theorem Base.write (b:Base Γ G own frs s) {d:Addr} {o o':Obj} (hd:own d=some o) {h':Heap} {tk:Nat} (hk:∀ a o,a≠d→s.heap.get? a=some o→h'.get? a=some o) (ho:h'.get? d=some o') :
  Base Γ G (N0.ins own d o') frs { s with heap:=h',toks:=tk }:=by
 have hGd:=b.disj d o hd
 refine ⟨b.gens,b.os,b.hB,fun a x e=>hk a x (fun q=>by rw [q,hGd] at e; cases e) (b.hG a x e),fun a x e=>?_,fun a x e=>?_,fun f hf=>?_,b.nodup,b.real⟩
 ·unfold N0.ins at e
  split at e
  ·rename_i q; subst q; obtain rfl:=Option.some.inj e; exact ho
  ·rename_i q; exact hk a x q (b.hO a x e)
 ·unfold N0.ins at e
  split at e
  ·rename_i q; subst q; exact hGd
  ·exact b.disj a x e
 ·have F:=b.fr f hf
  have hL:f.env.locals≠d:=fun q=>by have:=F.offO; rw [q,hd] at this; cases this
  have hC:∀ x c,f.env.cells.lookup x=some c→c≠d:=fun x c e q=>by have:=(F.cell x c e).2.2; rw [q,hd] at this; cases this
  refine (F.atO (own':=N0.ins own d o') ((Y75 hL).trans F.offO) fun x c e=>(Y75 (hC x c e)).trans (F.cell x c e).2.2).heap fun a x q e=>hk a x ?_ e
  rcases q with rfl | ⟨x,q⟩
  ·exact hL
  ·exact hC x a q
theorem Base.alloc (b:Base Γ G own frs s) {a:Addr} {o:Obj} (hn:s.heap.get? a=none) {h':Heap} {tk:Nat} (hk:∀ a o,s.heap.get? a=some o→h'.get? a=some o) (ho:h'.get? a=some o) :
  Base Γ G (N0.ins own a o) frs { s with heap:=h',toks:=tk }:=by
 refine An3 (b.fresh hn) fun h1 h2 h3=>?_
 refine ⟨b.gens,b.os,b.hB,fun a x e=>hk a x (b.hG a x e),fun c x e=>?_,fun c x e=>?_,fun f hf=>?_,b.nodup,b.real⟩
 ·unfold N0.ins at e
  split at e
  ·rename_i q; subst q; obtain rfl:=Option.some.inj e; exact ho
  ·exact hk c x (b.hO c x e)
 ·unfold N0.ins at e
  split at e
  ·rename_i q; subst q; exact h2
  ·exact b.disj c x e
 ·have F:=b.fr f hf
  exact (F.atO (own':=N0.ins own a o) ((Y75 (h3 f hf).1).trans F.offO) fun x c e=>(Y75 fun q=>(h3 f hf).2 x (e.trans (congrArg some q))).trans (F.cell x c e).2.2).heap fun c x q e=>hk c x e
noncomputable def cutO (own:PH) (a:Addr):PH:=fun b=>if b=a then none else own b
theorem Base.freeze (b:Base Γ G own frs s) {a:Addr} {o:Obj} (h:own a=some o):Base Γ (N0.ins G a o) (cutO own a) frs s:=by
 have hg:=b.disj a o h
 refine ⟨b.gens,b.os,fun x y e=>Y66 hg x y (b.hB x y e),fun x y e=>?_,fun x y e=>?_,fun x y e=>?_,fun f hf=>?_,b.nodup,b.real⟩
 ·unfold N0.ins at e
  split at e
  ·rename_i q; subst q; obtain rfl:=Option.some.inj e; exact b.hO _ _ h
  ·exact b.hG x y e
 ·unfold cutO at e
  split at e
  ·cases e
  ·exact b.hO x y e
 ·unfold cutO at e
  split at e
  ·cases e
  ·rename_i q; exact (Y75 q).trans (b.disj x y e)
 ·have F:=b.fr f hf
  have hL:f.env.locals≠a:=fun q=>by have:=F.offO; rw [q,h] at this; cases this
  have hC:∀ x c,f.env.cells.lookup x=some c→c≠a:=fun x c e q=>by have:=(F.cell x c e).2.2; rw [q,h] at this; cases this
  exact ⟨F.frame,F.kind,F.cnd,F.above,F.ns,(Y75 hL).trans F.offG,(if_neg hL).trans F.offO,fun x c e=>⟨(F.cell x c e).1,(Y75 (hC x c e)).trans (F.cell x c e).2.1,(if_neg (hC x c e)).trans (F.cell x c e).2.2⟩⟩
noncomputable def O.isInst:O→Bool
 | .inst ..=>true
 | _=>false
theorem OR.at_ {P:Params} {d a:Addr} {o:O} (h:OR P G own d a o):∃ x,own a=some x:=by
 cases o with
 | list xs=>refine X22 h fun U0 U1 h1 U2=>?_; clear h; exact ⟨_,h1⟩
 | ba b=>exact ⟨_,h⟩
 | inst C ns vs=>refine X22 h fun U3 U4 h1 U5=>?_; clear h; exact ⟨_,h1⟩
 | sd fs=>refine X22 h fun U6 U7 h1 U8=>?_; clear h; exact ⟨_,h1⟩
 | idd fs=>refine X22 h fun U9 U10 h1 U11=>?_; clear h; exact ⟨_,h1⟩
theorem OR.congr {P:Params} {own':PH} {d a:Addr} {o:O} (h:OR P G own d a o) (ha:own' a=own a) (hd:o.isInst=true→own' d=own d):OR P G own' d a o:=by
 cases o with
 | list xs=>refine X22 h fun vs n h1 h2=>?_; clear h; exact (EI2 vs n ⟨ha.trans h1,h2⟩)
 | ba b=>exact ha.trans h
 | inst C ns vs=>refine X23 h fun es n h1 h2 h3=>?_; clear h; exact (EI2 es n ⟨ha.trans h1,(hd rfl).trans h2,h3⟩)
 | sd fs=>refine X22 h fun es n h1 h2=>?_; clear h; exact (EI2 es n ⟨ha.trans h1,h2⟩)
 | idd fs=>refine X22 h fun es n h1 h2=>?_; clear h; exact (EI2 es n ⟨ha.trans h1,h2⟩)
theorem OR.noD {P:Params} {d d' a:Addr} {o:O} (h:OR P G own d a o) (hi:o.isInst=false):OR P G own d' a o:=by
 cases o <;> first | exact h | cases hi
theorem Y76 {o:O} (h:o.isInst=true):∃ C ns vs,o=.inst C ns vs:=by
 cases o <;> first | exact (EI3 _ _ _ rfl) | cases h
theorem HR.write (h:HR Γ G own hp) {a:Addr} {ob ob':O} {o':Obj} (ha:hp a=some ob) (hi:ob.isInst=false) (hi':ob'.isInst=false) (hr:OR Γ.w.params G (ins own a o') a a ob'):HR Γ G (ins own a o') (upd hp a ob'):=by
 obtain ⟨dx,h1,h2,h3⟩:=h
 have hne:∀ b ob,hp b=some ob→ob.isInst=true→dx b≠a:=fun b ob e q z=>by
  refine Ex3 (Y76 q) fun C ns vs Z0=>?_; obtain rfl:=Z0
  have:=h2 b C ns vs e
  rw [z,ha] at this; cases this
 have inst:∀ b C ns vs,upd hp a ob' b=some (.inst C ns vs)→b≠a∧hp b=some (.inst C ns vs):=fun b C ns vs e=>by
  unfold upd at e
  split at e
  ·obtain rfl:=Option.some.inj e; cases hi'
  ·rename_i q; exact ⟨q,e⟩
 refine ⟨dx,fun b ob'' e=>?_,fun b C ns vs e=>?_,fun b b' C ns vs C' ns' vs' e e'=>?_⟩
 ·unfold upd at e
  split at e
  ·rename_i q; subst q; obtain rfl:=Option.some.inj e; exact hr.noD hi'
  ·rename_i q
   exact (h1 b ob'' e).congr (Y75 q) fun z=>Y75 (hne b ob'' e z)
 ·obtain ⟨_,e⟩:=inst b C ns vs e
  exact (Y57 (hne b _ e rfl)).trans (h2 b C ns vs e)
 ·exact h3 b b' C ns vs C' ns' vs' (inst _ _ _ _ e).2 (inst _ _ _ _ e').2
theorem HR.writeI (h:HR Γ G own hp) {a C:Addr} {ns:List Str} {vs:List V} (ha:hp a=some (.inst C ns vs)) :
  ∃ d es n,own a=some (instObj C d)∧own d=some (dictOf es n)∧ERs Γ.w.params G es (ns.zip vs)∧ns.length=vs.length∧d≠a ∧
   ∀ es' n' ns' vs',ERs Γ.w.params G es' (ns'.zip vs')→ns'.length=vs'.length→HR Γ G (ins own d (dictOf es' n')) (upd hp a (.inst C ns' vs')):=by
 obtain ⟨dx,h1,h2,h3⟩:=h
 refine X24 (h1 a _ ha) fun es n e1 e2 e3 e4=>?_
 have hda:dx a≠a:=fun q=>by rw [q,e1] at e2; cases e2
 have hd0:=h2 a C ns vs ha
 have back:∀ ns' vs' b C' ms ws,upd hp a (.inst C ns' vs') b=some (.inst C' ms ws)→∃ C'' ms' ws',hp b=some (.inst C'' ms' ws'):=fun ns' vs' b C' ms ws e=>by
  unfold upd at e
  split at e
  ·rename_i q; exact (EI3 _ _ _ (q▸ha))
  ·exact (EI3 _ _ _ e)
 refine (EI3 (dx a) es n ⟨e1,e2,e3,e4,hda,fun es' n' ns' vs' r l=>⟨dx,fun b ob e=>?_,fun b C' ms ws e=>?_,fun b b' C₁ ms ws C₂ ms' ws' e e'=>?_⟩⟩)
 ·unfold upd at e
  split at e
  ·rename_i q; subst q; cases e
   exact (EI2 es' n' ⟨(Y75 (Ne.symm hda)).trans e1,Y65,r,l⟩)
  ·rename_i q
   refine (h1 b ob e).congr (Y75 fun z=>?_) fun z=>Y75 fun y=>?_
   ·rw [← z,e] at hd0; cases hd0
   ·refine Ex3 (Y76 z) fun C' ms ws Z0=>?_; obtain rfl:=Z0
    exact q (h3 b a _ _ _ _ _ _ e ha y)
 ·refine Ex3 (back _ _ _ _ _ _ e) fun C'' ms' ws' e'=>?_
  have:=h2 b _ _ _ e'
  exact (Y57 fun q=>by rw [q,ha] at this; cases this).trans this
 ·refine Ex3 (back _ _ _ _ _ _ e) fun U0 U1 U2 f=>?_
  refine Ex3 (back _ _ _ _ _ _ e') fun U3 U4 U5 f'=>?_
  exact h3 b b' _ _ _ _ _ _ f f'
theorem HR.none_of (h:HR Γ G own hp) {a:Addr} (ha:own a=none):hp a=none:=by
 cases q:hp a with
 | none=>rfl
 | some ob =>
  obtain ⟨dx,h1,_⟩:=h
  obtain ⟨x,e⟩:=(h1 a ob q).at_
  rw [ha] at e; cases e
theorem HR.alloc (h:HR Γ G own hp) {a:Addr} {ob:O} {o:Obj} (ha:own a=none) (hi:ob.isInst=false) (hr:OR Γ.w.params G (ins own a o) a a ob):HR Γ G (ins own a o) (upd hp a ob):=by
 have hn:=h.none_of ha
 obtain ⟨dx,h1,h2,h3⟩:=h
 have hne:∀ b ob,hp b=some ob→ob.isInst=true→dx b≠a:=fun b ob e q z=>by
  refine Ex3 (Y76 q) fun C ns vs Z0=>?_; obtain rfl:=Z0
  refine X23 (h1 b _ e) fun es n e1 e2 U0=>?_
  rw [z,ha] at e2; cases e2
 have inst:∀ b C ns vs,upd hp a ob b=some (.inst C ns vs)→b≠a∧hp b=some (.inst C ns vs):=fun b C ns vs e=>by
  unfold upd at e
  split at e
  ·obtain rfl:=Option.some.inj e; cases hi
  ·rename_i q; exact ⟨q,e⟩
 refine ⟨dx,fun b ob'' e=>?_,fun b C ns vs e=>?_,fun b b' C ns vs C' ns' vs' e e'=>?_⟩
 ·unfold upd at e
  split at e
  ·rename_i q; subst q; obtain rfl:=Option.some.inj e; exact hr.noD hi
  ·rename_i q
   exact (h1 b ob'' e).congr (Y75 q) fun z=>Y75 (hne b ob'' e z)
 ·obtain ⟨_,e⟩:=inst b C ns vs e
  exact (Y57 (hne b _ e rfl)).trans (h2 b C ns vs e)
 ·exact h3 b b' C ns vs C' ns' vs' (inst _ _ _ _ e).2 (inst _ _ _ _ e').2
theorem HR.allocI (h:HR Γ G own hp) {a d C:Addr} (ha:own a=none) (hd:own d=none) (hda:d≠a):HR Γ G (ins (ins own d (dictOf [] 0)) a (instObj C d)) (upd hp a (.inst C [] [])):=by
 have hn:=h.none_of ha
 have hnd:=h.none_of hd
 obtain ⟨dx,h1,h2,h3⟩:=h
 let dx':Addr→Addr:=fun b=>if b=a then d else dx b
 have dne:∀ b,b≠a→dx' b=dx b:=fun b q=>if_neg q
 have da:dx' a=d:=if_pos rfl
 have old:∀ b C' ms ws,hp b=some (.inst C' ms ws)→dx b≠a∧dx b≠d:=fun b C' ms ws e=>by
  refine X23 (h1 b _ e) fun es n e1 e2 U0=>?_
  exact ⟨(fun z=>by rw [z,ha] at e2; cases e2),(fun z=>by rw [z,hd] at e2; cases e2)⟩
 have own':∀ b,b≠a→b≠d→ins (ins own d (dictOf [] 0)) a (instObj C d) b=own b:=fun b q q'=>(Y75 q).trans (Y75 q')
 refine ⟨dx',fun b ob e=>?_,fun b C' ms ws e=>?_,fun b b' C₁ ms ws C₂ ms' ws' e e'=>?_⟩
 ·unfold upd at e
  split at e
  ·rename_i q; subst q; obtain rfl:=Option.some.inj e
   rw [da]
   exact (EI2 [] 0 ⟨Y65,(Y75 hda).trans Y65,.nil,rfl⟩)
  ·rename_i q
   rw [dne b q]
   refine (h1 b ob e).congr (own' b q fun z=>?_) fun z=>?_
   ·rw [← z,e] at hnd; cases hnd
   ·refine Ex3 (Y76 z) fun C' ms ws Z0=>?_; obtain rfl:=Z0
    exact own' _ (old b _ _ _ e).1 (old b _ _ _ e).2
 ·by_cases q:b=a
  ·subst q; rw [da]; exact (Y57 hda).trans hnd
  ·rw [dne b q]
   rw [Y57 q] at e
   exact (Y57 (old b _ _ _ e).1).trans (h2 b _ _ _ e)
 ·intro z
  by_cases q:b=a <;> by_cases q':b'=a
  ·rw [q,q']
  ·rw [q,da,dne b' q'] at z
   rw [Y57 q'] at e'
   exact absurd z.symm (old b' _ _ _ e').2
  ·rw [q',da,dne b q] at z
   rw [Y57 q] at e
   exact absurd z (old b _ _ _ e).2
  ·rw [dne b q,dne b' q'] at z
   rw [Y57 q] at e
   rw [Y57 q'] at e'
   exact h3 b b' _ _ _ _ _ _ e e' z
theorem HR.less (h:HR Γ G own hp) {hp':HP} (hl:∀ a o,hp' a=some o→hp a=some o):HR Γ G own hp':=by
 obtain ⟨dx,h1,h2,h3⟩:=h
 refine ⟨dx,fun a o e=>h1 a o (hl a o e),fun a C ns vs e=>?_,fun a a' C ns vs C' ns' vs' e e'=>h3 a a' C ns vs C' ns' vs' (hl _ _ e) (hl _ _ e')⟩
 have:=h2 a C ns vs (hl _ _ e)
 cases q:hp' (dx a) with
 | none=>rfl
 | some o=>rw [hl _ _ q] at this; cases this
theorem HR.freeze (h:HR Γ G own hp) {a:Addr} {o:Obj} (b:Base Γ G own frs s) (ha:own a=some o) (hi:∀ C ns vs,hp a≠some (.inst C ns vs)) (hp0:∃ ob,hp a=some ob):HR Γ (ins G a o) (cutO own a) (del hp a):=by
 obtain ⟨dx,h1,h2,h3⟩:=h
 obtain ⟨ob0,hob⟩:=hp0
 have inst:∀ b ob,del hp a b=some ob→b≠a∧hp b=some ob:=fun b ob e=>by
  unfold del at e
  split at e
  ·cases e
  ·rename_i q; exact ⟨q,e⟩
 have hne:∀ b C ns vs,hp b=some (.inst C ns vs)→dx b≠a:=fun b C ns vs e z=>by
  have:=h2 b C ns vs e
  rw [z,hob] at this; cases this
 refine ⟨dx,fun b' ob e=>?_,fun b' C ns vs e=>?_,fun b₁ b₂ C ns vs C' ns' vs' e e'=>h3 b₁ b₂ _ _ _ _ _ _ (inst _ _ e).2 (inst _ _ e').2⟩
 ·obtain ⟨q,e⟩:=inst b' ob e
  refine ((h1 b' ob e).mono (Y66 (b.disj a o ha))).congr (if_neg q) fun z=>?_
  refine Ex3 (Y76 z) fun C' ms ws Z0=>?_; obtain rfl:=Z0
  exact if_neg (hne b' _ _ _ e)
 ·obtain ⟨q,e⟩:=inst b' _ e
  have:=h2 b' _ _ _ e
  unfold del
  rw [if_neg (hne b' _ _ _ e)]; exact this
end
set_option genInjectivity false in
inductive AF where
 | next | brk | cont | ret (v:V)
deriving instance Nonempty for AF
inductive FRel (G:PH):Flow→AF→Prop
 | next:FRel G .next .next
 | brk:FRel G .brk .brk
 | cont:FRel G .cont .cont
 | ret {v:Value} {x:V} (h:VR G v x):FRel G (.ret v) (.ret x)
section
variable {Γ:Gam} {fn:FnS} {n:Nat}
inductive Cx.SP (c:Cx Γ fn n) (G:PH) (Q:AF→St→Prop) (f:Flow) (s':Shared):Prop
 | intro (G':PH) (af:AF) (σ':St) (l:PLe G G') (r:c.Rep G' σ' s') (h:FRel G' f af) (q:Q af σ')
structure XT (Γ:Gam) (fn:FnS) (n:Nat) (st:Stmt) (σ:St) (Q:AF→St→Prop) (X:St→Prop):Prop where
 run:∀ (c:Cx Γ fn n) G s,c.Rep G σ s→wpAny (model Γ.prog Γ.w) c.A (exec st c.env) (c.SP G Q) (c.EP G X) s
structure XS (Γ:Gam) (fn:FnS) (n:Nat) (ss:List Stmt) (σ:St) (Q:AF→St→Prop) (X:St→Prop):Prop where
 run:∀ (c:Cx Γ fn n) G s,c.Rep G σ s→wpAny (model Γ.prog Γ.w) c.A (execs ss c.env) (c.SP G Q) (c.EP G X) s
noncomputable def Then (Γ:Gam) (fn:FnS) (n:Nat) (ss:List Stmt) (Q:AF→St→Prop) (X:St→Prop) (af:AF) (τ:St):Prop :=
 match af with
 | .next=>XS Γ fn n ss τ Q X
 | af=>Q af τ
end
section
variable {Γ:Gam} {fn:FnS} {n:Nat} {σ:St} {env:Env} {G:PH} {s:Shared} {c:Cx Γ fn n} {Q:AF→St→Prop} {X:St→Prop} {ss:List Stmt}
theorem Cx.SP.up {G':PH} {f:Flow} (l:PLe G G') (h:c.SP G' Q f s):c.SP G Q f s:=by obtain ⟨G'',a,σ',l',r,v,q⟩:=h; exact ⟨G'',a,σ',l.trans l',r,v,q⟩
theorem Cx.SP.mk {G':PH} {f:Flow} {a:AF} {σ':St} (l:PLe G G') (r:c.Rep G' σ' s) (h:FRel G' f a) (q:Q a σ'):c.SP G Q f s:=⟨G',a,σ',l,r,h,q⟩
theorem NoX.to {E:Value→Shared→Prop} (v:Value) (s:Shared) (h:NoX v s):E v s:=h.elim
theorem XS.nil (h:Q .next σ):XS Γ fn n [] σ Q X:=⟨fun c G s r=>wpAny_execs_nil (.mk (.refl G) r .next h)⟩
theorem XS.cons {st:Stmt} (h:XT Γ fn n st σ (Then Γ fn n ss Q X) X):XS Γ fn n (st :: ss) σ Q X:=⟨fun c G s r=>by
 refine Y37 (Y3 (h.run c G s r) (fun f s₁ q=>?_))
 obtain ⟨G₁,a,σ₁,l₁,r₁,hf,hq⟩:=q
 cases hf with
 | next=>exact wpAny_mono (XS.run hq c G₁ s₁ r₁) (fun _ _ q=>q.up l₁) fun _ _ q=>q.up l₁
 | brk=>exact .mk l₁ r₁ .brk hq
 | cont=>exact .mk l₁ r₁ .cont hq
 | ret h=>exact .mk l₁ r₁ (.ret h) hq⟩
theorem XS.mono {Q':AF→St→Prop} {X':St→Prop} (h:XS Γ fn n ss σ Q X) (hQ:∀ a τ,Q a τ→Q' a τ) (hX:∀ τ,X τ→X' τ):XS Γ fn n ss σ Q' X':=⟨fun c G s r =>
 wpAny_mono (h.run c G s r) (fun f s₁ ⟨G₁,a,σ₁,l₁,r₁,hf,hq⟩=>⟨G₁,a,σ₁,l₁,r₁,hf,hQ _ _ hq⟩) fun e s₁ ⟨G₁,σ₁,l₁,r₁,hq⟩=>⟨G₁,σ₁,l₁,r₁,hX _ hq⟩⟩
theorem PE.toX {e:Expr} {x:V} {QV:V→St→Prop} (h:PE Γ fn n σ e x) (q:QV x σ):XE Γ fn n σ e QV X:=⟨fun c G s r =>
 wpAny_mono (h.run c G s r) (fun v s₁ ⟨G₁,l₁,r₁,v₁⟩=>⟨G₁,x,σ,l₁,r₁,v₁,q⟩) NoX.to⟩
theorem XE.mono {e:Expr} {QV QV':V→St→Prop} {X':St→Prop} (h:XE Γ fn n σ e QV X) (hQ:∀ x τ,QV x τ→QV' x τ) (hX:∀ τ,X τ→X' τ):XE Γ fn n σ e QV' X':=⟨fun c G s r =>
 wpAny_mono (h.run c G s r) (fun v s₁ ⟨G₁,x,τ,l₁,r₁,v₁,q⟩=>⟨G₁,x,τ,l₁,r₁,v₁,hQ _ _ q⟩) fun e s₁ ⟨G₁,σ₁,l₁,r₁,hq⟩=>⟨G₁,σ₁,l₁,r₁,hX _ hq⟩⟩
theorem LR.set {P:Prop} {env:Env} {m cs:Str→Option Value} {loc:List (Option V)} (ok:FnOk Γ fn) (h:LR P fn env G m cs loc) {k:Nat} {x:Str} {v:Value} {u:V} (hn:fn.names[k]?=some (x,.local)) (hv:VR G v u) :
  LR P fn env G (fun y=>if y=x then some v else m y) cs (loc.set k (some u)):=by
 refine ⟨fun k' y kd u' h1 h2=>?_,h.2,h.3⟩
 by_cases q:k'=k
 ·subst q
  rw [hn] at h1; cases h1
  rw [getElem?_set] at h2
  simp at h2
  exact ⟨v,if_pos rfl,h2.2▸hv⟩
 ·rw [List.getElem?_set_ne (Ne.symm q)] at h2
  have:=h.1 k' y kd u' h1 h2
  have hyx:y≠x:=fun z=>by
   subst z
   have e1:=Y61 ok.nd h1
   have hk1:k'<(fn.names.map (·.1)).length:=by rw [length_map]; exact (List.getElem?_eq_some_iff.mp h1).1
   have hk2:k<(fn.names.map (·.1)).length:=by rw [length_map]; exact (List.getElem?_eq_some_iff.mp hn).1
   refine q ((getElem_inj (h₀:=hk1) (h₁:=hk2) ok.nd).mp ?_)
   rw [getElem_map,getElem_map]
   rw [(List.getElem?_eq_some_iff.mp h1).2,(List.getElem?_eq_some_iff.mp hn).2]
  cases kd <;> try exact this
  ·refine X12 this fun w h3 h4=>?_; clear this
   exact ⟨w,(if_neg hyx).trans h3,h4⟩
theorem Cx.Rep.store (r:c.Rep G σ s) {k:Nat} {x:Str} {v:Value} {u:V} (hn:fn.names[k]?=some (x,.local)) (hv:VR G v u) {E:Value→Shared→Prop} :
  PySem.wpAny (model Γ.prog Γ.w) c.A (storeName c.env x v) (fun _ s'=>c.Rep G ⟨σ.loc.set k (some u),σ.hp⟩ s') E s:=by
 obtain ⟨own,m,cs,b,hr,lr⟩:=r
 refine wpAny_storeName_local (lr.3.eo.kindOf lr.3.ok hn) b.L.ns (fun h' hn' hs=>?_) ?_
 ·exact ⟨own,_,cs,b.kept hn' fun a o q e=>(hs.2 a q).trans e,hr,lr.set lr.3.ok hn hv⟩
 ·rw [lr.3.eo.fun_ lr.3.ok]; rfl
theorem LR.setC {P:Prop} {env:Env} {m cs:Str→Option Value} {loc:List (Option V)} (ok:FnOk Γ fn) (h:LR P fn env G m cs loc) {k:Nat} {x:Str} {v:Value} {u:V} (hn:fn.names[k]?=some (x,.cell)) (hv:VR G v u) :
  LR P fn env G m (fun y=>if y=x then some v else cs y) (loc.set k (some u)):=by
 refine ⟨fun k' y kd u' h1 h2=>?_,h.2,h.3⟩
 by_cases q:k'=k
 ·subst q
  rw [hn] at h1; cases h1
  rw [getElem?_set] at h2
  simp at h2
  obtain ⟨a,ha⟩:=h.2 k' x hn
  exact (EI2 a v ⟨ha,if_pos rfl,h2.2▸hv⟩)
 ·rw [List.getElem?_set_ne (Ne.symm q)] at h2
  have:=h.1 k' y kd u' h1 h2
  have hyx:y≠x:=fun z=>by
   subst z
   have hk1:k'<(fn.names.map (·.1)).length:=by rw [length_map]; exact (List.getElem?_eq_some_iff.mp h1).1
   have hk2:k<(fn.names.map (·.1)).length:=by rw [length_map]; exact (List.getElem?_eq_some_iff.mp hn).1
   refine q ((getElem_inj (h₀:=hk1) (h₁:=hk2) ok.nd).mp ?_)
   rw [getElem_map,getElem_map]
   rw [(List.getElem?_eq_some_iff.mp h1).2,(List.getElem?_eq_some_iff.mp hn).2]
  cases kd <;> try exact this
  ·refine X23 this fun a w h3 h4 h5=>?_; clear this
   exact (EI2 a w ⟨h3,(if_neg hyx).trans h4,h5⟩)
theorem Y77 {l:List (Str × Addr)} {x:Str} {c:Addr} (h:l.lookup x=some c):(x,c)∈l:=by
 induction l with
 | nil=>cases h
 | cons p r ih =>
  obtain ⟨y,d⟩:=p
  rw [lookup_cons] at h
  split at h
  ·rename_i q; obtain rfl:=Option.some.inj h; rw [beq_iff_eq.mp q]; exact .head _
  ·exact .tail _ (ih h)
theorem Base.cell {own:PH} {fr:List FrI} {env:Env} {m cs:Str→Option Value} (b:Base Γ G own (⟨env,m,cs,false⟩ :: fr) s) (hnd:(env.cells.map (·.1)).Nodup) {x:Str} {a:Addr} {v:Value} (hc:env.cells.lookup x=some a) {h':Heap}
  (hv:h'.IsCell a (some v)) (hs:Heap.SameBut a s.heap h'):Base Γ G own (⟨env,m,fun y=>if y=x then some v else cs y,false⟩ :: fr) { s with heap:=h' }:=by
 revert b hnd hc hv hs; revert Γ G s own fr env m cs x a v h'; apply s12; generalize T1 _=Γ,T2 _=G,T3 _=s,T4 _=own,T5 _=fr,T6 _=env,T7 _=m,T8 _=cs,T9 _=x,T10 _=a,T11 _=v,T12 _=h'; intro b hnd hc hv hs
 refine An3 (b.L.cell x a hc) fun c1 c2 c3=>?_
 have hnod:=b.nodup
 have hne:∀ b,s.heap.IsCell a (cs x)→G b≠none∨own b≠none→b≠a:=fun b _ h q=>by
  subst q; rcases h with h | h
  ·exact h c2
  ·exact h c3
 have inA:a∈(⟨env,m,cs,false⟩:FrI).addrs:=by
  show a∈env.locals :: env.cells.map (·.2)
  exact mem_cons_of_mem _ (mem_map_of_mem (f:=(·.2)) (Y77 hc))
 refine ⟨b.gens,b.os,b.hB,fun d o e=>(hs.2 d (hne d c1 (.inl (by rw [e]; exact fun z=>nomatch z)))).trans (b.hG d o e),fun d o e=>(hs.2 d (hne d c1 (.inr (by rw [e]; exact fun z=>nomatch z)))).trans (b.hO d o e),b.disj,fun f hf=>?_,?_,b.real⟩
 ·exists f; intro hf
  rcases List.mem_cons.mp hf with rfl | hf
  ·have F:=b.L
   refine ⟨F.frame,F.kind,F.cnd,F.above,F.ns.sameBut hs fun q=>Y60 F.ns (q▸c1),F.offG,F.offO,fun y d hd=>?_⟩
   revert y d; apply s2; generalize T1 _=y,T2 _=d; intro hd
   by_cases q:y=x
   ·subst q
    rw [hc] at hd; obtain rfl:=Option.some.inj hd
    refine ⟨?_,c2,c3⟩
    show h'.IsCell a (if y=y then some v else cs y)
    rw [if_pos rfl]; exact hv
   ·obtain ⟨⟨o,d1,d1'⟩,d2⟩:=F.cell y d hd
    exists o; intro d1 d1'
    have hda:d≠a:=fun z=>by
     subst z
     have h1:(env.cells.map (·.2)).Nodup:=by
      rw [flatMap_cons,nodup_append] at hnod
      have:=hnod.1
      change (env.locals :: env.cells.map (·.2)).Nodup at this
      rw [nodup_cons] at this
      exact this.2
     have m1:=Y77 hc
     have m2:=Y77 hd
     obtain ⟨i,hi,e1⟩:=List.getElem_of_mem m1
     obtain ⟨j,hj,e2⟩:=List.getElem_of_mem m2
     have:i=j:=(getElem_inj (h₀:=by rw [length_map]; exact hi) (h₁:=by rw [length_map]; exact hj) h1).mp (by rw [getElem_map,getElem_map,e1,e2])
     subst this
     rw [e1] at e2; cases e2; exact q rfl
    refine ⟨⟨o,(hs.2 d hda).trans d1,?_⟩,d2⟩
    show o.data=.cell (if y=x then some v else cs y)
    rw [if_neg q]; exact d1'
  ·have F:=b.fr f (mem_cons_of_mem _ hf)
   rw [flatMap_cons,nodup_append] at hnod
   refine F.heap fun d o hd e=>(hs.2 d fun z=>?_).trans e
   subst z
   rcases hd with q | ⟨y,q⟩
   ·exact Y60 F.ns (q▸c1)
   ·refine absurd rfl (hnod.2.2 _ inA _ (List.mem_flatMap.mpr ⟨f,hf,?_⟩))
    show d∈f.env.locals :: (if f.cp then [] else f.env.cells.map (·.2))
    rw [b.real f hf]
    exact mem_cons_of_mem _ (mem_map_of_mem (f:=(·.2)) (Y77 q))
 ·exact hnod
end
section
variable {Γ:Gam} {G own:PH} {frs:List FrI} {s:Shared} {e:Addr}
noncomputable def locs (frs:List FrI):List Addr:=frs.map (·.env.locals)
noncomputable def xbase (h:Heap) (e:Addr) (T:List Addr) (frs:List FrI):Heap:=hideAll h (e :: T++locs frs)
theorem Y78 {a:Addr} (h:a∈locs frs):∃ f∈frs,f.env.locals=a:=by
 refine X12 (List.mem_map.mp h) fun f hf e=>?_; exact ⟨f,hf,e⟩
theorem eq_44 {T:List Addr} (h:Heap):(xbase h e T frs).StaysIn h:=fun b o q=>of_hideAll _ q
theorem eq_45 (b:Base Γ G own frs s) (hr:∀ f∈frs,f.cp=false) (T:List Addr):s.heap.FunFrames (xbase s.heap e T frs) (frs.map (·.env)):=by
 have key:∀ l:List FrI,(∀ f∈l,f∈frs)→s.heap.FunFrames (xbase s.heap e T frs) (l.map (·.env)):=fun l=>by
  induction l with
  | nil=>intro _; trivial
  | cons f r ih =>
   intro hl
   have hf:=hl f (.head _)
   have F:=b.fr f hf
   refine ⟨by rw [F.kind]; decide,?_,ih fun g hg=>hl g (mem_cons_of_mem _ hg)⟩
   refine X33 F.ns fun o es ep h1 h2 U0=>?_
   exact (EI2 f.env.locals o ⟨F.frame (hr f hf),hideAll_none _ (List.mem_append.mpr (.inr (mem_map_of_mem (f:=fun f:FrI=>f.env.locals) hf))),h1,fun vs q=>by rw [h2] at q; cases q⟩)
 exact key frs fun _ h=>h
theorem Base.seen (b:Base Γ G own frs s) {T:List Addr} (he:Off G own frs e) (hT:∀ t∈T,Off G own frs t) {a:Addr} (h:(∃ o,G a=some o)∨(∃ o,own a=some o)∨∃ f∈frs,∃ x,f.env.cells.lookup x=some a):a∉e :: T++locs frs:=fun hm=>by
 have one:∀ t,Off G own frs t→t≠a:=fun t ho q=>by
  subst q
  rcases h with ⟨o,h⟩ | ⟨o,h⟩ | ⟨f,hf,x,h⟩
  ·rw [ho.1] at h; cases h
  ·rw [ho.2.1] at h; cases h
  ·exact (ho.2.2 f hf).2 x h
 rcases List.mem_append.mp hm with hm | hm
 ·rcases List.mem_cons.mp hm with q | hm
  ·exact one e he q.symm
  ·exact one a (hT a hm) rfl
 ·refine X12 (Y78 hm) fun f hf q=>?_
  have F:=b.fr f hf
  rcases h with ⟨o,h⟩ | ⟨o,h⟩ | ⟨g,hg,x,h⟩
  ·rw [← q,F.offG] at h; cases h
  ·rw [← q,F.offO] at h; cases h
  ·exact Y60 F.ns (q▸((b.fr g hg).cell x a h).1)
theorem Base.flew (b:Base Γ G own frs s) {T:List Addr} (he:Off G own frs e) (hT:∀ t∈T,Off G own frs t) {h':Heap} (k1:(xbase s.heap e T frs).StaysIn h')
  (k2:∀ b o,s.heap.get? b=some o→(∀ vs,o.data≠.fields vs)→∃ sl,h'.get? b=some { o with slots:=sl }):Base Γ G own frs { s with heap:=h' }:=by
 have keep:∀ a o,((∃ o,G a=some o)∨(∃ o,own a=some o)∨∃ f∈frs,∃ x,f.env.cells.lookup x=some a)→s.heap.get? a=some o→h'.get? a=some o:=fun a o h q =>
  k1 a o (hideAll_get _ q (b.seen he hT h))
 refine ⟨b.gens,b.os,b.hB,fun a o q=>keep a o (.inl ⟨o,q⟩) (b.hG a o q),fun a o q=>keep a o (.inr (.inl ⟨o,q⟩)) (b.hO a o q),b.disj,fun f hf=>?_,b.nodup,b.real⟩
 have F:=b.fr f hf
 refine ⟨F.frame,F.kind,F.cnd,F.above,?_,F.offG,F.offO,fun x c hc=>?_⟩
 ·refine X33 F.ns fun o es ep h1 h2 h3=>?_
  obtain ⟨sl,hs⟩:=k2 _ o h1 fun vs q=>by rw [h2] at q; cases q
  exact (EI3 _ es ep ⟨hs,h2,h3⟩)
 ·obtain ⟨⟨o,h1,h2⟩,h3⟩:=F.cell x c hc
  exact ⟨⟨o,keep c o (.inr (.inr ⟨f,hf,x,hc⟩)) h1,h2⟩,h3⟩
theorem Base.newOff (b:Base Γ G own frs s) {T:List Addr} (he:Off G own frs e) (hT:∀ t∈T,Off G own frs t) {t:Addr} (hb:(xbase s.heap e T frs).get? t=none) {h':Heap} {oT:Obj} {ts:Array Value} (h1:h'.get? t=some oT) (h2:oT.data=.fields ts)
  (k2:∀ b o,s.heap.get? b=some o→(∀ vs,o.data≠.fields vs)→∃ sl,h'.get? b=some { o with slots:=sl }):Off G own frs t:=by
 have no:∀ o,s.heap.get? t=some o→((∃ o,G t=some o)∨(∃ o,own t=some o)∨∃ f∈frs,∃ x,f.env.cells.lookup x=some t)→False:=fun o q h=>by
  have:=hideAll_get (e :: T++locs frs) q (b.seen he hT h)
  unfold xbase at hb
  rw [hb] at this; cases this
 refine ⟨?_,?_,fun f hf=>⟨fun q=>?_,fun x q=>?_⟩⟩
 ·cases q:G t with
  | none=>rfl
  | some o=>exact (no o (b.hG t o q) (.inl ⟨o,q⟩)).elim
 ·cases q:own t with
  | none=>rfl
  | some o=>exact (no o (b.hO t o q) (.inr (.inl ⟨o,q⟩))).elim
 ·refine X33 ((b.fr f hf).ns) fun o es ep g1 g2 U0=>?_
  obtain ⟨sl,hs⟩:=k2 _ o g1 fun vs z=>by rw [g2] at z; cases z
  rw [q,h1] at hs; obtain rfl:=Option.some.inj hs
  dsimp only at h2
  rw [g2] at h2; cases h2
 ·obtain ⟨⟨o,g1,_⟩,_⟩:=(b.fr f hf).cell x t q
  exact no o g1 (.inr (.inr ⟨f,hf,x,q⟩))
noncomputable def XAt.T:Option Value→List Addr→Prop
 | _,_=>True
theorem XAt.traced {fl:Value} (x:XAt Γ G own frs s.heap e (some fl)):∃ T a0,Off G own frs e∧Off G own frs T∧s.heap.TracedAtW (xbase s.heap e [T] frs) e (.ref Γ.xc) a0 fl:=by
 revert x; revert Γ G own frs s e fl; apply s7; generalize T1 _=Γ,T2 _=G,T3 _=own,T4 _=frs,T5 _=s,T6 _=e,T7 _=fl; intro x
 refine X36 x fun oe vs a0 h1 h2 h3 h4 h5 Z0=>?_; clear x; refine X36 Z0 fun T oT ts g1 g2 g3 g4 g5 g6=>?_; clear Z0
 exact (EI2 T a0 ⟨h5,g6,oe,vs,T,oT,ts,h1,⟨h2,h4⟩,h3,g1,hideAll_none _ (by simp),g5,g2,g3,g4⟩)
theorem XAt.of_traced (b:Base Γ G own frs s) {T:List Addr} (he:Off G own frs e) (hT:∀ t∈T,Off G own frs t) {h':Heap} {a0 fl:Value} (ht:h'.TracedAtW (xbase s.heap e T frs) e (.ref Γ.xc) a0 fl)
  (k2:∀ b o,s.heap.get? b=some o→(∀ vs,o.data≠.fields vs)→∃ sl,h'.get? b=some { o with slots:=sl }):XAt Γ G own frs h' e (some fl):=by
 refine Ex5 ht fun oe vs T' oT ts Z0=>?_; clear ht; refine An9 Z0 fun h1 Z1 h3 g1 g7 g5 g2 g3 g4=>?_; clear Z0; obtain ⟨h2,h4⟩:=Z1
 exact (EI3 oe vs a0 ⟨h1,h2,h3,h4,he,T',oT,ts,g1,g2,g3,g4,g5,b.newOff he hT g7 g2 g3 k2⟩)
section
variable {M:Model} {A:Around} {E:Value→Shared→Prop} {f:FrI} {fr:List FrI} {fl:Option Value}
theorem Y79 (b:Base Γ G own (f :: fr) s) (hf:f.cp=false) (hA:A.frames=some (f.env :: fr.map (·.env))) (x:XAt Γ G own (f :: fr) s.heap e fl) (hfl:fl=none∨fl=some .none∨fl=some (rawInt f.env.locals)) {Q:Unit→Shared→Prop}
  (h:∀ h',Base Γ G own (f :: fr) { s with heap:=h' }→XAt Γ G own (f :: fr) h' e (some (rawInt f.env.locals))→Q () { s with heap:=h' }):PySem.wpAny M A (noteFrame (.ref e) f.env) Q E s:=by
 revert b hf hA x hfl h; revert Γ G own s e M A E f fr fl Q; apply s12; generalize T1 _=Γ,T2 _=G,T3 _=own,T4 _=s,T5 _=e,T6 _=M,T7 _=A,T8 _=E,T9 _=f,T10 _=fr,T11 _=fl,T12 _=Q; intro b hf hA x hfl h
 have hr:∀ g∈f :: fr,g.cp=false:=fun g hg=>by
  rcases List.mem_cons.mp hg with rfl | hg
  ·exact hf
  ·exact b.real g hg
 have hfr:=(b.fr f (.head _)).frame hf
 rcases hfl with rfl | rfl | rfl
 ·refine X36 x fun oe vs a0 h1 h2 h3 h4 h5 h6=>?_; clear x
  have hl:=eq_45 (e:=e) b hr []
  unfold noteFrame
  simp only [hfr]
  refine PySem.wpAny_bind (wpAny_field h1 h3 h6 ?_)
  rw [if_neg dD]
  refine wpAny_entryW (base:=xbase s.heap e [] (f :: fr)) hA hl hfr h1 (eq_44 _) (hideAll_none _ (by simp)) h3 (Array.getElem?_eq_some_iff.mp h6).1 h4 fun h' hN=>?_
  refine An4 hN fun k1 U0 k3 k4=>?_; clear hN
  rw [h2] at k3
  exact h h' (b.flew h5 (by simp) k1 k4) (.of_traced b h5 (by simp) k3 k4)
 ·refine X23 x.traced fun T a0 o1 o2 ht=>?_
  have hT:∀ t∈[T],Off G own (f :: fr) t:=fun t q=>by rw [List.mem_singleton.mp q]; exact o2
  refine wpAny_noteFrame_onW hA (eq_45 (e:=e) b hr [T]) hfr ht (eq_44 _) (hideAll_none _ (by simp)) fun h' hN=>?_
  refine An4 hN fun k1 U1 k3 k4=>?_; clear hN
  exact h h' (b.flew o1 hT k1 k4) (.of_traced b o1 hT k3 k4)
 ·refine X23 x.traced fun T a0 o1 o2 ht=>?_
  refine wpAny_noteFrame_againW hfr ht ?_
  exact h s.heap b x
theorem Base.offKeep {frs:List FrI} (b:Base Γ G own frs s) {T:Addr} (hT:Off G own frs T) {h':Heap} (hk:∀ a o,a≠T→s.heap.get? a=some o→h'.get? a=some o):Base Γ G own frs { s with heap:=h' }:=by
 refine ⟨b.gens,b.os,b.hB,fun a o q=>hk a o (fun z=>by rw [z,hT.1] at q; cases q) (b.hG a o q),fun a o q=>hk a o (fun z=>by rw [z,hT.2.1] at q; cases q) (b.hO a o q),b.disj,fun f hf=>?_,b.nodup,b.real⟩
 have F:=b.fr f hf
 refine X32 F.ns fun o es ep h1 h2=>?_
 refine ⟨F.frame,F.kind,F.cnd,F.above,⟨o,es,ep,hk _ _ (hT.2.2 f hf).1 h1,h2⟩,F.offG,F.offO,fun x c hc=>?_⟩
 obtain ⟨⟨o,h1,h2⟩,h3⟩:=F.cell x c hc
 exact ⟨⟨o,hk c o (fun z=>(hT.2.2 f hf).2 x (z▸hc)) h1,h2⟩,h3⟩
theorem Y80 {frs:List FrI} (b:Base Γ G own frs s) {fl:Value} (x:XAt Γ G own frs s.heap e (some fl)) (fo:Option Addr) {Q:Unit→Shared→Prop}
  (h:∀ h',Base Γ G own frs { s with heap:=h' }→XAt Γ G own frs h' e (some (fo.elim .none fun a=>rawInt a))→Q () { s with heap:=h' }):PySem.wpAny M A (setFlight (.ref e) fo) Q E s:=by
 revert b x h; revert Γ G own s e M A E frs fl fo Q; apply s12; generalize T1 _=Γ,T2 _=G,T3 _=own,T4 _=s,T5 _=e,T6 _=M,T7 _=A,T8 _=E,T9 _=frs,T10 _=fl,T11 _=fo,T12 _=Q; intro b x h
 refine X36 x fun oe vs a0 h1 h2 h3 h4 h5 Z0=>?_; clear x; refine X36 Z0 fun T oT ts g1 g2 g3 g4 g5 g6=>?_; clear Z0
 unfold setFlight
 refine PySem.wpAny_bind (wpAny_field h1 h3 g1 ?_)
 rw [if_pos (show (Value.ref T != Value.none)=true from by simp)]
 have hsz:3<ts.size:=(Array.getElem?_eq_some_iff.mp g4).1
 have hd:=Obj.data_mapFields g3 (·.setIfInBounds 3 (fo.elim Value.none fun f=>rawInt f))
 refine wpAny_setField g2 g3 hsz (h _ (b.offKeep g6 fun a o q r=>(Heap.get?_update_other _ _ (Ne.symm q)).trans r) ?_)
 refine (EI3 oe vs a0 ⟨(Heap.get?_update_other _ _ g5).trans h1,h2,h3,h4,h5,T,_,_,g1,Heap.get?_update_self _ g2 (Obj.isFreed_of_fields hd),hd,?_,g5,g6⟩)
 rw [Array.getElem?_setIfInBounds_self_of_lt hsz]
theorem Y81 {frs:List FrI} {fl:Value} (x:XAt Γ G own frs s.heap e (some fl)) {Q:Value→Shared→Prop} (h:∀ T,Q (.ref T) s):PySem.wpAny M A (field (.ref e) 1) Q E s:=by
 refine X36 x fun oe vs a0 h1 h2 h3 h4 h5 Z0=>?_; clear x; refine X32 Z0 fun T oT ts g1 U0=>?_; clear Z0
 exact wpAny_field h1 h3 g1 (h T)
end
end
section
variable {Γ:Gam} {fn:FnS} {n:Nat} {σ:St} {env:Env} {G:PH} {s:Shared} {c:Cx Γ fn n} {Q:AF→St→Prop} {X:St→Prop} {ss:List Stmt}
theorem Cx.Good.frames {c:Cx Γ fn n} (g:c.Good) (hc:fn.comp=false):c.A.frames=some (c.env :: c.fr.map (·.env)):=by
 have:=g.ao.frames
 rw [hc] at this; exact this
theorem Cx.EP.passes (c:Cx Γ fn n) (hc:fn.comp=false) (G:PH) (X:St→Prop):PassesOwn (model Γ.prog Γ.w) c.A c.env (c.EP G X):=fun e s' h=>by
 revert hc h; revert Γ fn n c G X e s'; apply s3; generalize T1 _=Γ,T2 _=fn,T3 _=n; apply s5; generalize T1 _=c,T2 _=G,T3 _=X,T4 _=e,T5 _=s'; intro hc h
 refine Y2 ?_; rintro G0 hG0; obtain ⟨G',σ',l,⟨own,m,cs,a,fl,b,hr,lr,rfl,x,hfl⟩,hx⟩:=h; refine hG0 ?_; clear hG0
 revert l hx b hr lr x hfl; revert G' σ' own m cs a fl; apply s7; generalize T1 _=G',T2 _=σ',T3 _=own,T4 _=m,T5 _=cs,T6 _=a,T7 _=fl; intro l hx b hr lr x hfl
 refine Y79 b hc (lr.3.frames hc) x hfl fun h' b' x'=>?_
 exists h'; intro b' x'
 unfold cameBackBy
 refine PySem.wpAny_bind (Y81 x' fun T=>?_)
 exists T
 rw [if_neg (by simp)]
 refine Y80 b' x' c.env.frame fun h'' b'' x''=>?_
 exists h''; intro b'' x''
 have hf:c.env.frame=some c.env.locals:=b''.L.frame hc
 rw [hf] at x''
 exact ⟨G',σ',l,⟨own,m,cs,a,_,b'',hr,lr,rfl,x'',.inr (.inr rfl)⟩,hx⟩
theorem Y82 {own:PH} {f:FrI} {fr:List FrI} (b:Base Γ G own (f :: fr) s) (hf:f.cp=false) {A:Around} {E:Value→Shared→Prop} (hA:A.frames=some (f.env :: fr.map (·.env))) {a:Addr} {fl:Option Value} (x:XAt Γ G own (f :: fr) s.heap a fl)
  (hfl:fl=none∨fl=some .none∨fl=some (rawInt f.env.locals)) {Q:Unit→Shared→Prop} (h:∀ h',Base Γ G own (f :: fr) { s with heap:=h' }→XAt Γ G own (f :: fr) h' a (some .none)→Q () { s with heap:=h' }) :
  PySem.wpAny (model Γ.prog Γ.w) A (leaving f.env (.ref a)) Q E s:=by
 unfold leaving
 refine PySem.wpAny_bind (Y79 b hf hA x hfl fun h' b' x'=>?_)
 exact Y80 b' x' none fun h'' b'' x''=>h h'' b'' x''
end
inductive OkP (Γ:Gam) (G:PH) (frs:List FrI) (Q:V→HP→Prop) (v:Value) (s':Shared):Prop
 | intro (G' own:PH) (hp:HP) (x:V) (l:PLe G G') (b:Base Γ G' own frs s') (hr:HR Γ G' own hp) (h:VR G' v x) (q:Q x hp)
inductive ErP (Γ:Gam) (G:PH) (frs:List FrI) (X:HP→Prop) (e:Value) (s':Shared):Prop
 | intro (G' own:PH) (hp:HP) (a:Addr) (l:PLe G G') (b:Base Γ G' own frs s') (hr:HR Γ G' own hp) (he:e=.ref a) (hx:XAt Γ G' own frs s'.heap a (some .none)) (q:X hp)
noncomputable def FCP (Γ:Gam) (G:PH) (frs:List FrI) (Q:V→HP→Prop) (X:HP→Prop) (r:Result) (s':Shared):Prop :=
 match r with
 | .ok (.ret v)=>OkP Γ G frs Q v s'
 | .ok _=>False
 | .error e=>ErP Γ G frs X e s'
structure FC (Γ:Gam) (n:Nat) (f:Addr) (xs:List V) (hp:HP) (Q:V→HP→Prop) (X:HP→Prop):Prop where
 run:∀ A s G own frs vs,AOk n A (frs.map (·.env))→(∀ g∈frs,g.cp=false)→Γ.B.objs.size≤s.heap.objs.size→Base Γ G own frs s→HR Γ G own hp→VRs G vs xs →
  codeAny (model Γ.prog Γ.w) A (.call (.ref f) ⟨vs,[]⟩) (FCP Γ G frs Q X) s
noncomputable def noH (_:HP):Prop:=False
theorem FC.mono {Γ:Gam} {n:Nat} {f:Addr} {xs:List V} {hp:HP} {Q Q':V→HP→Prop} {X X':HP→Prop} (h:FC Γ n f xs hp Q X) (hQ:∀ x hp,Q x hp→Q' x hp) (hX:∀ hp,X hp→X' hp):FC Γ n f xs hp Q' X' :=
 ⟨fun A s G own frs vs a1 a2 a3 b hr hv=>Y9 (h.run A s G own frs vs a1 a2 a3 b hr hv) fun r s' q=>by
  match r,q with
  | .ok (.ret v),⟨G',own',hp',x,l,b,hr,hv,q⟩=>exact ⟨G',own',hp',x,l,b,hr,hv,hQ _ _ q⟩
  | .error e,⟨G',own',hp',a,l,b,hr,he,hx,q⟩=>exact ⟨G',own',hp',a,l,b,hr,he,hx,hX _ q⟩⟩
theorem AOk.less {n k:Nat} {A:Around} {l:List Env} (h:AOk n A l) (hk:k≤n):AOk k A l:=⟨h.frames,h.handled,by have:=h.depth; exact lA2 this hk,Nat.le_trans (add_le_add_left (mul_le_mul_left 10 hk) _) h.units⟩
theorem FC.more {Γ:Gam} {n k:Nat} {f:Addr} {xs:List V} {hp:HP} {Q:V→HP→Prop} {X:HP→Prop} (h:FC Γ k f xs hp Q X) (hk:k≤n):FC Γ n f xs hp Q X :=
 ⟨fun A s G own frs vs a1=>h.run A s G own frs vs (a1.less hk)⟩
theorem Base.pop {Γ:Gam} {G own:PH} {f:FrI} {frs:List FrI} {s:Shared} (b:Base Γ G own (f :: frs) s):Base Γ G own frs s:=by
 have hn:=b.nodup
 rw [flatMap_cons,nodup_append] at hn
 exact ⟨b.gens,b.os,b.hB,b.hG,b.hO,b.disj,fun g hg=>b.fr g (mem_cons_of_mem _ hg),hn.2.1,fun g hg=>b.real g (List.mem_of_mem_tail hg)⟩
theorem XAt.pop {Γ:Gam} {G own:PH} {f:FrI} {frs:List FrI} {h:Heap} {e:Addr} {fl:Option Value} (x:XAt Γ G own (f :: frs) h e fl):XAt Γ G own frs h e fl:=by
 revert x; revert Γ G own f frs h e fl; apply s8; generalize T1 _=Γ,T2 _=G,T3 _=own,T4 _=f,T5 _=frs,T6 _=h,T7 _=e,T8 _=fl; intro x
 have off:∀ a,Off G own (f :: frs) a→Off G own frs a:=fun a h=>⟨h.1,h.2.1,fun g hg=>h.2.2 g (mem_cons_of_mem _ hg)⟩
 refine X36 x fun oe vs a0 h1 h2 h3 h4 h5 h6=>?_; clear x
 refine (EI3 oe vs a0 ⟨h1,h2,h3,h4,off _ h5,?_⟩)
 cases fl with
 | none=>exact h6
 | some f=>refine X36 h6 fun T oT ts g1 g2 g3 g4 g5 g6=>?_; clear h6; exact (EI3 T oT ts ⟨g1,g2,g3,g4,g5,off _ g6⟩)
theorem Base.push {Γ:Gam} {G own:PH} {frs:List FrI} {s:Shared} (b:Base Γ G own frs s) (hr:∀ g∈frs,g.cp=false) (hsz:Γ.B.objs.size≤s.heap.objs.size) {env:Env} {m cs:Str→Option Value} {h':Heap} {tk:Nat}
  (hL:env.locals=s.heap.objs.size) (hf:env.frame=some env.locals) (hk:env.scope.kind=.function) (hn:h'.Ns env.locals m) (hkeep:∀ a o,s.heap.get? a=some o→h'.get? a=some o)
  (hcl:∀ x c,(x,c)∈env.cells→s.heap.objs.size<c∧h'.IsCell c (cs x)) (hc1:(env.cells.map (·.1)).Nodup) (hc2:(env.cells.map (·.2)).Nodup) :
  Base Γ G own (⟨env,m,cs,false⟩ :: frs) { s with heap:=h',toks:=tk }:=by
 have b':Base Γ G own frs { s with heap:=h',toks:=tk }:=⟨b.gens,b.os,b.hB,fun a o e=>hkeep a o (b.hG a o e),fun a o e=>hkeep a o (b.hO a o e),b.disj,fun f hf=>(b.fr f hf).heap fun a o _ e=>hkeep a o e,b.nodup,b.real⟩
 have new:∀ a,s.heap.objs.size≤a→G a=none∧own a=none∧∀ f∈frs,f.env.locals≠a∧∀ x,f.env.cells.lookup x≠some a:=fun a ha=>by
  refine An3 (b.fresh (Heap.get?_none_of_le ha)) fun h1 h2 h3=>?_
  exact ⟨h2,h1,h3⟩
 refine An3 (new env.locals (by rw [hL]; exact le_refl _)) fun l1 l2 l3=>?_
 refine ⟨b'.gens,b'.os,b'.hB,b'.hG,b'.hO,b'.disj,fun f hf'=>?_,?_,hr⟩
 ·rcases List.mem_cons.mp hf' with rfl | hf'
  ·refine ⟨fun _=>hf,hk,hc1,by rw [hL]; exact hsz,hn,l1,l2,fun x c e=>?_⟩
   obtain ⟨c1,c2⟩:=hcl x c (Y77 e)
   refine An3 (new c (Nat.le_of_lt c1)) fun n1 n2 U0=>?_
   exact ⟨c2,n1,n2⟩
  ·exact b'.fr f hf'
 ·rw [flatMap_cons,nodup_append]
  refine ⟨?_,b.nodup,fun a ha d hd q=>?_⟩
  ·show (env.locals :: env.cells.map (·.2)).Nodup
   rw [nodup_cons]
   refine ⟨fun hm=>?_,hc2⟩
   refine X12 (List.mem_map.mp hm) fun p hp e=>?_
   obtain ⟨c1,_⟩:=hcl p.1 p.2 hp
   rw [e,hL] at c1; exact absurd c1 (lt_irrefl _)
  ·have ha':s.heap.objs.size≤a:=by
    change a∈env.locals :: env.cells.map (·.2) at ha
    rcases List.mem_cons.mp ha with rfl | ha
    ·rw [hL]; exact le_refl _
    ·refine X12 (List.mem_map.mp ha) fun p hp e=>?_
     exact e▸Nat.le_of_lt (hcl p.1 p.2 hp).1
   refine X12 (List.mem_flatMap.mp hd) fun f hf' hd=>?_
   subst q
   refine An3 (new a ha') fun U1 U2 n3=>?_
   have F:=b.fr f hf'
   change a∈f.env.locals :: (if f.cp then [] else f.env.cells.map (·.2)) at hd
   rw [hr f hf'] at hd
   rcases List.mem_cons.mp hd with e | hd
   ·exact (n3 f hf').1 e.symm
   ·refine X12 (List.mem_map.mp hd) fun p hp e=>?_
    exact (n3 f hf').2 p.1 (e▸lookup_of_mem_nodup F.cnd hp)
structure BindOk (Γ:Gam) (fn:FnS) (xs:List V) (loc:List (Option V)):Prop where
 run:∀ s G vs,(∀ a o,Γ.B.get? a=some o→s.heap.get? a=some o)→VRs G vs xs→∃ binds,BindsTo s fn.fd ⟨vs,[]⟩ binds∧(∀ y∈binds,fn.names.lookup y.1=some .local) ∧
  ∀ (k:Nat) (x:Str) (kd:NameKind) (u:V),fn.names[k]?=some (x,kd)→loc[k]?=some (some u)→kd=.local∧∃ v,binds.reverse.lookup x=some v∧VR G v u
noncomputable def bodyPost (Q:V→HP→Prop) (af:AF) (τ:St):Prop :=
 match af with
 | .ret x=>Q x τ.hp
 | .next=>Q .none τ.hp
 | _=>False
theorem FC.intro {Γ:Gam} {n:Nat} {fn:FnS} {xs:List V} {hp:HP} {Q:V→HP→Prop} {X:HP→Prop} {loc:List (Option V)} (ok:FnOk Γ fn) (hc:fn.comp=false) (hcell:∀ x∈fn.names,x.2≠.cell) (hcl:fn.fd.closure=[])
  (hb:BindOk Γ fn xs loc) (h:XS Γ fn n fn.body ⟨loc,hp⟩ (bodyPost Q) (fun τ=>X τ.hp)):FC Γ (n+1) fn.addr xs hp Q X:=by
 revert ok hc hcell hcl hb h; revert Γ n fn xs hp Q X loc; apply s8; generalize T1 _=Γ,T2 _=n,T3 _=fn,T4 _=xs,T5 _=hp,T6 _=Q,T7 _=X,T8 _=loc; intro ok hc hcell hcl hb h
 refine ⟨fun A s G own frs vs ha hreal hsz b hr hv=>?_⟩
 have hB:∀ a o,Γ.B.get? a=some o→s.heap.get? a=some o:=fun a o e=>b.hG a o (b.hB a o e)
 refine Ex3 (ok.at_ hc) fun oc od osl ho=>?_
 refine X13 (hb.run s G vs hB hv) fun binds hbt hloc hlr=>?_
 refine Y51 (body:=fn.body) (binds:=binds) (by have:=ha.depth; unfold recursionLimit; exact sA1 this) (hB _ _ (Γ.hK _ _ ho)) rfl (Γ.hT.nolimit.keeps hB) ((codeRec_of Γ.hK (ok.code hc)).keeps hB) (ok.body hc) hbt hcell hloc (fun h₀ hns hkeep=>?_) ok.co ok.gen ok.kind
 let env:=callEnv fn.fd s.heap.objs.size fn.addr
 have eo:EnvOk fn env:=⟨rfl,rfl,rfl,fun _=>⟨_,_,rfl⟩⟩
 have hcells:env.cells=[]:=hcl
 have ao:AOk n (A.deeper env) (env :: frs.map (·.env)):=⟨Around.frames_deeper ha.frames,ha.handled,by have:=ha.depth; show A.depth+1+n≤900; exact lA1 this,by have:=ha.units; show A.units+3+10*n≤9000; exact lA1 this⟩
 let c:Cx Γ fn n:=⟨A.deeper env,env,frs⟩
 have b₀:Base Γ G own (⟨env,fun x=>binds.reverse.lookup x,fun _=>none,false⟩ :: frs) { s with heap:=h₀,toks:=s.toks+binds.length } :=
  b.push hreal hsz rfl rfl ok.kind hns hkeep (fun x c e=>by rw [hcells] at e; cases e) (by rw [hcells]; exact nodup_nil) (by rw [hcells]; exact nodup_nil)
 have r₀:c.Rep G ⟨loc,hp⟩ { s with heap:=h₀,toks:=s.toks+binds.length }:=by
  refine ⟨own,fun x=>binds.reverse.lookup x,fun _=>none,by rw [hc]; exact b₀,hr,fun k x kd u h1 h2=>?_,fun k x h1=>absurd rfl (hcell _ (mem_of_getElem? h1)),⟨ok,eo,by rw [hc]; exact ao⟩⟩
  obtain ⟨rfl,Z0⟩:=hlr k x kd u h1 h2; refine X12 Z0 fun v h3 h4=>?_; clear Z0
  exact ⟨v,h3,h4⟩
 refine wpAny_mono (h.run c G _ r₀) (fun f s' q=>?_) fun e s' q=>?_
 ·obtain ⟨G',af,σ',l,⟨own',m',cs',b',hr',lr'⟩,hf,hq⟩:=q
  rw [hc] at b'
  cases hf with
  | next=>exact ⟨G',own',_,.none,l,b'.pop,hr',.none,hq⟩
  | brk=>exact hq.elim
  | cont=>exact hq.elim
  | ret hv=>exact ⟨G',own',_,_,l,b'.pop,hr',hv,hq⟩
 ·refine Y2 ?_; rintro G0 hG0; obtain ⟨G',σ',l,⟨own',m',cs',a,fl,b',hr',lr',rfl,x,hfl⟩,hx⟩:=q; refine hG0 ?_; clear hG0
  rw [hc] at b' x
  refine kit <| Y82 (f:=⟨env,m',cs',false⟩) b' rfl (Around.frames_deeper ha.frames) x hfl fun h' b'' x''=>?_
  exact ⟨G',own',_,a,l,b''.pop,hr',rfl,x''.pop,hx⟩
section
variable {Γ:Gam} {fn:FnS} {n:Nat} {σ:St} {env:Env} {G:PH} {s:Shared} {c:Cx Γ fn n} {Q:AF→St→Prop} {X:St→Prop} {ss:List Stmt}
structure XEs (Γ:Gam) (fn:FnS) (n:Nat) (σ:St) (es:List Expr) (Q:List V→St→Prop) (X:St→Prop):Prop where
 run:∀ (c:Cx Γ fn n) G s pos,c.Rep G σ s→wpAny (model Γ.prog Γ.w) c.A (spliced (backTo pos (starEach es c.env))) (fun vs s'=>∃ G' xs σ',PLe G G'∧c.Rep G' σ' s'∧VRs G' vs xs∧Q xs σ') (c.EP G X) s
 plain:∀ env pos,((backTo pos (starEach es env)).any (·.1))=false
theorem XEs.nil {QL:List V→St→Prop} (h:QL [] σ):XEs Γ fn n σ [] QL X:=⟨fun c G s pos r=>Y28 (EI3 G [] σ ⟨.refl G,r,.nil,h⟩),fun _ _=>rfl⟩
theorem PEs.toX {es:List Expr} {xs:List V} {QL:List V→St→Prop} (h:PEs Γ fn n σ es xs) (q:QL xs σ):XEs Γ fn n σ es QL X :=
 ⟨fun c G s pos r=>wpAny_mono (h.run c G s pos r) (fun vs s₁ ⟨G₁,l₁,r₁,v₁⟩=>(EI3 G₁ xs σ ⟨l₁,r₁,v₁,q⟩)) NoX.to,h.plain⟩
theorem Y83 {es:List Expr} (h:es.all (fun e=>!isStarred e)=true) (env:Env) (pos:Pos):((backTo pos (starEach es env)).any (·.1))=false:=by
 induction es with
 | nil=>rfl
 | cons e r ih =>
  rw [all_cons,and_eq_true] at h
  rw [Y67 (by simpa using h.1)]
  exact ih h.2
theorem XEs.cons {e:Expr} {es:List Expr} {QL:List V→St→Prop} (h:XE Γ fn n σ e (fun x τ=>XEs Γ fn n τ es (fun xs τ'=>QL (x :: xs) τ') X) X) (hst:(e :: es).all (fun e=>!isStarred e)=true:=by rfl):XEs Γ fn n σ (e :: es) QL X:=by
 refine ⟨fun c G s pos r=>?_,Y83 hst⟩
 rw [all_cons,and_eq_true] at hst
 rw [Y67 (by simpa using hst.1)]
 show wpAny _ _ (spliced ((false,eval e c.env) :: backTo pos (starEach es c.env))) _ _ _
 refine Y29 (Y3 (h.run c G s r) (fun v s₁ q=>?_))
 obtain ⟨G₁,x,τ,l₁,r₁,v₁,hq⟩:=q
 refine wpAny_mono (hq.run c G₁ s₁ pos r₁) (fun vs s₂ q=>?_) fun _ _ q=>q.up l₁
 refine X34 q fun G₂ xs τ₂ l₂ r₂ v₂ hq=>?_; clear q
 exact (EI3 G₂ (x :: xs) τ₂ ⟨l₁.trans l₂,r₂,.cons (v₁.mono l₂) v₂,hq⟩)
theorem XEs.consP {e:Expr} {es:List Expr} {x:V} {QL:List V→St→Prop} (h:PE Γ fn n σ e x) (hs:XEs Γ fn n σ es (fun xs τ'=>QL (x :: xs) τ') X) (hst:(e :: es).all (fun e=>!isStarred e)=true:=by rfl):XEs Γ fn n σ (e :: es) QL X :=
 .cons (h.toX hs) hst
theorem Y84 {M:Model} {A:Around} {E:Value→Shared→Prop} {pos:Pos} {f:Value} {first:List Value} {es:List Expr} {K:Frag} {Q:Value→Shared→Prop} (hk:keepIn K f=true)
  (hp:((backTo pos (starEach es env)).any (·.1))=false) (h:wpAny M A (spliced (backTo pos (starEach es env))) (fun vs s₁=>K.In s₁.heap∧wpAny M A (call f (first++vs)) Q E s₁) E s) :
  wpAny M A (callWith pos f first (backTo pos (starEach es env)) (backToKw pos (keywordEach [] env))) Q E s:=by
 refine Y34 (by rw [hp]; rfl) (keeps_K hk) ?_
 cases q:backTo pos (starEach es env) with
 | nil =>
  rw [q] at h
  intro Γ p hΓ
  have h':K.In s.heap∧wpAny M A (call f (first++[])) Q E s:=h Γ p hΓ
  exact Y33 (Q:=fun a s₁=>K.In s₁.heap∧wpAny M A (call f (first++a.pos) a.kw) Q E s₁) h' Γ p hΓ
 | cons p rest =>
  rw [q] at h hp
  obtain ⟨b,t⟩:=p
  cases b with
  | true=>cases hp
  | false=>exact Y32 h
theorem Cx.Rep.K (r:c.Rep G σ s):Γ.K.In s.heap:=fun a o e=>r.ground a o (Γ.hK a o e)
theorem Cx.Good.frs {c:Cx Γ fn n} (g:c.Good) (hc:fn.comp=false) (m cs:Str→Option Value):AOk n c.A ((⟨c.env,m,cs,fn.comp⟩ :: c.fr:List FrI).map (·.env)):=by
 have:=g.ao
 rw [hc] at this; exact this
theorem Base.sz {own:PH} {f:FrI} {frs:List FrI} (b:Base Γ G own (f :: frs) s):Γ.B.objs.size≤s.heap.objs.size:=by
 have F:=b.fr f (.head _)
 exact Nat.le_trans F.above (Nat.le_of_lt F.ns.lt)
theorem Cx.callF (c:Cx Γ fn n) (hc:fn.comp=false) {f:Addr} {xs:List V} {QV:V→St→Prop} {vs:List Value} (r:c.Rep G σ s) (hv:VRs G vs xs)
  (h:FC Γ n f xs σ.hp (fun x hp'=>QV x ⟨σ.loc,hp'⟩) (fun hp'=>X ⟨σ.loc,hp'⟩)):wpAny (model Γ.prog Γ.w) c.A (call (.ref f) vs) (c.XP G QV) (c.EP G X) s:=by
 refine Y2 ?_; rintro G0 hG0; obtain ⟨own,m,cs,b,hr,lr⟩:=r; refine hG0 ?_; clear hG0
 refine Y8 (Y9 (h.run c.A s G own _ vs (lr.3.frs hc m cs) (fun g hg=>?_) b.sz b hr hv) fun r s' q=>?_)
 ·rcases List.mem_cons.mp hg with rfl | hg
  ·exact hc
  ·exact b.real g hg
 ·match r,q with
  | .ok (.ret v),⟨G',own',hp',x,l,b',hr',hv',q⟩=>exact ⟨G',x,⟨σ.loc,hp'⟩,l,⟨own',m,cs,b',hr',lr.grow l⟩,hv',q⟩
  | .error e,⟨G',own',hp',a,l,b',hr',he,hx,q⟩=>exact ⟨G',⟨σ.loc,hp'⟩,l,⟨own',m,cs,a,_,b',hr',lr.grow l,he,hx,.inr (.inl rfl)⟩,q⟩
theorem XE.ufn {x:Str} {p pos:Pos} {f:Addr} {args:List Expr} {QV:V→St→Prop} (hf:PE Γ fn n σ (.Name x p) (.obj f)) (hk:keepIn Γ.K (.ref f)=true) (hc:fn.comp=false)
  (ha:XEs Γ fn n σ args (fun xs τ=>FC Γ n f xs τ.hp (fun x hp'=>QV x ⟨τ.loc,hp'⟩) (fun hp'=>X ⟨τ.loc,hp'⟩)) X):XE Γ fn n σ (.Call (.Name x p) args [] pos) QV X:=⟨fun c G s rep=>by
 refine Y69 (wpAny_mono (hf.run c G s rep) (Cx.RP.obj fun s₁ G₁ l₁ r₁ v₁=>?_) NoX.to)
 refine Y84 (K:=Γ.K) hk (ha.plain _ _) (wpAny_mono (ha.run c G₁ s₁ pos r₁) (fun vs s₂ q=>?_) fun _ _ q=>q.up l₁)
 refine X34 q fun G₂ xs τ l₂ r₂ v₂ q=>?_
 exact ⟨r₂.K,wpAny_mono (c.callF hc r₂ v₂ q) (fun _ _ q=>q.up (l₁.trans l₂)) fun _ _ q=>q.up (l₁.trans l₂)⟩⟩
theorem XE.toP {e:Expr} {x:V} (h:XE Γ fn n σ e (fun y τ=>y=x∧τ=σ) noX):PE Γ fn n σ e x:=⟨fun c G s r =>
 wpAny_mono (h.run c G s r) (fun v s₁ ⟨G₁,y,τ,l₁,r₁,v₁,q1,q2⟩=>by subst q1; subst q2; exact ⟨G₁,l₁,r₁,v₁⟩) fun e s₁ ⟨_,_,_,_,q⟩=>q.elim⟩
theorem PE.ufn {x:Str} {p pos:Pos} {f:Addr} {args:List Expr} {xs:List V} {u:V} (hf:PE Γ fn n σ (.Name x p) (.obj f)) (hk:keepIn Γ.K (.ref f)=true) (hc:fn.comp=false) (ha:PEs Γ fn n σ args xs)
  (h:FC Γ n f xs σ.hp (fun x hp'=>x=u∧hp'=σ.hp) noH):PE Γ fn n σ (.Call (.Name x p) args [] pos) u :=
 XE.toP (XE.ufn hf hk hc (ha.toX (h.mono (fun x hp' q=>⟨q.1,by rw [q.2]⟩) fun _ q=>q)))
theorem ERs.none {P:Params} {nm:Str} {es:List DictEntry} {fs:List (Str × V)} (h:ERs P G es fs) (hn:nm∉fs.map (·.1)):getL nm es=some none:=by
 induction h with
 | nil=>rfl
 | @cons x t v u es fs h hs ih =>
  rw [map_cons,mem_cons,not_or] at hn
  have ih:=ih hn.2
  have hne:(Value.str x t).isStr nm=false:=by
   show (x == nm)=false
   rw [beq_eq_false_iff_ne]
   exact fun q=>hn.1 q.symm
  unfold getL at ih ⊢
  rw [find?_cons]
  dsimp only
  rw [hne]
  dsimp only
  split at ih
  ·cases ih
  ·rename_i he
   rw [he]
   dsimp only
   rw [List.any_cons]
   exact ih
theorem Y85 {α β:Type} {a:α}:∀ {l:List α} {r:List β},a∈(l.zip r).map (·.1)→a∈l
 | [],_,h=>by simp at h
 | x :: l,[],h=>by simp at h
 | x :: l,y :: r,h=>by
  simp at h
  rcases h with rfl | ⟨b,h⟩
  ·exact .head _
  ·exact .tail _ (Y85 (r:=r) (List.mem_map.mpr ⟨(a,b),h,rfl⟩))
noncomputable def MethPl (o:Expr) (nm:Str) (args:List Expr) (apos pos:Pos):Prop:=∀ env,eval (.Call (.Attribute o nm apos) args [] pos) env=(do
 let ov ← eval o env
 standAt apos.atName
 let (f,first) ← holding [ov] (getMethod ov nm (do return (← importBound o env).getD true))
 callWith pos f first (backTo pos (starEach args env)) (backToKw pos (keywordEach [] env)))
theorem Cx.getMethod_inst (c:Cx Γ fn n) {a C f:Addr} {ns:List Str} {vs:List V} {nm:Str} {pl:Sem Bool} {Q:Value × List Value→Shared→Prop} {E:Value→Shared→Prop} (r:c.Rep G σ s) (hi:σ.hp a=some (.inst C ns vs)) (hC:ClsOk Γ C)
  (hm:findIn Γ.K (.ref C) nm=some (some (.ref f))) (hfn:isFn Γ.K (.ref f)=true) (hnm:nm∉ns) (h:Q (.ref f,[.ref a]) s):wpAny (model Γ.prog Γ.w) c.A (getMethod (.ref a) nm pl) Q E s:=by
 obtain ⟨own,m,cs,b,⟨dx,hr,_⟩,lr⟩:=id r
 refine X24 (hr a _ hi) fun es nn h1 h2 h3 h4=>?_
 exact kit <| method_inst b.Fr Γ.hK ⟨b.hO _ _ h1,rfl,rfl,b.hO _ _ h2⟩ (hC.get _) hm hfn (h3.none fun q=>hnm (Y85 q)) h
theorem XE.meth {o:Expr} {nm:Str} {apos pos:Pos} {a C f:Addr} {ns:List Str} {vs:List V} {args:List Expr} {QV:V→St→Prop} (ho:PE Γ fn n σ o (.obj a)) (hi:σ.hp a=some (.inst C ns vs)) (hC:ClsOk Γ C)
  (hm:findIn Γ.K (.ref C) nm=some (some (.ref f))) (hfn:isFn Γ.K (.ref f)=true) (hk:keepIn Γ.K (.ref f)=true) (hnm:nm∉ns) (hc:fn.comp=false) (hp:MethPl o nm args apos pos)
  (ha:XEs Γ fn n σ args (fun xs τ=>FC Γ n f (.obj a :: xs) τ.hp (fun x hp'=>QV x ⟨τ.loc,hp'⟩) (fun hp'=>X ⟨τ.loc,hp'⟩)) X):XE Γ fn n σ (.Call (.Attribute o nm apos) args [] pos) QV X:=⟨fun c G s rep=>by
 refine Y35 (wpAny_mono (ho.run c G s rep) (Cx.RP.obj fun s₁ G₁ l₁ r₁ v₁=>?_) NoX.to) (hp _)
 refine c.getMethod_inst r₁ hi hC hm hfn hnm ?_
 refine Y84 (K:=Γ.K) hk (ha.plain _ _) (wpAny_mono (ha.run c G₁ s₁ pos r₁) (fun vs s₂ q=>?_) fun _ _ q=>q.up l₁)
 refine X34 q fun G₂ xs τ l₂ r₂ v₂ q=>?_
 exact ⟨r₂.K,wpAny_mono (c.callF hc r₂ (.cons (.obj a) v₂) q) (fun _ _ q=>q.up (l₁.trans l₂)) fun _ _ q=>q.up (l₁.trans l₂)⟩⟩
theorem PE.meth {o:Expr} {nm:Str} {apos pos:Pos} {a C f:Addr} {ns:List Str} {vs:List V} {args:List Expr} {xs:List V} {u:V} (ho:PE Γ fn n σ o (.obj a)) (hi:σ.hp a=some (.inst C ns vs)) (hC:ClsOk Γ C)
  (hm:findIn Γ.K (.ref C) nm=some (some (.ref f))) (hfn:isFn Γ.K (.ref f)=true) (hk:keepIn Γ.K (.ref f)=true) (hnm:nm∉ns) (hc:fn.comp=false) (hp:MethPl o nm args apos pos)
  (ha:PEs Γ fn n σ args xs) (h:FC Γ n f (.obj a :: xs) σ.hp (fun x hp'=>x=u∧hp'=σ.hp) noH):PE Γ fn n σ (.Call (.Attribute o nm apos) args [] pos) u :=
 XE.toP (XE.meth ho hi hC hm hfn hk hnm hc hp (ha.toX (h.mono (fun x hp' q=>⟨q.1,by rw [q.2]⟩) fun _ q=>q)))
structure NewOk (Γ:Gam) (C fI:Addr):Prop where
 makes:makesIn Γ.K C=true
 init:findIn Γ.K (.ref C) "__init__" = some (some (.ref fI))
 fn:isFn Γ.K (.ref fI)=true
 keep:keepIn Γ.K (.ref C)=true
theorem Around.under_make (A:Around) (C:Addr) (vals:List Value):(A.under (.builtin "type.__call__" ⟨.ref C :: vals,[]⟩)).frames=A.frames∧(A.under (.builtin "type.__call__" ⟨.ref C :: vals,[]⟩)).handled=A.handled:=by
 refine ⟨?_,rfl⟩
 show pushEnvs (Code.envs (.builtin "type.__call__" ⟨.ref C :: vals,[]⟩)) A.frames=A.frames
 rfl
theorem XE.new {x:Str} {p pos:Pos} {C fI:Addr} {args:List Expr} {QV:V→St→Prop} (hf:PE Γ fn (n+1) σ (.Name x p) (.obj C)) (hN:NewOk Γ C fI) (hc:fn.comp=false)
  (ha:XEs Γ fn (n+1) σ args (fun xs τ=>∀ a,τ.hp a=none→FC Γ n fI (.obj a :: xs) (upd τ.hp a (.inst C [] [])) (fun x hp'=>x=.none∧QV (.obj a) ⟨τ.loc,hp'⟩) (fun hp'=>X ⟨τ.loc,hp'⟩)) X) :
  XE Γ fn (n+1) σ (.Call (.Name x p) args [] pos) QV X:=by
 revert hf hN hc ha; revert Γ fn n σ X x p pos C fI args QV; apply s12; generalize T1 _=Γ,T2 _=fn,T3 _=n,T4 _=σ,T5 _=X,T6 _=x,T7 _=p,T8 _=pos,T9 _=C,T10 _=fI,T11 _=args,T12 _=QV; intro hf hN hc ha
 refine ⟨fun c G s rep=>?_⟩
 revert c G s; apply s3; generalize T1 _=c,T2 _=G,T3 _=s; intro rep
 refine Y69 (wpAny_mono (hf.run c G s rep) (Cx.RP.obj fun s₁ G₁ l₁ r₁ v₁=>?_) NoX.to)
 revert s₁ G₁; apply s2; generalize T1 _=s₁,T2 _=G₁; intro l₁ r₁ v₁
 refine Y84 (K:=Γ.K) hN.keep (ha.plain _ _) (wpAny_mono (ha.run c G₁ s₁ pos r₁) (fun vs s₂ q=>?_) fun _ _ q=>q.up l₁)
 revert vs s₂; apply s2; generalize T1 _=vs,T2 _=s₂; intro q
 refine X34 q fun G₂ xs τ l₂ r₂ v₂ q=>?_
 revert G₂ xs τ; apply s3; generalize T1 _=G₂,T2 _=xs,T3 _=τ; intro l₂ r₂ v₂ q
 refine ⟨r₂.K,?_⟩
 obtain ⟨own,m,cs,b,hr,lr⟩:=id r₂
 revert own m cs; apply s3; generalize T1 _=own,T2 _=m,T3 _=cs; intro b hr lr
 refine wpAny_mono (Q:=c.XP G₂ QV) (E:=c.EP G₂ X) ?_ (fun _ _ q=>q.up (l₁.trans l₂)) fun _ _ q=>q.up (l₁.trans l₂)
 refine Y55 b.Fr Γ.hK b.News hN.makes hN.init hN.fn fun a dx h' F N hlt1 hlt2=>?_
 have Na:=N (a,instObj C dx) (.head _)
 revert a dx h'; apply s3; generalize T1 _=a,T2 _=dx,T3 _=h'; intro F N hlt1 hlt2 Na
 have Nd:=N (dx,dictOf [] 0) (.tail _ (.head _))
 have Nr:∀ p∈allNews Γ.B (isL c.env) s₂.heap,h'.get? p.1=some p.2:=fun p hp=>(N p (.tail _ (.tail _ hp))).1
 have keep:∀ d o,d≠c.env.locals→s₂.heap.get? d=some o→h'.get? d=some o:=fun d o hd e=>by
  cases q:Γ.B.get? d with
  | none=>exact Nr (d,o) (Y59.mpr ⟨by simpa [isL] using hd,q,e⟩)
  | some o' =>
   have:=b.hG d o' (b.hB d o' q)
   rw [e] at this; obtain rfl:=Option.some.inj this
   exact F.keep d o q
 have fresh:∀ d,d=a∨d=dx→s₂.heap.get? d=none:=fun d hd=>by
  cases q:s₂.heap.get? d with
  | none=>rfl
  | some o =>
   have hB:Γ.B.get? d=none:=by rcases hd with rfl | rfl; exact Na.2.2; exact Nd.2.2
   have hL:d≠c.env.locals:=by rcases hd with rfl | rfl; exact Na.2.1; exact Nd.2.1
   have hm:(d,o)∈allNews Γ.B (isL c.env) s₂.heap:=Y59.mpr ⟨by simpa [isL] using hL,hB,q⟩
   have h1:=hlt1 _ hm
   rcases hd with rfl | rfl
   ·exact absurd (Nat.lt_trans h1 hlt2) (lt_irrefl _)
   ·exact absurd h1 (lt_irrefl _)
 have b₁:Base Γ G₂ own (⟨c.env,m,cs,fn.comp⟩ :: c.fr) { s₂ with heap:=h' }:=b.kept (tk:=s₂.toks) F.ns keep
 have oa:=(b.fresh (fresh a (.inl rfl))).1
 have od:=(b.fresh (fresh dx (.inr rfl))).1
 have b₂:Base Γ G₂ (ins (ins own dx (dictOf [] 0)) a (instObj C dx)) (⟨c.env,m,cs,fn.comp⟩ :: c.fr) { s₂ with heap:=h' }:=by
  have gd:=(b.fresh (fresh dx (.inr rfl)))
  have ga:=(b.fresh (fresh a (.inl rfl)))
  refine ⟨b₁.gens,b₁.os,b₁.hB,b₁.hG,fun d o e=>?_,fun d o e=>?_,fun f hf=>?_,b₁.nodup,b₁.real⟩
  ·unfold N0.ins at e
   split at e
   ·rename_i q; subst q; obtain rfl:=Option.some.inj e; exact Na.1
   ·split at e
    ·rename_i q; subst q; obtain rfl:=Option.some.inj e; exact Nd.1
    ·exact b₁.hO d o e
  ·unfold N0.ins at e
   split at e
   ·rename_i q; subst q; exact ga.2.1
   ·split at e
    ·rename_i q; subst q; exact gd.2.1
    ·exact b₁.disj d o e
  ·have F:=b₁.fr f hf
   refine F.atO ((Y75 (ga.2.2 f hf).1).trans ((Y75 (gd.2.2 f hf).1).trans F.offO)) fun y d e=>?_
   exact (Y75 fun q=>(ga.2.2 f hf).2 y (e.trans (congrArg some q))).trans ((Y75 fun q=>(gd.2.2 f hf).2 y (e.trans (congrArg some q))).trans (F.cell y d e).2.2)
 have hr₂:=hr.allocI (C:=C) oa od (ne_of_lt hlt2)
 have hpa:=hr.none_of oa
 obtain ⟨u1,u2⟩:=Around.under_make c.A C vs
 have ao:AOk n (c.A.under (.builtin "type.__call__" ⟨.ref C :: vs,[]⟩)) ((⟨c.env,m,cs,fn.comp⟩ :: c.fr:List FrI).map (·.env)):=by
  have:=lr.3.frs hc m cs
  exact ⟨u1.trans this.frames,u2.trans this.handled,by rw [depth_under_make]; have:=this.depth; exact lA1 this,by rw [units_under_make]; have:=this.units; exact lA1 this⟩
 refine Y9 ((q a hpa).run _ _ G₂ _ _ (.ref a :: vs) ao (fun g hg=>?_) b₂.sz b₂ hr₂ (.cons (.obj a) v₂)) fun r s' q=>?_
 ·exists g; intro hg
  rcases List.mem_cons.mp hg with rfl | hg
  ·exact hc
  ·exact b.real g hg
 ·revert r s'; apply s2; generalize T1 _=r,T2 _=s'; intro q
  match r,q with
  | .ok (.ret v),⟨G',own',hp',y,l,b',hr',hv',q1,q2⟩ =>
   subst q1
   obtain rfl:=hv'.inv
   exact ⟨rfl,G',.obj a,⟨τ.loc,hp'⟩,l,⟨own',m,cs,b',hr',lr.grow l⟩,.obj a,q2⟩
  | .error e,⟨G',own',hp',a',l,b',hr',he,hx,q⟩=>exact ⟨G',⟨τ.loc,hp'⟩,l,⟨own',m,cs,a',_,b',hr',lr.grow l,he,hx,.inr (.inl rfl)⟩,q⟩
end
section
variable {Γ:Gam} {fn:FnS} {n:Nat} {σ:St} {env:Env} {G:PH} {s:Shared} {c:Cx Γ fn n} {Q:AF→St→Prop} {X:St→Prop} {ss:List Stmt}
theorem Cx.Rep.storeC (r:c.Rep G σ s) (hc:fn.comp=false) {k:Nat} {x:Str} {v:Value} {u:V} (hn:fn.names[k]?=some (x,.cell)) (hv:VR G v u) {E:Value→Shared→Prop} :
  PySem.wpAny (model Γ.prog Γ.w) c.A (storeName c.env x v) (fun _ s'=>c.Rep G ⟨σ.loc.set k (some u),σ.hp⟩ s') E s:=by
 obtain ⟨own,m,cs,b,hr,lr⟩:=r
 obtain ⟨a,ha⟩:=lr.2 k x hn
 refine wpAny_storeName_cell (lr.3.eo.fun_ lr.3.ok) (lr.3.eo.kindOf lr.3.ok hn) ha (b.L.cell x a ha).1 fun h' hv' hs=>?_
 rw [hc] at b
 refine ⟨own,m,fun y=>if y=x then some v else cs y,?_,hr,lr.setC lr.3.ok hn hv⟩
 rw [hc]
 exact b.cell b.L.cnd ha hv' hs
structure Tgt (Γ:Gam) (fn:FnS) (n:Nat) (t:Expr) (x:V) (f:List (Option V)→List (Option V)):Prop where
 run:∀ (c:Cx Γ fn n) G σ s v (E:Value→Shared→Prop),c.Rep G σ s→VR G v x→PySem.wpAny (model Γ.prog Γ.w) c.A (assign t c.env v) (fun _ s'=>c.Rep G ⟨f σ.loc,σ.hp⟩ s') E s
theorem Tgt.name (k:Nat) {x:Str} {p:Pos} {u:V} (hn:fn.names[k]?=some (x,.local)):Tgt Γ fn n (.Name x p) u (fun l=>l.set k (some u)):=⟨fun c G σ s v E r hv=>PyProof.Rows.assign_Name (r.store hn hv)⟩
theorem Tgt.cell (k:Nat) {x:Str} {p:Pos} {u:V} (hc:fn.comp=false) (hn:fn.names[k]?=some (x,.cell)):Tgt Γ fn n (.Name x p) u (fun l=>l.set k (some u)):=⟨fun c G σ s v E r hv=>PyProof.Rows.assign_Name (r.storeC hc hn hv)⟩
inductive Tgts (Γ:Gam) (fn:FnS) (n:Nat):List Expr→List V→(List (Option V)→List (Option V))→Prop
 | nil:Tgts Γ fn n [] [] id
 | cons {t:Expr} {x:V} {f g:List (Option V)→List (Option V)} {ts:List Expr} {xs:List V} (h:Tgt Γ fn n t x f) (hs:Tgts Γ fn n ts xs g) (hst:isStarred t=false:=by rfl):Tgts Γ fn n (t :: ts) (x :: xs) (fun l=>g (f l))
theorem Y86 {t:Expr} {ts:List Expr} {env:Env} (h:isStarred t=false):assignEach (t :: ts) env=(false,assign t env) :: assignEach ts env:=by
 cases t <;> first | rfl | cases h
theorem Tgts.len {ts:List Expr} {xs:List V} {f:List (Option V)→List (Option V)} (h:Tgts Γ fn n ts xs f) (env:Env):(assignEach ts env).length=xs.length∧(assignEach ts env).findIdx? (·.1)=none:=by
 induction h with
 | nil=>exact ⟨rfl,rfl⟩
 | cons h hs hst ih =>
  rw [Y86 hst]
  refine ⟨by rw [length_cons,length_cons,ih.1],?_⟩
  rw [List.findIdx?_cons]
  simp [ih.2]
theorem Tgts.run {ts:List Expr} {xs:List V} {f:List (Option V)→List (Option V)} (h:Tgts Γ fn n ts xs f) (c:Cx Γ fn n) {E:Value→Shared→Prop}:∀ {G:PH} {σ:St} {s:Shared} {vs:List Value},c.Rep G σ s→VRs G vs xs →
  PySem.wpAny (model Γ.prog Γ.w) c.A (assignInOrder ((assignEach ts c.env).map (·.2)) vs) (fun _ s'=>c.Rep G ⟨f σ.loc,σ.hp⟩ s') E s:=by
 induction h with
 | nil =>
  intro G σ s vs r hv
  obtain rfl:=hv.inv
  exact assignInOrder_nil r
 | cons h hs hst ih =>
  intro G σ s vs r hv
  cases hv with
  | cons v1 v2 =>
   rw [Y86 hst]
   exact assignInOrder_cons (PySem.wpAny_mono (h.run c G σ s _ E r v1) (fun _ s₁ r₁=>ih r₁ v2) fun _ _ q=>q)
theorem Tgt.tup {ts:List Expr} {k:Nat} {p:Pos} {xs:List V} {f:List (Option V)→List (Option V)} (h:Tgts Γ fn n ts xs f):Tgt Γ fn n (.Tuple ts k p) (.tup xs) f:=⟨fun c G σ s v E r hv=>by
 refine Ex4 hv.inv fun U0 U1 U2 U3 Z1=>?_; obtain ⟨rfl,Z0⟩:=Z1; refine An4 Z0 fun hh hc hd hvs=>?_; clear Z0
 obtain ⟨h1,h2⟩:=h.len c.env
 have hl:=hvs.length
 refine assign_Tuple_tuple r.good.hh ⟨_,r.get hh,hc,_,hd⟩ (by rw [h1,size_toArray]; exact hl.symm) h2 fun h' he=>?_
 obtain ⟨own,m,cs,b,hr,lr⟩:=id r
 have hk:∀ a o,s.heap.get? a=some o→h'.get? a=some o:=fun a o e=>he a o (ne_of_lt (Heap.lt_size e)) e
 have b':Base Γ G own (⟨c.env,m,cs,fn.comp⟩ :: c.fr) { s with heap:=h' }:=b.kept (tk:=s.toks) (b.L.ns.keeps hk) fun a o _ e=>hk a o e
 exact h.run c ⟨own,m,cs,b',hr,lr⟩ hvs⟩
structure XTg (Γ:Gam) (fn:FnS) (n:Nat) (σ:St) (t:Expr) (x:V) (QS:St→Prop) (X:St→Prop):Prop where
 run:∀ (c:Cx Γ fn n) G s v,c.Rep G σ s→VR G v x→wpAny (model Γ.prog Γ.w) c.A (assign t c.env v) (fun _ s'=>∃ G' σ',PLe G G'∧c.Rep G' σ' s'∧QS σ') (c.EP G X) s
theorem Tgt.toX {t:Expr} {x:V} {f:List (Option V)→List (Option V)} {QS:St→Prop} (h:Tgt Γ fn n t x f) (q:QS ⟨f σ.loc,σ.hp⟩):XTg Γ fn n σ t x QS X :=
 ⟨fun c G s v r hv=>Y3 (kit <| h.run c G σ s v (c.EP G X) r hv) (fun _ s' r'=>(EI2 G _ ⟨.refl G,r',q⟩))⟩
noncomputable def AsgPl (t e:Expr) (q:Pos):Prop:=∀ env,exec (.Assign [t] e q) env=(do standAt q; let v ← eval e env; assign t env v; pure .next)
theorem XT.assignX {t e:Expr} {q:Pos} {QT:AF→St→Prop} (he:XE Γ fn n σ e (fun u τ=>XTg Γ fn n τ t u (QT .next) X) X) (hp:AsgPl t e q):XT Γ fn n (.Assign [t] e q) σ QT X:=⟨fun c G s rep=>by
 rw [hp]
 refine Y4 (Y7 (Y4 (Y3 (he.run c G s rep) (fun v s₁ q=>?_))))
 obtain ⟨G₁,u,τ,l₁,r₁,v₁,hq⟩:=q
 refine Y4 (wpAny_mono (hq.run c G₁ s₁ v r₁ v₁) (fun _ s₂ q=>wpAny_pure ?_) fun _ _ q=>q.up l₁)
 refine X23 q fun G₂ τ₂ l₂ r₂ hq=>?_; clear q
 exact .mk (l₁.trans l₂) r₂ .next hq⟩
theorem eq_46 {t e:Expr} {q:Pos} (h1:∀ env,swapsWithSole [t] e q.line env=pure false) (h2:∀ env,swappedStores [t] e env=pure none) (h3:∀ env,(assignEach [t] env).map (·.2)=[assign t env]):AsgPl t e q:=fun env=>by
 show ((do
  standAt q
  if ← swapsWithSole [t] e q.line env then do
   evalThenUse e env fun v=>assignAll v ((assignEach [t] env).map (·.2))
   pure .next
  else do
   let v ← eval e env
   assignStores env v (← swappedStores [t] e env) ((assignEach [t] env).map (·.2))):Sem Flow)=_
 rw [h1,h2,h3]
 rfl
theorem Y87 {t e:Expr} {q:Pos} (h1:∀ env,swapsWithSole [t] e q.line env=pure false:=by intro _; rfl) (h2:∀ env,swappedStores [t] e env=pure none:=by intro _; rfl) (h3:∀ env,(assignEach [t] env).map (·.2)=[assign t env]:=by intro _; rfl):AsgPl t e q:=eq_46 h1 h2 h3
theorem ERs.put {P:Params} {nm:Str} {v:Value} {u:V} {tk:Tok} (hv:VR G v u) {es:List DictEntry} {ns:List Str} {vs:List V} (h:ERs P G es (ns.zip vs)) (hl:ns.length=vs.length) (hn:ns.Nodup) {k:Nat} (e1:ns[k]?=some nm) :
  ERs P G (putL nm (PyData.keyHash P nm) (.str nm tk) v es) (ns.zip (vs.set k u)):=by
 induction ns generalizing es vs k with
 | nil=>exact nomatch e1
 | cons y ns ih =>
  cases vs with
  | nil=>exact nomatch hl
  | cons x vs =>
  refine Ex3 h.un fun t w r Z1=>?_; obtain ⟨rfl,Z0⟩:=Z1; refine An2 Z0 fun h1 h2=>?_; clear Z0
  cases k with
  | zero =>
   have q:y=nm:=Option.some.inj e1
   show ERs P G (if (Value.str y t).isStr nm=true then _ else _) _
   rw [if_pos (show (Value.str y t).isStr nm=true from beq_iff_eq.mpr q),q]
   exact .cons hv h2
  | succ k =>
   rw [nodup_cons] at hn
   show ERs P G (if (Value.str y t).isStr nm=true then _ else _) _
   rw [if_neg (show ¬ (Value.str y t).isStr nm=true from fun q=>hn.1 ((beq_iff_eq.mp q:y=nm)▸mem_of_getElem? (show ns[k]?=some nm from e1)))]
   exact .cons h1 (ih h2 (Nat.succ.inj hl) hn.2 e1)
theorem ERs.add {P:Params} {nm:Str} {v:Value} {u:V} {tk:Tok} (hv:VR G v u) {es:List DictEntry} {fs:List (Str × V)} (h:ERs P G es fs) (hn:nm∉fs.map (·.1)) :
  ERs P G (putL nm (PyData.keyHash P nm) (.str nm tk) v es) (fs++[(nm,u)]):=by
 induction h with
 | nil=>exact .cons hv .nil
 | @cons y t w _ es fs h hs ih =>
  rw [map_cons,mem_cons,not_or] at hn
  have hne:¬ (Value.str y t).isStr nm=true:=by
   show ¬ (y == nm)=true
   rw [beq_iff_eq]
   intro q; exact hn.1 q.symm
  show ERs P G (if (Value.str y t).isStr nm=true then _ else _) _
  rw [if_neg hne]
  exact .cons h (ih hn.2)
theorem ERs.len {P:Params} {es:List DictEntry} {fs:List (Str × V)} (h:ERs P G es fs):es.length=fs.length:=by
 induction h with
 | nil=>rfl
 | cons h hs ih=>exact congrArg (· + 1) ih
theorem Y88 {nm:Str} {hsh:Int} {key v:Value}:∀ es:List DictEntry,(putL nm hsh key v es).length≤es.length+1
 | []=>le_refl _
 | e :: r=>by
  unfold putL
  split
  ·simp
  ·simp only [length_cons]
   have:=Y88 (nm:=nm) (hsh:=hsh) (key:=key) (v:=v) r
   exact lA1 this
theorem Base.writeL {own:PH} {fr:List FrI} {env:Env} {m cs:Str→Option Value} {cp:Bool} (b:Base Γ G own (⟨env,m,cs,cp⟩ :: fr) s) {d:Addr} {o o':Obj} (hd:own d=some o) {h':Heap} {tk:Nat} (hn:h'.Ns env.locals m)
  (hk:∀ a o,a≠d→a≠env.locals→s.heap.get? a=some o→h'.get? a=some o) (ho:h'.get? d=some o'):Base Γ G (N0.ins own d o') (⟨env,m,cs,cp⟩ :: fr) { s with heap:=h',toks:=tk }:=by
 have hGd:=b.disj d o hd
 have gL:∀ a x,G a=some x→a≠env.locals:=fun a x e q=>by have:=b.L.offG; rw [q] at e; rw [this] at e; cases e
 have oL:∀ a x,own a=some x→a≠env.locals:=fun a x e q=>by have:=b.L.offO; rw [q] at e; rw [this] at e; cases e
 have cellD:∀ f∈(⟨env,m,cs,cp⟩ :: fr:List FrI),∀ x c,f.env.cells.lookup x=some c→h'.IsCell c (f.cs x)∧G c=none∧N0.ins own d o' c=none:=fun f hf x c hc=>by
  refine An3 ((b.fr f hf).cell x c hc) fun h1 h2 h3=>?_
  have hcL:c≠env.locals:=fun q=>Y60 b.L.ns (q▸h1)
  have hcd:c≠d:=fun q=>by rw [q,hd] at h3; cases h3
  refine X12 h1 fun o ho hdd=>?_; clear h1
  exact ⟨⟨o,hk c _ hcd hcL ho,hdd⟩,h2,(Y75 hcd).trans h3⟩
 refine ⟨b.gens,b.os,b.hB,fun a x e=>hk a x (fun q=>by rw [q,hGd] at e; cases e) (gL a x e) (b.hG a x e),fun a x e=>?_,fun a x e=>?_,fun f hf=>?_,b.nodup,b.real⟩
 ·unfold N0.ins at e
  split at e
  ·rename_i q; subst q; obtain rfl:=Option.some.inj e; exact ho
  ·rename_i q; exact hk a x q (oL a x e) (b.hO a x e)
 ·unfold N0.ins at e
  split at e
  ·rename_i q; subst q; exact hGd
  ·exact b.disj a x e
 ·have hdL:=oL d o hd
  rcases List.mem_cons.mp hf with rfl | hf
  ·exact ⟨b.L.frame,b.L.kind,b.L.cnd,b.L.above,hn,b.L.offG,(Y75 (Ne.symm hdL)).trans b.L.offO,cellD ⟨env,m,cs,cp⟩ (.head _)⟩
  ·have F:=b.fr f (mem_cons_of_mem _ hf)
   have hLd:f.env.locals≠d:=fun q=>by have:=F.offO; rw [q,hd] at this; cases this
   refine X32 F.ns fun o es ep h4 h5=>?_
   exact ⟨F.frame,F.kind,F.cnd,F.above,⟨o,es,ep,hk _ _ hLd (b.locals_ne hf) h4,h5⟩,F.offG,(Y75 hLd).trans F.offO,cellD f (mem_cons_of_mem _ hf)⟩
noncomputable def newsBut (B:Heap) (env:Env) (d:Addr) (h:Heap):List (Addr × Obj):=allNews B (fun x=>isL env x || decide (x=d)) h
theorem Y89 {B h:Heap} {env:Env} {d:Addr}:∀ p∈newsBut B env d h,p.1≠d:=fun p hp=>by
 obtain ⟨e1,_⟩:=Y59.mp hp
 simp only [or_eq_false_iff,decide_eq_false_iff_not] at e1
 exact e1.2
theorem Base.NewsD {own:PH} {fr:List FrI} {env:Env} {m cs:Str→Option Value} {cp:Bool} (b:Base Γ G own (⟨env,m,cs,cp⟩ :: fr) s) {d:Addr} {o:Obj} (hd:own d=some o):PyProof.Rows.News Γ.B env.locals s.heap ((d,o) :: newsBut Γ.B env d s.heap):=fun p hp=>by
 rcases List.mem_cons.mp hp with rfl | hp
 ·refine ⟨b.hO _ _ hd,fun q=>?_,?_⟩
  ·have:=b.L.offO; rw [← q,hd] at this; cases this
  ·cases q:Γ.B.get? d with
   | none=>rfl
   | some o=>have:=b.disj d _ hd; rw [b.hB d o q] at this; cases this
 ·refine An3 (Y59.mp hp) fun e1 e2 e3=>?_
  simp only [or_eq_false_iff,isL,decide_eq_false_iff_not] at e1
  exact ⟨e3,e1.1,e2⟩
theorem Base.writeN {own:PH} {fr:List FrI} {env:Env} {m cs:Str→Option Value} {cp:Bool} (b:Base Γ G own (⟨env,m,cs,cp⟩ :: fr) s) {d:Addr} {o o':Obj} (hd:own d=some o) {h':Heap} {tk:Nat} (F:PyProof.Rows.Fr Γ.B env.locals h' m)
  (N:PyProof.Rows.News Γ.B env.locals h' ((d,o') :: newsBut Γ.B env d s.heap)):Base Γ G (N0.ins own d o') (⟨env,m,cs,cp⟩ :: fr) { s with heap:=h',toks:=tk } :=
 b.writeL hd F.ns (fun a x h1 h2 h3=>by
  cases q:Γ.B.get? a with
  | none=>exact (N (a,x) (.tail _ (Y59.mpr ⟨by simp only [or_eq_false_iff,isL,decide_eq_false_iff_not]; exact ⟨h2,h1⟩,q,h3⟩))).1
  | some o' =>
   have:=b.hG a o' (b.hB a o' q)
   rw [h3] at this; obtain rfl:=Option.some.inj this
   exact F.keep a x q) (N (d,o') (.head _)).1
theorem Cx.setAttr (c:Cx Γ fn n) {a C:Addr} {ns ns':List Str} {vs vs':List V} {nm:Str} {v:Value} {u:V} {E:Value→Shared→Prop} (r:c.Rep G σ s) (hi:σ.hp a=some (.inst C ns vs)) (hC:ClsOk Γ C) (ht:takerIn Γ.K C nm=some none)
  (hv:VR G v u) (hz:ns.length≤100) (hput:∀ es tk,ERs Γ.w.params G es (ns.zip vs)→ns.length=vs.length→ERs Γ.w.params G (putL nm (PyData.keyHash Γ.w.params nm) (.str nm tk) v es) (ns'.zip vs')∧ns'.length=vs'.length∧(getL nm es).isSome=true) :
  wpAny (model Γ.prog Γ.w) c.A (PySem.setAttr (.ref a) nm v) (fun _ s'=>c.Rep G ⟨σ.loc,upd σ.hp a (.inst C ns' vs')⟩ s') E s:=by
 obtain ⟨own,m,cs,b,hr,lr⟩:=r
 refine X36 (hr.writeI hi) fun d es nn h1 h2 h3 h4 h5 hw=>?_
 refine An3 (hput es (s.toks+1) h3 h4) fun g1 g2 g3=>?_
 have hlen:=h3.len
 have hzz:(ns.zip vs).length≤100:=by rw [List.length_zip]; exact lA2 (min_le_left ns.length vs.length) hz
 have hpl:=Y88 (nm:=nm) (hsh:=PyData.keyHash Γ.w.params nm) (key:=.str nm (s.toks+1)) (v:=v) es
 refine kit <| set_dict b.Fr Γ.hK (b.NewsD h2) ⟨b.hO _ _ h1,rfl,rfl,b.hO _ _ h2⟩ rfl hC.set hC.over ht hC.dict g3 rfl (.head Y89) (lA3 hpl (eqL hlen) hzz) fun h' F' N'=>?_
 exact ⟨_,m,cs,b.writeN h2 F' N',hw _ _ _ _ g1 g2,lr⟩
theorem XTg.attr (k:Nat) {o:Expr} {nm:Str} {p:Pos} {a C:Addr} {ns:List Str} {vs:List V} {u:V} {QS:St→Prop} (ho:PE Γ fn n σ o (.obj a)) (hi:σ.hp a=some (.inst C ns vs)) (hn:ns[k]?=some nm) (hC:ClsOk Γ C) (ht:takerIn Γ.K C nm=some none)
  (hnd:ns.Nodup) (hz:ns.length≤100) (q:QS ⟨σ.loc,upd σ.hp a (.inst C ns (vs.set k u))⟩):XTg Γ fn n σ (.Attribute o nm p) u QS X:=⟨fun c G s v r hv=>by
 refine Y44 (wpAny_mono (ho.run c G s r) (Cx.RP.obj fun s₁ G₁ l₁ r₁ v₁=>?_) NoX.to)
 refine Y3 (c.setAttr (ns':=ns) (vs':=vs.set k u) (E:=c.EP G X) r₁ hi hC ht (hv.mono l₁) hz fun es tk he hl=>⟨he.put (hv.mono l₁) hl hnd hn,by rw [length_set]; exact hl,?_⟩) (fun _ s₂ r₂=>(EI2 G₁ _ ⟨l₁,r₂,q⟩))
 have hk:k<vs.length:=by have:=(List.getElem?_eq_some_iff.mp hn).1; exact sA2 (lsl this) (eqL hl)
 refine X12 (he.find hl hnd hn (getElem?_eq_getElem hk)) fun w hg U0=>?_
 rw [hg]; rfl⟩
theorem XTg.attrN {o:Expr} {nm:Str} {p:Pos} {a C:Addr} {ns:List Str} {vs:List V} {u:V} {QS:St→Prop} (ho:PE Γ fn n σ o (.obj a)) (hi:σ.hp a=some (.inst C ns vs)) (hn:nm∉ns) (hC:ClsOk Γ C) (ht:takerIn Γ.K C nm=some none)
  (hz:ns.length≤100) (q:QS ⟨σ.loc,upd σ.hp a (.inst C (ns++[nm]) (vs++[u]))⟩):XTg Γ fn n σ (.Attribute o nm p) u QS X:=⟨fun c G s v r hv=>by
 refine Y44 (wpAny_mono (ho.run c G s r) (Cx.RP.obj fun s₁ G₁ l₁ r₁ v₁=>?_) NoX.to)
 have hnz:nm∉(ns.zip vs).map (·.1):=fun q=>hn (Y85 q)
 refine Y3 (c.setAttr (ns':=ns++[nm]) (vs':=vs++[u]) (E:=c.EP G X) r₁ hi hC ht (hv.mono l₁) hz fun es tk he hl=>⟨?_,by rw [length_append,length_append,hl]; rfl,?_⟩) (fun _ s₂ r₂=>(EI2 G₁ _ ⟨l₁,r₂,q⟩))
 ·rw [List.zip_append hl]
  exact he.add (hv.mono l₁) hnz
 ·rw [he.none hnz]; rfl⟩
theorem XT.ret {e:Expr} {p:Pos} {QT:AF→St→Prop} (he:XE Γ fn n σ e (fun u τ=>QT (.ret u) τ) X):XT Γ fn n (.Return (some e) p) σ QT X:=⟨fun c G s rep =>
 Y39 (Y3 (he.run c G s rep) (fun v s₁ ⟨G₁,u,τ,l₁,r₁,v₁,q⟩=>.mk l₁ r₁ (.ret v₁) q))⟩
theorem XT.expr {e:Expr} {p:Pos} {QT:AF→St→Prop} (he:XE Γ fn n σ e (fun _ τ=>QT .next τ) X) (hs:∀ env,swapsWith e none p.line env=pure false:=by intro _; rfl):XT Γ fn n (.Expr e p) σ QT X:=⟨fun c G s rep =>
 Y40 (Y3 (he.run c G s rep) (fun v s₁ ⟨G₁,u,τ,l₁,r₁,v₁,q⟩=>.mk l₁ r₁ .next q)) (by unfold interactive; rw [rep.good.eo.fun_ rep.good.ok]; rfl) (hs _)⟩
theorem XT.ifP {t:Expr} {b:Bool} {ss es:List Stmt} {p:Pos} {QT:AF→St→Prop} (ht:PT Γ fn n σ t b) (h1:b=true→XS Γ fn n ss σ QT X) (h2:b=false→XS Γ fn n es σ QT X):XT Γ fn n (.If t ss es p) σ QT X:=⟨fun c G s rep=>by
 refine Y38 (wpAny_mono (ht.run c G s rep) (fun y s₁ q=>?_) NoX.to)
 obtain ⟨rfl,Z0⟩:=q; refine X12 Z0 fun G₁ l₁ r₁=>?_; clear Z0
 cases y with
 | true=>exact wpAny_mono ((h1 rfl).run c G₁ s₁ r₁) (fun _ _ q=>q.up l₁) fun _ _ q=>q.up l₁
 | false=>exact wpAny_mono ((h2 rfl).run c G₁ s₁ r₁) (fun _ _ q=>q.up l₁) fun _ _ q=>q.up l₁⟩
theorem XS.ifP {t:Expr} {b:Bool} {ts es:List Stmt} {p:Pos} (ht:PT Γ fn n σ t b) (h1:b=true→XS Γ fn n ts σ (Then Γ fn n ss Q X) X) (h2:b=false→XS Γ fn n es σ (Then Γ fn n ss Q X) X):XS Γ fn n (.If t ts es p :: ss) σ Q X:=.cons (.ifP ht h1 h2)
theorem XS.done (h:XS Γ fn n ss σ Q X):XS Γ fn n [] σ (Then Γ fn n ss Q X) X:=.nil h
theorem XS.retP {e:Expr} {p:Pos} {u:V} (he:PE Γ fn n σ e u) (q:Q (.ret u) σ):XS Γ fn n (.Return (some e) p :: ss) σ Q X:=.cons (.ret (he.toX (by exact q)))
theorem XS.retX {e:Expr} {p:Pos} (he:XE Γ fn n σ e (fun u τ=>Q (.ret u) τ) X):XS Γ fn n (.Return (some e) p :: ss) σ Q X:=.cons (.ret (he.mono (fun _ _ q=>q) fun _ q=>q))
theorem XS.expr {e:Expr} {p:Pos} (he:XE Γ fn n σ e (fun _ τ=>XS Γ fn n ss τ Q X) X) (hs:∀ env,swapsWith e none p.line env=pure false:=by intro _; rfl):XS Γ fn n (.Expr e p :: ss) σ Q X:=.cons (.expr he hs)
structure SetAt (l:List (Option V)) (k:Nat) (u:V) (l':List (Option V)):Prop where
 eq:l.set k (some u)=l'
theorem XS.asgX {t e:Expr} {q:Pos} (he:XE Γ fn n σ e (fun u τ=>XTg Γ fn n τ t u (fun τ'=>XS Γ fn n ss τ' Q X) X) X) (hp:AsgPl t e q):XS Γ fn n (.Assign [t] e q :: ss) σ Q X:=.cons (.assignX he hp)
theorem XS.asg (k:Nat) {x:Str} {p q:Pos} {e:Expr} {u:V} {loc':List (Option V)} (hn:fn.names[k]?=some (x,.local)) (he:PE Γ fn n σ e u) (hl:SetAt σ.loc k u loc') (hp:AsgPl (.Name x p) e q) (h:XS Γ fn n ss ⟨loc',σ.hp⟩ Q X) :
  XS Γ fn n (.Assign [.Name x p] e q :: ss) σ Q X:=.asgX (he.toX ((Tgt.name k hn).toX (by rw [hl.eq]; exact h))) hp
theorem XS.aug (k:Nat) {x:Str} {p q:Pos} {e:Expr} {op:Operator} {a b u:V} {loc':List (Option V)} (hn:fn.names[k]?=some (x,.local)) (hv:σ.loc[k]?=some (some a)) (he:PE Γ fn n σ e b)
  (ho:∀ (c:Cx Γ fn n) G s v w,c.Rep G σ s→VR G v a→VR G w b→wpAny (model Γ.prog Γ.w) c.A (inplaceOp op v w) (c.RP G σ u) NoX s)
  (hl:SetAt σ.loc k u loc') (h:XS Γ fn n ss ⟨loc',σ.hp⟩ Q X):XS Γ fn n (.AugAssign (.Name x p) op e q :: ss) σ Q X:=.cons ⟨fun c G s rep=>by
 obtain ⟨own,m,cs,b,hr,lr⟩:=id rep
 refine X12 (lr.1 k x _ _ hn hv) fun v hm hvr=>?_
 refine Y41 (kit <| wpAny_loadName_local (lr.3.eo.fun_ lr.3.ok) (lr.3.eo.kindOf lr.3.ok hn) b.L.ns hm (wpAny_mono (he.run c G s rep) (Cx.RP.el fun w s₁ G₁ l₁ r₁ w₁=>?_) NoX.to))
 refine wpAny_mono (ho c G₁ s₁ v w r₁ (hvr.mono l₁) w₁) (Cx.RP.el fun z s₂ G₂ l₂ r₂ z₂=>?_) NoX.to
 refine Y3 (kit <| r₂.store (E:=c.EP G X) hn z₂) (fun U0 s₃ r₃=>?_)
 rw [hl.eq] at r₃
 exact .mk (l₁.trans l₂) r₃ .next h⟩
noncomputable def IOp (Γ:Gam) (fn:FnS) (n:Nat) (σ:St) (op:Operator) (a b u:V):Prop:=∀ (c:Cx Γ fn n) G s v w,c.Rep G σ s→VR G v a→VR G w b→wpAny (model Γ.prog Γ.w) c.A (inplaceOp op v w) (c.RP G σ u) NoX s
theorem IOp.add {a b:Int}:IOp Γ fn n σ .Add (.int a) (.int b) (.int (a+b)):=fun c G s v w rep hv hw=>by obtain ⟨_,rfl⟩:=hv.inv; obtain ⟨_,rfl⟩:=hw.inv; with_reducible exact kit <| iadd_int (Cx.RP.now rep.toks (.int _ _))
theorem IOp.sub {a b:Int}:IOp Γ fn n σ .Sub (.int a) (.int b) (.int (a - b)):=fun c G s v w rep hv hw=>by obtain ⟨_,rfl⟩:=hv.inv; obtain ⟨_,rfl⟩:=hw.inv; with_reducible exact kit <| isub_int (Cx.RP.now rep.toks (.int _ _))
theorem IOp.shr {a b:Int} (hb:0≤b):IOp Γ fn n σ .RShift (.int a) (.int b) (.int (a.fdiv (2 ^ b.toNat))):=fun c G s v w rep hv hw=>by obtain ⟨_,rfl⟩:=hv.inv; obtain ⟨_,rfl⟩:=hw.inv; with_reducible exact kit <| irshift_int hb (Cx.RP.now rep.toks (.int _ _))
theorem IOp.bxor {a b:Int}:IOp Γ fn n σ .BitXor (.int a) (.int b) (.int (Builtin.bitXor a b)):=fun c G s v w rep hv hw=>by obtain ⟨_,rfl⟩:=hv.inv; obtain ⟨_,rfl⟩:=hw.inv; with_reducible exact kit <| ixor_int (Cx.RP.now rep.toks (.int _ _))
theorem Cx.getAttr (c:Cx Γ fn n) (k:Nat) {nm:Str} {a C:Addr} {ns:List Str} {vs:List V} {u:V} (r:c.Rep G σ s) (hi:σ.hp a=some (.inst C ns vs)) (hn:ns[k]?=some nm) (hv:vs[k]?=some u)
  (hC:ClsOk Γ C) (hnd:ns.Nodup) (hfn:findIn Γ.K (.ref C) nm=some Option.none) (hb:u.isBu=false):wpAny (model Γ.prog Γ.w) c.A (PySem.getAttr (.ref a) nm true) (c.RP G σ u) NoX s:=by
 refine Y2 ?_; rintro G0 hG0; obtain ⟨own,m,cs,b,⟨dx,hr,_⟩,lr⟩:=id r; refine hG0 ?_; clear hG0
 refine X24 (hr a _ hi) fun es nn h1 h2 h3 h4=>?_
 refine X12 (h3.find h4 hnd hn hv) fun v hg hvr=>?_
 refine kit <| get_own b.Fr Γ.hK ⟨b.hO _ _ h1,rfl,rfl,b.hO _ _ h2⟩ (hC.get _) hC.dict hfn rfl hg (hvr.handed fun i e=>?_) (.now r.toks hvr)
 subst e; cases hb
theorem XS.augA (k:Nat) {o e:Expr} {nm:Str} {p q:Pos} {op:Operator} {a C:Addr} {ns:List Str} {vs:List V} {x b u:V} (ho:PE Γ fn n σ o (.obj a)) (hi:σ.hp a=some (.inst C ns vs)) (hn:ns[k]?=some nm) (hv:vs[k]?=some x)
  (hC:ClsOk Γ C) (hnd:ns.Nodup) (hz:ns.length≤100) (hfn:findIn Γ.K (.ref C) nm=some Option.none) (ht:takerIn Γ.K C nm=some none) (he:PE Γ fn n σ e b) (hop:IOp Γ fn n σ op x b u)
  (h:XS Γ fn n ss ⟨σ.loc,upd σ.hp a (.inst C ns (vs.set k u))⟩ Q X) (hb:x.isBu=false:=by rfl):XS Γ fn n (.AugAssign (.Attribute o nm p) op e q :: ss) σ Q X:=.cons ⟨fun c G s rep=>by
 refine Y42 (wpAny_mono (ho.run c G s rep) (Cx.RP.obj fun s₁ G₁ l₁ r₁ v₁=>?_) NoX.to)
 refine wpAny_mono (c.getAttr k r₁ hi hn hv hC hnd hfn hb) (Cx.RP.el fun old s₂ G₂ l₂ r₂ v₂=>?_) NoX.to
 refine wpAny_mono (he.run c G₂ s₂ r₂) (Cx.RP.el fun w s₃ G₃ l₃ r₃ v₃=>?_) NoX.to
 refine wpAny_mono (hop c G₃ s₃ _ _ r₃ (v₂.mono l₃) v₃) (Cx.RP.el fun z s₄ G₄ l₄ r₄ v₄=>?_) NoX.to
 refine Y3 (c.setAttr (ns':=ns) (vs':=vs.set k u) (E:=c.EP G X) r₄ hi hC ht v₄ hz fun es tk he hl=>⟨he.put v₄ hl hnd hn,by rw [length_set]; exact hl,?_⟩) (fun _ s₅ r₅=>.mk (l₁.trans (l₂.trans (l₃.trans l₄))) r₅ .next h)
 refine X12 (he.find hl hnd hn hv) fun w hg U0=>?_
 rw [hg]; rfl⟩
end
section
variable {Γ:Gam} {fn:FnS} {n:Nat} {σ:St} {env:Env} {G:PH} {s:Shared} {c:Cx Γ fn n} {Q:AF→St→Prop} {X:St→Prop} {ss:List Stmt}
theorem XS.whileP (J:Nat→St→Prop) {k₀:Nat} {t:Expr} {body:List Stmt} {p:Pos} (hc:fn.comp=false) (hJ:J k₀ σ)
  (turn:∀ k τ,J k τ→∃ b,PT Γ fn n τ t b∧(b=true→XS Γ fn n body τ (fun af τ'=>match af with
    | .next | .cont=>∃ k',k'<k∧J k' τ'
    | .brk=>XS Γ fn n ss τ' Q X
    | .ret x=>Q (.ret x) τ') X)∧(b=false→XS Γ fn n ss τ Q X)):XS Γ fn n (.While t body [] p :: ss) σ Q X:=by
 revert hc hJ turn; revert Γ fn n σ Q X ss J k₀ t body p; apply s12; generalize T1 _=Γ,T2 _=fn,T3 _=n,T4 _=σ,T5 _=Q,T6 _=X,T7 _=ss,T8 _=J,T9 _=k₀,T10 _=t,T11 _=body,T12 _=p; intro hc hJ turn
 refine .cons ⟨fun c G s rep=>?_⟩
 revert c G s; apply s3; generalize T1 _=c,T2 _=G,T3 _=s; intro rep
 have hE:=Cx.EP.passes c hc G X
 refine Y46 (Y45 (fun k s'=>∃ G' τ,PLe G G'∧c.Rep G' τ s'∧J k τ) ?_ k₀ (EI2 G σ ⟨.refl G,rep,hJ⟩))
 rintro k s' hR0; refine X23 hR0 fun G₁ τ l₁ r₁ j₁=>?_; clear hR0
 revert k s' G₁ τ; apply s4; generalize T1 _=k,T2 _=s',T3 _=G₁,T4 _=τ; intro l₁ r₁ j₁
 refine X13 (turn k τ j₁) fun b ht h1 h2=>?_
 exists b; intro ht h1 h2
 refine wpAny_mono (ht.run c G₁ s' r₁) (fun b' s₂ q=>?_) NoX.to
 revert b' s₂; apply s2; generalize T1 _=b',T2 _=s₂; intro q
 obtain ⟨rfl,Z0⟩:=q; refine X12 Z0 fun G₂ l₂ r₂=>?_; clear Z0
 exists G₂; intro l₂ r₂
 cases b' with
 | false =>
  simp only [false_eq_true,if_false]
  exact wpAny_execs_nil (.mk (l₁.trans l₂) r₂ .next (h2 rfl))
 | true =>
  simp only [if_true]
  refine wpAny_mono ((h1 rfl).run c G₂ s₂ r₂) (fun f s₃ q=>?_) fun e s₃ q=>hE e s₃ (q.up (l₁.trans l₂))
  obtain ⟨G₃,af,τ',l₃,r₃,hf,hq⟩:=q
  have l:=l₁.trans (l₂.trans l₃)
  cases hf with
  | next=>refine X12 hq fun k' hk hj=>?_; clear hq; exact ⟨k',hk,G₃,τ',l,r₃,hj⟩
  | cont=>refine X12 hq fun k' hk hj=>?_; clear hq; exact ⟨k',hk,G₃,τ',l,r₃,hj⟩
  | brk=>exact .mk l r₃ .next hq
  | ret hv=>exact .mk l r₃ (.ret hv) hq
inductive Cx.RepO (c:Cx Γ fn n) (G:PH) (σ:St) (I:Addr) (s:Shared):Prop
 | intro (own:PH) (m cs:Str→Option Value) (b:Base Γ G own (⟨c.env,m,cs,fn.comp⟩ :: c.fr) s) (hr:HR Γ G own σ.hp) (lr:LR c.Good fn c.env G m cs σ.loc) (h:Off G own (⟨c.env,m,cs,fn.comp⟩ :: c.fr) I)
noncomputable def iterNames:List String:=["list_iterator","range_iterator","bytes_iterator"]
noncomputable def IterObj (h:Heap) (I:Addr):Prop:=∃ o nm,h.get? I=some o∧o.cls=.type nm∧nm∈iterNames
structure ItAt (c:Cx Γ fn n) (G:PH) (σ:St) (xs:List V) (I:Addr) (s:Shared) (fp:List Addr) (P:Nat→Value→Prop) (S:Nat→Heap→Prop):Prop where
 rep:c.RepO G σ I s
 W:Walks Γ.prog Γ.w c.A I fp [I] xs.length P S
 obj:∀ i h,S i h→IterObj h I
 fp:∀ b∈fp,b=I∨∃ o,G b=some o
 item:∀ i v,P i v→∃ x,xs[i]?=some x∧VR G v x
 now:S 0 s.heap
structure XIt (Γ:Gam) (fn:FnS) (n:Nat) (σ:St) (e:Expr) (xs:List V):Prop where
 run:∀ (c:Cx Γ fn n) G s,c.Rep G σ s→wpAny (model Γ.prog Γ.w) c.A (eval e c.env) (fun x s₁=>wpAny (model Γ.prog Γ.w) c.A (pyIter x) (fun it s₂=>∃ G' I fp P S,it=.ref I∧PLe G G'∧ItAt c G' σ xs I s₂ fp P S) NoX s₁) NoX s
theorem Base.pushed {own:PH} {frs:List FrI} (b:Base Γ G own frs s) {o:Obj} {tk:Nat}:Base Γ G own frs { s with heap:=s.heap.push o,toks:=tk }:=by
 have hk:∀ a x,s.heap.get? a=some x→(s.heap.push o).get? a=some x:=fun a x e=>Heap.get?_push_of_some _ e
 exact ⟨b.gens,b.os,b.hB,fun a o e=>hk a o (b.hG a o e),fun a o e=>hk a o (b.hO a o e),b.disj,fun f hf=>(b.fr f hf).heap fun a o _ e=>hk a o e,b.nodup,b.real⟩
theorem Base.freshOff {own:PH} {frs:List FrI} (b:Base Γ G own frs s) {a:Addr} (hn:s.heap.get? a=none):Off G own frs a:=by
 refine An3 (b.fresh hn) fun h1 h2 h3=>?_
 exact ⟨h2,h1,h3⟩
theorem Cx.Rep.pushO (r:c.Rep G σ s) {o:Obj} {tk:Nat}:c.RepO G σ s.heap.objs.size { s with heap:=s.heap.push o,toks:=tk }:=by
 obtain ⟨own,m,cs,b,hr,lr⟩:=r
 exact ⟨own,m,cs,b.pushed,hr,lr,b.freshOff (Heap.get?_none_of_le (le_refl _))⟩
theorem Cx.RepO.ins {I:Addr} {o:Obj} (r:c.RepO G σ I s) (h:s.heap.get? I=some o):c.Rep (N0.ins G I o) σ s∧PLe G (N0.ins G I o):=by
 obtain ⟨own,m,cs,b,hr,lr,hg,ho,hf⟩:=r
 have l:=Y66 (o:=o) hg
 exact ⟨⟨own,m,cs,b.ins h ho hf hg,hr.grow l,lr.grow l⟩,l⟩
theorem Cx.Rep.push (r:c.Rep G σ s) (o:Obj) (tk:Nat) (hf:o.isFreed=false:=by rfl):c.Rep (N0.ins G s.heap.objs.size o) σ { s with heap:=s.heap.push o,toks:=tk }∧PLe G (N0.ins G s.heap.objs.size o) :=
 (r.pushO (o:=o) (tk:=tk)).ins (Heap.get?_push_size _ hf)
noncomputable def cutG (G:PH) (a:Addr):PH:=fun b=>if b=a then none else G b
theorem Y90 {G:PH} {a b:Addr} (h:b≠a):cutG G a b=G b:=if_neg h
theorem VR.cut {a:Addr} {o:Obj} {nm:String} (ha:G a=some o) (hc:o.cls=.type nm) (hn:nm∈iterNames) {v:Value} {x:V} (h:VR G v x):VR (cutG G a) v x:=by
 have ne:∀ b ob T,G b=some ob→ob.cls=.type T→T∉iterNames→b≠a:=fun b ob T e1 e2 e3 q=>by
  subst q
  rw [ha] at e1; obtain rfl:=Option.some.inj e1
  rw [hc] at e2; cases e2
  exact e3 hn
 induction h using VR.rec (motive_2:=fun vs xs _=>VRs (cutG G a) vs xs) with
 | none=>exact .none
 | bool b=>exact .bool b
 | int i t=>exact .int i t
 | str x t=>exact .str x t
 | byt b t=>exact .byt b t
 | tup h hc hd _ ih=>exact .tup ((Y90 (ne _ _ _ h hc dD)).trans h) hc hd ih
 | lst h hc hd _ ih=>exact .lst ((Y90 (ne _ _ _ h hc dD)).trans h) hc hd ih
 | obj a=>exact .obj a
 | ty n=>exact .ty n
 | bu n=>exact .bu n
 | nil=>exact .nil
 | cons _ _ h hs=>exact .cons h hs
theorem VRs.cut {a:Addr} {o:Obj} {nm:String} (ha:G a=some o) (hc:o.cls=.type nm) (hn:nm∈iterNames):∀ {vs:List Value} {xs:List V},VRs G vs xs→VRs (cutG G a) vs xs
 | _,_,.nil=>.nil
 | _,_,.cons h hs=>.cons (h.cut ha hc hn) (VRs.cut ha hc hn hs)
theorem ERs.cut {P:Params} {a:Addr} {o:Obj} {nm:String} (ha:G a=some o) (hc:o.cls=.type nm) (hn:nm∈iterNames):∀ {es:List DictEntry} {fs:List (Str × V)},ERs P G es fs→ERs P (cutG G a) es fs
 | _,_,.nil=>.nil
 | _,_,.cons h hs=>.cons (h.cut ha hc hn) (hs.cut ha hc hn)
theorem IRs.cut {a:Addr} {o:Obj} {nm:String} (ha:G a=some o) (hc:o.cls=.type nm) (hn:nm∈iterNames):∀ {es:List DictEntry} {fs:List (Int × V)},IRs G es fs→IRs (cutG G a) es fs
 | _,_,.nil=>.nil
 | _,_,.cons h hs=>.cons (h.cut ha hc hn) (hs.cut ha hc hn)
theorem Cx.Rep.cut {I:Addr} {o:Obj} {nm:String} (r:c.Rep G σ s) (hI:G I=some o) (hc:o.cls=.type nm) (hn:nm∈iterNames) (hB:Γ.B.get? I=none):c.RepO (cutG G I) σ I s:=by
 obtain ⟨own,m,cs,b,⟨dx,h1,h2,h3⟩,lr⟩:=r
 have sub:∀ a x,cutG G I a=some x→a≠I∧G a=some x:=fun a x e=>by
  unfold cutG at e
  split at e
  ·cases e
  ·rename_i q; exact ⟨q,e⟩
 have off:∀ a,G a=none→cutG G I a=none:=fun a e=>by
  unfold cutG
  split
  ·rfl
  ·exact e
 have oI:own I=none:=by
  cases q:own I with
  | none=>rfl
  | some x=>have:=b.disj I x q; rw [hI] at this; cases this
 have offI:Off (cutG G I) own (⟨c.env,m,cs,fn.comp⟩ :: c.fr) I:=by
  refine ⟨if_pos rfl,oI,fun f hf=>⟨fun q=>?_,fun x q=>?_⟩⟩
  ·have:=(b.fr f hf).offG
   rw [q,hI] at this; cases this
  ·have:=((b.fr f hf).cell x I q).2.1
   rw [hI] at this; cases this
 refine ⟨own,m,cs,⟨b.gens,b.os,fun a x e=>(Y90 fun q=>by rw [q,hB] at e; cases e).trans (b.hB a x e),fun a x e=>b.hG a x (sub a x e).2,b.hO,fun a x e=>off a (b.disj a x e),fun f hf=>?_,b.nodup,b.real⟩,⟨dx,fun a o' e=>?_,h2,h3⟩,⟨fun k x kd u e1 e2=>?_,lr.2,lr.3⟩,offI⟩
 ·have F:=b.fr f hf
  exact ⟨F.frame,F.kind,F.cnd,F.above,F.ns,off _ F.offG,F.offO,fun x d e=>⟨(F.cell x d e).1,off _ (F.cell x d e).2.1,(F.cell x d e).2.2⟩⟩
 ·have:=h1 a o' e
  cases o' with
  | list xs=>refine X22 this fun vs n g1 g2=>?_; clear this; exact (EI2 vs n ⟨g1,g2.cut hI hc hn⟩)
  | ba b=>exact this
  | inst C ns vs=>refine X24 this fun es n g1 g2 g3 g4=>?_; clear this; exact (EI2 es n ⟨g1,g2,g3.cut hI hc hn,g4⟩)
  | sd fs=>refine X22 this fun es n g1 g2=>?_; clear this; exact (EI2 es n ⟨g1,g2.1.cut hI hc hn,g2.2⟩)
  | idd fs=>refine X22 this fun es n g1 g2=>?_; clear this; exact (EI2 es n ⟨g1,g2.1.cut hI hc hn,g2.2⟩)
 ·have:=lr.1 k x kd u e1 e2
  cases kd <;> try exact this
  ·refine X12 this fun v g1 g2=>?_; clear this; exact ⟨v,g1,g2.cut hI hc hn⟩
  ·refine X23 this fun d v g1 g2 g3=>?_; clear this; exact (EI2 d v ⟨g1,g2,g3.cut hI hc hn⟩)
theorem Cx.RepO.moved {I:Addr} (r:c.RepO G σ I s) {h':Heap} {tk:Nat} (hk:∀ b o,b∉[I]→s.heap.get? b=some o→h'.get? b=some o):c.RepO G σ I { s with heap:=h',toks:=tk }:=by
 obtain ⟨own,m,cs,b,hr,lr,ho⟩:=r
 exact ⟨own,m,cs,(b.offKeep ho fun a o q e=>hk a o (by simpa using q) e).toks,hr,lr,ho⟩
theorem Cx.RepO.toR {I:Addr} (r:c.RepO G σ I s):c.Rep G σ s:=let ⟨own,m,cs,b,hr,lr,_⟩:=r; ⟨own,m,cs,b,hr,lr⟩
theorem Y91 {t:Expr} {I:Addr} {v:Value} {A:Around} {E:Value→Shared→Prop} {M:Model} {Q:Unit→Shared→Prop} (h:IterObj s.heap I) (q:Q () s):wpAny M A (letOwnedTupleGo t (.ref I) v) Q E s:=by
 refine X23 h fun o nm ho hc hn=>?_; clear h
 have key:wpAny M A (match (Value.ref I,v) with
   | (.ref r,.ref a)=>(do
    let o ← load r
    match o.cls,o.data with
    | .type n,.fields vs =>
     if ["enumerate","zip","dict_itemiterator","dict_reverseitemiterator","odict_iterator","itertools.zip_longest","itertools.pairwise"].contains n&&vs[0]? == some (rawInt a) then
      rule "for.unpacks-the-owned-tuple"
      updateField r 0 .none
    | _,_=>pure ():Sem Unit)
   | _=>pure ()) Q E s:=by
  cases v <;> try exact wpAny_pure q
  dsimp only
  refine Y4 (kit <| wpAny_load ho ?_)
  rw [hc]
  cases o.data <;> try exact wpAny_pure q
  dsimp only
  have:(["enumerate","zip","dict_itemiterator","dict_reverseitemiterator","odict_iterator","itertools.zip_longest","itertools.pairwise"]:List String).contains nm=false:=by
   simp only [iterNames,mem_cons,not_mem_nil,or_false] at hn
   rcases hn with rfl | rfl | rfl <;> decide
  rw [this]
  exact wpAny_pure q
 cases t <;> first | exact wpAny_pure q | exact key
theorem Cx.forIt (hc:fn.comp=false) {I:Addr} {fp:List Addr} {P:Nat→Value→Prop} {S:Nat→Heap→Prop} {xs:List V} {target:Expr} {body:List Stmt} {QT:AF→St→Prop} (it:ItAt c G σ xs I s fp P S) (J:Nat→St→Prop) (h0:J 0 σ)
  (turn:∀ i τ x,xs[i]?=some x→J i τ→∃ f,Tgt Γ fn n target x f∧XS Γ fn n body ⟨f τ.loc,τ.hp⟩ (fun af τ'=>match af with
    | .next | .cont=>J (i+1) τ'
    | .brk=>QT .next τ'
    | .ret x=>QT (.ret x) τ') X)
  (fin:∀ τ,J xs.length τ→QT .next τ) :
  codeAny (model Γ.prog Γ.w) c.A (.forLoop target (.ref I) body [] c.env) (fun r s'=>match r with | .ok f=>c.SP G QT f s' | .error e=>cameBackBy (model Γ.prog Γ.w) c.A c.env (c.EP G X) e s') s:=by
 revert c hc it h0 turn fin; revert Γ fn n σ G s X I fp P S xs target body QT J; apply s12; generalize T1 _=Γ,T2 _=fn,T3 _=n,T4 _=σ,T5 _=G,T6 _=s,T7 _=X,T8 _=I,T9 _=fp,T10 _=P,T11 _=S,T12 _=xs; apply s4; generalize T1 _=target,T2 _=body,T3 _=QT,T4 _=J; intro c hc it h0 turn fin
 have hE:=Cx.EP.passes c hc G X
 have W:=it.W
 have hB:Γ.B.get? I=none:=by
  cases q:Γ.B.get? I with
  | none=>rfl
  | some o=>obtain ⟨own,m,cs,b,_,_,ho⟩:=it.rep; have:=b.hB I o q; rw [ho.1] at this; cases this
 refine Y47 (fun k s'=>∃ G' τ i,k+i=xs.length∧PLe G G'∧c.RepO G' τ I s'∧S i s'.heap∧J i τ) ?_ xs.length (EI3 G σ 0 ⟨rfl,.refl G,it.rep,it.now,h0⟩)
 rintro k s' hR0; refine Ex3 hR0 fun G₁ τ i Z0=>?_; clear hR0; refine An5 Z0 fun hk l₁ r₁ st hj=>?_; clear Z0
 by_cases hi:i<xs.length
 ·refine kit <| W.item i s' _ _ hi st fun v h' tk hP st' hkeep=>?_
  refine X12 (it.item i v hP) fun x hx hv=>?_
  refine X12 (turn i τ x hx hj) fun f ht hb=>?_
  have r₂:=r₁.moved (tk:=tk) hkeep
  refine X23 (it.obj _ _ st') fun oI nm ho hcl hnm=>?_
  obtain ⟨r₃,l₃⟩:=r₂.ins ho
  refine Y91 (EI2 oI nm ⟨ho,hcl,hnm⟩) ?_
  refine Y3 (kit <| ht.run c _ τ _ v _ r₃ (hv.mono (l₁.trans l₃))) (fun U0 s₃ r₄=>?_)
  refine wpAny_mono (hb.run c _ s₃ r₄) (fun fl s₄ q=>?_) fun e s₄ q=>hE e s₄ (q.up (l₁.trans l₃))
  obtain ⟨G₅,af,τ',l₅,r₅,hf,hq⟩:=q
  have hI5:G₅ I=some oI:=l₅ I oI Y65
  have again:J (i+1) τ'→∃ m,m<k∧∃ G' τ i,m+i=xs.length∧PLe G G'∧c.RepO G' τ I s₄∧S i s₄.heap∧J i τ:=fun hj'=>by
   refine ⟨k - 1,sA1 (nsa k 1 (lA2 (lsl hi) (eqG hk))),cutG G₅ I,τ',i+1,le_antisymm (lA2 (nsa k 1 (lA2 (lsl hi) (eqG hk))) (eqL hk)) (lA2 (eqG hk) (nas k 1)),fun a o e=>?_,r₅.cut hI5 hcl hnm hB,W.frame (i+1) h' s₄.heap st' fun b hb o e=>?_,hj'⟩
   ·have hne:a≠I:=fun q=>by obtain ⟨_,_,_,_,_,_,ho⟩:=it.rep; rw [q,ho.1] at e; cases e
    exact (Y90 hne).trans (l₅ a o (l₃ a o (l₁ a o e)))
   ·rcases it.fp b hb with rfl | ⟨o',e'⟩
    ·rw [ho] at e; obtain rfl:=Option.some.inj e
     exact r₅.get hI5
    ·have h1:h'.get? b=some o':=by
      have:=r₃.get (l₃ b o' (l₁ b o' e'))
      exact this
     rw [h1] at e; obtain rfl:=Option.some.inj e
     exact r₅.get (l₅ b _ (l₃ b _ (l₁ b _ e')))
  have l:=l₁.trans (l₃.trans l₅)
  cases hf with
  | next=>exact again hq
  | cont=>exact again hq
  | brk=>exact .mk l r₅ .next hq
  | ret hv=>exact .mk l r₅ (.ret hv) hq
 ·have:i=xs.length:=le_antisymm (lA1 (eqL hk)) (lA1 (nlt hi))
  subst this
  refine kit <| W.done s' _ _ st fun h' tk hkeep=>?_
  exact wpAny_execs_nil (.mk l₁ (r₁.moved (tk:=tk) hkeep).toR .next (fin τ hj))
theorem XS.forP (J:Nat→St→Prop) {xs:List V} {target iter:Expr} {body:List Stmt} {p:Pos} (hc:fn.comp=false) (hi:XIt Γ fn n σ iter xs) (h0:J 0 σ)
  (turn:∀ i τ x,xs[i]?=some x→J i τ→∃ f,Tgt Γ fn n target x f∧XS Γ fn n body ⟨f τ.loc,τ.hp⟩ (fun af τ'=>match af with
    | .next | .cont=>J (i+1) τ'
    | .brk=>XS Γ fn n ss τ' Q X
    | .ret x=>Q (.ret x) τ') X)
  (fin:∀ τ,J xs.length τ→XS Γ fn n ss τ Q X) (hs:∀ env x,foldedSetIterable iter env x=pure x:=by intro _ _; rfl):XS Γ fn n (.For target iter body [] p :: ss) σ Q X:=.cons ⟨fun c G s rep=>by
 refine Y48 (wpAny_mono (hi.run c G s rep) (fun x s₁ h=>wpAny_mono h (fun it s₂ q=>?_) NoX.to) NoX.to) (hs _)
 refine Ex5 q fun G' I fp P S Z1=>?_; clear q; obtain ⟨rfl,Z0⟩:=Z1; refine An2 Z0 fun l hit=>?_; clear Z0
 refine Y9 (Cx.forIt (X:=X) (QT:=Then Γ fn n ss Q X) hc hit J h0 (fun i τ x hx hj=>?_) fun τ hj=>fin τ hj) fun r s' q=>?_
 ·refine X12 (turn i τ x hx hj) fun f ht hb=>?_
  refine ⟨f,ht,hb.mono (fun af τ' q=>?_) fun _ q=>q⟩
  cases af <;> exact q
 ·match r,q with
  | .ok f,q=>exact Cx.SP.up l q
  | .error e,q=>exact PySem.wpAny_mono q (fun _ _ q=>q.up l) fun _ _ q=>q.up l⟩
end
section
variable {Γ:Gam} {fn:FnS} {n:Nat} {σ:St} {env:Env} {G:PH} {s:Shared} {c:Cx Γ fn n} {Q:AF→St→Prop} {X:St→Prop} {ss:List Stmt}
theorem ItAt.list {xs:List V} {l:Addr} {o:Obj} {vs:List Value} {k:Nat} (r:c.Rep G σ s) (h:G l=some o) (hc:o.cls=.type "list") (hd:o.data=.seq vs.toArray k) (hs:VRs G vs xs) :
  ∃ P S,ItAt c G σ xs s.heap.objs.size { s with heap:=s.heap.push { cls:=.type "list_iterator",data:=.fields #[.ref l,.int 0 0] } } [s.heap.objs.size,l] P S:=by
 have hne:l≠s.heap.objs.size:=fun q=>by
  have:=r.get h
  rw [q,Heap.get?_none_of_le (le_refl _)] at this; cases this
 have hlen:=hs.length
 have W:=Walks.list (prog:=Γ.prog) (w:=Γ.w) (A:=c.A) r.good.hh s.heap.objs.size l hne vs.toArray
 have e1:vs.toArray.size=xs.length:=by rw [size_toArray]; exact hlen
 rw [e1] at W
 refine (EI2 _ _ ⟨r.pushO (tk:=s.toks),W,fun i h' st=>?_,fun b hb=>?_,fun i v hi=>?_,⟨_,Heap.get?_push_size _ rfl,rfl,rfl⟩,⟨o,Heap.get?_push_of_some _ (r.get h),hc,k,hd⟩⟩)
 ·obtain ⟨⟨o',e1,e2,_⟩,_⟩:=st
  exact (EI2 o' _ ⟨e1,e2,dD⟩)
 ·simp only [mem_cons,not_mem_nil,or_false] at hb
  rcases hb with rfl | rfl
  ·exact .inl rfl
  ·exact .inr ⟨o,h⟩
 ·exact hs.get' (by simpa using hi)
theorem XIt.list {e:Expr} {xs:List V} (he:PE Γ fn n σ e (.lst xs)):XIt Γ fn n σ e xs:=⟨fun c G s r=>wpAny_mono (he.run c G s r) (fun v s₁ q=>by
 obtain ⟨G₁,l₁,r₁,v₁⟩:=q
 refine Ex4 v₁.inv fun U0 U1 U2 U3 Z1=>?_; obtain ⟨rfl,Z0⟩:=Z1; refine An4 Z0 fun h hc hd hs=>?_; clear Z0
 refine kit <| wpAny_pyIter_list ⟨_,r₁.get h,hc,_,hd⟩ ?_
 refine Ex2 (ItAt.list r₁ h hc hd hs) fun P S it=>?_
 exact (EI5 G₁ _ _ P S ⟨rfl,l₁,it⟩)) NoX.to⟩
theorem ItAt.bytes {b:List UInt8} {t:Tok} (r:c.Rep G σ s) :
  ∃ P S,ItAt c G σ (b.map fun x=>.int x.toNat) s.heap.objs.size { s with heap:=s.heap.push { cls:=.type "bytes_iterator",data:=.fields #[.bytes b.toArray t,.int 0 0] } } [s.heap.objs.size] P S:=by
 have W:=KBw.walks (prog:=Γ.prog) (w:=Γ.w) (A:=c.A) r.good.hh s.heap.objs.size b.toArray t
 have e1:b.toArray.size=(b.map fun x=>V.int x.toNat).length:=by rw [size_toArray,length_map]
 rw [e1] at W
 refine (EI2 _ _ ⟨r.pushO (tk:=s.toks),W,fun i h' st=>?_,fun b hb=>.inl (by simpa using hb),fun i v hi=>?_,⟨_,Heap.get?_push_size _ rfl,rfl,rfl⟩⟩)
 ·refine X13 st fun o' e1 e2 U0=>?_; clear st
  exact (EI2 o' _ ⟨e1,e2,dD⟩)
 ·obtain ⟨x,u,hx,rfl⟩:=hi
  refine ⟨.int x.toNat,?_,.int _ _⟩
  rw [getElem?_map]
  simp at hx
  rw [hx]; rfl
theorem XIt.bytes {e:Expr} {b:List UInt8} (he:PE Γ fn n σ e (.byt b)):XIt Γ fn n σ e (b.map fun x=>.int x.toNat):=⟨fun c G s r=>wpAny_mono (he.run c G s r) (fun v s₁ q=>by
 obtain ⟨G₁,l₁,r₁,v₁⟩:=q
 obtain ⟨_,rfl⟩:=v₁.inv
 refine kit <| KBw.pyIter_bytes ?_
 obtain ⟨P,S,it⟩:=ItAt.bytes (b:=b) (t:=_) r₁
 exact (EI5 G₁ _ _ P S ⟨rfl,l₁,it⟩)) NoX.to⟩
noncomputable def rng (a c:Int) (k:Nat):List V:=(List.range k).map fun (i:Nat)=>.int (a+(i:Int)*c)
theorem Y92 {a c:Int} {k:Nat}:(rng a c k).length=k:=by simp [rng]
theorem Y93 {a c:Int} {k i:Nat} {x:V} (h:(rng a c k)[i]?=some x):i<k∧x=.int (a+i*c):=by
 unfold rng at h
 rw [getElem?_map] at h
 refine X12 (Option.map_eq_some_iff.mp h) fun j hj Z0=>?_; obtain rfl:=Z0
 rw [List.getElem?_eq_some_iff] at hj
 obtain ⟨h1,h2⟩:=hj
 simp at h1 h2
 subst h2
 exact ⟨h1,rfl⟩
theorem ItAt.range {a c':Int} {k:Nat} (r:c.Rep G σ s) :
  ∃ P S,ItAt c G σ (rng a c' k) s.heap.objs.size { s with heap:=s.heap.push { cls:=.type "range_iterator",data:=.fields #[rawInt a,rawInt k,rawInt c'] } } [s.heap.objs.size] P S:=by
 have W:=Walks.range (prog:=Γ.prog) (w:=Γ.w) (A:=c.A) r.good.hh s.heap.objs.size a c' k
 have W':Walks Γ.prog Γ.w c.A s.heap.objs.size [s.heap.objs.size] [s.heap.objs.size] (rng a c' k).length (fun i v=>i<k∧∃ t,v=Value.int (a+i*c') t) (fun i h=>IsRangeIter h s.heap.objs.size (a+(i:Nat)*c') ((k:Int) - (i:Nat)) c'):=by
  rw [Y92]
  refine ⟨W.sub,W.frame,fun i s Q E hi st hQ=>W.item i s Q E hi st fun v h' tk p=>hQ v h' tk ⟨hi,p⟩,W.done,W.self⟩
 refine (EI2 _ _ ⟨r.pushO (tk:=s.toks),W',fun i h' st=>?_,fun b hb=>.inl (by simpa using hb),fun i v hi=>?_,?_⟩)
 ·exact (EI2 _ _ ⟨st,rfl,dD⟩)
 ·refine An2 hi fun hk Z0=>?_; clear hi; refine Ex1 Z0 fun t Z1=>?_; clear Z0; obtain rfl:=Z1
  refine ⟨.int (a+i*c'),?_,.int _ _⟩
  unfold rng
  rw [getElem?_map,List.getElem?_range hk]; rfl
 ·show IsRangeIter _ _ _ _ _
  have:=Heap.get?_push_size s.heap (o:={ cls:=.type "range_iterator",data:=.fields #[rawInt a,rawInt k,rawInt c'] }) rfl
  simpa [IsRangeIter] using this
theorem eq_47 {a b c:Int} (ha:0≤a) (ha':a≤1000000) (hb:0≤b) (hb':b≤1000000) (hc:0<c) (hc':c≤1000000):Builtin.Range.small a b c=true:=by
 have fits:∀ x:Int,0≤x→x≤3000000→Builtin.Range.rangeFitsLong x=true:=fun x h1 h2=>by
  unfold Builtin.Range.rangeFitsLong
  simp only [and_eq_true,decide_eq_true_eq]
  exact ⟨Int.le_trans dD h1,Int.lt_of_le_of_lt h2 dD⟩
 revert a b c; apply s3; generalize T1 _=a,T2 _=b,T3 _=c; intro ha ha' hb hb' hc hc'
 have hs:0≤Builtin.Range.rangeSize a b c∧Builtin.Range.rangeSize a b c≤3000000:=by
  unfold Builtin.Range.rangeSize
  rw [if_pos hc]
  split
  rename_i z
  ·have h0:0≤b - a - 1:=Int.le_sub_one_of_lt (Int.sub_pos_of_lt z)
   have h1:0≤(b - a - 1) / c:=Int.ediv_nonneg h0 (Int.le_of_lt hc)
   have h2:(b - a - 1) / c≤b - a - 1:=Int.ediv_le_self _ h0
   exact ⟨add_nonneg h1 dD,Int.le_trans (Int.add_le_add_right h2 1) (Int.le_trans (by rw [Int.sub_add_cancel]; exact Int.sub_le_self b ha) (Int.le_trans hb' dD))⟩
  ·exact ⟨natCast_nonneg _,natCast_nonneg _⟩
 unfold Builtin.Range.small
 rw [fits a ha (Int.le_trans ha' dD),fits b hb (Int.le_trans hb' dD),fits c (Int.le_of_lt hc) (Int.le_trans hc' dD),fits _ hs.1 hs.2,if_pos hc,fits (b+(c - 1)) (add_nonneg hb (Int.le_sub_one_of_lt hc)) (Int.le_trans (Int.add_le_add hb' (Int.le_trans (Int.sub_le_self c dD) hc')) dD)]
 simp
theorem eq_48 {a b c:Int} (hc:0<c):0≤Builtin.Range.rangeSize a b c:=by
 unfold Builtin.Range.rangeSize
 rw [if_pos hc]
 split
 ·rename_i z
  exact add_nonneg (Int.ediv_nonneg (Int.le_sub_one_of_lt (Int.sub_pos_of_lt z)) (Int.le_of_lt hc)) dD
 ·exact natCast_nonneg _
theorem Y94 {a b c':Int} {t u v:Tok} (r:c.Rep G σ s) (ha:0≤a) (ha':a≤1000000) (hb:0≤b) (hb':b≤1000000) (hc:0<c') (hc':c'≤1000000) {tk:Nat} :
  wpAny (model Γ.prog Γ.w) c.A (pyIter (.ref s.heap.objs.size)) (fun it s₂=>∃ G' I fp P S,it=.ref I∧PLe G G'∧ItAt c G' σ (rng a c' (Builtin.Range.rangeSize a b c').toNat) I s₂ fp P S) NoX { s with heap:=s.heap.push { cls:=.type "range",data:=.fields #[.int a t,.int b u,.int c' v] },toks:=tk }:=by
 have hk:Builtin.Range.rangeSize a b c'=((Builtin.Range.rangeSize a b c').toNat:Int):=(toNat_of_nonneg (eq_48 hc)).symm
 obtain ⟨r₁,l₁⟩:=r.push { cls:=.type "range",data:=.fields #[.int a t,.int b u,.int c' v] } tk
 refine kit <| wpAny_pyIter_range (r₁.get Y65) (eq_47 ha ha' hb hb' hc hc') ?_
 refine Ex2 (ItAt.range (a:=a) (c':=c') (k:=(Builtin.Range.rangeSize a b c').toNat) r₁) fun P S it=>?_
 rw [← hk] at it
 exact (EI5 _ _ _ P S ⟨rfl,l₁,it⟩)
theorem XIt.rangeC {x:Str} {p pos:Pos} {args:List Expr} {vs':List V} {xs:List V} (hf:PE Γ fn n σ (.Name x p) (.bi (.type "range"))) (ha:PEs Γ fn n σ args vs')
  (k:∀ (c:Cx Γ fn n) G s vs,c.Rep G σ s→VRs G vs vs'→wpAny (model Γ.prog Γ.w) c.A (call (.type "range") vs) (fun v s₁=>wpAny (model Γ.prog Γ.w) c.A (pyIter v) (fun it s₂=>∃ G' I fp P S,it=.ref I∧PLe G G'∧ItAt c G' σ xs I s₂ fp P S) NoX s₁) NoX s) :
  XIt Γ fn n σ (.Call (.Name x p) args [] pos) xs:=⟨fun c G s rep=>by
 refine Y69 (Y3 (hf.run c G s rep) (Cx.RP.el fun v s₁ G₁ l₁ r₁ v₁=>?_))
 have hv:v=.type "range":=by obtain rfl:=v₁.inv; rfl
 subst hv
 refine Y68 (fun a e=>by cases e) (ha.plain _ _) (Y3 (ha.run c G₁ s₁ pos r₁) (fun vs s₂ q=>?_))
 refine X13 q fun G₂ l₂ r₂ v₂=>?_; clear q
 refine Y3 (k c G₂ s₂ vs r₂ v₂) (fun v s₃ q=>wpAny_mono q (fun it s₄ q=>?_) fun _ _ q=>q)
 refine Ex5 q fun G' I fp P S Z0=>?_; clear q; refine An3 Z0 fun e l h=>?_; clear Z0
 exact (EI5 G' I fp P S ⟨e,l₁.trans (l₂.trans l),h⟩)⟩
set_option tactic.hygienic true in
theorem VRs.three {v:List Value} {x y z:V} (h:VRs G v [x,y,z]):∃ a b d,v=[a,b,d]∧VR G a x∧VR G b y∧VR G d z:=by
 cases h; rename_i h hs; refine Ex2 hs.two fun b d Z1=>?_; obtain ⟨rfl,Z0⟩:=Z1; refine An2 Z0 fun h1 h2=>?_; clear Z0; exact (EI3 _ _ _ ⟨rfl,h,h1,h2⟩)
theorem Y95 {a b:Int}:(Builtin.Range.rangeSize a b 1).toNat=(b - a).toNat:=by
 unfold Builtin.Range.rangeSize
 rw [if_pos dD]
 split
 ·rw [Int.ediv_one,Int.sub_add_cancel]
 ·rename_i z; exact (Int.toNat_of_nonpos (Int.sub_nonpos_of_le (Int.not_lt.mp z))).symm
theorem XIt.range1 {x:Str} {p pos:Pos} {e:Expr} {b:Int} (hf:PE Γ fn n σ (.Name x p) (.bi (.type "range"))) (ha:PE Γ fn n σ e (.int b)) (hb:0≤b) (hb':b≤1000000) (hst:isStarred e=false:=by rfl) :
  XIt Γ fn n σ (.Call (.Name x p) [e] [] pos) (rng 0 1 b.toNat):=.rangeC hf (.cons ha .nil hst) fun c G s vs r hv=>by
 refine Ex1 hv.one fun v Z0=>?_; obtain ⟨rfl,h1⟩:=Z0
 obtain ⟨_,rfl⟩:=h1.inv
 refine kit <| call_range_1 ?_
 rw [show rng 0 1 b.toNat=rng 0 1 (Builtin.Range.rangeSize 0 b 1).toNat by rw [Y95,Int.sub_zero]]
 exact Y94 r (natCast_nonneg _) (natCast_nonneg _) hb hb' (Int.ofNat_lt.mpr (sA0)) (Int.ofNat_le.mpr (lA0))
theorem XIt.range2 {x:Str} {p pos:Pos} {e₁ e₂:Expr} {a b:Int} (hf:PE Γ fn n σ (.Name x p) (.bi (.type "range"))) (ha:PEs Γ fn n σ [e₁,e₂] [.int a,.int b]) (ha0:0≤a) (ha':a≤1000000) (hb:0≤b) (hb':b≤1000000) :
  XIt Γ fn n σ (.Call (.Name x p) [e₁,e₂] [] pos) (rng a 1 (b - a).toNat):=.rangeC hf ha fun c G s vs r hv=>by
 refine Ex2 hv.two fun v w Z1=>?_; obtain ⟨rfl,Z0⟩:=Z1; refine An2 Z0 fun h1 h2=>?_; clear Z0
 obtain ⟨_,rfl⟩:=h1.inv; obtain ⟨_,rfl⟩:=h2.inv
 refine kit <| call_range_2 ?_
 rw [show rng a 1 (b - a).toNat=rng a 1 (Builtin.Range.rangeSize a b 1).toNat by rw [Y95]]
 exact Y94 r ha0 ha' hb hb' (Int.ofNat_lt.mpr (sA0)) (Int.ofNat_le.mpr (lA0))
theorem XIt.range3 {x:Str} {p pos:Pos} {e₁ e₂ e₃:Expr} {a b d:Int} (hf:PE Γ fn n σ (.Name x p) (.bi (.type "range"))) (ha:PEs Γ fn n σ [e₁,e₂,e₃] [.int a,.int b,.int d]) (ha0:0≤a) (ha':a≤1000000) (hb:0≤b) (hb':b≤1000000) (hd:0<d) (hd':d≤1000000) :
  XIt Γ fn n σ (.Call (.Name x p) [e₁,e₂,e₃] [] pos) (rng a d (Builtin.Range.rangeSize a b d).toNat):=.rangeC hf ha fun c G s vs r hv=>by
 refine Ex3 hv.three fun v w z Z1=>?_; obtain ⟨rfl,Z0⟩:=Z1; refine An3 Z0 fun h1 h2 h3=>?_; clear Z0
 obtain ⟨_,rfl⟩:=h1.inv; obtain ⟨_,rfl⟩:=h2.inv; obtain ⟨_,rfl⟩:=h3.inv
 refine kit <| call_range_3 (Int.ne_of_gt hd) ?_ (.inl (Y64 (lt_of_le_of_lt (show d.natAbs≤1000000 from Int.ofNat_le.mp (by rw [Int.natAbs_of_nonneg (Int.le_of_lt hd)]; exact hd')) dD)))
 exact Y94 r ha0 ha' hb hb' hd hd'
end
section
variable {Γ:Gam} {fn:FnS} {n:Nat} {σ:St} {env:Env} {G:PH} {s:Shared} {c:Cx Γ fn n} {Q:AF→St→Prop} {X:St→Prop} {ss:List Stmt}
theorem PE.list {es:List Expr} {p:Pos} {xs:List V} (h:PEs Γ fn n σ es xs) (hz:xs.length≤1000000):PE Γ fn n σ (.List es p) (.lst xs):=⟨fun c G s rep=>by
 refine Y31 (Y3 (h.run c G s p rep) (fun vs s₁ q=>?_))
 refine X13 q fun G₁ l₁ r₁ v₁=>?_; clear q
 refine Ex2 r₁.use fun m news U=>?_
 have hlen:=v₁.length
 refine kit <| newList_N U.F U.N (fun h' F N=>?_) (by rw [sizeLine_eq]; exact lA2 (eqL hlen) hz)
 obtain ⟨r',le⟩:=U.put h' s₁.toks _ _ (Heap.get?_none_of_le (le_refl _)) F N
 exact .mk (l₁.trans le) r' (.lst Y65 rfl rfl (v₁.mono le))⟩
theorem Cx.Rep.allocO (r:c.Rep G σ s) {ob:O} {o:Obj} {tk:Nat} (hi:ob.isInst=false) (hf:o.isFreed=false) (hr:∀ own,OR Γ.w.params G (ins own s.heap.objs.size o) s.heap.objs.size s.heap.objs.size ob) :
  σ.hp s.heap.objs.size=none∧c.Rep G ⟨σ.loc,upd σ.hp s.heap.objs.size ob⟩ { s with heap:=s.heap.push o,toks:=tk }:=by
 obtain ⟨own,m,cs,b,h,lr⟩:=r
 have hn:s.heap.get? s.heap.objs.size=none:=Heap.get?_none_of_le (le_refl _)
 have ho:=(b.fresh hn).1
 exact ⟨h.none_of ho,ins own s.heap.objs.size o,m,cs,b.alloc hn (fun a x e=>Heap.get?_push_of_some _ e) (Heap.get?_push_size _ hf),h.alloc ho hi (hr own),lr⟩
theorem Y96 {M:Model} {A:Around} {E Q:Value→Shared→Prop} {vs:List Value} (hz:vs.length≤1000000) (h:Q (.ref s.heap.objs.size) { s with heap:=s.heap.push { cls:=.type "list",data:=.seq vs.toArray } }):wpAny M A (newList vs) Q E s :=
 kit <| wpAny_newObj_type h (by show vs.toArray.size≤sizeLine; rw [size_toArray,sizeLine_eq]; exact lA1 hz)
theorem XE.list {es:List Expr} {p:Pos} {xs:List V} {QV:V→St→Prop} (h:PEs Γ fn n σ es xs) (hz:xs.length≤1000000) (q:∀ a,σ.hp a=none→QV (.obj a) ⟨σ.loc,upd σ.hp a (.list xs)⟩):XE Γ fn n σ (.List es p) QV X:=⟨fun c G s rep=>by
 refine Y31 (wpAny_mono (h.run c G s p rep) (fun vs s₁ h=>?_) NoX.to)
 refine X13 h fun G₁ l₁ r₁ v₁=>?_; clear h
 have hlen:=v₁.length
 refine Y96 (lA2 (eqL hlen) hz) ?_
 obtain ⟨h1,h2⟩:=r₁.allocO (ob:=.list xs) (o:={ cls:=.type "list",data:=.seq vs.toArray }) (tk:=s₁.toks) rfl rfl fun own=>(EI2 vs 0 ⟨Y65,v₁⟩)
 exact ⟨G₁,_,_,l₁,h2,.obj _,q _ h1⟩⟩
theorem Cx.Rep.freeze (r:c.Rep G σ s) (k:Nat) {a:Addr} {xs:List V} {loc':List (Option V)} (h:σ.hp a=some (.list xs)) (hk:σ.loc[k]?=some (some (.obj a))) (hl:SetAt σ.loc k (.lst xs) loc'):∃ G',PLe G G'∧c.Rep G' ⟨loc',del σ.hp a⟩ s:=by
 refine Y2 ?_; rintro G0 hG0; obtain ⟨own,m,cs,b,hr,lr⟩:=r; refine hG0 ?_; clear hG0
 obtain ⟨dx,h1,h2⟩:=id hr
 refine X22 (h1 a _ h) fun vs nn e1 e2=>?_
 have l:PLe G (N0.ins G a (W.listOf (List.toArray vs) nn)):=Y66 (b.disj a _ e1)
 have hr':=hr.freeze b e1 (fun C ns vs e=>by rw [h] at e; cases e) ⟨_,h⟩
 refine ⟨_,l,cutO own a,m,cs,b.freeze e1,hr',fun k' x kd u g1 g2=>?_,lr.2,lr.3⟩
 have hset:=hl.eq
 by_cases q:k'=k
 ·subst q
  rw [← hset,getElem?_set] at g2
  simp at g2
  have:=lr.1 k' x kd _ g1 hk
  obtain ⟨g3,rfl⟩:=g2
  have tr:∀ v,VR G v (.obj a)→VR (N0.ins G a (W.listOf (List.toArray vs) nn)) v (.lst xs):=fun v hv=>by
   obtain rfl:=hv.inv
   exact .lst Y65 rfl rfl (e2.mono l)
  cases kd <;> try exact this
  ·refine X12 this fun v f1 f2=>?_; clear this; exact ⟨v,f1,tr v f2⟩
  ·refine X23 this fun d v f1 f2 f3=>?_; clear this; exact (EI2 d v ⟨f1,f2,tr v f3⟩)
 ·rw [← hset,List.getElem?_set_ne (Ne.symm q)] at g2
  exact (lr.1 k' x kd u g1 g2).grow l
theorem XS.freeze (k:Nat) {a:Addr} {xs:List V} {loc':List (Option V)} (h:σ.hp a=some (.list xs)) (hk:σ.loc[k]?=some (some (.obj a))) (hl:SetAt σ.loc k (.lst xs) loc') (hs:XS Γ fn n ss ⟨loc',del σ.hp a⟩ Q X):XS Γ fn n ss σ Q X:=⟨fun c G s r=>by
 refine X12 (r.freeze k h hk hl) fun G' l r'=>?_
 exact wpAny_mono (hs.run c G' s r') (fun _ _ q=>q.up l) fun _ _ q=>q.up l⟩
theorem XS.less {hp':HP} (hl:∀ a o,hp' a=some o→σ.hp a=some o) (h:XS Γ fn n ss ⟨σ.loc,hp'⟩ Q X):XS Γ fn n ss σ Q X:=⟨fun c G s r=>by
 obtain ⟨own,m,cs,b,hr,lr⟩:=r
 exact h.run c G s ⟨own,m,cs,b,hr.less hl,lr⟩⟩
theorem Cx.Rep.ownList (r:c.Rep G σ s) {a:Addr} {xs:List V} (h:σ.hp a=some (.list xs)):∃ vs n,s.heap.get? a=some (W.listOf (List.toArray vs) n)∧VRs G vs xs ∧
  ∀ h' tk vs' n' xs',Heap.SameBut a s.heap h'→h'.get? a=some (W.listOf (List.toArray vs') n')→VRs G vs' xs'→c.Rep G ⟨σ.loc,upd σ.hp a (.list xs')⟩ { s with heap:=h',toks:=tk }:=by
 obtain ⟨own,m,cs,b,hr,lr⟩:=r
 obtain ⟨dx,h1,h2⟩:=id hr
 refine X22 (h1 a _ h) fun vs nn e1 e2=>?_
 refine (EI2 vs nn ⟨b.hO _ _ e1,e2,fun h' tk vs' n' xs' hs hg hv=>⟨N0.ins own a (W.listOf (List.toArray vs') n'),m,cs,b.write e1 (fun d o q e=>(hs.2 d q).trans e) hg,?_,lr⟩⟩)
 exact hr.write h rfl rfl (EI2 vs' n' ⟨Y65,hv⟩)
theorem XE.bmeth {o:Expr} {nm:Str} {id:String} {apos pos:Pos} {a:Addr} {args:List Expr} {xs:List V} {QV:V→St→Prop} (ho:PE Γ fn n σ o (.obj a)) (ha:PEs Γ fn n σ args xs)
  (hm:∀ (c:Cx Γ fn n) G s pl (Q:Value × List Value→Shared→Prop),c.Rep G σ s→Q (.builtin id,[.ref a]) s→wpAny (model Γ.prog Γ.w) c.A (getMethod (.ref a) nm pl) Q (c.EP G X) s)
  (k:∀ (c:Cx Γ fn n) G s vs,c.Rep G σ s→VRs G vs xs→wpAny (model Γ.prog Γ.w) c.A (call (.builtin id) (.ref a :: vs)) (c.XP G QV) (c.EP G X) s) (hp:MethPl o nm args apos pos):XE Γ fn n σ (.Call (.Attribute o nm apos) args [] pos) QV X:=by
 revert ho ha hm k hp; revert Γ fn n σ X o nm id apos pos a args xs QV; apply s12; generalize T1 _=Γ,T2 _=fn,T3 _=n,T4 _=σ,T5 _=X,T6 _=o,T7 _=nm,T8 _=id,T9 _=apos,T10 _=pos,T11 _=a,T12 _=args; apply s2; generalize T1 _=xs,T2 _=QV; intro ho ha hm k hp
 refine ⟨fun c G s rep=>?_⟩
 revert c G s; apply s3; generalize T1 _=c,T2 _=G,T3 _=s; intro rep
 refine Y35 (wpAny_mono (ho.run c G s rep) (Cx.RP.obj fun s₁ G₁ l₁ r₁ v₁=>?_) NoX.to) (hp _)
 revert s₁ G₁; apply s2; generalize T1 _=s₁,T2 _=G₁; intro l₁ r₁ v₁
 refine wpAny_mono (E:=c.EP G₁ X) (hm c G₁ s₁ _ (fun r s₂=>r=(.builtin id,[.ref a])∧s₂=s₁) r₁ ⟨rfl,rfl⟩) (fun r s₂ q=>?_) fun _ _ q=>q.up l₁
 revert r s₂; apply s2; generalize T1 _=r,T2 _=s₂; intro q
 obtain ⟨rfl,rfl⟩:=q
 refine Y34 (P:=fun _=>True) (by rw [ha.plain]; rfl) (fun h _=>⟨.machine,.inr (.inl rfl),Looks.now⟩) ?_
 have key:=wpAny_mono (E':=c.EP G X) (ha.run c G₁ s₂ pos r₁) (fun vs s₃ q=>(?_:wpAny (model Γ.prog Γ.w) c.A (call (.builtin id) ([.ref a]++vs)) (c.XP G QV) (c.EP G X) s₃)) NoX.to
 ·cases q:backTo pos (starEach args c.env) with
  | nil =>
   rw [q] at key
   intro Γ' p' hΓ
   have h':wpAny (model Γ.prog Γ.w) c.A (call (.builtin id) ([.ref a]++[])) (c.XP G QV) (c.EP G X) s₂:=key Γ' p' hΓ
   exact Y33 (Q:=fun z s₁=>True∧wpAny (model Γ.prog Γ.w) c.A (call (.builtin id) ([.ref a]++z.pos) z.kw) (c.XP G QV) (c.EP G X) s₁) ⟨trivial,h'⟩ Γ' p' hΓ
  | cons p rest =>
   have hpl:=ha.plain c.env pos
   rw [q] at key hpl
   obtain ⟨b,t⟩:=p
   cases b with
   | true=>cases hpl
   | false=>exact Y32 (Y3 key (fun vs s₁ h₁=>⟨trivial,h₁⟩))
 ·refine X13 q fun G₂ l₂ r₂ v₂=>?_; clear q
  exact wpAny_mono (k c G₂ s₃ vs r₂ v₂) (fun _ _ q=>q.up (l₁.trans l₂)) fun _ _ q=>q.up (l₁.trans l₂)
theorem XE.append {o e:Expr} {apos pos:Pos} {a:Addr} {xs:List V} {x:V} {QV:V→St→Prop} (ho:PE Γ fn n σ o (.obj a)) (hi:σ.hp a=some (.list xs)) (he:PE Γ fn n σ e x) (hz:xs.length≤1000000)
  (q:QV .none ⟨σ.loc,upd σ.hp a (.list (xs++[x]))⟩) (hp:MethPl o "append" [e] apos pos) (hst:isStarred e=false:=by rfl):XE Γ fn n σ (.Call (.Attribute o "append" apos) [e] [] pos) QV X :=
 XE.bmeth (id:="list.append") ho (.cons he .nil hst) (fun c G s pl Q r h=>by
  refine X22 (r.ownList hi) fun vs nn h1 U0=>?_
  exact kit <| getMethod_list_append h1 rfl rfl h) (fun c G s vs r hv=>by
  refine Ex1 hv.one fun v Z0=>?_; obtain ⟨rfl,hv1⟩:=Z0
  refine X23 (r.ownList hi) fun ws nn h1 h2 h3=>?_
  have hlen:=h2.length
  refine kit <| append_at h1 (fun h' hs hg=>⟨G,.none,_,.refl G,h3 h' s.toks (ws++[v]) (nn+1) (xs++[x]) hs ?_ (h2.append (.cons hv1 .nil)),.none,q⟩) (by rw [size_toArray,sizeLine_eq]; exact lA2 (eqL hlen) hz)
  rw [hg]; simp [W.listOf]) hp
theorem PE.itemO {value slice:Expr} {p:Pos} {a:Addr} {xs:List V} {i:Int} {x:V} (h1:PE Γ fn n σ value (.obj a)) (hi:σ.hp a=some (.list xs)) (h2:PE Γ fn n σ slice (.int i)) (h0:0≤i) (hx:xs[i.toNat]?=some x) (hz:xs.length≤1000000) (hs:NoSl slice) :
  PE Γ fn n σ (.Subscript value slice p) x:=PE.sub2 h1 h2 fun c G s v w rep hv hw=>by
 obtain ⟨_,rfl⟩:=hw.inv
 obtain rfl:=hv.inv
 refine X23 (rep.ownList hi) fun vs nn e1 e2 U0=>?_
 refine X12 (e2.get hx) fun u hu hvr=>?_
 have hlt:i.toNat<xs.length:=(List.getElem?_eq_some_iff.mp hx).1
 have hl:s.heap.IsList a (List.toArray vs):=⟨_,e1,rfl,_,rfl⟩
 exact kit <| tail_any hl.typeIs slot_list_getitem.lookup (wpAny_getItem_list hl h0 (i63 h0 hlt hz) (by simpa using hu) (.now rep hvr)) (hs _ _)
theorem PE.lenO {x:Str} {p pos:Pos} {e:Expr} {a:Addr} {xs:List V} (hf:PE Γ fn n σ (.Name x p) (.bi (.builtin "len"))) (ha:PE Γ fn n σ e (.obj a)) (hi:σ.hp a=some (.list xs)) (hz:xs.length≤1000000) (hst:isStarred e=false:=by rfl) :
  PE Γ fn n σ (.Call (.Name x p) [e] [] pos) (.int xs.length):=PE.call hf (.cons ha .nil hst) fun c G s vs rep hv=>by
 refine Ex1 hv.one fun v Z0=>?_; obtain ⟨rfl,h1⟩:=Z0
 obtain rfl:=h1.inv
 refine X23 (rep.ownList hi) fun vs nn e1 e2 U0=>?_
 have e3:(List.toArray vs).size=xs.length:=by rw [size_toArray]; exact e2.length
 exact kit <| call_len_list ⟨_,e1,rfl,_,rfl⟩ (by rw [e3]; exact Int.ofNat_lt.mpr (lt_of_le_of_lt hz dD)) (by rw [e3]; exact .now rep.toks (.int _ _))
theorem Y97 {vs:List Value} {n k:Nat} {v:Value}:Obj.mapSeq (·.setIfInBounds k v) (W.listOf (List.toArray vs) n)=W.listOf (List.toArray (vs.set k v)) n:=by
 unfold Obj.mapSeq W.listOf
 simp
theorem XTg.itemO {value slice:Expr} {p:Pos} {a:Addr} {xs:List V} {i:Int} {u:V} {QS:St→Prop} (h1:PE Γ fn n σ value (.obj a)) (hi:σ.hp a=some (.list xs)) (h2:PE Γ fn n σ slice (.int i)) (h0:0≤i) (hx:i<xs.length) (hz:xs.length≤1000000)
  (q:QS ⟨σ.loc,upd σ.hp a (.list (xs.set i.toNat u))⟩):XTg Γ fn n σ (.Subscript value slice p) u QS X:=⟨fun c G s v r hv=>by
 refine Y43 (wpAny_mono (h1.run c G s r) (Cx.RP.obj fun s₁ G₁ l₁ r₁ v₁=>?_) NoX.to)
 refine wpAny_mono (h2.run c G₁ s₁ r₁) (Cx.RP.int fun s₂ G₂ U0 l₂ r₂ v₂=>?_) NoX.to
 refine X23 (r₂.ownList hi) fun vs nn e1 e2 e3=>?_
 have hlen:=e2.length
 refine kit <| ki_setAt e1 h0 (i63 h0 ((toNat_lt h0).mpr hx) hz) (by rw [size_toArray,hlen]; exact hx) ?_
 refine (EI2 G₂ _ ⟨l₁.trans l₂,e3 _ s₂.toks (vs.set i.toNat v) nn (xs.set i.toNat u) (Heap.SameBut.update ..) ?_ (e2.set i.toNat (hv.mono (l₁.trans l₂))),q⟩)
 rw [Heap.get?_update_self _ e1 (by rw [Y97]; rfl),Y97]⟩
set_option tactic.hygienic true in
theorem VRs.ints {vs:List Value}:∀ {ks:List Int} (_:VRs G vs (ks.map .int)),IntsAre vs ks:=by
 induction vs with
 | nil=>intro ks h; cases ks with
  | nil=>exact .nil
  | cons k r=>cases h
 | cons v r ih =>
  intro ks h
  cases ks with
  | nil=>cases h
  | cons k ks =>
   cases h
   rename_i h hs
   obtain ⟨_,rfl⟩:=h.inv
   exact .cons _ _ (ih hs)
noncomputable def toB (ks:List Int):List UInt8:=ks.map fun n=>n.toNat.toUInt8
theorem PE.bytesL {x:Str} {p pos:Pos} {e:Expr} {ks:List Int} (hf:PE Γ fn n σ (.Name x p) (.bi (.type "bytes"))) (ha:PE Γ fn n σ e (.lst (ks.map .int))) (hb:∀ k∈ks,0≤k∧k<256) (hz:ks.length≤1000000) (hst:isStarred e=false:=by rfl) :
  PE Γ fn n σ (.Call (.Name x p) [e] [] pos) (.byt (toB ks)):=PE.call hf (.cons ha .nil hst) fun c G s vs rep hv=>by
 refine Ex1 hv.one fun v Z1=>?_; obtain ⟨rfl,h1⟩:=Z1
 refine Ex2 (h1.isList rep) fun a vs Z2=>?_; obtain ⟨rfl,Z0⟩:=Z2; refine An2 Z0 fun ha hvs=>?_; clear Z0
 refine Ex2 rep.use fun m news U=>?_
 have e1:=hvs.length
 rw [length_map] at e1
 refine kit <| bytes_K U.F U.N ha hvs.ints hb (by rw [sizeLine_eq]; exact lA2 (eqL e1) hz) rep.good.hh fun h' t k F N U0=>?_
 exact .now (U.back h' k F N) (.byt _ _)
theorem PE.sumB {x:Str} {p pos:Pos} {e:Expr} {b:List UInt8} (hf:PE Γ fn n σ (.Name x p) (.bi (.builtin "sum"))) (ha:PE Γ fn n σ e (.byt b)) (hz:b.length≤1000000) (hst:isStarred e=false:=by rfl) :
  PE Γ fn n σ (.Call (.Name x p) [e] [] pos) (.int (b.map fun x=>(x.toNat:Int)).sum):=PE.call hf (.cons ha .nil hst) fun c G s vs rep hv=>by
 refine Ex1 hv.one fun v Z0=>?_; obtain ⟨rfl,h1⟩:=Z0
 obtain ⟨_,rfl⟩:=h1.inv
 refine Ex2 rep.use fun m news U=>?_
 refine kit <| KBmo.sum_K U.F U.N rep.good.hh (ks:=b.map fun x=>(x.toNat:Int)) ?_ (by rw [length_map]; exact lA1 hz) fun h' t' k F N U0 U1=>?_
 ·simp [KBw.bInts]
 ·exact .now (U.back h' k F N) (.int _ _)
end
namespace BA
theorem mro:mroOf (.type "bytearray")=pure [.type "bytearray",.type "object"]:=by rw [mroOf_type]; kernel_rfl
theorem lookup_new:typeLookup (.type "bytearray") "__new__" = pure (some (.builtin "bytearray.__new__")):=by rw [typeLookup_type,builtinLookup_eq_fast]; kernel_rfl
theorem sub:isSubtype (.type "bytearray") (.type "bytearray")=pure true:=by rw [isSubtype_type]; kernel_rfl
theorem slot_init:Slot "bytearray" "__init__" "bytearray.__init__" :=
 .of (owner:="bytearray") (n:="__init__") (by rw [typeLookup_type,builtinLookup_eq_fast]; kernel_rfl) dK dK dK
  (.inl dK) (by rw [isSubtype_type]; kernel_rfl)
theorem slot_len:Slot "bytearray" "__len__" "bytearray.__len__" :=
 .of (owner:="bytearray") (n:="__len__") (by rw [typeLookup_type,builtinLookup_eq_fast]; kernel_rfl) dK dK dK
  (.inl dK) (by rw [isSubtype_type]; kernel_rfl)
theorem called:TypeCalled "bytearray" "bytearray.__new__" "bytearray.__init__" :=
 ⟨dK,dK,⟨_,_,mro⟩,madeBy_type mro lookup_new dK,dK,by rw [isSubtype_type]; kernel_rfl,slot_init⟩
theorem typeCall0:checkTypeCall "bytearray" ⟨[],[]⟩=pure ():=by kernel_rfl
theorem typeCall1 (a:Value):checkTypeCall "bytearray" ⟨[a],[]⟩=pure ():=by kernel_rfl
theorem newCall0:checkBuiltinCall "bytearray.__new__" ⟨[.type "bytearray"],[]⟩=pure ():=by kernel_rfl
theorem newCall1 (a:Value):checkBuiltinCall "bytearray.__new__" ⟨[.type "bytearray",a],[]⟩=pure ():=by kernel_rfl
theorem entry_new:entryFor table "bytearray.__new__" = some Builtin.«list.__new__» :=
 entryFor_alias (id':="list.__new__") (by kernel_rfl) dK dK (by kernel_rfl)
theorem plain_new:plainId "bytearray.__new__" = true:=dK
theorem plain_init:plainId "bytearray.__init__" = true:=dK
theorem entry_init:entryFor table "bytearray.__init__" = some Builtin.«bytearray.__init__»:=by first | exact entryFor_of_fast (by kernel_rfl) | exact entryFor_of_tree (by kernel_rfl)
theorem entry_lenB:entryFor table "bytearray.__len__" = some Builtin.«bytearray.__len__»:=by first | exact entryFor_of_fast (by kernel_rfl) | exact entryFor_of_tree (by kernel_rfl)
theorem entry_extend:entryFor table "bytearray.extend" = some Builtin.«bytearray.extend»:=by first | exact entryFor_of_fast (by kernel_rfl) | exact entryFor_of_tree (by kernel_rfl)
theorem owner:("bytearray.__new__".splitOn ".__new__").headD "" = "bytearray":=by simp +decide [String.splitOn,String.splitOnAux]
section
variable {prog:Program} {w:World} {A:Around} {E:Value→Shared→Prop} {s:Shared}
theorem code_new {rest:List Value} (hc:checkBuiltinCall "bytearray.__new__" ⟨.type "bytearray" :: rest,[]⟩=pure ()) {Q₁:Value→Shared→Prop}
  (h:Q₁ (.ref s.heap.objs.size) { s with heap:=s.heap.push { cls:=.type "bytearray",data:=.bytearray #[] } }) :
  PySem.codeAny (model prog w) A (.call (.builtin "bytearray.__new__") ⟨.type "bytearray" :: rest,[]⟩) (wants Q₁ E) s:=by
 refine PySem.codeAny_of_tree ?_
 show PySem.wpAny _ A.in1 (do checkBuiltinCall "bytearray.__new__" ⟨.type "bytearray" :: rest,[]⟩; again (.builtin "bytearray.__new__" ⟨.type "bytearray" :: rest,[]⟩)) _ _ s
 refine PySem.wpAny_bind (PySem.wpAny_of_eq hc (PySem.wpAny_pure ⟨plainId_quiet plain_new _,codeAny_builtin_stack entry_new rfl fun p st=>?_⟩))
 rw [Around.under_plainId plain_new _]
 have hsub:=sub
 have hown:=owner
 obtain ⟨hp,g,d,tk,os⟩:=s
 simp only [hown]
 wp_walk
 exact h
end
end BA
namespace BA
section
variable {prog:Program} {w:World} {A:Around} {E:Value→Shared→Prop} {s:Shared}
theorem ite_no {α:Type} {M:Model} {c:Bool} {a b:Sem α} {Q:α→Shared→Prop} (hc:c=false) (h:wpAny M A b Q E s):wpAny M A (if c=true then a else b) Q E s:=by
 subst hc; exact h
theorem ite_yes {α:Type} {M:Model} {c:Bool} {a b:Sem α} {Q:α→Shared→Prop} (hc:c=true) (h:wpAny M A a Q E s):wpAny M A (if c=true then a else b) Q E s:=by
 subst hc; exact h
theorem dirty_init (args:Args):dirty (.builtin "bytearray.__init__" args)=false:=by
 show dirtyId "bytearray.__init__" = false
 decide +kernel
theorem callType {T newId initId:String} {Bi:Builtin} {args:List Value} {obj:Value} {s₁:Shared} {Q:Value→Shared→Prop} (ft:TypeCalled T newId initId) (hct:checkTypeCall T ⟨args,[]⟩=pure ()) (entryI:entryFor table initId=some Bi) (hd:dirty (.builtin initId ⟨obj :: args,[]⟩)=false)
  (hnew:PySem.codeAny (model prog w) A.in1 (.call (.builtin newId) ⟨.type T :: args,[]⟩) (wants (fun v s'=>v=obj∧s'=s₁) fun _ _=>False) s) (hT:s₁.TypeIs obj T) (hok:argsOk initId ⟨obj :: args,[]⟩)
  (h:wpAny (model prog w) (A.in1.under (.builtin initId ⟨obj :: args,[]⟩)) (Bi ⟨obj :: args,[]⟩) (fun fin s'=>fin=.done (.ret .none)∧Q obj s') E s₁) :
  wpAny (model prog w) A (call (.type T) args) Q E s:=by
 refine Ex2 ft.mro fun c tl hmro=>?_
 refine Y8 (Y10 ?_)
 show wpAny _ _ (callAny (.type T) _) _ _ _
 refine wpAny_pure ⟨Code.quiet_builtin _ dK,Y53 F.entry_type_call (Y52 _) ?_⟩
 rw [Around.under_plain (weight_type_call_type T args []) rfl]
 refine ite_no ft.notType ?_
 refine ite_no ft.canCreate ?_
 show wpAny _ _ (checkTypeCall T ⟨args,[]⟩ >>= _) _ _ _
 rw [hct]
 refine Y4 (wpAny_pure ?_)
 show wpAny _ _ (mroOf (.type T) >>= _) _ _ _
 rw [hmro]
 refine Y4 (wpAny_pure ?_)
 show wpAny _ _ (Bind.madeBy (.type T) >>= _) _ _ _
 rw [ft.made]
 refine Y4 (wpAny_pure ?_)
 show wpAny _ _ (pure (Value.builtin newId) >>= _) _ _ _
 refine Y4 (wpAny_pure (Y4 (Y6 ?_)))
 refine kit (PySem.wpAny_call (PySem.codeAny_mono hnew fun r s' hr=>?_))
 match r,hr with
 | .error e,hr=>exact hr.elim
 | .ok (.ret v),hr =>
  obtain ⟨rfl,rfl⟩:=hr
  refine Y4 (kit (wpAny_isInstance hT ft.sub ?_))
  show wpAny _ _ (holding _ (callSpecial? _ _ _ _) >>= _) _ _ _
  refine Y4 (Y6 ?_)
  unfold callSpecial?
  refine Y4 (kit (wpAny_specialOf hT ft.init.lookup ?_))
  refine Y6 (Y4 ?_)
  rw [ft.init.bind]
  refine wpAny_pure (Y4 (Y8 (Y54 (plainId_quiet ft.init.plain _) entryI hd (ft.init.check _ _ _ _ _ _ _ _ hT hok rfl) ?_)))
  refine Y3 h (fun fin s' q=>?_)
  obtain ⟨rfl,q⟩:=q
  exact wpAny_pure (wpAny_pure q)
theorem call_new {args:List Value} {Q:Value→Shared→Prop} (hct:checkTypeCall "bytearray" ⟨args,[]⟩=pure ()) (hnc:checkBuiltinCall "bytearray.__new__" ⟨.type "bytearray" :: args,[]⟩=pure ())
  (hok:argsOk "bytearray.__init__" ⟨.ref s.heap.objs.size :: args,[]⟩)
  (h:wpAny (model prog w) A.in1.in1 (Builtin.«bytearray.__init__» ⟨.ref s.heap.objs.size :: args,[]⟩) (fun fin s'=>fin=.done (.ret .none)∧Q (.ref s.heap.objs.size) s') E { s with heap:=s.heap.push { cls:=.type "bytearray",data:=.bytearray #[] } }) :
  wpAny (model prog w) A (call (.type "bytearray") args) Q E s :=
 callType called hct entry_init (dirty_init _) (code_new hnc ⟨rfl,rfl⟩) ⟨_,Heap.get?_push_size _ rfl,rfl⟩ hok (by rw [Around.under_plainId plain_init]; exact h)
end
end BA
namespace BA
open Builtin.Bytes
theorem lk_buffer:typeLookup (.type "bytearray") "__buffer__" = pure (some (.builtin "bytearray.__buffer__")):=by rw [typeLookup_type,builtinLookup_eq_fast]; kernel_rfl
theorem lk_release:typeLookup (.type "bytearray") "__release_buffer__" = pure (some (.builtin "bytearray.__release_buffer__")):=by rw [typeLookup_type,builtinLookup_eq_fast]; kernel_rfl
theorem lk_index:typeLookup (.type "bytearray") "__index__" = pure none:=by rw [typeLookup_type,builtinLookup_eq_fast]; kernel_rfl
theorem lk_bytes:typeLookup (.type "bytearray") "__bytes__" = pure none:=by rw [typeLookup_type,builtinLookup_eq_fast]; kernel_rfl
theorem lb_buffer:typeLookup (.type "bytes") "__buffer__" = pure (some (.builtin "bytes.__buffer__")):=by rw [typeLookup_type,builtinLookup_eq_fast]; kernel_rfl
theorem lb_release:typeLookup (.type "bytes") "__release_buffer__" = pure none:=by rw [typeLookup_type,builtinLookup_eq_fast]; kernel_rfl
theorem lb_index:typeLookup (.type "bytes") "__index__" = pure none:=by rw [typeLookup_type,builtinLookup_eq_fast]; kernel_rfl
theorem lb_bytes:typeLookup (.type "bytes") "__bytes__" = pure (some (.builtin "bytes.__bytes__")):=by rw [typeLookup_type,builtinLookup_eq_fast]; kernel_rfl
theorem lb_sub:isSubtype (.type "bytes") (.type "bytes")=pure true:=by rw [isSubtype_type]; kernel_rfl
theorem bind0:bindOptional "bytearray.__init__" "bytearray" ["source","encoding","errors"] [] []=pure [none,none,none]:=by kernel_rfl
theorem bind1 (v:Value):bindOptional "bytearray.__init__" "bytearray" ["source","encoding","errors"] [v] []=pure [some v,none,none]:=by kernel_rfl
theorem end_buf:("bytearray.__buffer__" : String).endsWith ("."++"__buffer__")=true:=dK
theorem end_rel:("bytearray.__release_buffer__" : String).endsWith ("."++"__release_buffer__")=true:=dK
theorem end_bb:("bytes.__buffer__" : String).endsWith ("."++"__buffer__")=true:=dK
theorem own_buf:isSubtype (.type "bytearray") (.type (("bytearray.__buffer__" : String).dropRight (("__buffer__" : String).length+1)))=pure true:=by
 rw [show ("bytearray.__buffer__" : String).dropRight (("__buffer__" : String).length+1) = "bytearray" by decide +kernel]; exact sub
theorem own_rel:isSubtype (.type "bytearray") (.type (("bytearray.__release_buffer__" : String).dropRight (("__release_buffer__" : String).length+1)))=pure true:=by
 rw [show ("bytearray.__release_buffer__" : String).dropRight (("__release_buffer__" : String).length+1) = "bytearray" by decide +kernel]; exact sub
theorem own_bb:isSubtype (.type "bytes") (.type (("bytes.__buffer__" : String).dropRight (("__buffer__" : String).length+1)))=pure true:=by
 rw [show ("bytes.__buffer__" : String).dropRight (("__buffer__" : String).length+1) = "bytes" by decide +kernel]; exact lb_sub
section
variable {M:Model} {A:Around} {E:Value→Shared→Prop} {s:Shared}
theorem slotOwn {v:Value} {T id name:String} {Q:Bool→Shared→Prop} (hT:s.TypeIs v T) (hl:typeLookup (.type T) (Str.ofString name)=pure (some (.builtin id))) (h1:id.endsWith ("."++name)=true)
  (h2:isSubtype (.type T) (.type (id.dropRight (name.length+1)))=pure true) (q:Q true s):PySem.wpAny M A (slotIsOwn v name) Q E s:=by
 unfold slotIsOwn
 refine PySem.wpAny_bind (wpAny_specialOf hT hl ?_)
 dsimp only
 rw [h1]
 exact wpAny_isInstance hT h2 q
theorem slotNone {v:Value} {T name:String} {Q:Bool→Shared→Prop} (hT:s.TypeIs v T) (hl:typeLookup (.type T) (Str.ofString name)=pure none) (q:Q true s):PySem.wpAny M A (slotIsOwn v name) Q E s:=by
 unfold slotIsOwn
 exact PySem.wpAny_bind (wpAny_specialOf hT hl (PySem.wpAny_pure q))
theorem rel_ba {v:Value} {Q:Bool→Shared→Prop} (hT:s.TypeIs v "bytearray") (q:Q false s):PySem.wpAny M A (ownRelease v) Q E s:=by
 unfold ownRelease
 exact PySem.wpAny_bind (slotOwn hT lk_release end_rel own_rel (PySem.wpAny_pure q))
theorem rel_by {v:Value} {Q:Bool→Shared→Prop} (hT:s.TypeIs v "bytes") (q:Q false s):PySem.wpAny M A (ownRelease v) Q E s:=by
 unfold ownRelease
 exact PySem.wpAny_bind (slotNone hT lb_release (PySem.wpAny_pure q))
theorem payload_ba {a:Addr} {o:Obj} {b:Array UInt8} {n:Nat} {Q:Array UInt8→Shared→Prop} (ho:s.heap.get? a=some o) (hd:o.data=.bytearray b n) (q:Q b s):PySem.wpAny M A (payload (.ref a)) Q E s:=by
 unfold payload payload?
 refine PySem.wpAny_bind (PySem.wpAny_bind (wpAny_load ho ?_))
 rw [hd]
 exact PySem.wpAny_pure (PySem.wpAny_pure q)
theorem payload_by {b:Array UInt8} {t:Tok} {Q:Array UInt8→Shared→Prop} (q:Q b s):PySem.wpAny M A (payload (.bytes b t)) Q E s:=by
 unfold payload payload?
 exact PySem.wpAny_bind (PySem.wpAny_pure (PySem.wpAny_pure q))
theorem buffer_ba {id:String} {a:Addr} {o:Obj} {b:Array UInt8} {n:Nat} {fl:Bool} {Q:Option (Array UInt8)→Shared→Prop} (ho:s.heap.get? a=some o) (hc:o.cls=.type "bytearray") (hd:o.data=.bytearray b n) (q:Q (some b) s):PySem.wpAny M A (buffer? id (.ref a) fl) Q E s:=by
 have hT:s.TypeIs (.ref a) "bytearray":=⟨o,ho,hc⟩
 unfold buffer?
 refine PySem.wpAny_bind (wpAny_specialOf hT lk_buffer ?_)
 dsimp only
 refine PySem.wpAny_bind (slotOwn hT lk_buffer end_buf own_buf ?_)
 refine PySem.wpAny_bind (wpAny_specialOf hT lk_buffer ?_)
 refine PySem.wpAny_bind (rel_ba hT ?_)
 exact PySem.wpAny_bind (payload_ba ho hd (PySem.wpAny_pure q))
theorem buffer_by {id:String} {b:Array UInt8} {t:Tok} {fl:Bool} {Q:Option (Array UInt8)→Shared→Prop} (q:Q (some b) s):PySem.wpAny M A (buffer? id (.bytes b t) fl) Q E s:=by
 have hT:s.TypeIs (.bytes b t) "bytes":=typeIs_bytes _ _ _
 unfold buffer?
 refine PySem.wpAny_bind (wpAny_specialOf hT lb_buffer ?_)
 dsimp only
 refine PySem.wpAny_bind (slotOwn hT lb_buffer end_bb own_bb ?_)
 refine PySem.wpAny_bind (wpAny_specialOf hT lb_buffer ?_)
 refine PySem.wpAny_bind (rel_by hT ?_)
 exact PySem.wpAny_bind (payload_by (PySem.wpAny_pure q))
theorem write_ba {a:Addr} {b:Array UInt8} {f:Array UInt8→Array UInt8} {Q:Unit→Shared→Prop} (ho:s.heap.get? a=some { cls:=.type "bytearray",data:=.bytearray b 0 }) (hz:(f b).size≤sizeLine)
  (q:∀ h',Heap.SameBut a s.heap h'→h'.get? a=some { cls:=.type "bytearray",data:=.bytearray (f b) 0 }→Q () { s with heap:=h' }):PySem.wpAny M A (Builtin.Bytes.write (.ref a) f) Q E s:=by
 show PySem.wpAny _ _ (updateBytearray a f) _ _ _
 unfold updateBytearray
 refine PySem.wpAny_bind (wpAny_load ho ?_)
 show PySem.wpAny _ _ (update a (Obj.mapBytearray f) >>= fun _=>lookBehind a) _ _ _
 refine PySem.wpAny_bind (PySem.wpAny_update ho ?_)
 have h2:(s.heap.update a (Obj.mapBytearray f)).get? a=some { cls:=.type "bytearray",data:=.bytearray (f b) 0 }:=Heap.get?_update_self (Obj.mapBytearray f) ho rfl
 refine wpAny_lookBehind h2 ?_ (q _ (Heap.SameBut.update ..) h2)
 show (if (f b).size > sizeLine then some "bytearray:memory" else none)=none
 rw [if_neg (not_lt_of_le (lA1 hz))]
theorem exported_no {v:Value} {Q:Bool→Shared→Prop} (q:Q false s):wpAny M A (exported v) Q E s:=fun Γ p hΓ=>by
 unfold exported
 show Sem.wp M Γ (stack >>= _) _ _ p s
 rw [Sem.wp_bind']
 show Sem.wp M Γ (Sem.stack .pure) _ _ p s
 rw [Sem.wp_stack]
 have all:∀ x∈((Γ.code,p) :: Γ.below),dirty x.1=false:=fun x hx=>by
  rcases List.mem_cons.mp hx with rfl | hx
  ·exact hΓ.2.1
  ·exact hΓ.2.2 x hx
 refine (?_:∀ b:Bool,b=false→Q b s) _ ?_
 ·intro b hb; rw [hb]; exact q
 ·rw [List.any_eq_false]
  intro x hx
  have hd:=all x hx
  obtain ⟨c,pp⟩:=x
  cases c with
  | builtin id args =>
   have hd':dirtyId id=false:=hd
   have ne:∀ t:String,dirtyId t=true→¬ id=t:=fun t ht e=>by rw [e,ht] at hd'; cases hd'
   delta exported.match_1
   dsimp only [exported._sparseCasesOn_1]
   rw [dif_neg (ne _ dK),dif_neg (ne _ dK),dif_neg (ne _ dK),dif_neg (ne _ dK),dif_neg (ne _ dK)]
   unfold dirtyId at hd'
   rw [or_eq_false_iff] at hd'
   obtain ⟨pos,kw⟩:=args
   cases pos with
   | nil=>exact Bool.false_ne_true
   | cons u tl=>show ¬ (_&&decodersThatHold.contains id)=true; rw [hd'.1,Bool.and_false]; exact Bool.false_ne_true
  | _=>exact Bool.false_ne_true
end
end BA
namespace BA
open Builtin.Bytes
noncomputable abbrev baO (b:Array UInt8):Obj:={ cls:=.type "bytearray",data:=.bytearray b 0 }
section
variable {prog:Program} {w:World} {A:Around} {E:Value→Shared→Prop} {s:Shared}
theorem ite_noU {α:Type} {M:Model} {c:Bool} {a b:Sem α} {Q:α→Shared→Prop} (hc:c=false) (h:wpAny M A b Q E s):wpAny M A (if c=true then a else b) Q E s:=by
 subst hc; exact h
theorem exportsOf_ba {a:Addr} {b:Array UInt8} {Q:Nat→Shared→Prop} {M:Model} (ho:s.heap.get? a=some (baO b)) (q:Q 0 s):PySem.wpAny M A (exportsOf (.ref a)) Q E s:=by
 unfold exportsOf
 exact PySem.wpAny_bind (wpAny_load ho (PySem.wpAny_pure q))
theorem free_ba {a:Addr} {b:Array UInt8} {Q:Bool→Shared→Prop} {M:Model} (ho:s.heap.get? a=some (baO b)) (q:Q false s):wpAny M A (exported (.ref a) <||> (do return (← exportsOf (.ref a)) > 0)) Q E s:=by
 unfold orM
 refine Y4 (exported_no ?_)
 show wpAny M A (exportsOf (.ref a) >>= fun n=>pure (decide (n > 0))) Q E s
 exact Y4 (Y3 (kit (exportsOf_ba (Q:=fun n s'=>n=0∧s'=s) (E:=E) ho ⟨rfl,rfl⟩)) (fun n s' e=>by obtain ⟨rfl,rfl⟩:=e; exact wpAny_pure q))
theorem init0 {a:Addr} {b:Array UInt8} {Q:Fin→Shared→Prop} (ho:s.heap.get? a=some (baO b)) (q:∀ h',Heap.SameBut a s.heap h'→h'.get? a=some (baO #[])→Q (.done (.ret .none)) { s with heap:=h' }) :
  wpAny (model prog w) A (Builtin.«bytearray.__init__» ⟨[.ref a],[]⟩) Q E s:=by
 have hT:s.TypeIs (.ref a) "bytearray":=⟨_,ho,rfl⟩
 show wpAny _ _ (ownRelease (.ref a) >>= _) _ _ _
 refine Y4 (kit (rel_ba hT ?_))
 show wpAny _ _ (bindOptional "bytearray.__init__" "bytearray" ["source","encoding","errors"] [] [] >>= _) _ _ _
 rw [bind0]
 refine Y4 (wpAny_pure ?_)
 show wpAny _ _ (checkCodecArg _ _ _ none >>= _) _ _ _
 refine Y4 (wpAny_pure ?_)
 refine Y4 (wpAny_pure ?_)
 refine Y4 (free_ba ho ?_)
 show wpAny _ _ (Builtin.Bytes.write (.ref a) (fun _=>#[]) >>= _) _ _ _
 refine Y4 (kit (write_ba ho (by simp) fun h' h1 h2=>?_))
 exact wpAny_pure (q h' h1 h2)
theorem init_by {a:Addr} {b c:Array UInt8} {t:Tok} {Q:Fin→Shared→Prop} (ho:s.heap.get? a=some (baO b)) (hz:c.size≤sizeLine) (q:∀ h',Heap.SameBut a s.heap h'→h'.get? a=some (baO c)→Q (.done (.ret .none)) { s with heap:=h' }) :
  wpAny (model prog w) A (Builtin.«bytearray.__init__» ⟨[.ref a,.bytes c t],[]⟩) Q E s:=by
 have hT:s.TypeIs (.ref a) "bytearray":=⟨_,ho,rfl⟩
 show wpAny _ _ (ownRelease (.ref a) >>= _) _ _ _
 refine Y4 (kit (rel_ba hT ?_))
 show wpAny _ _ (bindOptional "bytearray.__init__" "bytearray" ["source","encoding","errors"] [.bytes c t] [] >>= _) _ _ _
 rw [bind1]
 refine Y4 (wpAny_pure ?_)
 show wpAny _ _ (checkCodecArg _ _ _ none >>= _) _ _ _
 refine Y4 (wpAny_pure ?_)
 refine Y4 (wpAny_pure ?_)
 refine Y4 (free_ba ho ?_)
 show wpAny _ _ (Builtin.Bytes.write (.ref a) (fun _=>#[]) >>= _) _ _ _
 refine Y4 (kit (write_ba ho (by simp) fun h' h1 h2=>?_))
 show wpAny _ _ (asStr? (.bytes c t) >>= _) _ _ _
 refine Y4 (wpAny_pure ?_)
 show wpAny _ _ (pure () >>= _) _ _ _
 refine Y4 (wpAny_pure ?_)
 refine Y4 (kit (wpAny_specialOf (typeIs_bytes _ _ _) lb_index ?_))
 show wpAny _ _ (buffer? _ _ _ >>= _) _ _ _
 refine Y4 (kit (buffer_by ?_))
 show wpAny _ _ (rule _ >>= _) _ _ _
 refine Y4 (kit (wpAny_rule ?_))
 refine Y4 (kit (write_ba h2 hz fun h'' h3 h4=>?_))
 exact wpAny_pure (q h'' (h1.trans h3) h4)
theorem init_ba {a d:Addr} {b c:Array UInt8} {Q:Fin→Shared→Prop} (ho:s.heap.get? a=some (baO b)) (hd:s.heap.get? d=some (baO c)) (hda:d≠a) (hz:c.size≤sizeLine) (q:∀ h',Heap.SameBut a s.heap h'→h'.get? a=some (baO c)→Q (.done (.ret .none)) { s with heap:=h' }) :
  wpAny (model prog w) A (Builtin.«bytearray.__init__» ⟨[.ref a,.ref d],[]⟩) Q E s:=by
 have hT:s.TypeIs (.ref a) "bytearray":=⟨_,ho,rfl⟩
 show wpAny _ _ (ownRelease (.ref a) >>= _) _ _ _
 refine Y4 (kit (rel_ba hT ?_))
 show wpAny _ _ (bindOptional "bytearray.__init__" "bytearray" ["source","encoding","errors"] [.ref d] [] >>= _) _ _ _
 rw [bind1]
 refine Y4 (wpAny_pure ?_)
 show wpAny _ _ (checkCodecArg _ _ _ none >>= _) _ _ _
 refine Y4 (wpAny_pure ?_)
 refine Y4 (wpAny_pure ?_)
 refine Y4 (free_ba ho ?_)
 show wpAny _ _ (Builtin.Bytes.write (.ref a) (fun _=>#[]) >>= _) _ _ _
 refine Y4 (kit (write_ba ho (by simp) fun h' h1 h2=>?_))
 have hd':h'.get? d=some (baO c):=(h1.2 d hda).trans hd
 show wpAny _ _ ((do match (← load d).data with | .prim (.str s _)=>pure (some s) | _=>pure none:Sem (Option Str)) >>= _) _ _ _
 refine Y4 (Y4 (kit (wpAny_load hd' ?_)))
 refine wpAny_pure ?_
 show wpAny _ _ (pure () >>= _) _ _ _
 refine Y4 (wpAny_pure ?_)
 refine Y4 (kit (wpAny_specialOf (T:="bytearray") ⟨_,hd',rfl⟩ lk_index ?_))
 show wpAny _ _ (buffer? _ _ _ >>= _) _ _ _
 refine Y4 (kit (buffer_ba hd' rfl rfl ?_))
 show wpAny _ _ (rule _ >>= _) _ _ _
 refine Y4 (kit (wpAny_rule ?_))
 refine Y4 (kit (write_ba h2 hz fun h'' h3 h4=>?_))
 exact wpAny_pure (q h'' (h1.trans h3) h4)
theorem lk_extend:typeLookup (.type "bytearray") "extend" = pure (some (.builtin "bytearray.extend")):=by rw [typeLookup_type,builtinLookup_eq_fast]; kernel_rfl
theorem plain_extend:plainId "bytearray.extend" = true:=dK
theorem dirty_extend (args:Args):dirty (.builtin "bytearray.extend" args)=false:=by
 show dirtyId "bytearray.extend" = false
 decide +kernel
theorem resize_ba {a:Addr} {b:Array UInt8} {Q:Unit→Shared→Prop} {M:Model} (ho:s.heap.get? a=some (baO b)) (q:Q () s):wpAny M A (checkResize (.ref a)) Q E s:=by
 unfold checkResize
 exact Y4 (free_ba ho (wpAny_pure q))
theorem extend_run {a:Addr} {b c:Array UInt8} {t:Tok} {Q:Fin→Shared→Prop} (ho:s.heap.get? a=some (baO b)) (hz:b.size+c.size≤sizeLine) (q:∀ h',Heap.SameBut a s.heap h'→h'.get? a=some (baO (b++c))→Q (.done (.ret .none)) { s with heap:=h' }) :
  wpAny (model prog w) A (Builtin.«bytearray.extend» ⟨[.ref a,.bytes c t],[]⟩) Q E s:=by
 show wpAny _ _ (pure (Value.ref a,Value.bytes c t) >>= _) _ _ _
 refine Y4 (wpAny_pure ?_)
 show wpAny _ _ (specialOf (.bytes c t) "__buffer__" >>= _) _ _ _
 refine Y4 (kit (wpAny_specialOf (typeIs_bytes _ _ _) lb_buffer ?_))
 show wpAny _ _ (rule _ >>= _) _ _ _
 refine Y4 (kit (wpAny_rule ?_))
 refine Y4 (kit (payload_ba ho rfl ?_))
 show wpAny _ _ (takeBufferQuiet? _ _ _ >>= _) _ _ _
 refine Y4 ?_
 unfold takeBufferQuiet? takeBuffer?
 refine Y4 (Y5 ?_)
 refine Y4 (kit (wpAny_specialOf (typeIs_bytes _ _ _) lb_buffer ?_))
 refine Y4 (kit (slotOwn (typeIs_bytes _ _ _) lb_buffer end_bb own_bb ?_))
 refine Y4 (kit (wpAny_specialOf (typeIs_bytes _ _ _) lb_buffer ?_))
 show wpAny _ _ (buffer? _ _ _ >>= _) _ _ _
 refine Y4 (kit (buffer_by ?_))
 refine wpAny_pure (wpAny_pure ?_)
 by_cases hc:c.isEmpty=true
 ·have e:c = #[]:=Array.isEmpty_iff.1 hc
  subst e
  show wpAny _ _ (Builtin.Bytes.write (.ref a) (·++#[]) >>= _) _ _ _
  refine Y4 (kit (write_ba ho (by simpa using hz) fun h'' h3 h4=>?_))
  exact wpAny_pure (q h'' h3 h4)
 ·show wpAny _ _ (if (!c.isEmpty)=true then (checkResize (.ref a) >>= fun _=>Builtin.Bytes.write (.ref a) (·++c) >>= fun _=>ret .none) else (Builtin.Bytes.write (.ref a) (·++c) >>= fun _=>ret .none)) _ _ _
  rw [if_pos (by simpa using hc)]
  refine Y4 ?_
  refine resize_ba ho ?_
  refine Y4 (kit (write_ba ho (by simpa using hz) fun h'' h3 h4=>?_))
  exact wpAny_pure (q h'' h3 h4)
theorem typeof_extend:typeOf (.builtin "bytearray.extend")=pure (.type "method_descriptor"):=by show builtinType _=_; rw [builtinType_eq_fast]; kernel_rfl
theorem ga_ba:typeLookup (.type "bytearray") "__getattribute__" = pure (some (.builtin "bytearray.__getattribute__")):=by rw [typeLookup_type,builtinLookup_eq_fast]; kernel_rfl
end
end BA
namespace BA
open Builtin.Bytes
theorem canon_ga:(Manifest.canonical "bytearray.__getattribute__" != "object.__getattribute__")=false:=dK
theorem no_getattr:typeLookup (.type "bytearray") "__getattr__" = pure none:=by rw [typeLookup_type,builtinLookup_eq_fast]; kernel_rfl
theorem slot_extend:Slot "bytearray" "extend" "bytearray.extend" :=
 .of (owner:="bytearray") (n:="extend") (by rw [typeLookup_type,builtinLookup_eq_fast]; kernel_rfl) dK dK dK
  (.inr dK) (by rw [isSubtype_type]; kernel_rfl)
theorem args_extend (a b:Value):argsOk "bytearray.extend" ⟨[a,b],[]⟩:=by unfold argsOk; kernel_rfl
theorem args_len (a:Value):argsOk "bytearray.__len__" ⟨[a],[]⟩:=by unfold argsOk; kernel_rfl
theorem args_init0 (a:Value):argsOk "bytearray.__init__" ⟨[a],[]⟩:=by unfold argsOk; kernel_rfl
theorem args_init1 (a b:Value):argsOk "bytearray.__init__" ⟨[a,b],[]⟩:=by unfold argsOk; kernel_rfl
section
variable {prog:Program} {w:World} {A:Around} {E:Value→Shared→Prop} {s:Shared}
theorem method_extend {M:Model} {a:Addr} {b:Array UInt8} {pl:Sem Bool} {Q:Value × List Value→Shared→Prop} (ho:s.heap.get? a=some (baO b)) (h:Q (.builtin "bytearray.extend",[.ref a]) s):PySem.wpAny M A (getMethod (.ref a) "extend" pl) Q E s:=by
 have hT:s.TypeIs (.ref a) "bytearray":=⟨_,ho,rfl⟩
 unfold getMethod
 refine PySem.wpAny_bind (wpAny_specialOf hT ga_ba ?_)
 show PySem.wpAny M A (if (Manifest.canonical "bytearray.__getattribute__" != "object.__getattribute__")=true then _ else _) Q E s
 rw [canon_ga,if_neg Bool.false_ne_true]
 refine PySem.wpAny_bind (wpAny_specialOf hT no_getattr ?_)
 refine PySem.wpAny_bind (wpAny_specialOf hT slot_extend.lookup ?_)
 refine PySem.wpAny_bind (PySem.wpAny_of_eq typeof_extend ?_)
 refine PySem.wpAny_bind (wpAny_load ho ?_)
 exact PySem.wpAny_bind (wpAny_rule (PySem.wpAny_pure h))
theorem call_extend {a:Addr} {b c:Array UInt8} {t:Tok} {Q:Value→Shared→Prop} (ho:s.heap.get? a=some (baO b)) (hz:b.size+c.size≤sizeLine) (q:∀ h',Heap.SameBut a s.heap h'→h'.get? a=some (baO (b++c))→Q .none { s with heap:=h' }) :
  wpAny (model prog w) A (call (.builtin "bytearray.extend") [.ref a,.bytes c t]) Q E s:=by
 have hT:s.TypeIs (.ref a) "bytearray":=⟨_,ho,rfl⟩
 refine Y8 (Y54 (plainId_quiet plain_extend _) entry_extend (dirty_extend _) (slot_extend.check _ _ _ _ _ _ _ _ hT (args_extend _ _) rfl) ?_)
 exact extend_run ho hz q
theorem call_len {a:Addr} {b:Array UInt8} {Q:Value→Shared→Prop} (ho:s.heap.get? a=some (baO b)) (hz:b.size≤1000000) (h:Q (.int b.size (s.toks+1)) { s with toks:=s.toks+1+1 }):PySem.wpAny (model prog w) A (call (.builtin "len") [.ref a]) Q E s:=by
 have hT:s.TypeIs (.ref a) "bytearray":=⟨_,ho,rfl⟩
 refine call_function_entry kind_len plain_len entry_len (args_len1 _) ?_
 unfold Builtin.«len»
 refine PySem.wpAny_bind (m:=oneArg "len" _) (PySem.wpAny_pure ?_)
 refine PySem.wpAny_bind (m:=callSpecial? (.ref a) (Str.ofString "__len__")) (wpAny_callSpecial?_slot (name:=Str.ofString "__len__") hT slot_len
  (wpAny_call_entry slot_len hT entry_lenB ?_ (args_len _)))
 ·show PySem.wpAny _ _ (payload (.ref a) >>= fun b=>retInt b.size) _ _ s
  refine PySem.wpAny_bind (payload_ba ho rfl ?_)
  refine PySem.wpAny_bind (wpAny_mkInt (PySem.wpAny_pure ⟨_,rfl,?_⟩))
  refine PySem.wpAny_bind (PySem.wpAny_holding (PySem.wpAny_pure ?_))
  refine PySem.wpAny_bind (wpAny_letGo ?_)
  show PySem.wpAny _ _ (if ((b.size:Nat):Int)<0 then _ else _) _ _ _
  rw [if_neg (by lia)]
  show PySem.wpAny _ _ (if ((b.size:Nat):Int)≥2 ^ 63 then _ else _) _ _ _
  rw [if_neg (by lia)]
  exact PySem.wpAny_bind (wpAny_mkInt (PySem.wpAny_pure ⟨_,rfl,h⟩))
theorem call_new0 {Q:Value→Shared→Prop} (q:∀ h',(∀ a o,s.heap.get? a=some o→h'.get? a=some o)→h'.get? s.heap.objs.size=some (baO #[])→Q (.ref s.heap.objs.size) { s with heap:=h' }):wpAny (model prog w) A (call (.type "bytearray") []) Q E s :=
 call_new typeCall0 newCall0 (args_init0 _) (init0 (b:=#[]) (Heap.get?_push_size _ rfl) fun h' h1 h2=>⟨rfl,q h' (fun a o e=>(h1.2 a (ne_of_lt (Heap.lt_size e))).trans (Heap.get?_push_of_some _ e)) h2⟩)
theorem call_new_by {c:Array UInt8} {t:Tok} {Q:Value→Shared→Prop} (hz:c.size≤sizeLine) (q:∀ h',(∀ a o,s.heap.get? a=some o→h'.get? a=some o)→h'.get? s.heap.objs.size=some (baO c)→Q (.ref s.heap.objs.size) { s with heap:=h' }):wpAny (model prog w) A (call (.type "bytearray") [.bytes c t]) Q E s :=
 call_new (typeCall1 _) (newCall1 _) (args_init1 _ _) (init_by (b:=#[]) (Heap.get?_push_size _ rfl) hz fun h' h1 h2=>⟨rfl,q h' (fun a o e=>(h1.2 a (ne_of_lt (Heap.lt_size e))).trans (Heap.get?_push_of_some _ e)) h2⟩)
theorem call_new_ba {d:Addr} {c:Array UInt8} {Q:Value→Shared→Prop} (hd:s.heap.get? d=some (baO c)) (hz:c.size≤sizeLine) (q:∀ h',(∀ a o,s.heap.get? a=some o→h'.get? a=some o)→h'.get? s.heap.objs.size=some (baO c)→Q (.ref s.heap.objs.size) { s with heap:=h' }):wpAny (model prog w) A (call (.type "bytearray") [.ref d]) Q E s :=
 call_new (typeCall1 _) (newCall1 _) (args_init1 _ _) (init_ba (b:=#[]) (Heap.get?_push_size _ rfl) (Heap.get?_push_of_some _ hd) (ne_of_lt (Heap.lt_size hd)) hz fun h' h1 h2=>⟨rfl,q h' (fun a o e=>(h1.2 a (ne_of_lt (Heap.lt_size e))).trans (Heap.get?_push_of_some _ e)) h2⟩)
end
end BA
namespace BA
open Builtin.Bytes
section
variable {prog:Program} {w:World} {A:Around} {E:Value→Shared→Prop} {s:Shared}
theorem by_call {x:Value} {Q:Value→Shared→Prop} (h:∀ A,PySem.wpAny (model prog w) A (Builtin.«bytes.__new__» ⟨[.type "bytes",x],[]⟩) (fun fin s'=>∃ b t,fin=.done (.ret (.bytes b t))∧Q (.bytes b t) s') E s) :
  PySem.wpAny (model prog w) A (call (.type "bytes") [x]) Q E s:=by
 refine callType_codes (Q₁:=fun obj s₁=>s₁.TypeIs obj "bytes"∧Q obj s₁) F.bm_called (F.bm_typeCall _) F.entry_object_init ?_ fun obj s₁ h₁=>?_
 ·refine PySem.codeAny_of_tree ?_
  show PySem.wpAny _ _ (do checkBuiltinCall "bytes.__new__" ⟨[.type "bytes",x],[]⟩; again (.builtin "bytes.__new__" ⟨[.type "bytes",x],[]⟩)) _ _ s
  refine PySem.wpAny_bind (PySem.wpAny_of_eq (F.bm_newCall _) (PySem.wpAny_pure ⟨plainId_quiet F.bm_plain _,PySem.codeAny_builtin F.bm_entry ?_⟩))
  refine PySem.wpAny_mono (h _) (fun fin s' q=>?_) fun _ _ q=>q
  refine Ex2 q fun b t Z0=>?_; clear q; obtain ⟨rfl,q⟩:=Z0
  exact ⟨typeIs_bytes _ _ _,q⟩
 ·exact ⟨h₁.1,F.args_object_init_2 obj _,object_init_meets F.bm_called.init.lookup F.bm_called.made dD prog w A.in1 _ s₁ ⟨h₁.1,rfl,h₁.2⟩⟩
theorem by_by {b:Array UInt8} {t:Tok} {Q:Value→Shared→Prop} (q:Q (.bytes b t) s):PySem.wpAny (model prog w) A (call (.type "bytes") [.bytes b t]) Q E s:=by
 refine by_call fun A=>?_
 unfold Builtin.«bytes.__new__»
 refine PySem.wpAny_bind (PySem.wpAny_of_eq (a:=true) rfl ?_)
 refine bm_if_false rfl ?_
 refine PySem.wpAny_bind (PySem.wpAny_of_eq F.bm_sub ?_)
 refine bm_if_false rfl ?_
 refine PySem.wpAny_bind (PySem.wpAny_of_eq (F.bm_bind _) ?_)
 refine PySem.wpAny_bind (PySem.wpAny_of_eq (a:=()) rfl ?_)
 refine PySem.wpAny_bind (PySem.wpAny_of_eq (a:=()) rfl ?_)
 refine bm_if_false rfl ?_
 refine PySem.wpAny_bind (wpAny_specialOf (typeIs_bytes _ _ _) lb_bytes ?_)
 show PySem.wpAny _ _ (rule _ >>= _) _ _ _
 refine PySem.wpAny_bind (wpAny_rule ?_)
 show PySem.wpAny _ _ (typeOf (.bytes b t) >>= _) _ _ _
 refine PySem.wpAny_bind (PySem.wpAny_of_eq (a:=Value.type "bytes") rfl ?_)
 exact PySem.wpAny_pure (EI2 b t ⟨rfl,q⟩)
theorem by_ba {a:Addr} {b:Array UInt8} {Q:Value→Shared→Prop} (ho:s.heap.get? a=some (baO b)) (hz:b.size≤sizeLine) (q:Q (.bytes b s.toks) { s with toks:=s.toks+1 }):PySem.wpAny (model prog w) A (call (.type "bytes") [.ref a]) Q E s:=by
 have hT:s.TypeIs (.ref a) "bytearray":=⟨_,ho,rfl⟩
 refine by_call fun A=>?_
 unfold Builtin.«bytes.__new__»
 refine PySem.wpAny_bind (PySem.wpAny_of_eq (a:=true) rfl ?_)
 refine bm_if_false rfl ?_
 refine PySem.wpAny_bind (PySem.wpAny_of_eq F.bm_sub ?_)
 refine bm_if_false rfl ?_
 refine PySem.wpAny_bind (PySem.wpAny_of_eq (F.bm_bind _) ?_)
 refine PySem.wpAny_bind (PySem.wpAny_of_eq (a:=()) rfl ?_)
 refine PySem.wpAny_bind (PySem.wpAny_of_eq (a:=()) rfl ?_)
 refine bm_if_false rfl ?_
 refine PySem.wpAny_bind (wpAny_specialOf hT lk_bytes ?_)
 refine PySem.wpAny_bind (PySem.wpAny_bind ?_)
 show PySem.wpAny _ _ (load a >>= _) _ _ _
 refine PySem.wpAny_bind (wpAny_load ho ?_)
 refine PySem.wpAny_pure (PySem.wpAny_pure ?_)
 refine bm_if_false rfl ?_
 refine PySem.wpAny_bind (wpAny_specialOf hT lk_index ?_)
 refine bm_if_true rfl ?_
 first
  | show PySem.wpAny _ _ (buffer? "bytes.__new__" (.ref a) true >>= _) _ _ _
  | (refine PySem.wpAny_bind ?_; show PySem.wpAny _ _ (buffer? "bytes.__new__" (.ref a) true >>= _) _ _ _)
 refine PySem.wpAny_bind (buffer_ba ho rfl rfl ?_)
 show PySem.wpAny _ _ (rule _ >>= _) _ _ _
 refine PySem.wpAny_bind (wpAny_rule ?_)
 refine PySem.wpAny_bind (wpAny_mkBytes ?_ hz)
 first
  | exact PySem.wpAny_pure (EI2 b _ ⟨rfl,q⟩)
  | exact PySem.wpAny_pure (PySem.wpAny_pure ⟨b,_,rfl,q⟩)
  | exact PySem.wpAny_bind (PySem.wpAny_pure (PySem.wpAny_pure ⟨b,_,rfl,q⟩))
theorem li_index:typeLookup (.type "int") "__index__" = pure (some (.builtin "int.__index__")):=by rw [typeLookup_type,builtinLookup_eq_fast]; kernel_rfl
theorem li_bytes:typeLookup (.type "int") "__bytes__" = pure none:=by rw [typeLookup_type,builtinLookup_eq_fast]; kernel_rfl
theorem by_int {n:Int} {t:Tok} {Q:Value→Shared→Prop} (h0:0≤n) (hz:n≤1000000) (q:Q (.bytes (Array.replicate n.toNat 0) s.toks) { s with toks:=s.toks+1 }):PySem.wpAny (model prog w) A (call (.type "bytes") [.int n t]) Q E s:=by
 have hT:s.TypeIs (.int n t) "int":=typeIs_int _ _ _
 refine by_call fun A=>?_
 unfold Builtin.«bytes.__new__»
 refine PySem.wpAny_bind (PySem.wpAny_of_eq (a:=true) rfl ?_)
 refine bm_if_false rfl ?_
 refine PySem.wpAny_bind (PySem.wpAny_of_eq F.bm_sub ?_)
 refine bm_if_false rfl ?_
 refine PySem.wpAny_bind (PySem.wpAny_of_eq (F.bm_bind _) ?_)
 refine PySem.wpAny_bind (PySem.wpAny_of_eq (a:=()) rfl ?_)
 refine PySem.wpAny_bind (PySem.wpAny_of_eq (a:=()) rfl ?_)
 refine bm_if_false rfl ?_
 refine PySem.wpAny_bind (wpAny_specialOf hT li_bytes ?_)
 refine PySem.wpAny_bind (PySem.wpAny_bind ?_)
 refine PySem.wpAny_of_eq (a:=none) rfl ?_
 refine PySem.wpAny_pure ?_
 refine bm_if_false rfl ?_
 refine PySem.wpAny_bind (wpAny_specialOf hT li_index ?_)
 refine bm_if_false rfl ?_
 refine PySem.wpAny_bind (PySem.wpAny_attempt (PySem.wpAny_of_eq (a:=n) rfl ?_))
 refine bm_if_false (by unfold fitsIndex; simp only [Bool.not_eq_false',and_eq_true,decide_eq_true_eq]; exact ⟨Y1 h0,Int.lt_of_le_of_lt hz dD⟩) ?_
 refine PySem.wpAny_ite ?_
 rw [if_neg (by first | exact Int.not_lt.mpr h0 | exact Int.not_lt.mpr (Int.le_trans hz dD))]
 refine PySem.wpAny_ite ?_
 rw [if_neg (by first | exact Int.not_lt.mpr h0 | exact Int.not_lt.mpr (Int.le_trans hz dD))]
 refine bm_if_false (by unfold tooLong; simp only [decide_eq_false_iff_not,sizeLine_eq]; exact not_lt_of_le (Nat.le_trans ((toNat_le (n:=1000000)).mpr hz) dD)) ?_
 refine PySem.wpAny_bind (wpAny_rule ?_)
 refine PySem.wpAny_bind (wpAny_mkBytes ?_ (by rw [Array.size_replicate,sizeLine_eq]; exact Nat.le_trans ((toNat_le (n:=1000000)).mpr hz) dD))
 exact PySem.wpAny_pure (EI2 _ _ ⟨rfl,q⟩)
theorem slot_get:Slot "bytearray" "__getitem__" "bytearray.__getitem__" :=
 .of (owner:="bytearray") (n:="__getitem__") (by rw [typeLookup_type,builtinLookup_eq_fast]; kernel_rfl) dK dK dK
  (.inl dK) (by rw [isSubtype_type]; kernel_rfl)
theorem entry_get:entryFor table "bytearray.__getitem__" = some Builtin.«bytearray.__getitem__»:=by first | exact entryFor_of_fast (by kernel_rfl) | exact entryFor_of_tree (by kernel_rfl)
theorem args_get (a b:Value):argsOk "bytearray.__getitem__" ⟨[a,b],[]⟩:=by unfold argsOk; kernel_rfl
theorem no_get_sl:typeLookup (.type "slice") "__index__" = pure none:=by rw [typeLookup_type,builtinLookup_eq_fast]; kernel_rfl
theorem meets_slice {d:Addr} {b:Array UInt8} (a:Addr) {i:Int} {ti:Tok}:Meets (Builtin.«bytearray.__getitem__» ⟨[.ref d,.ref a],[]⟩) (fun _ R s=>s.heap.get? d=some (baO b)∧s.heap.IsSliceOf a .none (.int i ti) .none∧b.size≤sizeLine ∧
   R (.ok (.ret (.ref s.heap.objs.size))) { s with heap:=s.heap.push (baO (KBy.picked b none (some i))) }):=by
 refine .of_wp fun prog w A R s hS=>?_
 refine An4 hS fun hb Z0 hsz h=>?_; clear hS; refine X13 Z0 fun o ho hc hd=>?_; clear Z0
 have hT:s.TypeIs (.ref a) "slice":=⟨o,ho,hc⟩
 show PySem.wpAny _ _ (subscript? (.ref a) >>= fun r=>_) _ _ s
 refine PySem.wpAny_bind ?_
 unfold subscript?
 refine PySem.wpAny_bind (wpAny_specialOf hT no_get_sl (PySem.wpAny_pure ?_))
 refine PySem.wpAny_bind (wpAny_typeOf hT ?_)
 show PySem.wpAny _ _ (sliceParts (.ref a) >>= fun r=>_) _ _ s
 refine PySem.wpAny_bind ?_
 unfold sliceParts
 refine PySem.wpAny_bind (wpAny_field (x:=.none) ho hd rfl ?_)
 refine PySem.wpAny_bind (PySem.wpAny_of_eq (a:=Value.none) rfl ?_)
 refine PySem.wpAny_ite (KBy.ite_no (show ¬ ((Value.none == rawInt 0)=true) from Bool.false_ne_true) ?_)
 refine PySem.wpAny_bind (wpAny_field (x:=.none) ho hd rfl ?_)
 have go:PySem.wpAny (model prog w) A.in1 (sliceIndices (rawPart none) (rawPart (some i)) (rawPart none) b.size) (fun r s'=>r=sliceBounds none (some i) none b.size∧s'=s) (fun _ _=>False) s :=
  PySem.wpAny_of_eq (sliceIndices_raw none (some i) none b.size (fun e=>nomatch e)) ⟨rfl,rfl⟩
 refine PySem.wpAny_bind (PySem.wpAny_of_eq (a:=Value.none) rfl ?_)
 refine PySem.wpAny_bind (wpAny_field (x:=.int i ti) ho hd rfl ?_)
 refine PySem.wpAny_bind (PySem.wpAny_ite (KBy.ite_no (show ¬ ((Value.int _ _ == Value.none)=true) from Bool.false_ne_true) ?_))
 refine PySem.wpAny_bind (wpAny_specialOf (T:="int") (typeIs_int _ _ _) F.slot_int_index.lookup ?_)
 refine PySem.wpAny_ite (KBy.ite_no (show ¬ (Option.isNone (some _)=true) from Bool.false_ne_true) ?_)
 refine PySem.wpAny_bind (PySem.wpAny_of_eq rfl (PySem.wpAny_pure ?_))
 refine PySem.wpAny_pure ?_
 refine PySem.wpAny_bind (payload_ba hb rfl ?_)
 refine PySem.wpAny_bind (PySem.wpAny_mono go (fun r s' hr=>?_) fun _ _ e=>e.elim)
 obtain ⟨hr1,hr2⟩:=hr
 subst hr1 hr2
 refine PySem.wpAny_bind ?_
 show PySem.wpAny _ _ (newObj _ _) _ _ _
 refine wpAny_newObj_type (PySem.wpAny_pure ⟨_,rfl,h⟩) ?_
 have hp:(KBy.picked b none (some i)).size≤sizeLine:=by
  rw [KBc.picked_eq]
  simp only [size_toArray,length_take]
  have h1:(b.toList.drop (elim none 0 (clipAt b.size))).length≤b.size:=by rw [length_drop]; simp
  exact lA3 (min_le_right ((some i).elim b.size (clipAt b.size) - none.elim 0 (clipAt b.size)) ((List.drop (none.elim 0 (clipAt b.size)) b.toList).length)) h1 hsz
 exact hp
theorem getItem_cut {d:Addr} {b:Array UInt8} {a:Addr} {i:Int} {ti:Tok} {Q:Value→Shared→Prop} (hb:s.heap.get? d=some (baO b)) (hs:s.heap.IsSliceOf a .none (.int i ti) .none) (hz:b.size≤sizeLine)
  (q:Q (.ref s.heap.objs.size) { s with heap:=s.heap.push (baO (KBy.picked b none (some i))) }):PySem.wpAny (model prog w) A (getItem (.ref d) (.ref a)) Q E s :=
 getItem_meets (T:="bytearray") ⟨_,hb,rfl⟩ dD slot_get entry_get (args_get _ _) (meets_slice (b:=b) a) ⟨hb,hs,hz,q⟩
end
end BA
theorem eq_49:Good callerA (⟨.builtin "claim.caller" {},none,none,[],none⟩:PySem.Ctx):=⟨caller_in,by show dirtyId "claim.caller" = false; decide +kernel,fun x hx=>nomatch hx⟩
theorem eq_50 {prog:Program} {w:World} {t:Sem Fin} {s:Shared} {R:Result→Shared→Prop} (hreg:s.asleep)
  (h:wpAny (model prog w) callerA t (fun fin s'=>∃ f,fin=.done f∧(R (.ok f) s'∧leftWithCleanup s'.gens=false)) (fun e s'=>R (.error e) s'∧leftWithCleanup s'.gens=false) s) :
  ∃ n r s' s'',runN (denote table) prog w n s ⟨t,.builtin "claim.caller" {},default,[]⟩=.halted (outcomeOf r) s' ∧
   schedN (denote table) prog w n (.single s ⟨t,.builtin "claim.caller" {},default,[]⟩)=.halted (outcomeOf r) s'∧s'.forget=s''.forget∧R r s'':=by
 obtain ⟨n,r,s₁,s₂,hs,hn,hfo,hR⟩:=wp_halts_full (M:=model prog w) (R:=R) (t:=t) (p:=default) hreg (by
  refine Sem.wp_mono _ _ t (fun fin p' s' h'=>?_) (fun _ _ _ h'=>h') default s (h _ default eq_49)
  obtain ⟨f,rfl,hf⟩:=h'
  exact hf)
 exact ⟨n,r,s₂,s₁,hn,hs,hfo,hR⟩
theorem Y98 {c:ClaimW} {tree:List Value→Sem Fin} {w:World} {s:Shared} {free:Addr→Prop} {gens:Prop} {kept:Heap→Prop} (hz:s.asleep) (hgens:s.gens = #[])
  (hspec:∀ args,c.pre args=true→WData.layableAll args=true →
   ∀ ord:List DictEntry→List DictEntry,(∀ l,(ord l).Perm l) →
   ∃ vs s₁,layAllW c.records (classAt s.heap) w.params ord args s=some (vs,s₁) ∧
    wpAny (model c.prog w) callerA (tree vs) (fun fin s'=>∃ f,fin=.done f∧(c.Ends s args vs s₁ (.ok f) s'∧s'.os=s.os∧AllBare s'.gens∧kept s'.heap))
     (fun e s'=>c.Ends s args vs s₁ (.error e) s'∧s'.os=s.os∧AllBare s'.gens∧kept s'.heap) s₁) :
  c.CallFrom (fun vs=>⟨tree vs,.builtin "claim.caller" {},default,[]⟩) w free gens kept s:=by
 intro args hpre hlay ord hord
 obtain ⟨vs,s₁,hlaid,hcode⟩:=hspec args hpre hlay ord hord
 have hal:=layAllW_rest _ _ _ hlaid
 obtain ⟨k,r,s',s'',hrun,hsched,hfo,hcase,hos,hkp⟩:=eq_50 (prog:=c.prog) (w:=w) (t:=tree vs) (s:=s₁)
  (R:=fun r s'=>c.Ends s args vs s₁ r s'∧s'.os=s.os∧kept s'.heap)
  (Shared.asleep_of_life hal.2.2.2 hz)
  (wpAny_mono hcode (by
   rintro fin s' ⟨f,e,h1,h2,h3,h4⟩
   exact ⟨f,e,⟨h1,h2,h4⟩,leftWithCleanup_false_of_bare h3⟩) (by
   rintro e s' ⟨h1,h2,h3,h4⟩
   exact ⟨⟨h1,h2,h4⟩,leftWithCleanup_false_of_bare h3⟩))
 obtain ⟨eh,_,_,eo,_⟩:=Shared.forget_eq hfo
 have hcase:=hcase.congr eh
 have hkp:kept s'.heap:=eh▸hkp
 rw [← eo] at hos
 have hlife:s'.heap.life=s.heap.life:=(runN_life _ _ _ hrun).trans hal.2.2.2
 refine ⟨vs,s₁,hlaid,k,_,s',hsched,?_,(fun _ i x hx=>by rw [hgens] at hx; simp at hx),hkp,by rw [hlife],Shared.rest_eq hos⟩
 rcases hcase with ⟨v,rfl,d1,d2,d3,d4,d5⟩ | ⟨e,ob,cls,rfl,d1,d2,d3,d4,d5⟩
 ·exact .inl ⟨v,rfl,d1,d2,d3,fun b o y _=>d4 b o y,d5⟩
 ·exact .inr ⟨e,ob,cls,rfl,d1,d2,d3,d4,fun b o y _=>d5 b o y⟩
noncomputable abbrev WalkN (q:Program) (loose:List Str) (XP:(Str→Option Value)→Heap→Prop) (YP:World→Heap→Prop) (r:RowW) (d:DefRec) (kwd:List (Str × Expr)):Prop :=
 ∀ (w:World) (s₀ s₁:Shared) (mg mb:Str→Option Value),Ground q loose r.records XP w s₀ mg mb s₁.heap→YP w s₁.heap→∀ (a:Addr) (o:Obj) (pm cd doc dV kV:Value),s₁.heap.get? a=some o →
  o.data=.func { docDef d.name d.params d.body d.scope pm cd doc with defaults:=dV,kwdefaults:=kV }→mg d.name=some (.ref a)→s₁.gens = #[] →
  ∀ (args:List WData) (vals:List Value) (as:List Addr),r.claim.pre args=true→WData.layableAll args=true→ReadsAllW r.records (classAt s₀.heap) s₁.heap vals args as→WellAll w.params s₁.heap vals args→(∀ a∈as,(a == sysModules)=false) →
   wpAny (model r.prog w) callerA (PySem.call (.ref a) vals) (fun v s'=>GoodWG r.claim (classAt s₀.heap) (ExcName.means s₀.heap) args s₁ (.ok (.ret v)) s')
    (fun e s'=>GoodWG r.claim (classAt s₀.heap) (ExcName.means s₀.heap) args s₁ (.error e) s') s₁
theorem PySem.W.holds_open {r:OpenRow} {q:Program} {loose:List Str} {Xt:Shared→Bool} {XP:(Str→Option Value)→Heap→Prop} {α:Type} {Yf:Shared→α} {Ya:World→α} {YP:World→Heap→Prop} {d:DefRec} {kwd:List (Str × Expr)} {N:Nat}
  (left:LeftO r.prog q loose Xt Yf Ya N) (hY:∀ w s,Yf s=Ya w→YP w s.heap) (hYk:∀ w h h',YP w h→(∀ b o,h.get? b=some o→h'.get? b=some o)→YP w h')
  (hX:∀ s,Xt s=true→XP (s.heap.nsMap mainGlobals) s.heap) (hXk:∀ mg h h',XP mg h→(∀ b o,h.get? b=some o→h'.get? b=some o)→XP mg h')
  (hdef:defOf q r.name=some (d,kwd)) (hp:r.prog.theDef r.name=some (d.params,d.body,d.scope)) (hk:kwWritten? d.params.kwonlyargs d.params.kw_defaults=some kwd) (hRf:∀ s,Xt s=true→RecFacts r.records s.heap) (hwr:(!r.writes || r.records.isEmpty)=true)
  (k1:r.wellSaid=true) (ok:(chainsOk q&&opensWell r.prog&&(frees r.toRowW&&r.within.isEmpty))=true) (hb:r.prog.bare) (hw:r.toRowW.promised)
  (call:WalkN q loose XP YP r.toRowW d kwd):r.Holds:=by
 refine ⟨k1,hw,?_⟩
 show ClaimW.HoldsOpenBy (fun vs=>⟨do match ← nsGet mainNs r.name with
   | some f=>do ret (← PySem.call f vs)
   | none=>unsupported "claim.caller:no-such-global",.builtin "claim.caller" {},default,[]⟩) _ _ _ _
 obtain ⟨ok,k5⟩:=Bool.and_eq_true_iff.mp ok
 obtain ⟨hch,o1⟩:=Bool.and_eq_true_iff.mp ok
 obtain ⟨k5,k6⟩:=Bool.and_eq_true_iff.mp k5
 obtain ⟨hsame,hu,ha,hap,hm⟩:=frees_parts k5
 refine ⟨⟨hb,o1,by show r.makers.map _=[]; rw [hm]; rfl⟩,hw.witness,fun w=>⟨(left.behind hX hch w).1,fun s' hs'=>?_⟩⟩
 obtain ⟨s₀,hf,hg0,s,hT,hz,hgens,hg,G00,y⟩:=(left.behind (XP:=fun mg h=>XP mg h∧RecFacts r.records h) (fun s hs=>⟨hX s hs,hRf s hs⟩) hch w).2 s' hs'
 have G0:Ground q loose [] XP w s (s.heap.nsMap mainGlobals) (s.heap.nsMap builtinsNs) s.heap:=⟨G00.T,G00.B,G00.D,G00.TE,G00.TD,G00.W,G00.X.1,G00.cls,G00.has,G00.apart,G00.once,G00.K⟩
 have RF:=G00.X.2
 have hT':=hT
 refine ⟨s₀,hf,hg0,s,hT,fun n hn=>?_,RF.1,RF.2.1,?_⟩
 ·obtain rfl:n=r.name:=by split at hn <;> simp_all
  exact pinned_of_view hg G0 hdef hp hk
 have hgens:s.gens = #[]:=Array.eq_empty_of_size_eq_zero (beq_iff_eq.mp hgens)
 have G:Ground q loose r.records XP w s _ _ s.heap:=RF.ground G0
 refine Y98 (c:=r.claim) hz hgens fun args hpre hlay ord hord=>?_
 obtain ⟨⟨vs,s₁⟩,hlaid⟩:=Option.isSome_iff_exists.mp (layAllW_isSome (P:=w.params) (ord:=ord) G.has args r.args s (pre_splitW hpre).1)
 have keeps:=layAllW_keeps _ _ _ hlaid
 have hal:=layAllW_rest _ _ _ hlaid
 obtain ⟨as,hrd,hin,hold⟩:=reads_layAllW hord _ _ _ hlaid hlay s₁.heap (fun _ _ e=>e)
 have L:Laid r.records w s s₁ args vs as:=⟨⟨ord,hord,hlaid⟩,hrd,hin,hold,keeps,hal.1.trans hgens,hal.2.2.1⟩
 have G₁:=G.keeps hXk keeps
 obtain ⟨a,o,pm,cd,doc,dV,kV,h1,h2,h3,h4,h5⟩:=G₁.fn hdef
 have h:=call w s s₁ _ _ G₁ (hYk _ _ _ (hY w s y) keeps) a o pm cd doc dV kV h2 h3 (defOf_name hdef▸h1) L.gens args vs as hpre hlay L.reads L.well (L.low G.low)
 have hi:=ident_freeW hu ha hap
 have hwi:r.claim.within=[]:=List.isEmpty_iff.mp k6
 have hf:s.heap.nsMap mainGlobals r.name=some (.ref a):=h1
 refine ⟨vs,s₁,hlaid,seq (P:=fun x s'=>x=some (Value.ref a)∧s'=s₁) (of (wpAny_nsGet G₁.T.g ⟨hf,rfl⟩)) fun x s' q=>?_⟩
 obtain ⟨rfl,rfl⟩:=q
 refine Y4 (wpAny_mono h (fun v s' g=>wpAny_pure ⟨_,rfl,?_⟩) fun e s' g=>?_)
 ·have z:=g.laid (c:=r.claim) hsame hwi hi L
  exact ⟨z.1,z.2.1,z.2.2,fun q=>⟨namesKept_of hT' hg r.keeps keeps g.2.1.old,noTable hwr q⟩⟩
 ·have z:=g.laid (c:=r.claim) hsame hwi hi L
  exact ⟨z.1,z.2.1,z.2.2,fun q=>⟨namesKept_of hT' hg r.keeps keeps g.2.1.old,noTable hwr q⟩⟩
section
variable {Γ:Gam} {fn:FnS} {n:Nat} {σ:St} {env:Env} {G:PH} {s:Shared} {c:Cx Γ fn n} {Q:AF→St→Prop} {X:St→Prop} {ss:List Stmt}
theorem Y99 {prog:Program} {w:World} {A:Around} {E:Value→Shared→Prop} {l:Addr} {vs:List Value} {x:Int} {u:Tok} {Q:Value→Shared→Prop} (hl:s.heap.IsList l vs.toArray) (h0:0≤x) (hx:x≤1000000) (hsz:vs.length*x.toNat≤2 ^ 24)
  (h:Q (.ref s.heap.objs.size) { s with heap:=s.heap.push { cls:=.type "list",data:=.seq (List.replicate x.toNat vs).flatten.toArray } }):PySem.wpAny (model prog w) A (binaryOp .Mult (.ref l) (.int x u)) Q E s:=by
 refine X13 (id hl) fun Z1 ho hcl Z0=>?_; refine Ex1 Z0 fun k hd=>?_; clear Z0; obtain ⟨cls,d,data,sl⟩:=Z1
 simp only at hcl hd
 subst hcl hd
 have hsz':vs.toArray.size*x.toNat≤2 ^ 24:=by simpa using hsz
 refine wpAny_binaryOp_repeat_ref (T:="list") (U:="int") dD ⟨_,ho,rfl⟩ (fun s'=>typeIs_int s' x u) noFill_list_mul F.fills_int_mul F.slot_int_rmul repeat_list F.slot_int_index.lookup
  (call_meets F.slot_int_rmul (typeIs_int s x u) F.entry_int_rmul (F.args_int_rmul_2 _ _) (lm_int_rmul_list_any x u l vs.toArray k d sl)
   ⟨ho,rfl,⟨_,ho,rfl⟩,call_meets F.slot_list_mul ⟨_,ho,rfl⟩ F.entry_list_mul (F.args_list_mul_2 _ _)
    (lm_list_mul_any l vs.toArray k d sl x u (by simp [Builtin.List.listFitsIndex]; lia) (by lia) (by simp [Builtin.List.listTooLong,sizeLine]; lia))
    ⟨ho,?_⟩⟩)
 rw [listMul_foldl_if]
 exact h
theorem VRs.rep {vs:List Value} {xs:List V} (h:VRs G vs xs):∀ k:Nat,VRs G (List.replicate k vs).flatten (List.replicate k xs).flatten
 | 0=>.nil
 | k+1=>by rw [replicate_succ,replicate_succ,flatten_cons,flatten_cons]; exact h.append (VRs.rep h k)
theorem PE.mulL {l r:Expr} {p:Pos} {xs:List V} {x:Int} (h1:PE Γ fn n σ l (.lst xs)) (h2:PE Γ fn n σ r (.int x)) (h0:0≤x) (hx:x≤1000000) (hz:xs.length*x.toNat≤2 ^ 24):PE Γ fn n σ (.BinOp l .Mult r p) (.lst (List.replicate x.toNat xs).flatten) :=
 PE.bin h1 h2 fun c G s v w rep hv hw=>by
  obtain ⟨_,rfl⟩:=hw.inv
  refine Ex2 (hv.isList rep) fun a vs Z1=>?_; obtain ⟨rfl,Z0⟩:=Z1; refine An2 Z0 fun ha hvs=>?_; clear Z0
  refine kit <| Y99 ha h0 hx (by rw [hvs.length]; exact hz) ?_
  obtain ⟨r',le⟩:=rep.push { cls:=.type "list",data:=.seq (List.replicate x.toNat vs).flatten.toArray } s.toks
  exact .mk le r' (.lst Y65 rfl rfl ((hvs.rep _).mono le))
theorem XE.mulL {l r:Expr} {p:Pos} {xs:List V} {x:Int} {QV:V→St→Prop} (h1:PE Γ fn n σ l (.lst xs)) (h2:PE Γ fn n σ r (.int x)) (h0:0≤x) (hx:x≤1000000) (hz:xs.length*x.toNat≤2 ^ 24)
  (q:∀ a,σ.hp a=none→QV (.obj a) ⟨σ.loc,upd σ.hp a (.list (List.replicate x.toNat xs).flatten)⟩):XE Γ fn n σ (.BinOp l .Mult r p) QV X:=⟨fun c G s rep=>by
 refine Y12 (wpAny_mono (h1.run c G s rep) (Cx.RP.el fun v s₁ G₁ l₁ r₁ v₁=>?_) NoX.to)
 refine wpAny_mono (h2.run c G₁ s₁ r₁) (Cx.RP.int fun s₂ G₂ U0 l₂ r₂ v₂=>?_) NoX.to
 refine Ex2 ((v₁.mono l₂).isList r₂) fun a vs Z1=>?_; obtain ⟨rfl,Z0⟩:=Z1; refine An2 Z0 fun ha hvs=>?_; clear Z0
 refine kit <| Y99 ha h0 hx (by rw [hvs.length]; exact hz) ?_
 obtain ⟨h1,h2⟩:=r₂.allocO (ob:=.list (List.replicate x.toNat xs).flatten) (o:={ cls:=.type "list",data:=.seq (List.replicate x.toNat vs).flatten.toArray }) (tk:=s₂.toks) rfl rfl fun own=>(EI2 _ 0 ⟨Y65,hvs.rep _⟩)
 exact ⟨G₂,_,_,l₁.trans l₂,h2,.obj _,q _ h1⟩⟩
theorem PE.sliceO {value:Expr} {lo hi:Option Expr} {sp p:Pos} {a:Addr} {xs:List V} {i j:Option Int} (h1:PE Γ fn n σ value (.obj a)) (ho:σ.hp a=some (.list xs)) (hl:PP Γ fn n σ lo i) (hu:PP Γ fn n σ hi j) (hi0:NN i) (hj0:NN j) (hz:xs.length≤1000000) :
  PE Γ fn n σ (.Subscript value (.Slice lo hi Option.none sp) p) (.lst (cutL i j xs)):=PE.slice h1 hl hu fun c G s v l u rep hv pl pu=>by
 obtain rfl:=hv.inv
 refine X23 (rep.ownList ho) fun vs nn e1 hvs U0=>?_
 refine Ex2 rep.use fun m news U=>?_
 have hlen:=hvs.length
 refine kit <| Y74 U.F U.N ⟨_,e1,rfl,_,rfl⟩ pl pu (fun h' F N=>?_) rfl (by rw [size_toArray,sizeLine_eq]; exact lA2 (eqL hlen) hz)
 obtain ⟨r',le⟩:=U.put h' s.toks _ _ (Heap.get?_none_of_le (lA0)) F N
 have hp:slicePick (List.toArray vs) i j Option.none=(cutL i j vs).toArray:=by
  rw [slicePick_plain,show (List.toArray vs).size=vs.length from size_toArray ..,show (List.toArray vs).toList=vs from rfl,Y73 hi0 hj0]
 refine .mk le r' (.lst (vs:=cutL i j vs) (n:=0) Y65 rfl (by show Data.seq _ 0=_; rw [hp]) ?_)
 have h':=((hvs.mono le).drop (i.elim 0 Int.toNat)).take (j.elim xs.length Int.toNat - i.elim 0 Int.toNat)
 unfold cutL
 rw [hlen]
 exact h'
open SeqAt in
theorem eq_51 {A:Around} (b:Array UInt8) (t:Tok) (d:Array UInt8) (u:Tok):EqAt A s (.bytes b t) (.bytes d u) (decide (b=d)):=fun prog w E Q h=>by
 unfold eqBool
 refine PySem.wpAny_holding ?_
 refine wpAny_ite_split (fun hab=>?_) (fun U0=>?_)
 ·have e:b=d:=by have:=eq_of_beq hab; injection this
  subst e
  exact PySem.wpAny_bind (wpAny_rule (PySem.wpAny_pure (by simpa using h)))
 ·refine PySem.wpAny_bind (richCompare_gives (op:=.Eq) (typeIs_bytes s b t) (typeIs_bytes s d u) FB.slot_bytes_eq FB.entry_bytes_eq (FB.args_bytes_eq_2 _ _) (gives_bytes_eq b d t u) (fun e=>nomatch e) (PySem.wpAny_truthy_bool ?_))
  rw [show (b.toList == d.toList)=decide (b=d) by rw [Bool.eq_iff_iff]; simp]; exact h
theorem VRs.byt_at {vs:List Value} {bs:List (List UInt8)} (h:VRs G vs (bs.map .byt)) {j:Nat} (hj:j<vs.length):∃ b t,bs[j]?=some b∧vs[j]=.bytes b.toArray t:=by
 refine X12 (h.get' (getElem?_eq_getElem hj)) fun x hx hv=>?_
 rw [getElem?_map] at hx
 refine X12 (Option.map_eq_some_iff.mp hx) fun b hb Z0=>?_; obtain rfl:=Z0
 generalize vs[j]=v at hv ⊢
 obtain ⟨_,rfl⟩:=hv.inv
 exact (EI2 b _ ⟨hb,rfl⟩)
theorem VRs.byt_inj {vs:List Value} {bs cs:List (List UInt8)} (h:VRs G vs (bs.map .byt)) (h':VRs G vs (cs.map .byt)):bs=cs:=by
 induction bs generalizing vs cs with
 | nil =>
  have e:vs=[]:=h.inv
  cases cs with
  | nil=>rfl
  | cons d cs=>refine X22 h'.inv fun U0 U1 q U2=>?_; rw [e] at q; exact nomatch q
 | cons b bs ih =>
  refine X23 h.inv fun v ws e h1 h2=>?_
  cases cs with
  | nil=>have q:vs=[]:=h'.inv; rw [e] at q; exact nomatch q
  | cons d cs =>
   refine X23 h'.inv fun v' ws' q h3 h4=>?_
   obtain ⟨q1,q2⟩:=List.cons.inj (e.symm.trans q)
   obtain ⟨_,e1⟩:=h1.inv
   obtain ⟨_,e2⟩:=h3.inv
   rw [ih h2 (q2▸h4),show b=d from by rw [q1,e2] at e1; simpa using (Value.bytes.inj e1).1.symm]
open SeqAt in
theorem Y100 {A:Around} {a b:Addr} {vs ws:List Value} {bs cs:List (List UInt8)} (ha:s.heap.IsList a (List.toArray vs)) (hb:s.heap.IsList b (List.toArray ws)) (h1:VRs G vs (bs.map .byt)) (h2:VRs G ws (cs.map .byt)) (hu:A.units<cLine) :
  (bs=cs→RcAt A s (.ref a) (.ref b) true∧RcNeAt A s (.ref a) (.ref b) false)∧(bs≠cs→RcAt A s (.ref a) (.ref b) false∧RcNeAt A s (.ref a) (.ref b) true):=by
 have l1:=h1.length
 have l2:=h2.length
 rw [length_map] at l1 l2
 by_cases hl:vs.length=ws.length
 ·let e:Nat→Bool:=fun j=>decide (bs[j]?=cs[j]?)
  have he:∀ j (q1:j<(List.toArray vs).size) (q2:j<(List.toArray ws).size),EqAt A.in1 s (List.toArray vs)[j] (List.toArray ws)[j] (e j):=fun j q1 q2=>by
   refine X22 (h1.byt_at (j:=j) (by simpa using q1)) fun x t e1 e2=>?_
   refine X22 (h2.byt_at (j:=j) (by simpa using q2)) fun y u e3 e4=>?_
   rw [List.getElem_toArray,List.getElem_toArray,e2,e4]
   have:=eq_51 (A:=A.in1) (s:=s) x.toArray t y.toArray u
   rw [show e j=decide (x.toArray=y.toArray) by simp [e,e1,e3]]
   exact this
  have key:(List.range (List.toArray vs).size).all e=decide (bs=cs):=by
   rw [Bool.eq_iff_iff,List.all_eq_true,decide_eq_true_eq]
   constructor
   ·intro h
    apply List.ext_getElem?
    intro j
    by_cases hj:j<vs.length
    ·have:=h j (by simpa using hj)
     simpa [e] using this
    ·rw [getElem?_eq_none (lA2 (eqG l1) (nlt hj)),getElem?_eq_none (lA3 (eqG l2) (eqG hl) (nlt hj))]
   ·rintro rfl j _
    simp [e]
  have r1:=RcAt.lists ha hb (by simpa using hl) hu he
  have r2:=RcNeAt.lists ha hb (by simpa using hl) hu he
  rw [key] at r1 r2
  exact ⟨fun q=>by rw [decide_eq_true q] at r1 r2; exact ⟨r1,r2⟩,fun q=>by rw [decide_eq_false q] at r1 r2; exact ⟨r1,r2⟩⟩
 ·have hs:((List.toArray vs).size != (List.toArray ws).size)=true:=by simpa using hl
  exact ⟨fun q=>absurd (by rw [l1,l2,q]) hl,fun _=>⟨RcAt.lists_lengths ha hb hs hu,RcNeAt.lists_lengths ha hb hs hu⟩⟩
theorem Cx.Good.uu {c:Cx Γ fn n} (g:c.Good):c.A.units<cLine:=by have:=g.ao.units; unfold cLine; exact sA1 this
theorem CmpOk.eqLB {bs cs:List (List UInt8)}:CmpOk Γ fn n σ .Eq (.lst (bs.map .byt)) (.lst (cs.map .byt)) (decide (bs=cs)):=⟨fun c G s v w rep hv hw=>by
 refine Ex2 (hv.isList rep) fun a vs Z2=>?_; obtain ⟨rfl,Z0⟩:=Z2; refine An2 Z0 fun ha h1=>?_; clear Z0
 refine Ex2 (hw.isList rep) fun b ws Z3=>?_; obtain ⟨rfl,Z1⟩:=Z3; refine An2 Z1 fun hb h2=>?_; clear Z1
 obtain ⟨k1,k2⟩:=Y100 ha hb h1 h2 rep.good.uu
 by_cases h:bs=cs
 ·rw [decide_eq_true h]; exact kit <| (k1 h).1 _ _ _ _ (Cx.RP.now rep (.bool _))
 ·rw [decide_eq_false h]; exact kit <| (k2 h).1 _ _ _ _ (Cx.RP.now rep (.bool _))⟩
theorem CmpOk.neLB {bs cs:List (List UInt8)}:CmpOk Γ fn n σ .NotEq (.lst (bs.map .byt)) (.lst (cs.map .byt)) (decide (bs≠cs)):=⟨fun c G s v w rep hv hw=>by
 refine Ex2 (hv.isList rep) fun a vs Z2=>?_; obtain ⟨rfl,Z0⟩:=Z2; refine An2 Z0 fun ha h1=>?_; clear Z0
 refine Ex2 (hw.isList rep) fun b ws Z3=>?_; obtain ⟨rfl,Z1⟩:=Z3; refine An2 Z1 fun hb h2=>?_; clear Z1
 obtain ⟨k1,k2⟩:=Y100 ha hb h1 h2 rep.good.uu
 by_cases h:bs=cs
 ·rw [decide_eq_false (by simpa using h)]; exact kit <| (k1 h).2 _ _ _ _ (Cx.RP.now rep (.bool _))
 ·rw [decide_eq_true h]; exact kit <| (k2 h).2 _ _ _ _ (Cx.RP.now rep (.bool _))⟩
theorem VR.isTup {v:Value} {xs:List V} (r:c.Rep G σ s) (h:VR G v (.tup xs)):∃ a vs,v=.ref a∧s.heap.IsTuple a (List.toArray vs)∧VRs G vs xs:=by
 refine Ex4 h.inv fun U0 U1 U2 U3 Z1=>?_; obtain ⟨rfl,Z0⟩:=Z1; refine An4 Z0 fun h hc hd hs=>?_; clear Z0
 exact (EI2 _ _ ⟨rfl,⟨_,r.get h,hc,_,hd⟩,hs⟩)
set_option tactic.hygienic true in
open SeqAt in
theorem Y101 (rep:c.Rep G σ s) {v w:Value} {bs cs:List (List UInt8)} {i j:Int} (hv:VR G v (.tup [.lst (bs.map .byt),.int i])) (hw:VR G w (.tup [.lst (cs.map .byt),.int j])) :
  RcAt c.A s v w (decide ((bs,i)=(cs,j)))∧RcNeAt c.A s v w (decide ((bs,i)≠(cs,j))):=by
 revert c rep hv hw; revert Γ fn n σ G s v w bs cs i j; apply s12; generalize T1 _=Γ,T2 _=fn,T3 _=n,T4 _=σ,T5 _=G,T6 _=s,T7 _=v,T8 _=w,T9 _=bs,T10 _=cs,T11 _=i,T12 _=j; intro c rep hv hw
 refine Ex2 (hv.isTup rep) fun a vs Z8=>?_; obtain ⟨rfl,Z0⟩:=Z8; refine An2 Z0 fun ha h1=>?_; clear Z0
 refine Ex2 (hw.isTup rep) fun b ws Z9=>?_; obtain ⟨rfl,Z1⟩:=Z9; refine An2 Z1 fun hb h2=>?_; clear Z1
 refine Ex2 h1.two fun v1 v2 Z10=>?_; obtain ⟨rfl,Z2⟩:=Z10; refine An2 Z2 fun p1 p2=>?_; clear Z2
 refine Ex2 h2.two fun w1 w2 Z11=>?_; obtain ⟨rfl,Z3⟩:=Z11; refine An2 Z3 fun q1 q2=>?_; clear Z3
 obtain ⟨_,rfl⟩:=p2.inv; obtain ⟨_,rfl⟩:=q2.inv
 rename_i t u
 refine Ex2 (p1.isList rep) fun a1 xs Z12=>?_; obtain ⟨rfl,Z4⟩:=Z12; refine An2 Z4 fun ha1 g1=>?_; clear Z4
 refine Ex2 (q1.isList rep) fun b1 ys Z13=>?_; obtain ⟨rfl,Z5⟩:=Z13; refine An2 Z5 fun hb1 g2=>?_; clear Z5
 have hu':c.A.in1.units<cLine:=by have:=rep.good.ao.units; show c.A.units+1<cLine; unfold cLine; exact sA1 this
 obtain ⟨k1,k2⟩:=Y100 (A:=c.A.in1) ha1 hb1 g1 g2 hu'
 let e:Nat→Bool:=fun k=>match k with | 0=>decide (bs=cs) | _=>decide (i=j)
 have he:∀ k (z1:k<(List.toArray [Value.ref a1,.int i t]).size) (z2:k<(List.toArray [Value.ref b1,.int j u]).size),EqAt c.A.in1 s (List.toArray [Value.ref a1,.int i t])[k] (List.toArray [Value.ref b1,.int j u])[k] (e k):=fun k z1 z2=>by
  match k with
  | 0 =>
   show EqAt c.A.in1 s (.ref a1) (.ref b1) (decide (bs=cs))
   by_cases hab:a1=b1
   ·subst hab
    have hx:xs=ys:=by
     refine X13 ha1 fun o1 e1 U0 Z6=>?_; clear ha1; refine Ex1 Z6 fun n1 d1=>?_; clear Z6
     refine X13 hb1 fun o2 e2 U1 Z7=>?_; clear hb1; refine Ex1 Z7 fun n2 d2=>?_; clear Z7
     rw [e1] at e2; obtain rfl:=Option.some.inj e2
     rw [d1] at d2; injection d2 with d2 _; simpa using d2
    subst hx
    rw [decide_eq_true (g1.byt_inj g2)]
    exact EqAt.same _
   ·by_cases h:bs=cs
    ·rw [decide_eq_true h]; exact EqAt.of_refs hab (k1 h).1
    ·rw [decide_eq_false h]; exact EqAt.of_refs hab (k2 h).1
  | 1 =>
   show EqAt c.A.in1 s (.int i t) (.int j u) (decide (i=j))
   have:=EqAt.int_int (A:=c.A.in1) (s:=s) i t j u
   rwa [show (i == j)=decide (i=j) by rw [Bool.eq_iff_iff]; simp] at this
  | k+2=>simp at z1; lia
 have r1:=RcAt.tuples ha hb rep.good.uu he
 have r2:=RcNeAt.tuples ha hb rep.good.uu he
 have key:((List.range (min (List.toArray [Value.ref a1,.int i t]).size (List.toArray [Value.ref b1,.int j u]).size)).all e&&(List.toArray [Value.ref a1,.int i t]).size == (List.toArray [Value.ref b1,.int j u]).size)=decide ((bs,i)=(cs,j)):=by
  show ((e 0&&(e 1&&true))&&true)=_
  rw [Bool.eq_iff_iff]; simp [e]
 rw [key] at r1 r2
 refine ⟨r1,?_⟩
 rwa [show decide ((bs,i)≠(cs,j)) = !decide ((bs,i)=(cs,j)) by simp]
theorem CmpOk.eqT {bs cs:List (List UInt8)} {i j:Int}:CmpOk Γ fn n σ .Eq (.tup [.lst (bs.map .byt),.int i]) (.tup [.lst (cs.map .byt),.int j]) (decide ((bs,i)=(cs,j))):=⟨fun c G s v w rep hv hw =>
 kit <| (Y101 rep hv hw).1 _ _ _ _ (Cx.RP.now rep (.bool _))⟩
theorem CmpOk.neT {bs cs:List (List UInt8)} {i j:Int}:CmpOk Γ fn n σ .NotEq (.tup [.lst (bs.map .byt),.int i]) (.tup [.lst (cs.map .byt),.int j]) (decide ((bs,i)≠(cs,j))):=⟨fun c G s v w rep hv hw =>
 kit <| (Y101 rep hv hw).2 _ _ _ _ (Cx.RP.now rep (.bool _))⟩
end
section
variable {Γ:Gam} {fn:FnS} {n:Nat} {σ:St} {env:Env} {G:PH} {s:Shared} {c:Cx Γ fn n} {Q:AF→St→Prop} {X:St→Prop} {ss:List Stmt}
theorem Y102 {b:List UInt8} (hz:b.length≤1000000):b.toArray.size≤sizeLine:=by rw [size_toArray,sizeLine_eq]; exact lA1 hz
theorem PE.bytesZ {x:Str} {p pos:Pos} {e:Expr} {i:Int} (hf:PE Γ fn n σ (.Name x p) (.bi (.type "bytes"))) (ha:PE Γ fn n σ e (.int i)) (h0:0≤i) (hz:i≤1000000) (hst:isStarred e=false:=by rfl) :
  PE Γ fn n σ (.Call (.Name x p) [e] [] pos) (.byt (List.replicate i.toNat 0)):=PE.call hf (.cons ha .nil hst) fun c G s vs rep hv=>by
 refine Ex1 hv.one fun v Z0=>?_; obtain ⟨rfl,h1⟩:=Z0
 obtain ⟨_,rfl⟩:=h1.inv
 refine kit <| BA.by_int h0 hz (.now rep.toks ?_)
 rw [show Array.replicate i.toNat (0:UInt8)=(List.replicate i.toNat 0).toArray by simp]
 exact .byt _ _
theorem PE.bytesB {x:Str} {p pos:Pos} {e:Expr} {b:List UInt8} (hf:PE Γ fn n σ (.Name x p) (.bi (.type "bytes"))) (ha:PE Γ fn n σ e (.byt b)) (hst:isStarred e=false:=by rfl) :
  PE Γ fn n σ (.Call (.Name x p) [e] [] pos) (.byt b):=PE.call hf (.cons ha .nil hst) fun c G s vs rep hv=>by
 refine Ex1 hv.one fun v Z0=>?_; obtain ⟨rfl,h1⟩:=Z0
 obtain ⟨_,rfl⟩:=h1.inv
 exact kit <| BA.by_by (.now rep (.byt _ _))
theorem Cx.Rep.ownBA (r:c.Rep G σ s) {a:Addr} {b:List UInt8} (h:σ.hp a=some (.ba b)):s.heap.get? a=some (BA.baO b.toArray) ∧
  ∀ h' tk b',Heap.SameBut a s.heap h'→h'.get? a=some (BA.baO (List.toArray b'))→c.Rep G ⟨σ.loc,upd σ.hp a (.ba b')⟩ { s with heap:=h',toks:=tk }:=by
 refine Y2 ?_; rintro G0 hG0; obtain ⟨own,m,cs,b0,hr,lr⟩:=r; refine hG0 ?_; clear hG0
 obtain ⟨dx,h1,h2⟩:=id hr
 have e1:=h1 a _ h
 refine ⟨b0.hO _ _ e1,fun h' tk b' hs hg=>⟨N0.ins own a (BA.baO (List.toArray b')),m,cs,b0.write e1 (fun d o q e=>(hs.2 d q).trans e) hg,?_,lr⟩⟩
 exact hr.write h rfl rfl (by show N0.ins own a _ a=_; rw [Y65])
theorem PE.bytesA {x:Str} {p pos:Pos} {e:Expr} {a:Addr} {b:List UInt8} (hf:PE Γ fn n σ (.Name x p) (.bi (.type "bytes"))) (ha:PE Γ fn n σ e (.obj a)) (hi:σ.hp a=some (.ba b)) (hz:b.length≤1000000) (hst:isStarred e=false:=by rfl) :
  PE Γ fn n σ (.Call (.Name x p) [e] [] pos) (.byt b):=PE.call hf (.cons ha .nil hst) fun c G s vs rep hv=>by
 refine Ex1 hv.one fun v Z0=>?_; obtain ⟨rfl,h1⟩:=Z0
 obtain rfl:=h1.inv
 exact kit <| BA.by_ba (rep.ownBA hi).1 (Y102 hz) (.now rep.toks (.byt _ _))
theorem PE.lenA {x:Str} {p pos:Pos} {e:Expr} {a:Addr} {b:List UInt8} (hf:PE Γ fn n σ (.Name x p) (.bi (.builtin "len"))) (ha:PE Γ fn n σ e (.obj a)) (hi:σ.hp a=some (.ba b)) (hz:b.length≤1000000) (hst:isStarred e=false:=by rfl) :
  PE Γ fn n σ (.Call (.Name x p) [e] [] pos) (.int b.length):=PE.call hf (.cons ha .nil hst) fun c G s vs rep hv=>by
 refine Ex1 hv.one fun v Z0=>?_; obtain ⟨rfl,h1⟩:=Z0
 obtain rfl:=h1.inv
 exact kit <| BA.call_len (rep.ownBA hi).1 (by rw [size_toArray]; exact hz) (by rw [size_toArray]; exact .now rep.toks (.int _ _))
theorem Cx.Rep.allocH (r:c.Rep G σ s) {ob:O} {o:Obj} {a:Addr} {h':Heap} {tk:Nat} (hn:s.heap.get? a=none) (hk:∀ a o,s.heap.get? a=some o→h'.get? a=some o) (ho:h'.get? a=some o) (hi:ob.isInst=false) (hr:∀ own,OR Γ.w.params G (ins own a o) a a ob) :
  σ.hp a=none∧c.Rep G ⟨σ.loc,upd σ.hp a ob⟩ { s with heap:=h',toks:=tk }:=by
 obtain ⟨own,m,cs,b,h,lr⟩:=r
 have hno:=(b.fresh hn).1
 exact ⟨h.none_of hno,ins own a o,m,cs,b.alloc hn hk ho,h.alloc hno hi (hr own),lr⟩
theorem XE.callB {x:Str} {p pos:Pos} {f:Value} {args:List Expr} {QL:List V→St→Prop} {QV:V→St→Prop} (hf:PE Γ fn n σ (.Name x p) (.bi f)) (ha:XEs Γ fn n σ args QL X)
  (k:∀ (c:Cx Γ fn n) G s vs xs τ,c.Rep G τ s→VRs G vs xs→QL xs τ→wpAny (model Γ.prog Γ.w) c.A (PySem.call f vs) (c.XP G QV) (c.EP G X) s):XE Γ fn n σ (.Call (.Name x p) args [] pos) QV X:=⟨fun c G s rep=>by
 refine Y69 (wpAny_mono (hf.run c G s rep) (Cx.RP.el fun v s₁ G₁ l₁ r₁ v₁=>?_) NoX.to)
 have hv:v=f∧∀ a,v≠.ref a:=by cases v₁ <;> exact ⟨rfl,by intro _ e; cases e⟩
 obtain ⟨rfl,hn⟩:=hv
 refine Y68 hn (ha.plain _ _) (wpAny_mono (ha.run c G₁ s₁ pos r₁) (fun vs s₂ q=>?_) fun _ _ q=>q.up l₁)
 refine X34 q fun G₂ xs τ l₂ r₂ v₂ q=>?_
 exact wpAny_mono (k c G₂ s₂ vs xs τ r₂ v₂ q) (fun _ _ q=>q.up (l₁.trans l₂)) fun _ _ q=>q.up (l₁.trans l₂)⟩
theorem XE.baNew {x:Str} {p pos:Pos} {QV:V→St→Prop} (hf:PE Γ fn n σ (.Name x p) (.bi (.type "bytearray"))) (q:∀ a,σ.hp a=none→QV (.obj a) ⟨σ.loc,upd σ.hp a (.ba [])⟩):XE Γ fn n σ (.Call (.Name x p) [] [] pos) QV X :=
 .callB hf (.nil (QL:=fun xs τ=>xs=[]∧τ=σ) ⟨rfl,rfl⟩) fun c G s vs xs τ r hv h=>by
  obtain ⟨rfl,rfl⟩:=h
  obtain rfl:=hv.inv
  refine BA.call_new0 fun h' hk ho=>?_
  obtain ⟨h1,h2⟩:=r.allocH (ob:=.ba []) (tk:=s.toks) (Heap.get?_none_of_le (le_refl _)) hk ho rfl fun own=>by show ins own _ _ _=_; rw [Y65]
  exact ⟨G,_,_,.refl G,h2,.obj _,q _ h1⟩
theorem XE.baNewB {x:Str} {p pos:Pos} {e:Expr} {b:List UInt8} {QV:V→St→Prop} (hf:PE Γ fn n σ (.Name x p) (.bi (.type "bytearray"))) (ha:PE Γ fn n σ e (.byt b)) (hz:b.length≤1000000)
  (q:∀ a,σ.hp a=none→QV (.obj a) ⟨σ.loc,upd σ.hp a (.ba b)⟩) (hst:[e].all (fun e=>!isStarred e)=true:=by rfl):XE Γ fn n σ (.Call (.Name x p) [e] [] pos) QV X :=
 .callB hf (.consP (QL:=fun xs τ=>xs=[.byt b]∧τ=σ) ha (.nil ⟨rfl,rfl⟩) hst) fun c G s vs xs τ r hv h=>by
  obtain ⟨rfl,rfl⟩:=h
  refine Ex1 hv.one fun v Z0=>?_; obtain ⟨rfl,h1⟩:=Z0
  obtain ⟨_,rfl⟩:=h1.inv
  refine BA.call_new_by (Y102 hz) fun h' hk ho=>?_
  obtain ⟨h1,h2⟩:=r.allocH (ob:=.ba b) (tk:=s.toks) (Heap.get?_none_of_le (le_refl _)) hk ho rfl fun own=>by show ins own _ _ _=_; rw [Y65]
  exact ⟨G,_,_,.refl G,h2,.obj _,q _ h1⟩
theorem XE.baNewCut {x:Str} {p pos sp p':Pos} {value hi:Expr} {d:Addr} {b:List UInt8} {i:Int} {QV:V→St→Prop} (hf:PE Γ fn n σ (.Name x p) (.bi (.type "bytearray"))) (hd:PE Γ fn n σ value (.obj d)) (ho:σ.hp d=some (.ba b)) (hi':PE Γ fn n σ hi (.int i)) (h0:0≤i) (hz:b.length≤1000000)
  (q:∀ a,σ.hp a=none→QV (.obj a) ⟨σ.loc,upd σ.hp a (.ba (b.take i.toNat))⟩):XE Γ fn n σ (.Call (.Name x p) [.Subscript value (.Slice Option.none (some hi) Option.none sp) p'] [] pos) QV X:=by
 revert hf hd ho hi' h0 hz q; revert Γ fn n σ X x p pos sp p' value hi d b i QV; apply s12; generalize T1 _=Γ,T2 _=fn,T3 _=n,T4 _=σ,T5 _=X,T6 _=x,T7 _=p,T8 _=pos,T9 _=sp,T10 _=p',T11 _=value,T12 _=hi; apply s4; generalize T1 _=d,T2 _=b,T3 _=i,T4 _=QV; intro hf hd ho hi' h0 hz q
 refine .callB (QL:=fun xs τ=>∃ e,xs=[.obj e]∧σ.hp e=none∧τ=⟨σ.loc,upd σ.hp e (.ba (b.take i.toNat))⟩) hf (.cons (QL:=fun xs τ=>∃ e,xs=[.obj e]∧σ.hp e=none∧τ=⟨σ.loc,upd σ.hp e (.ba (b.take i.toNat))⟩) ⟨fun c G s rep=>?_⟩ rfl) fun c G s vs xs τ r hv h=>?_
 ·revert c G s; apply s3; generalize T1 _=c,T2 _=G,T3 _=s; intro rep
  refine Y14 (wpAny_mono (hd.run c G s rep) (Cx.RP.obj fun s₁ G₁ l₁ r₁ v₁=>?_) NoX.to)
  revert s₁ G₁; apply s2; generalize T1 _=s₁,T2 _=G₁; intro l₁ r₁ v₁
  refine Y15 (Y16 (Y17 (wpAny_mono (hi'.run c G₁ s₁ r₁) (Cx.RP.int fun s₂ G₂ ti l₂ r₂ v₂=>?_) NoX.to)))
  revert s₂ G₂ ti; apply s3; generalize T1 _=s₂,T2 _=G₂,T3 _=ti; intro l₂ r₂ v₂
  refine Y16 ?_
  have hd2:=(r₂.ownBA ho).1
  obtain ⟨r₃,l₃⟩:=r₂.push { cls:=.type "slice",data:=.fields #[.none,.int i ti,.none] } s₂.toks
  have hd3:=(r₃.ownBA ho).1
  have hsl:({ s₂ with heap:=s₂.heap.push { cls:=.type "slice",data:=.fields #[.none,.int i ti,.none] } }:Shared).heap.IsSliceOf s₂.heap.objs.size .none (.int i ti) .none:=⟨_,Heap.get?_push_size _ rfl,rfl,rfl⟩
  refine kit <| tail_any (T:="bytearray") ⟨_,hd3,rfl⟩ BA.slot_get.lookup (BA.getItem_cut hd3 hsl (Y102 hz) ?_) rfl
  have hp:KBy.picked b.toArray none (some i)=(b.take i.toNat).toArray:=by
   rw [KBc.picked_eq]
   have:=Y73 (l:=b) NN.none (NN.some h0)
   rw [Y71] at this
   rw [show (b.toArray).size=b.length from size_toArray ..,show b.toArray.toList=b from rfl,this]
  rw [hp]
  obtain ⟨h1,h2⟩:=r₃.allocO (ob:=.ba (b.take i.toNat)) (o:=BA.baO (b.take i.toNat).toArray) (tk:=s₂.toks) rfl rfl fun own=>by show ins own _ _ _=_; rw [Y65]
  refine ⟨_,.obj _,_,l₁.trans (l₂.trans l₃),h2,.obj _,?_⟩
  exact .nil ⟨_,rfl,h1,rfl⟩
 ·revert c G s vs xs τ; apply s6; generalize T1 _=c,T2 _=G,T3 _=s,T4 _=vs,T5 _=xs,T6 _=τ; intro r hv h
  refine Ex1 h fun e Z1=>?_; clear h; obtain ⟨rfl,Z0⟩:=Z1; refine An2 Z0 fun he Z2=>?_; clear Z0; obtain rfl:=Z2
  exists e; intro hv he r
  refine Ex1 hv.one fun v Z3=>?_; obtain ⟨rfl,h1⟩:=Z3
  exists v; intro h1 hv
  obtain rfl:=h1.inv
  have hb:=(r.ownBA (a:=e) (b:=b.take i.toNat) Y56).1
  refine BA.call_new_ba hb (Y102 (by rw [length_take]; exact lA2 (min_le_right i.toNat b.length) hz)) fun h' hk ho'=>?_
  exists h'; intro hk ho'
  obtain ⟨h1,h2⟩:=r.allocH (ob:=.ba (b.take i.toNat)) (tk:=s.toks) (Heap.get?_none_of_le (le_refl _)) hk ho' rfl fun own=>by show ins own _ _ _=_; rw [Y65]
  have hne:s.heap.objs.size≠e:=fun q=>by rw [q] at h1; dsimp only at h1; rw [Y56] at h1; cases h1
  have h1':σ.hp s.heap.objs.size=none:=by dsimp only at h1; rwa [Y57 hne] at h1
  obtain ⟨own,m,cs,b0,hr,lr⟩:=h2
  revert own m cs; apply s3; generalize T1 _=own,T2 _=m,T3 _=cs; intro b0 hr lr
  refine ⟨G,_,⟨σ.loc,upd σ.hp s.heap.objs.size (.ba (b.take i.toNat))⟩,.refl G,⟨own,m,cs,b0,hr.less fun x o h=>?_,lr⟩,.obj _,q _ h1'⟩
  revert x o; apply s2; generalize T1 _=x,T2 _=o; intro h
  change upd σ.hp _ _ x=some o at h
  change upd (upd σ.hp _ _) _ _ x=some o
  unfold upd at h ⊢
  by_cases z:x=s.heap.objs.size
  ·rw [if_pos z] at h ⊢; exact h
  ·rw [if_neg z] at h ⊢
   by_cases z':x=e
   ·subst z'; rw [he] at h; cases h
   ·rw [if_neg z']; exact h
theorem XE.extend {o e:Expr} {apos pos:Pos} {a:Addr} {b d:List UInt8} {QV:V→St→Prop} (ho:PE Γ fn n σ o (.obj a)) (hi:σ.hp a=some (.ba b)) (he:PE Γ fn n σ e (.byt d)) (hz:b.length+d.length≤1000000)
  (q:QV .none ⟨σ.loc,upd σ.hp a (.ba (b++d))⟩) (hp:MethPl o "extend" [e] apos pos:=by intro _; rfl) (hst:isStarred e=false:=by rfl):XE Γ fn n σ (.Call (.Attribute o "extend" apos) [e] [] pos) QV X :=
 XE.bmeth (id:="bytearray.extend") ho (.cons he .nil hst) (fun c G s pl Q r h=>kit <| BA.method_extend (r.ownBA hi).1 h) (fun c G s vs r hv=>by
  refine Ex1 hv.one fun v Z0=>?_; obtain ⟨rfl,hv1⟩:=Z0
  obtain ⟨_,rfl⟩:=hv1.inv
  obtain ⟨h1,h2⟩:=r.ownBA hi
  refine BA.call_extend h1 (by rw [size_toArray,size_toArray,sizeLine_eq]; exact lA1 hz) fun h' hs hg=>?_
  exact ⟨G,.none,_,.refl G,h2 h' s.toks (b++d) hs (by rw [hg]; simp),.none,q⟩) hp
end
section
variable {Γ:Gam} {G:PH}
theorem ERs.toD {prog:Program} {w:World} {es:List DictEntry} {fs:List (Str × V)} (h:ERs w.params G es fs):∃ kvs:List (Str × Value),Pairs (strKind prog w) es kvs∧(∀ e∈es,∃ k,(strKind prog w).is k e.key=true∧e.hash=(strKind prog w).hash k)∧kvs.map (·.1)=fs.map (·.1)∧VRs G (kvs.map (·.2)) (fs.map (·.2)):=by
 induction h with
 | nil=>exact ⟨[],.nil,fun _ h=>(nomatch h),rfl,.nil⟩
 | @cons x t v u es fs h hs ih =>
  refine X14 ih fun kvs h1 h2 h3 h4=>?_; clear ih
  refine ⟨(x,v) :: kvs,.cons (strKind_is prog w x t) rfl h1,fun e he=>?_,by rw [map_cons,map_cons,h3],.cons h h4⟩
  rcases List.mem_cons.mp he with rfl | he
  ·exact ⟨x,strKind_is prog w x t,rfl⟩
  ·exact h2 e he
theorem IRs.toD {prog:Program} {w:World} {es:List DictEntry} {fs:List (Int × V)} (h:IRs G es fs):∃ kvs:List (Int × Value),Pairs (intKind prog w) es kvs∧(∀ e∈es,∃ k,(intKind prog w).is k e.key=true∧e.hash=(intKind prog w).hash k)∧kvs.map (·.1)=fs.map (·.1)∧VRs G (kvs.map (·.2)) (fs.map (·.2)):=by
 induction h with
 | nil=>exact ⟨[],.nil,fun _ h=>(nomatch h),rfl,.nil⟩
 | @cons x t v u es fs h hs ih =>
  refine X14 ih fun kvs h1 h2 h3 h4=>?_; clear ih
  refine ⟨(x,v) :: kvs,.cons (intKind_is prog w x t) rfl h1,fun e he=>?_,by rw [map_cons,map_cons,h3],.cons h h4⟩
  rcases List.mem_cons.mp he with rfl | he
  ·exact ⟨x,intKind_is prog w x t,rfl⟩
  ·exact h2 e he
theorem ERs.ofD {prog:Program} {w:World} {es:List DictEntry} {kvs:List (Str × Value)} (h:Pairs (strKind prog w) es kvs):∀ {fs:List (Str × V)} (_:∀ e∈es,∃ k,(strKind prog w).is k e.key=true∧e.hash=(strKind prog w).hash k) (_:kvs.map (·.1)=fs.map (·.1)) (_:VRs G (kvs.map (·.2)) (fs.map (·.2))),ERs w.params G es fs:=by
 induction h with
 | nil=>intro fs _ h1 _; cases fs with
  | nil=>exact .nil
  | cons _ _=>cases h1
 | @cons e kv es kvs h1 h2 h3 ih =>
  intro fs k1 k2 k3
  cases fs with
  | nil=>cases k2
  | cons f fs =>
   obtain ⟨x,u⟩:=f
   obtain ⟨y,v⟩:=kv
   obtain ⟨hh,key,val⟩:=e
   rw [map_cons,map_cons,List.cons.injEq] at k2
   obtain ⟨rfl,k2⟩:=k2
   rw [map_cons,map_cons] at k3
   cases k3 with
   | cons g1 g2 =>
    obtain ⟨t,rfl⟩:=Value.isStrOf_shape (show Value.isStrOf y key=true from h1)
    refine X12 (k1 _ (.head _)) fun k' q1 q2=>?_
    obtain ⟨t',q3⟩:=Value.isStrOf_shape (show Value.isStrOf k' (.str y t)=true from q1)
    injection q3 with q3
    subst q3
    change hh=PySem.hashStr w y at q2
    change val=v at h2
    subst q2 h2
    exact .cons g1 (ih (fun e he=>k1 e (.tail _ he)) k2 g2)
theorem IRs.ofD {prog:Program} {w:World} {es:List DictEntry} {kvs:List (Int × Value)} (h:Pairs (intKind prog w) es kvs):∀ {fs:List (Int × V)} (_:∀ e∈es,∃ k,(intKind prog w).is k e.key=true∧e.hash=(intKind prog w).hash k) (_:kvs.map (·.1)=fs.map (·.1)) (_:VRs G (kvs.map (·.2)) (fs.map (·.2))),IRs G es fs:=by
 induction h with
 | nil=>intro fs _ h1 _; cases fs with
  | nil=>exact .nil
  | cons _ _=>cases h1
 | @cons e kv es kvs h1 h2 h3 ih =>
  intro fs k1 k2 k3
  cases fs with
  | nil=>cases k2
  | cons f fs =>
   obtain ⟨x,u⟩:=f
   obtain ⟨y,v⟩:=kv
   obtain ⟨hh,key,val⟩:=e
   rw [map_cons,map_cons,List.cons.injEq] at k2
   obtain ⟨rfl,k2⟩:=k2
   rw [map_cons,map_cons] at k3
   cases k3 with
   | cons g1 g2 =>
    obtain ⟨t,rfl⟩:=Value.isInt_shape (show Value.isInt y key=true from h1)
    refine X12 (k1 _ (.head _)) fun k' q1 q2=>?_
    obtain ⟨t',q3⟩:=Value.isInt_shape (show Value.isInt k' (.int y t)=true from q1)
    injection q3 with q3
    subst q3
    change hh=PySem.hashInt y at q2
    change val=v at h2
    subst q2 h2
    exact .cons g1 (ih (fun e he=>k1 e (.tail _ he)) k2 g2)
theorem Y103 {o:Obj} {es:Array DictEntry} {n:Nat} (h:o.ExactDict) (hd:o.data=.dict es n):o=dictOf es.toList n:=by
 obtain ⟨c,d,dt,sl⟩:=o
 refine An3 h fun h1 h2 h3=>?_; clear h
 simp only at h1 h2 h3 hd
 subst h1 h2 h3 hd
 simp [dictOf]
theorem ERs.dictOf {prog:Program} {w:World} {h:Heap} {a:Addr} {es:List DictEntry} {n:Nat} {fs:List (Str × V)} (ha:h.get? a=some (dictOf es n)) (he:ERs w.params G es fs) (hn:(fs.map (·.1)).Nodup) :
  ∃ kvs,h.DictOf (strKind prog w) a kvs∧kvs.map (·.1)=fs.map (·.1)∧VRs G (kvs.map (·.2)) (fs.map (·.2)):=by
 refine X14 (he.toD (prog:=prog)) fun kvs h1 h2 h3 h4=>?_
 exact ⟨kvs,⟨_,es.toArray,n,ha,⟨rfl,rfl,rfl⟩,rfl,fun e he=>h2 e (by simpa using he),by simpa using h1,by rw [h3]; exact hn⟩,h3,h4⟩
theorem IRs.dictOf {prog:Program} {w:World} {h:Heap} {a:Addr} {es:List DictEntry} {n:Nat} {fs:List (Int × V)} (ha:h.get? a=some (W.dictOf es n)) (he:IRs G es fs) (hn:(fs.map (·.1)).Nodup) :
  ∃ kvs,h.DictOf (intKind prog w) a kvs∧kvs.map (·.1)=fs.map (·.1)∧VRs G (kvs.map (·.2)) (fs.map (·.2)):=by
 refine X14 (he.toD (prog:=prog) (w:=w)) fun kvs h1 h2 h3 h4=>?_
 exact ⟨kvs,⟨_,es.toArray,n,ha,⟨rfl,rfl,rfl⟩,rfl,fun e he=>h2 e (by simpa using he),by simpa using h1,by rw [h3]; exact hn⟩,h3,h4⟩
theorem ERs.back {prog:Program} {w:World} {h:Heap} {a:Addr} {kvs:List (Str × Value)} {fs:List (Str × V)} (hd:h.DictOf (strKind prog w) a kvs) (h1:kvs.map (·.1)=fs.map (·.1)) (h2:VRs G (kvs.map (·.2)) (fs.map (·.2))):∃ es n,h.get? a=some (W.dictOf es n)∧ERs w.params G es fs:=by
 refine X36 hd fun o es ep ho hx hdd hk hp U0=>?_; clear hd
 exact (EI2 es.toList ep ⟨by rw [ho,Y103 hx hdd],ERs.ofD hp (fun e he=>hk e (by simpa using he)) h1 h2⟩)
theorem IRs.back {prog:Program} {w:World} {h:Heap} {a:Addr} {kvs:List (Int × Value)} {fs:List (Int × V)} (hd:h.DictOf (intKind prog w) a kvs) (h1:kvs.map (·.1)=fs.map (·.1)) (h2:VRs G (kvs.map (·.2)) (fs.map (·.2))):∃ es n,h.get? a=some (W.dictOf es n)∧IRs G es fs:=by
 refine X36 hd fun o es ep ho hx hdd hk hp U0=>?_; clear hd
 exact (EI2 es.toList ep ⟨by rw [ho,Y103 hx hdd],IRs.ofD hp (fun e he=>hk e (by simpa using he)) h1 h2⟩)
end
noncomputable def look {K:Type} [DecidableEq K] (fs:List (K × V)) (k:K):Option V:=(fs.find? fun f=>decide (f.1=k)).map (·.2)
noncomputable def put {K:Type} [DecidableEq K] (fs:List (K × V)) (k:K) (v:V):List (K × V) :=
 if fs.any (fun f=>decide (f.1=k)) then fs.map (fun f=>if f.1=k then (f.1,v) else f) else fs++[(k,v)]
section
variable {G:PH} {K:Type} [DecidableEq K]
theorem KV.look {kvs:List (K × Value)} {k:K}:∀ {fs:List (K × V)} (_:kvs.map (·.1)=fs.map (·.1)) (_:VRs G (kvs.map (·.2)) (fs.map (·.2))),(look fs k=none→valueAt kvs k=none)∧∀ u,look fs k=some u→∃ v,valueAt kvs k=some v∧VR G v u:=by
 induction kvs with
 | nil =>
  intro fs h1 h2
  cases fs with
  | cons _ _=>cases h1
  | nil=>exact ⟨fun _=>rfl,fun u h=>(nomatch h)⟩
 | cons kv kvs ih =>
  intro fs h1 h2
  cases fs with
  | nil=>exact nomatch h1
  | cons f fs =>
   have g:=h2.un
   have i:=ih (List.cons.inj h1).2 g.2
   have e:kv.1=f.1:=(List.cons.inj h1).1
   unfold N0.look valueAt at i ⊢
   by_cases q:kv.1=k
   ·rw [List.find?_cons_of_pos (by rw [← e]; simpa using q),List.find?_cons_of_pos (by simpa using q)]
    exact ⟨fun h=>(nomatch h),fun u' h=>⟨kv.2,rfl,Option.some.inj h▸g.1⟩⟩
   ·rw [List.find?_cons_of_neg (by rw [← e]; simpa using q),List.find?_cons_of_neg (by simpa using q)]
    exact i
theorem KV.any {kvs:List (K × Value)} {k:K}:∀ {fs:List (K × V)} (_:kvs.map (·.1)=fs.map (·.1)),kvs.any (fun f=>decide (f.1=k))=fs.any (fun f=>decide (f.1=k)):=by
 intro fs h
 have a1:∀ {β:Type} (l:List (K × β)),l.any (fun f=>decide (f.1=k))=(l.map (·.1)).any (fun x=>decide (x=k)):=fun l=>by rw [List.any_map]; rfl
 rw [a1,a1,h]
theorem KV.map {kvs:List (K × Value)} {k:K} {v:Value} {u:V} (hv:VR G v u):∀ {fs:List (K × V)} (_:kvs.map (·.1)=fs.map (·.1)) (_:VRs G (kvs.map (·.2)) (fs.map (·.2))),
  (kvs.map (fun f=>if f.1=k then (f.1,v) else f)).map (·.1)=(fs.map (fun f=>if f.1=k then (f.1,u) else f)).map (·.1)∧VRs G ((kvs.map (fun f=>if f.1=k then (f.1,v) else f)).map (·.2)) ((fs.map (fun f=>if f.1=k then (f.1,u) else f)).map (·.2)):=by
 induction kvs with
 | nil =>
  intro fs h1 h2
  cases fs with
  | cons _ _=>exact nomatch h1
  | nil=>exact ⟨rfl,.nil⟩
 | cons kv kvs ih =>
  intro fs h1 h2
  cases fs with
  | nil=>exact nomatch h1
  | cons f fs =>
   have g:=h2.un
   have i:=ih (List.cons.inj h1).2 g.2
   have e:kv.1=f.1:=(List.cons.inj h1).1
   simp only [map_cons,e]
   split
   ·exact ⟨by rw [i.1],.cons hv i.2⟩
   ·exact ⟨by rw [i.1,e],.cons g.1 i.2⟩
theorem KV.put {kvs:List (K × Value)} {k:K} {v:Value} {u:V} {fs:List (K × V)} (h1:kvs.map (·.1)=fs.map (·.1)) (h2:VRs G (kvs.map (·.2)) (fs.map (·.2))) (hv:VR G v u) :
  (stored kvs k v).map (·.1)=(put fs k u).map (·.1)∧VRs G ((stored kvs k v).map (·.2)) ((put fs k u).map (·.2)):=by
 unfold stored N0.put
 rw [KV.any h1]
 split
 ·exact KV.map hv h1 h2
 ·simp only [map_append]
  exact ⟨by rw [h1]; rfl,h2.append (.cons hv .nil)⟩
end
section
variable {Γ:Gam} {fn:FnS} {n:Nat} {σ:St} {env:Env} {G:PH} {s:Shared} {c:Cx Γ fn n} {Q:AF→St→Prop} {X:St→Prop} {ss:List Stmt}
theorem Cx.Rep.grown (r:c.Rep G σ s) {h':Heap} {tk:Nat} (hk:∀ a o,s.heap.get? a=some o→h'.get? a=some o):c.Rep G σ { s with heap:=h',toks:=tk }:=by
 obtain ⟨own,m,cs,b,hr,lr⟩:=r
 exact ⟨own,m,cs,b.kept (tk:=tk) (b.L.ns.keeps hk) fun a o _ e=>hk a o e,hr,lr⟩
theorem Cx.Rep.not1 (r:c.Rep G σ s):s.heap.objs.size≠1:=by
 obtain ⟨own,m,cs,b,_⟩:=r
 have h1:=modules_low Γ.hT.nolimit
 have h2:=b.sz
 have h3:(1:Nat)<Γ.B.objs.size:=h1
 exact fun q_=>fA3 (lsl h3) h2 (eqL q_)
theorem Cx.Rep.ownSD (r:c.Rep G σ s) {a:Addr} {fs:List (Str × V)} (h:σ.hp a=some (.sd fs)):a≠1∧∃ kvs,s.heap.DictOf (strKind Γ.prog Γ.w) a kvs∧kvs.map (·.1)=fs.map (·.1)∧VRs G (kvs.map (·.2)) (fs.map (·.2)) ∧
  ∀ h' tk kvs' fs',Heap.SameBut a s.heap h'→h'.DictOf (strKind Γ.prog Γ.w) a kvs'→kvs'.map (·.1)=fs'.map (·.1)→VRs G (kvs'.map (·.2)) (fs'.map (·.2))→c.Rep G ⟨σ.loc,upd σ.hp a (.sd fs')⟩ { s with heap:=h',toks:=tk }:=by
 revert c r h; revert Γ fn n σ G s a fs; apply s8; generalize T1 _=Γ,T2 _=fn,T3 _=n,T4 _=σ,T5 _=G,T6 _=s,T7 _=a,T8 _=fs; intro c r h
 obtain ⟨own,m,cs,b,hr,lr⟩:=r
 obtain ⟨dx,h1,h2⟩:=id hr
 refine X24 (h1 a _ h) fun es n e1 e2 e3 e4=>?_
 refine X13 (ERs.dictOf (prog:=Γ.prog) (b.hO _ _ e1) e2 e3) fun kvs k1 k2 k3=>?_
 refine ⟨e4,kvs,k1,k2,k3,fun h' tk kvs' fs' hs hd g1 g2=>?_⟩
 refine X22 (ERs.back hd g1 g2) fun es' n' q1 q2=>?_
 refine ⟨N0.ins own a (W.dictOf es' n'),m,cs,b.write e1 (fun d o q e=>(hs.2 d q).trans e) q1,?_,lr⟩
 refine hr.write h rfl rfl (EI2 es' n' ⟨Y65,q2,?_,e4⟩)
 refine X36 hd fun U0 U1 U2 U3 U4 U5 U6 U7 hn=>?_; clear hd
 rw [← g1]; exact hn
theorem Cx.Rep.ownID (r:c.Rep G σ s) {a:Addr} {fs:List (Int × V)} (h:σ.hp a=some (.idd fs)):a≠1∧∃ kvs,s.heap.DictOf (intKind Γ.prog Γ.w) a kvs∧kvs.map (·.1)=fs.map (·.1)∧VRs G (kvs.map (·.2)) (fs.map (·.2)) ∧
  ∀ h' tk kvs' fs',Heap.SameBut a s.heap h'→h'.DictOf (intKind Γ.prog Γ.w) a kvs'→kvs'.map (·.1)=fs'.map (·.1)→VRs G (kvs'.map (·.2)) (fs'.map (·.2))→c.Rep G ⟨σ.loc,upd σ.hp a (.idd fs')⟩ { s with heap:=h',toks:=tk }:=by
 revert c r h; revert Γ fn n σ G s a fs; apply s8; generalize T1 _=Γ,T2 _=fn,T3 _=n,T4 _=σ,T5 _=G,T6 _=s,T7 _=a,T8 _=fs; intro c r h
 obtain ⟨own,m,cs,b,hr,lr⟩:=r
 obtain ⟨dx,h1,h2⟩:=id hr
 refine X24 (h1 a _ h) fun es n e1 e2 e3 e4=>?_
 refine X13 (IRs.dictOf (prog:=Γ.prog) (w:=Γ.w) (b.hO _ _ e1) e2 e3) fun kvs k1 k2 k3=>?_
 refine ⟨e4,kvs,k1,k2,k3,fun h' tk kvs' fs' hs hd g1 g2=>?_⟩
 refine X22 (IRs.back hd g1 g2) fun es' n' q1 q2=>?_
 refine ⟨N0.ins own a (W.dictOf es' n'),m,cs,b.write e1 (fun d o q e=>(hs.2 d q).trans e) q1,?_,lr⟩
 refine hr.write h rfl rfl (EI2 es' n' ⟨Y65,q2,?_,e4⟩)
 refine X36 hd fun U0 U1 U2 U3 U4 U5 U6 U7 hn=>?_; clear hd
 rw [← g1]; exact hn
theorem PE.itemSD {value slice:Expr} {p:Pos} {a:Addr} {fs:List (Str × V)} {x:Str} {u:V} (h1:PE Γ fn n σ value (.obj a)) (hi:σ.hp a=some (.sd fs)) (h2:PE Γ fn n σ slice (.str x)) (hl:look fs x=some u)
  (hs:NoSl slice:=by intro _ _; rfl):PE Γ fn n σ (.Subscript value slice p) u:=PE.sub2 h1 h2 fun c G s v w rep hv hw=>by
 obtain ⟨_,rfl⟩:=hw.inv
 obtain rfl:=hv.inv
 refine An2 (rep.ownSD hi) fun U0 Z0=>?_; refine X14 Z0 fun kvs k1 k2 k3 U1=>?_; clear Z0
 refine X12 ((KV.look (k:=x) k2 k3).2 u hl) fun w h3 h4=>?_
 exact kit <| tail_any k1.typeIs slot_dict_getitem.lookup (wpAny_getItem_of (strKind_is _ _ _ _) k1.mapOf h3 (.now rep.toks h4)) (hs _ _)
theorem PE.itemID {value slice:Expr} {p:Pos} {a:Addr} {fs:List (Int × V)} {x:Int} {u:V} (h1:PE Γ fn n σ value (.obj a)) (hi:σ.hp a=some (.idd fs)) (h2:PE Γ fn n σ slice (.int x)) (hl:look fs x=some u)
  (hs:NoSl slice:=by intro _ _; rfl):PE Γ fn n σ (.Subscript value slice p) u:=PE.sub2 h1 h2 fun c G s v w rep hv hw=>by
 obtain ⟨_,rfl⟩:=hw.inv
 obtain rfl:=hv.inv
 refine An2 (rep.ownID hi) fun U0 Z0=>?_; refine X14 Z0 fun kvs k1 k2 k3 U1=>?_; clear Z0
 refine X12 ((KV.look (k:=x) k2 k3).2 u hl) fun w h3 h4=>?_
 exact kit <| tail_any k1.typeIs slot_dict_getitem.lookup (wpAny_getItem_of (intKind_is _ _ _ _) k1.mapOf h3 (.now rep.toks h4)) (hs _ _)
theorem KV.some_ {K:Type} [DecidableEq K] {kvs:List (K × Value)} {fs:List (K × V)} {k:K} (h1:kvs.map (·.1)=fs.map (·.1)) (h2:VRs G (kvs.map (·.2)) (fs.map (·.2))):(valueAt kvs k).isSome=(N0.look fs k).isSome:=by
 obtain ⟨a,b⟩:=KV.look (k:=k) h1 h2
 cases q:N0.look fs k with
 | none=>rw [a q]; rfl
 | some u=>refine X12 (b u q) fun v e U0=>?_; rw [e]; rfl
theorem CmpOk.inSD {x:Str} {a:Addr} {fs:List (Str × V)} (hi:σ.hp a=some (.sd fs)):CmpOk Γ fn n σ .In (.str x) (.obj a) (look fs x).isSome:=⟨fun c G s v w rep hv hw=>by
 obtain ⟨_,rfl⟩:=hv.inv; obtain rfl:=hw.inv
 refine An2 (rep.ownSD hi) fun h1 Z0=>?_; refine X14 Z0 fun kvs k1 k2 k3 U0=>?_; clear Z0
 refine kit <| wpAny_in_of (strKind_is _ _ _ _) (beq_eq_false_iff_ne.mpr h1) k1.mapOf ?_
 rw [KV.some_ k2 k3]; exact .now rep.toks (.bool _)⟩
theorem CmpOk.notInSD {x:Str} {a:Addr} {fs:List (Str × V)} (hi:σ.hp a=some (.sd fs)):CmpOk Γ fn n σ .NotIn (.str x) (.obj a) (!(look fs x).isSome):=⟨fun c G s v w rep hv hw=>by
 obtain ⟨_,rfl⟩:=hv.inv; obtain rfl:=hw.inv
 refine An2 (rep.ownSD hi) fun h1 Z0=>?_; refine X14 Z0 fun kvs k1 k2 k3 U0=>?_; clear Z0
 refine kit <| wpAny_notIn_of (strKind_is _ _ _ _) (beq_eq_false_iff_ne.mpr h1) k1.mapOf ?_
 rw [KV.some_ k2 k3]; exact .now rep.toks (.bool _)⟩
theorem KV.len {K:Type} {kvs:List (K × Value)} {fs:List (K × V)} (h1:kvs.map (·.1)=fs.map (·.1)):kvs.length=fs.length:=by
 have:=congrArg List.length h1
 rwa [length_map,length_map] at this
theorem XTg.itemSD {value slice:Expr} {p:Pos} {a:Addr} {fs:List (Str × V)} {x:Str} {u:V} {QS:St→Prop} (h1:PE Γ fn n σ value (.obj a)) (hi:σ.hp a=some (.sd fs)) (h2:PE Γ fn n σ slice (.str x)) (hz:fs.length≤1000)
  (q:QS ⟨σ.loc,upd σ.hp a (.sd (put fs x u))⟩):XTg Γ fn n σ (.Subscript value slice p) u QS X:=⟨fun c G s v r hv=>by
 refine Y43 (wpAny_mono (h1.run c G s r) (Cx.RP.obj fun s₁ G₁ l₁ r₁ v₁=>?_) NoX.to)
 refine wpAny_mono (h2.run c G₁ s₁ r₁) (Cx.RP.str fun s₂ G₂ U0 l₂ r₂ v₂=>?_) NoX.to
 refine An2 (r₂.ownSD hi) fun U1 Z0=>?_; refine X14 Z0 fun kvs k1 k2 k3 k4=>?_; clear Z0
 obtain ⟨p1,p2⟩:=KV.put (k:=x) k2 k3 (hv.mono (l₁.trans l₂))
 have hl:=KV.len k2
 refine kit <| wpAny_setItem_pairs (strKind_is _ _ _ _) k1 (fun h' hd hs=>?_) (by rw [sizeLine_eq]; exact lA2 (eqL hl) hz)
 exact (EI2 G₂ _ ⟨l₁.trans l₂,k4 h' _ _ _ hs hd p1 p2,q⟩)⟩
theorem XTg.itemID {value slice:Expr} {p:Pos} {a:Addr} {fs:List (Int × V)} {x:Int} {u:V} {QS:St→Prop} (h1:PE Γ fn n σ value (.obj a)) (hi:σ.hp a=some (.idd fs)) (h2:PE Γ fn n σ slice (.int x)) (hz:fs.length≤1000)
  (q:QS ⟨σ.loc,upd σ.hp a (.idd (put fs x u))⟩):XTg Γ fn n σ (.Subscript value slice p) u QS X:=⟨fun c G s v r hv=>by
 refine Y43 (wpAny_mono (h1.run c G s r) (Cx.RP.obj fun s₁ G₁ l₁ r₁ v₁=>?_) NoX.to)
 refine wpAny_mono (h2.run c G₁ s₁ r₁) (Cx.RP.int fun s₂ G₂ U0 l₂ r₂ v₂=>?_) NoX.to
 refine An2 (r₂.ownID hi) fun U1 Z0=>?_; refine X14 Z0 fun kvs k1 k2 k3 k4=>?_; clear Z0
 obtain ⟨p1,p2⟩:=KV.put (k:=x) k2 k3 (hv.mono (l₁.trans l₂))
 have hl:=KV.len k2
 refine kit <| wpAny_setItem_pairs (intKind_is _ _ _ _) k1 (fun h' hd hs=>?_) (by rw [sizeLine_eq]; exact lA2 (eqL hl) hz)
 exact (EI2 G₂ _ ⟨l₁.trans l₂,k4 h' _ _ _ hs hd p1 p2,q⟩)⟩
theorem XE.dictS {p:Pos} {QV:V→St→Prop} (q:∀ a,σ.hp a=none→QV (.obj a) ⟨σ.loc,upd σ.hp a (.sd [])⟩):XE Γ fn n σ (.Dict [] [] p) QV X:=⟨fun c G s rep=>by
 refine kit <| wpAny_Dict_empty ?_
 obtain ⟨h1,h2⟩:=rep.allocO (ob:=.sd []) (o:={ cls:=.type "dict",data:=.dict #[] }) (tk:=s.toks) rfl rfl fun own=>(EI2 [] 0 ⟨Y65,.nil,nodup_nil,rep.not1⟩)
 exact ⟨G,_,_,.refl G,h2,.obj _,q _ h1⟩⟩
theorem XE.dictI {p:Pos} {QV:V→St→Prop} (q:∀ a,σ.hp a=none→QV (.obj a) ⟨σ.loc,upd σ.hp a (.idd [])⟩):XE Γ fn n σ (.Dict [] [] p) QV X:=⟨fun c G s rep=>by
 refine kit <| wpAny_Dict_empty ?_
 obtain ⟨h1,h2⟩:=rep.allocO (ob:=.idd []) (o:={ cls:=.type "dict",data:=.dict #[] }) (tk:=s.toks) rfl rfl fun own=>(EI2 [] 0 ⟨Y65,.nil,nodup_nil,rep.not1⟩)
 exact ⟨G,_,_,.refl G,h2,.obj _,q _ h1⟩⟩
theorem XE.dictCopy {x:Str} {p pos:Pos} {e:Expr} {a:Addr} {fs:List (Str × V)} {QV:V→St→Prop} (hf:PE Γ fn n σ (.Name x p) (.bi (.type "dict"))) (ha:PE Γ fn n σ e (.obj a)) (hi:σ.hp a=some (.sd fs)) (hz:fs.length≤1000)
  (q:∀ a,σ.hp a=none→QV (.obj a) ⟨σ.loc,upd σ.hp a (.sd fs)⟩) (hst:[e].all (fun e=>!isStarred e)=true:=by rfl):XE Γ fn n σ (.Call (.Name x p) [e] [] pos) QV X:=by
 revert hf ha hi hz q hst; revert Γ fn n σ X x p pos e a fs QV; apply s12; generalize T1 _=Γ,T2 _=fn,T3 _=n,T4 _=σ,T5 _=X,T6 _=x,T7 _=p,T8 _=pos,T9 _=e,T10 _=a,T11 _=fs,T12 _=QV; intro hf ha hi hz q hst
 exact .callB hf (.consP (QL:=fun xs τ=>xs=[.obj a]∧τ=σ) ha (.nil ⟨rfl,rfl⟩) hst) fun c G s vs xs τ r hv h=>by
   obtain ⟨rfl,rfl⟩:=h
   refine Ex1 hv.one fun v Z1=>?_; obtain ⟨rfl,h1⟩:=Z1
   obtain rfl:=h1.inv
   refine An2 (r.ownSD hi) fun lo Z0=>?_; refine X14 Z0 fun kvs k1 k2 k3 U0=>?_; clear Z0
   have hl:=KV.len k2
   refine kit <| kt_call_dict (beq_eq_false_iff_ne.mpr lo) k1 (by rw [sizeLine_eq]; exact lA2 (eqL hl) hz) fun h' hd hs=>?_
   refine X22 (ERs.back hd k2 k3) fun es n q1 q2=>?_
   obtain ⟨h1,h2⟩:=r.allocH (ob:=.sd fs) (o:=W.dictOf es n) (a:=s.heap.objs.size) (h':=h') (tk:=s.toks) (Heap.get?_none_of_le (le_refl _)) (fun b o e=>(hs.2 b (ne_of_lt (Heap.lt_size e))).trans (Heap.get?_push_of_some _ e)) q1 rfl
    fun own=>(EI2 es n ⟨Y65,q2,by rw [← k2]; refine X36 hd fun U1 U2 U3 U4 U5 U6 U7 U8 hn=>?_; clear hd; exact hn,r.not1⟩)
   exact ⟨G,_,_,.refl G,h2,.obj _,q _ h1⟩
theorem PE.sorted1 {x:Str} {p pos:Pos} {e:Expr} {a:Addr} {k:Str} {u:V} (hf:PE Γ fn n σ (.Name x p) (.bi (.builtin "sorted"))) (ha:PE Γ fn n σ e (.obj a)) (hi:σ.hp a=some (.sd [(k,u)])) (hst:isStarred e=false:=by rfl) :
  PE Γ fn n σ (.Call (.Name x p) [e] [] pos) (.lst [.str k]):=by
 revert hf ha hi hst; revert Γ fn n σ x p pos e a k u; apply s11; generalize T1 _=Γ,T2 _=fn,T3 _=n,T4 _=σ,T5 _=x,T6 _=p,T7 _=pos,T8 _=e,T9 _=a,T10 _=k,T11 _=u; intro hf ha hi hst
 exact PE.call hf (.cons ha .nil hst) fun c G s vs rep hv=>by
  refine Ex1 hv.one fun v Z1=>?_; obtain ⟨rfl,h1⟩:=Z1
  obtain rfl:=h1.inv
  refine An2 (rep.ownSD hi) fun lo Z0=>?_; refine X14 Z0 fun kvs k1 k2 k3 U0=>?_; clear Z0
  refine Ex2 rep.use fun m news U=>?_
  obtain ⟨ep,hat⟩:=k1.dictAt
  have hl:=KV.len k2
  refine kit <| kdu_sorted (kdl_dict (beq_eq_false_iff_ne.mpr lo)) rep.good.hh U.F U.N hat (by rw [hl,sizeLine_eq]; simp) fun D h' tk ws F' N' hlt hwl hws=>?_
  have hD:h'.get? D=some (seqObj "list" ws.toArray 0):=(N' _ (.head _)).1
  obtain ⟨w0,rfl⟩:∃ w0,ws=[w0]:=by
   have:ws.length=1:=by rw [hwl,hl]; rfl
   cases ws with
   | nil=>cases this
   | cons w0 r=>cases r with
    | nil=>exact ⟨w0,rfl⟩
    | cons _ _=>simp at this
  refine X22 (hws 0 w0 rfl) fun k' x' hk' hkk=>?_
  have hkey:k'=k:=by
   cases kvs with
   | nil=>simp at hk'
   | cons kv r=>simp at hk'; rw [map_cons,map_cons,List.cons.injEq] at k2; rw [hk'] at k2; exact k2.1
  subst hkey
  obtain ⟨t,rfl⟩:=Value.isStrOf_shape (show Value.isStrOf k' w0=true from hkk)
  refine wpAny_call_entry slot_list_sort ⟨_,hD,rfl⟩ entry_list_sort (list_sort_treeK (κ:=PyProof.Rows.strKind) strKind_oneLt hD ?_ (fun _ _ _ e=>by simp at e) (by simp) fun st' hp hs=>⟨_,rfl,?_⟩) (args_list_sort _)
  ·intro q hq
   simp [pairsOf] at hq
   subst hq
   exact ⟨_,rfl⟩
  ·have hout:((arrOf st').map (·.2)) = #[Value.str k' t]:=by
    have hp':(arrOf st').toList.Perm [(Value.str k' t,Value.str k' t)]:=by
     have:=Array.perm_iff_toList_perm.mp hp
     simpa [pairsOf] using this
    have:=List.perm_singleton.mp hp'
    apply ext'
    rw [Array.toList_map,this]; rfl
   rw [hout]
   obtain ⟨e,he⟩:=sortedHeap_at (vs:=[Value.str k' t]) (out:=#[Value.str k' t]) hD
   have old:∀ b o,b≠D→h'.get? b=some o→(sortedHeap h' D [Value.str k' t] #[Value.str k' t]).get? b=some o:=fun b o q z=>by
    rw [sortedHeap_old q (Heap.lt_size z)]; exact z
   have F'':Fr Γ.B c.env.locals (sortedHeap h' D [Value.str k' t] #[Value.str k' t]) m:=by
    have hLD:c.env.locals≠D:=fun q=>(N' _ (.head _)).2.1 q.symm
    refine ⟨?_,fun b o z=>?_,F'.above⟩
    ·refine X32 F'.ns fun o es ep h4 h5=>?_
     exact (EI3 o es ep ⟨old _ _ hLD h4,h5⟩)
    ·have hbD:b≠D:=fun q=>by have:=(N' _ (.head _)).2.2; rw [← q,z] at this; cases this
     exact old _ _ hbD (F'.keep b o z)
   have N'':News Γ.B c.env.locals (sortedHeap h' D [Value.str k' t] #[Value.str k' t]) ((D,seqObj "list" #[Value.str k' t] e) :: news):=fun q hq=>by
    rcases List.mem_cons.mp hq with rfl | hq
    ·exact ⟨he,(N' _ (.head _)).2.1,(N' _ (.head _)).2.2⟩
    ·have z:=N' q (.tail _ hq)
     exact ⟨old _ _ (ne_of_lt (hlt q hq)) z.1,z.2⟩
   have hfresh:s.heap.get? D=Option.none:=by
    cases z:s.heap.get? D with
    | none=>rfl
    | some o=>exact absurd (hlt _ (U.full D o z (N' _ (.head _)).2.1 (N' _ (.head _)).2.2)) (lt_irrefl _)
   obtain ⟨r',le⟩:=U.put _ tk D _ hfresh F'' N''
   exact .mk le r' (.lst (vs:=[Value.str k' t]) Y65 rfl rfl (.cons (.str _ _) .nil))
end
structure XOk (Γ:Gam):Prop where
 ex:∃ nm q N bs bm hdct sn sub ab col dd k0 k1 k2 k3 k5,Γ.B.get? Γ.xc=some (excClassObj nm q Γ.xc N bs bm hdct sn sub ab col dd k0 k1 k2 k3 k5 "Exception.__new__")∧(∃ mN,Γ.B.Ns N mN∧mN "__init__" = none) ∧
  OwnTail Γ.B [.type "Exception",.type "BaseException",.type "object"] bm∧bm.contains (.type "BaseException")=true
 keep:keepIn Γ.K (.ref Γ.xc)=true
section
variable {Γ:Gam} {fn:FnS} {n:Nat} {σ:St} {env:Env} {G:PH} {s:Shared} {c:Cx Γ fn n} {Q:AF→St→Prop} {X:St→Prop} {ss:List Stmt}
theorem XT.raise {x:Str} {np cpos pos:Pos} {args:List Expr} {xs:List V} {QT:AF→St→Prop} (hx:XOk Γ) (hf:PE Γ fn n σ (.Name x np) (.obj Γ.xc)) (ha:PEs Γ fn n σ args xs) (hz:xs.length≤10) (q:X σ) :
  XT Γ fn n (.Raise (some (.Call (.Name x np) args [] cpos)) Option.none pos) σ QT X:=by
 revert hx hf ha hz q; revert Γ fn n σ X x np cpos pos args xs QT; apply s12; generalize T1 _=Γ,T2 _=fn,T3 _=n,T4 _=σ,T5 _=X,T6 _=x,T7 _=np,T8 _=cpos,T9 _=pos,T10 _=args,T11 _=xs,T12 _=QT; intro hx hf ha hz q
 refine ⟨fun c G s rep=>?_⟩
 revert c G s; apply s3; generalize T1 _=c,T2 _=G,T3 _=s; intro rep
 refine Ex8 hx.ex fun nm qq N bs bm hdct sn sub Z0=>?_; refine Ex8 Z0 fun ab col dd k0 k1 k2 k3 k5 Z1=>?_; clear Z0; refine An4 Z1 fun e1 Z2 e4 e5=>?_; clear Z1; refine X12 Z2 fun mN e2 e3=>?_; clear Z2
 revert e1 e4 e5 e2 e3; revert nm qq N bs bm hdct sn sub ab col dd k0 k1 k2 k3 k5 mN; apply s12; generalize T1 _=nm,T2 _=qq,T3 _=N,T4 _=bs,T5 _=bm,T6 _=hdct,T7 _=sn,T8 _=sub,T9 _=ab,T10 _=col,T11 _=dd,T12 _=k0; apply s5; generalize T1 _=k1,T2 _=k2,T3 _=k3,T4 _=k5,T5 _=mN; intro e1 e4 e5 e2 e3
 rw [arm_exec_Raise]
 refine Y4 (Y7 ?_)
 show wpAny _ _ ((do let v ← eval (.Call (.Name x np) args [] cpos) c.env; standAt pos; pure v) >>= fun v=>raiseStmt c.env (some (pure v)) Option.none) _ _ _
 refine seq (P:=fun v s₁=>∃ e t G₁,v=.ref e∧s₁.heap.get? e=some { cls:=.ref Γ.xc,data:=.fields #[.ref t,.none,.none,.none,.bool false,.none] }∧PLe G G₁∧RepX c.Good Γ fn c.env c.fr G₁ σ (.ref e) s₁∧c.Rep G₁ σ s₁) ?_ fun v s₁ h=>?_
 ·refine Y4 (wpAny_mono (Q:=fun v s₁=>∃ e t G₁,v=.ref e∧s₁.heap.get? e=some { cls:=.ref Γ.xc,data:=.fields #[.ref t,.none,.none,.none,.bool false,.none] }∧PLe G G₁∧RepX c.Good Γ fn c.env c.fr G₁ σ (.ref e) s₁∧c.Rep G₁ σ s₁) (Y69 (wpAny_mono (hf.run c G s rep) (Cx.RP.obj fun s₁ G₁ l₁ r₁ v₁=>?_) NoX.to)) (fun v s₁ h=>Y4 (Y7 (wpAny_pure h))) fun _ _ q=>q)
  revert s₁ G₁; apply s2; generalize T1 _=s₁,T2 _=G₁; intro l₁ r₁ v₁
  refine Y84 (K:=Γ.K) hx.keep (ha.plain _ _) (wpAny_mono (ha.run c G₁ s₁ cpos r₁) (fun vs s₂ q=>?_) NoX.to)
  revert vs s₂; apply s2; generalize T1 _=vs,T2 _=s₂; intro q
  refine X13 q fun G₂ l₂ r₂ v₂=>?_; clear q
  exists G₂; intro l₂ r₂ v₂
  refine ⟨r₂.K,?_⟩
  have g:=r₂.ground
  have hlen:=v₂.length
  obtain ⟨hp,gg,d,tk,os⟩:=s₂
  revert hp gg d tk os; apply s5; generalize T1 _=hp,T2 _=gg,T3 _=d,T4 _=tk,T5 _=os; intro r₂ g
  refine kit <| wpAny_call_exc_subT (hrest:=by rw [nil_append,sizeLine_eq]; exact lA2 (eqL hlen) hz) PySem.F.excBase_Exception (e4.keeps g) (g _ _ e1) (e2.keeps g) e3 fun h' e hm=>?_
  revert h' e; apply s2; generalize T1 _=h',T2 _=e; intro hm
  refine Y2 ?_; rintro G0 hG0; obtain ⟨hk,hn,t,h1,h2,h3⟩:=hm; refine hG0 ?_; clear hG0
  exists t; intro h1 h2 h3
  have r₃:c.Rep G₂ σ ⟨h',gg,d,tk,os⟩:=r₂.grown (tk:=tk) hk
  refine (EI3 e t G₂ ⟨rfl,h1,l₁.trans l₂,?_,r₃⟩)
  obtain ⟨own,m,cs,b,hr,lr⟩:=r₂
  revert own m cs; apply s3; generalize T1 _=own,T2 _=m,T3 _=cs; intro b hr lr
  obtain ⟨own',m',cs',b',hr',lr'⟩:=r₃
  have b3:Base Γ G₂ own (⟨c.env,m,cs,fn.comp⟩ :: c.fr) ⟨h',gg,d,tk,os⟩:=b.kept (tk:=tk) (b.L.ns.keeps hk) fun a o _ e=>hk a o e
  exact (EI5 own m cs e Option.none ⟨b3,hr,lr,rfl,⟨_,_,_,h1,rfl,rfl,rfl,b.freshOff hn,rfl⟩,.inl rfl⟩)
 ·revert v s₁; apply s2; generalize T1 _=v,T2 _=s₁; intro h
  refine Ex3 h fun e t G₁ Z4=>?_; clear h; obtain ⟨rfl,Z3⟩:=Z4; refine An4 Z3 fun h1 l₁ rx r₁=>?_; clear Z3
  have g:=r₁.ground
  exact of (wpAny_raiseStmt_made_sub (x:=pure (Value.ref e)) e5 rep.good.hh (PySem.wpAny_pure (EI2 e t ⟨rfl,g _ _ e1,h1,G₁,σ,l₁,rx,q⟩)))
theorem XS.raise {x:Str} {np cpos pos:Pos} {args:List Expr} {xs:List V} (hx:XOk Γ) (hf:PE Γ fn n σ (.Name x np) (.obj Γ.xc)) (ha:PEs Γ fn n σ args xs) (hz:xs.length≤10) (q:X σ) :
  XS Γ fn n (.Raise (some (.Call (.Name x np) args [] cpos)) Option.none pos :: ss) σ Q X:=.cons (.raise hx hf ha hz q)
theorem XS.try1 (k:Nat) {x y:Str} {np yp hp kp sp pos:Pos} {kk:Nat} {b:Bool} {body:List Stmt} {X':St→Prop} (hc:fn.comp=false) (hx:XOk Γ) {j:Nat} (hf:fn.names[j]?=some (x,.globalImplicit)) (hg:nsIn Γ.K mainGlobals x=some (some (.ref Γ.xc)))
  (hn:fn.names[k]?=some (y,.local))
  (hb:XS Γ fn n body σ (Then Γ fn n ss Q X) X') (he:∀ τ,X' τ→XS Γ fn n ss ⟨τ.loc.set k (some (.bool b)),τ.hp⟩ Q X) :
  XS Γ fn n (.Try body [.ExceptHandler (some (.Name x np)) Option.none [.Assign [.Name y yp] (.Constant (.bool b) kk kp) sp] hp] [] [] pos :: ss) σ Q X:=by
 revert hc hx hf hg hn hb he; revert Γ fn n σ Q X ss k x y np yp hp kp sp pos kk b body X' j; apply s12; generalize T1 _=Γ,T2 _=fn,T3 _=n,T4 _=σ,T5 _=Q,T6 _=X,T7 _=ss,T8 _=k,T9 _=x,T10 _=y,T11 _=np,T12 _=yp; apply s9; generalize T1 _=hp,T2 _=kp,T3 _=sp,T4 _=pos,T5 _=kk,T6 _=b,T7 _=body,T8 _=X',T9 _=j; intro hc hx hf hg hn hb he
 refine .cons ⟨fun c G s rep=>?_⟩
 revert c G s; apply s3; generalize T1 _=c,T2 _=G,T3 _=s; intro rep
 refine Ex8 hx.ex fun nm qq N bs bm hdct sn sub Z0=>?_; refine Ex8 Z0 fun ab col dd k0 k1 k2 k3 k5 Z1=>?_; clear Z0; refine An4 Z1 fun e1 Z2 e4 e5=>?_; clear Z1; refine X12 Z2 fun mN e2 e3=>?_; clear Z2
 revert e1 e4 e5 e2 e3; revert nm qq N bs bm hdct sn sub ab col dd k0 k1 k2 k3 k5 mN; apply s12; generalize T1 _=nm,T2 _=qq,T3 _=N,T4 _=bs,T5 _=bm,T6 _=hdct,T7 _=sn,T8 _=sub,T9 _=ab,T10 _=col,T11 _=dd,T12 _=k0; apply s5; generalize T1 _=k1,T2 _=k2,T3 _=k3,T4 _=k5,T5 _=mN; intro e1 e4 e5 e2 e3
 rw [arm_exec_Try]
 refine Y4 (Y7 ?_)
 unfold tryStmt
 simp only [List.isEmpty_nil,if_true,List.isEmpty_cons,Bool.false_and,false_eq_true,if_false]
 refine Y4 (Y5 (wpAny_mono (hb.run c G s rep) (fun f s₁ h=>?_) fun e s₁ h=>?_))
 ·revert f s₁; apply s2; generalize T1 _=f,T2 _=s₁; intro h
  obtain ⟨G₁,af,τ,l₁,r₁,hf',hq⟩:=h
  revert G₁ af τ; apply s3; generalize T1 _=G₁,T2 _=af,T3 _=τ; intro l₁ r₁ hf' hq
  cases hf' with
  | next=>exact wpAny_execs_nil (.mk l₁ r₁ .next hq)
  | brk=>exact wpAny_pure (.mk l₁ r₁ .brk hq)
  | cont=>exact wpAny_pure (.mk l₁ r₁ .cont hq)
  | ret hv=>exact wpAny_pure (.mk l₁ r₁ (.ret hv) hq)
 ·revert e s₁; apply s2; generalize T1 _=e,T2 _=s₁; intro h
  refine Y2 ?_; rintro G0 hG0; obtain ⟨G₁,τ,l₁,⟨own,m,cs,a,fl,b0,hr,lr,rfl,xa,hfl⟩,hX⟩:=h; refine hG0 ?_; clear hG0
  revert l₁ hX b0 hr lr xa hfl; revert G₁ τ own m cs a fl; apply s7; generalize T1 _=G₁,T2 _=τ,T3 _=own,T4 _=m,T5 _=cs,T6 _=a,T7 _=fl; intro l₁ hX b0 hr lr xa hfl
  refine kit <| PySem.wpAny_bind (Y79 b0 hc (lr.3.frames hc) xa hfl fun h' b1 x1=>?_)
  exists h'; intro b1 x1
  refine PySem.wpAny_bind (Y80 b1 x1 Option.none fun h₂ b2 x2=>?_)
  exists h₂; intro b2 x2
  refine wpAny_handleBy_cons (codeAny_handlers_test ?_) (by intro q; cases q)
  have hG:=Γ.hT.g.keeps (h':=h₂) fun a o e=>b2.hG a o (b2.hB a o e)
  refine Name_function_global (lr.3.eo.fun_ lr.3.ok) (lr.3.eo.kindOf lr.3.ok hf) ?_ (Y62 lr.3.ok hf)
  refine loadGlobal_global (mg:=Γ.mg) (by rw [lr.3.eo.glob lr.3.ok]; exact hG) (mg_of Γ.hK Γ.hT.g hg) ?_
  have hC:h₂.get? Γ.xc=_:=b2.hG _ _ (b2.hB _ _ e1)
  have x2':=x2
  refine Ex3 x2' fun oe vs a0 Z3=>?_; clear x2'; refine An6 Z3 fun q1 q2 q3 q4 q5 q6=>?_; clear Z3
  revert oe vs a0; apply s3; generalize T1 _=oe,T2 _=vs,T3 _=a0; intro q1 q2 q3 q4 q6
  obtain ⟨sh,sg,sd,st,so⟩:=s₁
  revert sh sg sd st so; apply s5; generalize T1 _=sh,T2 _=sg,T3 _=sd,T4 _=st,T5 _=so; intro b0 xa b1 b2
  refine wpAny_excMatches_sub_self hC q1 q2 e5 ?_
  show PySem.codeAny _ _ _ _ _
  refine codeAny_handlers_suite (Y80 b2 x2 Option.none fun h₃ b3 x3=>?_)
  exists h₃; intro b3 x3
  refine PySem.wpAny_execs_cons ?_
  rw [Y87 (t:=.Name y yp) (e:=.Constant (.bool b) kk kp) (q:=sp)]
  refine PySem.wpAny_bind (PySem.wpAny_standAt (PySem.wpAny_bind (m:=eval (.Constant (.bool b) kk kp) c.env) (PySem.wpAny_pure (a:=Value.bool b) (PySem.wpAny_bind (PyProof.Rows.assign_Name ?_)))))
  refine wpAny_storeName_local (lr.3.eo.kindOf lr.3.ok hn) b3.L.ns (fun h₄ hn' hs=>PySem.wpAny_pure (PySem.wpAny_execs_nil ?_)) (by rw [lr.3.eo.fun_ lr.3.ok]; rfl)
  refine Cx.SP.mk (c:=c) (σ':=⟨τ.loc.set k (some (.bool b)),τ.hp⟩) l₁ ⟨own,_,cs,b3.kept hn' fun a o q e=>(hs.2 a q).trans e,hr,lr.set lr.3.ok hn (.bool b)⟩ .next (he τ hX)
end
theorem lkp {β:Type} {l:List (Str × β)} (hn:(l.map (·.1)).Nodup) {x:Str} {b:β} (h:(x,b)∈l):l.lookup x=some b:=by
 induction l with
 | nil=>cases h
 | cons p r ih =>
  obtain ⟨y,d⟩:=p
  rw [map_cons,nodup_cons] at hn
  rw [lookup_cons]
  rcases List.mem_cons.mp h with e | h
  ·cases e; simp
  ·have:(x == y)=false:=by
    rw [beq_eq_false_iff_ne]
    intro q
    exact hn.1 (q▸mem_map_of_mem (f:=(·.1)) h)
   rw [this]
   exact ih hn.2 h
theorem eq_52 {α:Type} {P:List α→Prop} {vs:List α} (h:vs.length=0) (k:P []):P vs:=by rw [List.eq_nil_of_length_eq_zero h]; exact k
theorem eq_53 {α:Type} {P:List α→Prop} {vs:List α} {n:Nat} (h:vs.length=n+1) (k:∀ (x:α) (t:List α),t.length=n→P (x :: t)):P vs:=by
 cases vs with
 | nil=>cases h
 | cons x t=>exact k x t (Nat.succ.inj h)
theorem eq_54 {α:Type} {P:List α→Prop} {vs:List α} (h:vs.length=1) (k:∀ x0,P [x0]):P vs:=eq_53 h fun x t h=>eq_52 (P:=fun t=>P (x :: t)) h (k x)
theorem el2 {α:Type} {P:List α→Prop} {vs:List α} (h:vs.length=2) (k:∀ x0 x1,P [x0,x1]):P vs:=eq_53 h fun x0 t h=>eq_54 (P:=fun t=>P (x0 :: t)) h (k x0)
theorem eq_55 {α:Type} {P:List α→Prop} {vs:List α} (h:vs.length=3) (k:∀ x0 x1 x2,P [x0,x1,x2]):P vs:=eq_53 h fun x0 t h=>el2 (P:=fun t=>P (x0 :: t)) h (k x0)
theorem eq_56 {α:Type} {P:List α→Prop} {vs:List α} (h:vs.length=4) (k:∀ x0 x1 x2 x3,P [x0,x1,x2,x3]):P vs:=eq_53 h fun x0 t h=>eq_55 (P:=fun t=>P (x0 :: t)) h (k x0)
theorem eq_57 {α:Type} {P:List α→Prop} {vs:List α} (h:vs.length=5) (k:∀ x0 x1 x2 x3 x4,P [x0,x1,x2,x3,x4]):P vs:=eq_53 h fun x0 t h=>eq_56 (P:=fun t=>P (x0 :: t)) h (k x0)
theorem eq_58 {α:Type} {P:List α→Prop} {vs:List α} (h:vs.length=6) (k:∀ x0 x1 x2 x3 x4 x5,P [x0,x1,x2,x3,x4,x5]):P vs:=eq_53 h fun x0 t h=>eq_57 (P:=fun t=>P (x0 :: t)) h (k x0)
theorem eq_59 {α:Type} {P:List α→Prop} {vs:List α} (h:vs.length=7) (k:∀ x0 x1 x2 x3 x4 x5 x6,P [x0,x1,x2,x3,x4,x5,x6]):P vs:=eq_53 h fun x0 t h=>eq_58 (P:=fun t=>P (x0 :: t)) h (k x0)
theorem eq_60 {α:Type} {P:List α→Prop} {vs:List α} (h:vs.length=8) (k:∀ x0 x1 x2 x3 x4 x5 x6 x7,P [x0,x1,x2,x3,x4,x5,x6,x7]):P vs:=eq_53 h fun x0 t h=>eq_59 (P:=fun t=>P (x0 :: t)) h (k x0)
theorem BindOk.plain {Γ:Gam} {fn:FnS} {xs:List V} {ps:List Str} {rest:List (Str × NameKind)} (h1:fn.names=ps.map (·,NameKind.local)++rest) (hn:(fn.names.map (·.1)).Nodup) (hl:xs.length=ps.length)
  (h2:∀ vs:List Value,vs.length=ps.length→bindArgs fn.fd ⟨vs,[]⟩=pure (ps.zip vs)):BindOk Γ fn xs (xs.map some++rest.map fun _=>none):=by
 refine ⟨fun s G vs hB hv=>?_⟩
 revert h1 hn hl h2 hB hv; revert Γ fn xs ps rest s G vs; apply s8; generalize T1 _=Γ,T2 _=fn,T3 _=xs,T4 _=ps,T5 _=rest,T6 _=s,T7 _=G,T8 _=vs; intro h1 hn hl h2 hB hv
 have hlen:=hv.length
 refine ⟨ps.zip vs,.of_eq (h2 vs (le_antisymm (lA2 (eqL hlen) (eqL hl)) (lA2 (eqG hl) (eqG hlen)))),fun y hy=>?_,fun k x kd u e1 e2=>?_⟩
 ·exists y; intro hy
  have hm:y.1∈ps:=(List.of_mem_zip hy).1
  refine lkp hn ?_
  rw [h1]
  exact mem_append_left _ (List.mem_map.mpr ⟨y.1,hm,rfl⟩)
 ·revert k x kd u; apply s4; generalize T1 _=k,T2 _=x,T3 _=kd,T4 _=u; intro e1 e2
  have hk:k<xs.length:=by
   rcases lt_or_ge k xs.length with h | h
   ·exact h
   ·rw [List.getElem?_append_right (by rw [length_map]; exact h),getElem?_map] at e2
    refine X12 (Option.map_eq_some_iff.mp e2) fun U0 U1 h=>?_
    cases h
  rw [getElem?_append_left (by rw [length_map]; exact hk),getElem?_map] at e2
  refine X12 (Option.map_eq_some_iff.mp e2) fun u' hu e=>?_
  exists u'; intro hu e
  obtain rfl:=Option.some.inj e
  rw [h1,getElem?_append_left (by rw [length_map]; exact sA2 (lsl hk) (eqL hl)),getElem?_map] at e1
  exists u'; intro hu e2 e
  refine X12 (Option.map_eq_some_iff.mp e1) fun p hp e=>?_
  exists p; intro hp e
  cases e
  refine X12 (hv.get hu) fun v hv1 hv2=>?_
  exists v; intro hv1 hv2
  refine ⟨rfl,v,?_,hv2⟩
  have hz:(ps.zip vs)[k]?=some (x,v):=by rw [List.getElem?_zip_eq_some]; exact ⟨hp,hv1⟩
  have hps:ps.Nodup:=by
   rw [h1,map_append,List.map_map] at hn
   have:=(List.nodup_append.mp hn).1
   simpa [Function.comp_def] using this
  have hnd:(((ps.zip vs).reverse).map (·.1)).Nodup:=by
   rw [List.map_reverse,List.map_fst_zip (lA2 (eqG hl) (eqG hlen))]
   exact List.pairwise_reverse.mpr (hps.imp fun h q=>h q.symm)
  exact lkp hnd (List.mem_reverse.mpr (mem_of_getElem? hz))
structure BindOkC (Γ:Gam) (fn:FnS) (xs:List V) (loc:List (Option V)):Prop where
 run:∀ (s:Shared) (G:PH) (vs:List Value),(∀ a o,Γ.B.get? a=some o→s.heap.get? a=some o)→VRs G vs xs→∃ binds,bindArgs fn.fd ⟨vs,[]⟩=pure binds∧(∀ y∈binds,fn.names.lookup y.1=some .local∨fn.names.lookup y.1=some .cell) ∧
  ∀ (k:Nat) (x:Str) (kd:NameKind) (u:V),fn.names[k]?=some (x,kd)→loc[k]?=some (some u)→(kd=.local∧∃ v,bindL (fun y=>fn.names.lookup y) binds (fun _=>none) x=some v∧VR G v u)∨(kd=.cell∧∃ v,bindC (fun y=>fn.names.lookup y) binds (fun _=>none) x=some v∧VR G v u)
theorem Y104 {x:Str}:∀ {names:List (Str × NameKind)} {n:Nat} {acc:List (Str × Addr)},((x,NameKind.cell)∈names∨∃ c,(x,c)∈acc)→∃ c,(x,c)∈cellsFrom n names acc
 | [],_,_,h=>by
  rcases h with h | h
  ·cases h
  ·exact h
 | (y,k) :: r,n,acc,h=>by
  unfold cellsFrom
  split
  ·refine Y104 ?_
   rcases h with h | ⟨c,h⟩
   ·rcases List.mem_cons.mp h with e | h
    ·cases e; exact .inr ⟨n,.head _⟩
    ·exact .inl h
   ·exact .inr ⟨c,.tail _ h⟩
  ·refine Y104 ?_
   rcases h with h | h
   ·rcases List.mem_cons.mp h with e | h
    ·cases e; rename_i q; exact absurd rfl q
    ·exact .inl h
   ·exact .inr h
theorem Y105 {names:List (Str × NameKind)}:∀ {n:Nat} {acc:List (Str × Addr)},((names.map (·.1)).Nodup)→(acc.map (·.1)).Nodup→(∀ x∈names.map (·.1),x∉acc.map (·.1))→((cellsFrom n names acc).map (·.1)).Nodup:=by
 induction names with
 | nil=>intro n acc _ h _; exact h
 | cons p r ih =>
  intro n acc h1 h2 h3
  obtain ⟨y,k⟩:=p
  rw [map_cons,nodup_cons] at h1
  unfold cellsFrom
  split
  ·refine ih h1.2 ?_ fun x hx=>?_
   ·rw [map_cons,nodup_cons]
    exact ⟨h3 y (.head _),h2⟩
   ·rw [map_cons,mem_cons,not_or]
    exact ⟨fun q=>h1.1 (q▸hx),h3 x (.tail _ hx)⟩
  ·exact ih h1.2 h2 fun x hx=>h3 x (.tail _ hx)
theorem Y106 {l:List (Str × Addr)} {x:Str} {c:Addr} (h:(x,c)∈l):∃ c',l.lookup x=some c':=by
 induction l with
 | nil=>cases h
 | cons p r ih =>
  obtain ⟨y,d⟩:=p
  rw [lookup_cons]
  cases q:x == y with
  | true=>exact ⟨d,rfl⟩
  | false =>
   rcases List.mem_cons.mp h with e | h
   ·cases e; simp at q
   ·exact ih h
theorem FC.introC {Γ:Gam} {n:Nat} {fn:FnS} {xs:List V} {hp:HP} {Q:V→HP→Prop} {X:HP→Prop} {loc:List (Option V)} (ok:FnOk Γ fn) (hc:fn.comp=false) (hcl:fn.fd.closure=[])
  (hb:BindOkC Γ fn xs loc) (h:XS Γ fn n fn.body ⟨loc,hp⟩ (bodyPost Q) (fun τ=>X τ.hp)):FC Γ (n+1) fn.addr xs hp Q X:=by
 revert ok hc hcl hb h; revert Γ n fn xs hp Q X loc; apply s8; generalize T1 _=Γ,T2 _=n,T3 _=fn,T4 _=xs,T5 _=hp,T6 _=Q,T7 _=X,T8 _=loc; intro ok hc hcl hb h
 refine ⟨fun A s G own frs vs ha hreal hsz b hr hv=>?_⟩
 revert A s G own frs vs; apply s6; generalize T1 _=A,T2 _=s,T3 _=G,T4 _=own,T5 _=frs,T6 _=vs; intro ha hreal hsz b hr hv
 have hB:∀ a o,Γ.B.get? a=some o→s.heap.get? a=some o:=fun a o e=>b.hG a o (b.hB a o e)
 refine Ex3 (ok.at_ hc) fun oc od osl ho=>?_
 revert oc od osl; apply s3; generalize T1 _=oc,T2 _=od,T3 _=osl; intro ho
 refine X13 (hb.run s G vs hB hv) fun binds hbt hloc hlr=>?_
 exists binds; intro hbt hloc hlr
 have hcells:∀ x,fn.names.lookup x=some .cell→∃ c,(cellsFrom (s.heap.objs.size+1) fn.fd.scope.names []).lookup x=some c:=fun x hx=>by
  obtain ⟨c,hm⟩:=Y104 (n:=s.heap.objs.size+1) (names:=fn.fd.scope.names) (acc:=[]) (.inl (PySem.mem_of_lookup hx))
  exact Y106 hm
 refine Y50 (body:=fn.body) (by have:=ha.depth; unfold recursionLimit; exact sA1 this) (hB _ _ (Γ.hK _ _ ho)) rfl ok.co ok.gen (ok.body hc) ((codeRec_of Γ.hK (ok.code hc)).keeps hB) ?_
 rw [hbt,hcl]
 refine wpAny_pure (of (wpAny_newFunctionEnv_cells ok.kind (fun x hx=>?_) fun env he s' x=>?_))
 ·exists x; intro hx
  rcases hloc x hx with e | e
  ·exact .inl e
  ·obtain ⟨c,hc⟩:=hcells x.1 e
   exact .inr ⟨e,by rw [hc]; rfl⟩
 subst he
 exists s'; intro x
 let env:=callEnvC fn.fd s.heap.objs.size fn.addr
 change InCallC s env.locals (bindL env.kindOf binds fun _=>none) env.cells (bindC env.kindOf binds fun _=>none) s' at x
 have eo:EnvOk fn env:=⟨rfl,rfl,rfl,fun _=>⟨_,_,rfl⟩⟩
 have ao:AOk n (A.deeper env) (env :: frs.map (·.env)):=⟨Around.frames_deeper ha.frames,ha.handled,by have:=ha.depth; show A.depth+1+n≤900; exact lA1 this,by have:=ha.units; show A.units+3+10*n≤9000; exact lA1 this⟩
 let c:Cx Γ fn n:=⟨A.deeper env,env,frs⟩
 refine Ex2 x.toInCall.same fun h₁ tk Z0=>?_; obtain rfl:=Z0
 have hnd:(env.cells.map (·.1)).Nodup:=Y105 (by exact ok.nd) nodup_nil fun _ _ h=>nomatch h
 have b₀:Base Γ G own (⟨env,bindL env.kindOf binds fun _=>none,bindC env.kindOf binds fun _=>none,false⟩ :: frs) { s with heap:=h₁,toks:=tk }:=by
  refine b.push hreal hsz rfl rfl ok.kind x.toInCall.ns x.toInCall.keep (fun y d hm=>⟨x.above y d hm,x.cell y d (lookup_of_mem_nodup hnd hm)⟩) hnd ?_
  have:=x.apart
  rw [List.Nodup,List.pairwise_map]
  exact this
 have r₀:c.Rep G ⟨loc,hp⟩ { s with heap:=h₁,toks:=tk }:=by
  refine ⟨own,_,_,by rw [hc]; exact b₀,hr,fun k y kd u h1 h2=>?_,fun k y h1=>?_,⟨ok,eo,by rw [hc]; exact ao⟩⟩
  ·rcases hlr k y kd u h1 h2 with ⟨rfl,v,h3,h4⟩ | ⟨rfl,v,h3,h4⟩
   ·exact ⟨v,h3,h4⟩
   ·obtain ⟨d,hd⟩:=hcells y (Y61 ok.nd h1)
    exact (EI2 d v ⟨hd,h3,h4⟩)
  ·exact hcells y (Y61 ok.nd h1)
 refine ⟨Γ.hT.nolimit.keeps fun a o e=>x.toInCall.keep a o (hB a o e),Y49 ?_⟩
 refine wpAny_mono (h.run c G _ r₀) (fun f s' q=>?_) fun e s' q=>?_
 ·obtain ⟨G',af,σ',l,⟨own',m',cs',b',hr',lr'⟩,hf,hq⟩:=q
  rw [hc] at b'
  cases hf with
  | next=>exact ⟨G',own',_,.none,l,b'.pop,hr',.none,hq⟩
  | brk=>exact hq.elim
  | cont=>exact hq.elim
  | ret hv=>exact ⟨G',own',_,_,l,b'.pop,hr',hv,hq⟩
 ·refine Y2 ?_; rintro G0 hG0; obtain ⟨G',σ',l,⟨own',m',cs',a,fl,b',hr',lr',rfl,x,hfl⟩,hx⟩:=q; refine hG0 ?_; clear hG0
  rw [hc] at b' x
  refine kit <| Y82 (f:=⟨env,m',cs',false⟩) b' rfl (Around.frames_deeper ha.frames) x hfl fun h' b'' x''=>?_
  exact ⟨G',own',_,a,l,b''.pop,hr',rfl,x''.pop,hx⟩
structure CK (G:PH) (cl:List (Str × Addr)) (C:Addr) (x:Str) (xv:V) (fv:List (Str × V)) (s:Shared):Prop where
 g:∀ a o,G a=some o→s.heap.get? a=some o
 loc:∃ m v,s.heap.Ns C m∧m x=some v∧VR G v xv
 free:∀ y u,(y,u)∈fv→∃ a v,cl.lookup y=some a∧s.heap.IsCell a (some v)∧VR G v u
theorem CK.keeps {G:PH} {cl:List (Str × Addr)} {C:Addr} {x:Str} {xv:V} {fv:List (Str × V)} {s s':Shared} (h:CK G cl C x xv fv s) (k:Keeps s s'):CK G cl C x xv fv s':=by
 refine Ex2 k fun h' tk Z0=>?_; clear k; obtain ⟨rfl,hk⟩:=Z0
 refine ⟨fun a o e=>hk a o (h.g a o e),?_,fun y u hy=>?_⟩
 ·refine X22 h.loc fun m v h1 h2=>?_
  exact (EI2 m v ⟨h1.keeps hk,h2⟩)
 ·refine X23 (h.free y u hy) fun a v h1 h2 h3=>?_
  exact (EI2 a v ⟨h1,h2.keeps hk,h3⟩)
structure CEnv (x:Str) (fv:List (Str × V)) (cl:List (Str × Addr)) (C:Addr) (env:Env):Prop where
 kind:env.scope.kind=.function
 loc:env.kindOf x=some .local
 free:∀ y u,(y,u)∈fv→env.kindOf y=some .cell
 at_:env.locals=C
 cells:env.cells=cl
theorem Keeps.toks {s:Shared} {tk:Nat}:Keeps s { s with toks:=tk }:=(EI2 s.heap tk ⟨rfl,fun _ _ e=>e⟩)
theorem Keeps.rfl' {s:Shared}:Keeps s s:=(EI2 s.heap s.toks ⟨rfl,fun _ _ e=>e⟩)
theorem ktr {s s' s'':Shared} (h:Keeps s s') (h':Keeps s' s''):Keeps s s'':=by
 refine Ex2 h fun h1 t1 Z0=>?_; clear h; obtain ⟨rfl,k1⟩:=Z0
 refine Ex2 h' fun h2 t2 Z1=>?_; clear h'; obtain ⟨rfl,k2⟩:=Z1
 exact (EI2 h2 t2 ⟨rfl,fun b o e=>k2 b o (k1 b o e)⟩)
structure PK (Γ:Gam) (G:PH) (x:Str) (xv:V) (fv:List (Str × V)) (e:Expr) (u:V):Prop where
 run:∀ (A:Around) (E:Value→Shared→Prop) cl C env s,CEnv x fv cl C env→CK G cl C x xv fv s→PySem.wpAny (model Γ.prog Γ.w) A (eval e env) (fun y s'=>VR G y u∧Keeps s s') E s
structure TK (Γ:Gam) (G:PH) (x:Str) (xv:V) (fv:List (Str × V)) (e:Expr) (b:Bool):Prop where
 run:∀ (A:Around) (E:Value→Shared→Prop) cl C env s,CEnv x fv cl C env→CK G cl C x xv fv s→PySem.wpAny (model Γ.prog Γ.w) A (isTrue e env (eval e env)) (fun y s'=>y=b∧Keeps s s') E s
section
variable {Γ:Gam} {G:PH} {x:Str} {xv:V} {fv:List (Str × V)}
theorem PK.int {i:Int} {k:Nat} {p:Pos}:PK Γ G x xv fv (.Constant (.int i) k p) (.int i):=⟨fun A E cl C env s _ _=>wpAny_Constant_int ⟨.int _ _,Keeps.toks⟩⟩
theorem PK.loc {p:Pos} (hd:(x == ("__debug__" : Str))=false):PK Γ G x xv fv (.Name x p) xv:=⟨fun A E cl C env s ce ck=>by
 refine X23 ck.loc fun m v h1 h2 h3=>?_
 exact PySem.wpAny_Name (wpAny_loadName_local ce.kind ce.loc (by rw [ce.at_]; exact h1) h2 ⟨h3,Keeps.rfl'⟩) hd⟩
theorem PK.free {y:Str} {u:V} {p:Pos} (h:(y,u)∈fv) (hd:(y == ("__debug__" : Str))=false):PK Γ G x xv fv (.Name y p) u:=⟨fun A E cl C env s ce ck=>by
 refine X23 (ck.free y u h) fun a v h1 h2 h3=>?_
 exact PySem.wpAny_Name (wpAny_loadName_cell ce.kind (ce.free y u h) (by rw [ce.cells]; exact h1) h2 ⟨h3,Keeps.rfl'⟩) hd⟩
theorem PK.bin {l r:Expr} {op:Operator} {p:Pos} {a b u:V} (h1:PK Γ G x xv fv l a) (h2:PK Γ G x xv fv r b)
  (k:∀ (A:Around) (E:Value→Shared→Prop) s v w,VR G v a→VR G w b→PySem.wpAny (model Γ.prog Γ.w) A (binaryOp op v w) (fun y s'=>VR G y u∧Keeps s s') E s):PK Γ G x xv fv (.BinOp l op r p) u:=⟨fun A E cl C env s ce ck=>by
 refine PySem.wpAny_BinOp (PySem.wpAny_mono (h1.run A E cl C env s ce ck) (fun v s₁ q=>PySem.wpAny_mono (h2.run A E cl C env s₁ ce (ck.keeps q.2)) (fun w s₂ q'=>?_) fun _ _ e=>e) fun _ _ e=>e)
 exact PySem.wpAny_mono (k A E s₂ v w q.1 q'.1) (fun y s₃ q''=>⟨q''.1,ktr q.2 (ktr q'.2 q''.2)⟩) fun _ _ e=>e⟩
theorem PK.add {l r:Expr} {p:Pos} {a b:Int} (h1:PK Γ G x xv fv l (.int a)) (h2:PK Γ G x xv fv r (.int b)):PK Γ G x xv fv (.BinOp l .Add r p) (.int (a+b)) :=
 .bin h1 h2 fun A E s v w hv hw=>by obtain ⟨_,rfl⟩:=hv.inv; obtain ⟨_,rfl⟩:=hw.inv; exact add_int ⟨.int _ _,Keeps.toks⟩
theorem PK.mul {l r:Expr} {p:Pos} {a b:Int} (h1:PK Γ G x xv fv l (.int a)) (h2:PK Γ G x xv fv r (.int b)) (hs:a.natAbs<2 ^ 64∨b.natAbs<2 ^ 64):PK Γ G x xv fv (.BinOp l .Mult r p) (.int (a*b)) :=
 .bin h1 h2 fun A E s v w hv hw=>by obtain ⟨_,rfl⟩:=hv.inv; obtain ⟨_,rfl⟩:=hw.inv; exact mul_int ⟨.int _ _,Keeps.toks⟩ (Y63 hs)
theorem PK.mod {l r:Expr} {p:Pos} {a b:Int} (h1:PK Γ G x xv fv l (.int a)) (h2:PK Γ G x xv fv r (.int b)) (hb:b≠0):PK Γ G x xv fv (.BinOp l .Mod r p) (.int (a.fmod b)) :=
 .bin h1 h2 fun A E s v w hv hw=>by obtain ⟨_,rfl⟩:=hv.inv; obtain ⟨_,rfl⟩:=hw.inv; exact mod_int' hb ⟨.int _ _,Keeps.toks⟩
theorem PK.sub2 {value slice:Expr} {p:Pos} {a b u:V} (h1:PK Γ G x xv fv value a) (h2:PK Γ G x xv fv slice b)
  (k:∀ (A:Around) (E:Value→Shared→Prop) s v w,(∀ a o,G a=some o→s.heap.get? a=some o)→VR G v a→VR G w b→PySem.wpAny (model Γ.prog Γ.w) A (subscriptTail value slice v w) (fun y s'=>VR G y u∧Keeps s s') E s):PK Γ G x xv fv (.Subscript value slice p) u:=⟨fun A E cl C env s ce ck=>by
 refine PyProof.Rows.Subscript_ (PySem.wpAny_mono (h1.run A E cl C env s ce ck) (fun v s₁ q=>PySem.wpAny_mono (h2.run A E cl C env s₁ ce (ck.keeps q.2)) (fun w s₂ q'=>?_) fun _ _ e=>e) fun _ _ e=>e)
 exact PySem.wpAny_mono (k A E s₂ v w ((ck.keeps q.2).keeps q'.2).g q.1 q'.1) (fun y s₃ q''=>⟨q''.1,ktr q.2 (ktr q'.2 q''.2)⟩) fun _ _ e=>e⟩
theorem PK.itemT {value slice:Expr} {p:Pos} {xs:List V} {i:Int} {u:V} (h1:PK Γ G x xv fv value (.tup xs)) (h2:PK Γ G x xv fv slice (.int i)) (h0:0≤i) (hx:xs[i.toNat]?=some u) (hz:xs.length≤1000000) (hs:NoSl slice:=by intro _ _; rfl) :
  PK Γ G x xv fv (.Subscript value slice p) u:=.sub2 h1 h2 fun A E s v w hg hv hw=>by
 obtain ⟨_,rfl⟩:=hw.inv
 refine Ex4 hv.inv fun U0 U1 U2 U3 Z1=>?_; obtain ⟨rfl,Z0⟩:=Z1; refine An4 Z0 fun h hc hd hvs=>?_; clear Z0
 refine X12 (hvs.get hx) fun z hu hvr=>?_
 have hlt:i.toNat<xs.length:=(List.getElem?_eq_some_iff.mp hx).1
 have hlen:=hvs.length
 exact item_tupleT ⟨_,hg _ _ h,hc,_,hd⟩ (Y1 h0) (i63 h0 hlt hz) (j:=i.toNat) (by unfold seqIndex?; simp only [Int.not_lt.mpr h0,if_false]; rw [if_pos (by simp only [and_eq_true,decide_eq_true_eq]; exact ⟨h0,ilt h0 (Nat.lt_of_lt_of_eq hlt hlen.symm)⟩)]) (by simpa using hu) ⟨hvr,Keeps.rfl'⟩ (hs _ _)
theorem PK.itemL {value slice:Expr} {p:Pos} {xs:List V} {i:Int} {u:V} (h1:PK Γ G x xv fv value (.lst xs)) (h2:PK Γ G x xv fv slice (.int i)) (h0:0≤i) (hx:xs[i.toNat]?=some u) (hz:xs.length≤1000000) (hs:NoSl slice:=by intro _ _; rfl) :
  PK Γ G x xv fv (.Subscript value slice p) u:=.sub2 h1 h2 fun A E s v w hg hv hw=>by
 obtain ⟨_,rfl⟩:=hw.inv
 refine Ex4 hv.inv fun U0 U1 U2 U3 Z1=>?_; obtain ⟨rfl,Z0⟩:=Z1; refine An4 Z0 fun h hc hd hvs=>?_; clear Z0
 refine X12 (hvs.get hx) fun z hu hvr=>?_
 have hlt:i.toNat<xs.length:=(List.getElem?_eq_some_iff.mp hx).1
 have hl:s.heap.IsList _ _:=⟨_,hg _ _ h,hc,_,hd⟩
 exact tail_any hl.typeIs slot_list_getitem.lookup (wpAny_getItem_list hl h0 (i63 h0 hlt hz) (by simpa using hu) ⟨hvr,Keeps.rfl'⟩) (hs _ _)
theorem TK.cmp {l r:Expr} {op:CmpOp} {p:Pos} {a b:V} {u:Bool} (h1:PK Γ G x xv fv l a) (h2:PK Γ G x xv fv r b)
  (k:∀ (A:Around) (E:Value→Shared→Prop) s v w,(∀ a o,G a=some o→s.heap.get? a=some o)→VR G v a→VR G w b→PySem.wpAny (model Γ.prog Γ.w) A (compareOp op v w) (fun y s'=>y=.bool u∧Keeps s s') E s) (hm:behindInMarks op r=false:=by rfl) :
  TK Γ G x xv fv (.Compare l [op] [r] p) u:=⟨fun A E cl C env s ce ck=>by
 refine PySem.wpAny_isTrue_Compare1 (PySem.wpAny_mono (h1.run A E cl C env s ce ck) (fun v s₁ q=>PySem.wpAny_mono (h2.run A E cl C env s₁ ce (ck.keeps q.2)) (fun w s₂ q'=>?_) fun _ _ e=>e) fun _ _ e=>e) hm
 refine PySem.wpAny_mono (k A E s₂ v w ((ck.keeps q.2).keeps q'.2).g q.1 q'.1) (fun y s₃ q''=>?_) fun _ _ e=>e
 obtain ⟨rfl,q''⟩:=q''
 exact PySem.wpAny_truthy_bool ⟨rfl,ktr q.2 (ktr q'.2 q'')⟩⟩
theorem TK.le {l r:Expr} {p:Pos} {a b:Int} (h1:PK Γ G x xv fv l (.int a)) (h2:PK Γ G x xv fv r (.int b)) (hm:behindInMarks .LtE r=false:=by rfl):TK Γ G x xv fv (.Compare l [.LtE] [r] p) (decide (a≤b)) :=
 .cmp h1 h2 (fun A E s v w _ hv hw=>by obtain ⟨_,rfl⟩:=hv.inv; obtain ⟨_,rfl⟩:=hw.inv; exact le_int ⟨rfl,Keeps.rfl'⟩) hm
theorem TK.lt {l r:Expr} {p:Pos} {a b:Int} (h1:PK Γ G x xv fv l (.int a)) (h2:PK Γ G x xv fv r (.int b)) (hm:behindInMarks .Lt r=false:=by rfl):TK Γ G x xv fv (.Compare l [.Lt] [r] p) (decide (a<b)) :=
 .cmp h1 h2 (fun A E s v w _ hv hw=>by obtain ⟨_,rfl⟩:=hv.inv; obtain ⟨_,rfl⟩:=hw.inv; exact lt_int ⟨rfl,Keeps.rfl'⟩) hm
theorem TK.notIn {l r:Expr} {p:Pos} {a:Int} {ks:List Int} (h1:PK Γ G x xv fv l (.int a)) (h2:PK Γ G x xv fv r (.lst (ks.map .int))) (hm:behindInMarks .NotIn r=false:=by rfl):TK Γ G x xv fv (.Compare l [.NotIn] [r] p) (!decide (a∈ks)) :=
 .cmp h1 h2 (fun A E s v w hg hv hw=>by
  obtain ⟨_,rfl⟩:=hv.inv
  refine Ex4 hw.inv fun U0 U1 U2 U3 Z1=>?_; obtain ⟨rfl,Z0⟩:=Z1; refine An4 Z0 fun h hc hd hvs=>?_; clear Z0
  refine notin_list_ints ⟨_,hg _ _ h,hc,_,hd⟩ hvs.ints ?_
  rw [show (ks.any (· == a))=decide (a∈ks) by rw [Bool.eq_iff_iff]; simp]; exact ⟨rfl,Keeps.rfl'⟩) hm
theorem TK.and2 {l r:Expr} {p:Pos} {a b:Bool} (h1:TK Γ G x xv fv l a) (h2:TK Γ G x xv fv r b):TK Γ G x xv fv (.BoolOp .And [l,r] p) (a&&b):=⟨fun A E cl C env s ce ck=>by
 refine PyProof.Rows.isTrue_and (PySem.wpAny_mono (h1.run A E cl C env s ce ck) (fun y s₁ q=>?_) fun _ _ e=>e)
 obtain ⟨rfl,q⟩:=q
 cases y with
 | false=>exact ⟨rfl,q⟩
 | true =>
  refine PyProof.Rows.isTrue_and (PySem.wpAny_mono (h2.run A E cl C env s₁ ce (ck.keeps q)) (fun y s₂ q'=>?_) fun _ _ e=>e)
  obtain ⟨rfl,q'⟩:=q'
  cases y with
  | false=>exact ⟨rfl,ktr q q'⟩
  | true=>exact PyProof.Rows.isTrue_and_nil ⟨rfl,ktr q q'⟩⟩
end
section
variable {Γ:Gam} {fn:FnS} {n:Nat} {σ:St} {env:Env} {G:PH} {s:Shared} {c:Cx Γ fn n} {Q:AF→St→Prop} {X:St→Prop} {ss:List Stmt}
theorem VRs.of_get {vs:List Value}:∀ {xs:List V} (_:vs.length=xs.length) (_:∀ (j:Nat) (v:Value),vs[j]?=some v→∃ x,xs[j]?=some x∧VR G v x),VRs G vs xs:=by
 induction vs with
 | nil=>intro xs h _; cases xs with
  | nil=>exact .nil
  | cons _ _=>cases h
 | cons v r ih =>
  intro xs h k
  cases xs with
  | nil=>cases h
  | cons x xs =>
   refine X12 (k 0 v rfl) fun y h1 h2=>?_
   cases h1
   exact .cons h2 (ih (by simpa using h) fun j w e=>by simpa using k (j+1) w (by simpa using e))
noncomputable def pOf (G:PH) (xs:List V) (pv:V→Bool) (v:Value):Bool:=by
 classical exact if h:∃ x,x∈xs∧VR G v x then pv h.choose else false
noncomputable def Det (xs:List V):Prop:=∀ (G:PH) v x y,x∈xs→y∈xs→VR G v x→VR G v y→x=y
theorem Y107 {xs:List V} {pv:V→Bool} (hd:Det xs) {v:Value} {x:V} (hx:x∈xs) (hv:VR G v x):pOf G xs pv v=pv x:=by
 unfold pOf
 have h:∃ x,x∈xs∧VR G v x:=⟨x,hx,hv⟩
 rw [dif_pos h,hd G v _ x h.choose_spec.1 hx h.choose_spec.2 hv]
theorem Y108 {xs₀:List V} {pv:V→Bool} {f:V→V} (hd:Det xs₀) {vs:List Value}:∀ {xs:List V} {ys:List Value} (_:∀ x∈xs,x∈xs₀) (_:VRs G vs xs) (_:Paired (fun v y=>∀ x∈xs₀,VR G v x→VR G y (f x)) (vs.filter (pOf G xs₀ pv)) ys),VRs G ys ((xs.filter pv).map f):=by
 revert hd; revert G xs₀ pv f vs; apply s5; generalize T1 _=G,T2 _=xs₀,T3 _=pv,T4 _=f,T5 _=vs; intro hd
 induction vs with
 | nil =>
  intro xs ys _ h1 h2
  cases h1
  cases h2
  exact .nil
 | cons v r ih =>
  intro xs ys hs h1 h2
  cases h1 with
  | @cons _ x _ xs h1 h1' =>
   have hx:=hs x (.head _)
   have hs':∀ y∈xs,y∈xs₀:=fun y hy=>hs y (.tail _ hy)
   have e:=Y107 (pv:=pv) hd hx h1
   cases hp:pv x with
   | false =>
    rw [List.filter_cons_of_neg (by rw [e,hp]; decide)] at h2
    rw [List.filter_cons_of_neg (by rw [hp]; decide)]
    exact ih hs' h1' h2
   | true =>
    rw [List.filter_cons_of_pos (by rw [e,hp])] at h2
    rw [List.filter_cons_of_pos hp,map_cons]
    cases h2 with
    | cons g1 g2=>exact .cons (g1 x hx h1) (ih hs' h1' g2)
structure CompSc (fn:FnS) (σ:St) (scope:Scope) (x:Str) (fv:List (Str × V)):Prop where
 cell:∀ y∈scope.names,y.2≠.cell
 kind:scope.kind=.function
 names:∀ y∈scope.names,y.2=.local→scope.names.lookup y.1=some .local
 at_:scope.names.lookup x=some .local
 free:∀ p∈fv,∃ k:Nat,fn.names[k]?=some (p.1,NameKind.cell)∧σ.loc[k]?=some (some p.2)
 fr:∀ p∈fv,scope.names.lookup p.1=some .free
 clos:∀ env:Env,(∀ p∈fv,∃ a,env.cells.lookup p.1=some a)→∃ cl,closureFor scope env=pure cl∧∀ p∈fv,cl.lookup p.1=env.cells.lookup p.1
theorem Y109 {env:Env} {x:Str}:∀ {names:List (Str × NameKind)},names.lookup x=some .free→env.scope.kind=.function→env.kindOf x=some .cell →
  (names.map fun (n,k)=>if (k == NameKind.free&&env.scope.kind == .function&&env.kindOf n == some .cell) then (n,NameKind.cell) else (n,k)).lookup x=some .cell
 | [],h,_,_=>by simp at h
 | (n,k) :: r,h,h1,h2=>by
  rw [map_cons]
  dsimp only
  rw [lookup_cons] at h
  cases hx:x == n with
  | true =>
   rw [hx] at h
   cases h
   obtain rfl:=beq_iff_eq.mp hx
   simp [h1,h2]
  | false =>
   rw [hx] at h
   have ih:=Y109 h h1 h2
   split
   ·rw [lookup_cons,hx]; exact ih
   ·rw [lookup_cons,hx]; exact ih
theorem ItAt.quiet {xs:List V} {I:Addr} {fp:List Addr} {P:Nat→Value→Prop} {S:Nat→Heap→Prop} (it:ItAt c G σ xs I s fp P S) (hc:fn.comp=false) {scope:Scope} {x:Str} {fv:List (Str × V)} (sc:CompSc fn σ scope x fv) {cl:List (Str × Addr)}
  (hcl:∀ p∈fv,cl.lookup p.1=c.env.cells.lookup p.1) {elt:Expr} {ifs:List Expr} {pv:V→Bool} {f:V→V} (hd:Det xs)
  (ht:(ifs=[]∧∀ x∈xs,pv x=true)∨∃ t,ifs=[t]∧∀ xv∈xs,TK Γ G x xv fv t (pv xv)) (he:∀ xv∈xs,pv xv=true→PK Γ G x xv fv elt (f xv)) :
  QuietOnC Γ.prog Γ.w c.A c.env scope cl x ifs elt [I] P (pOf G xs pv) (fun v y=>∀ x∈xs,VR G v x→VR G y (f x)) s:=by
 revert c it hc sc hcl hd ht he; revert Γ fn n σ G s xs I fp P S scope x fv cl elt ifs pv f; apply s12; generalize T1 _=Γ,T2 _=fn,T3 _=n,T4 _=σ,T5 _=G,T6 _=s,T7 _=xs,T8 _=I,T9 _=fp,T10 _=P,T11 _=S,T12 _=scope; apply s7; generalize T1 _=x,T2 _=fv,T3 _=cl,T4 _=elt,T5 _=ifs,T6 _=pv,T7 _=f; intro c it hc sc hcl hd ht he
 obtain ⟨own,m,cs,b,hr,lr,ho⟩:=it.rep
 have ne:∀ a,(∃ o,G a=some o)→a∉[I]:=fun a ⟨o,e⟩ q=>by
  rw [List.mem_singleton.mp q,ho.1] at e; cases e
 have ck:∀ C v xv (s₃:Shared) m₃,VR G v xv→s₃.heap.Ns C m₃→m₃ x=some v→(∀ b o,b∉[I]→s.heap.get? b=some o→s₃.heap.get? b=some o)→CK G cl C x xv fv s₃:=fun C v xv s₃ m₃ h1 h2 h3 hk=>by
  refine ⟨fun a o e=>hk a o (ne a ⟨o,e⟩) (b.hG a o e),⟨m₃,v,h2,h3,h1⟩,fun y u hy=>?_⟩
  refine X12 (sc.free _ hy) fun k k1 k2=>?_
  refine X23 (lr.1 k y _ u k1 k2) fun a w g1 g2 g3=>?_
  refine (EI2 a w ⟨by rw [hcl _ hy]; exact g1,?_,g3⟩)
  obtain ⟨⟨o,q1,q2⟩,_⟩:=b.L.cell y a g1
  have hne:a∉[I]:=fun q=>ho.2.2 _ (.head _) |>.2 y (by rw [← List.mem_singleton.mp q]; exact g1)
  dsimp only at q2
  rw [g2] at q2
  exact ⟨o,hk a o hne q1,q2⟩
 have ce:∀ C,CEnv x fv cl C (compEnvC scope cl C c.env):=fun C=>by
  refine ⟨by simp [compEnvC,relabel,sc.kind],lookup_relabel_local sc.at_,fun y u hy=>?_,rfl,rfl⟩
  refine X12 (sc.free _ hy) fun k k1 k2=>?_
  exact Y109 (sc.fr _ hy) (lr.3.eo.fun_ lr.3.ok) (lr.3.eo.kindOf lr.3.ok k1)
 refine ⟨fun C i v s₃ m₃ E' U0 hP hn hm hk U1=>?_,fun C i v s₃ m₃ E' U2 hP hpv hn hm hk U3=>?_⟩
 ·refine X12 (it.item i v hP) fun xv hx hv=>?_
  have hxm:=mem_of_getElem? hx
  rw [Y107 hd hxm hv]
  rcases ht with ⟨rfl,ht⟩ | ⟨t,rfl,ht⟩
  ·rw [forIn_nil]
   exact PySem.wpAny_pure ⟨(ht xv hxm).symm,Keeps.rfl'⟩
  ·rw [forIn_cons]
   simp only [if_true]
   refine PySem.wpAny_bind (PySem.wpAny_bind (PySem.wpAny_mono ((ht xv hxm).run _ _ cl C _ s₃ (ce C) (ck C v xv s₃ m₃ hv hn hm hk)) (fun y s₄ q=>?_) fun _ _ e=>e))
   refine PySem.wpAny_pure ?_
   show PySem.wpAny _ _ (forIn ([]:List Expr) y _) _ _ _
   rw [forIn_nil]
   exact PySem.wpAny_pure q
 ·refine X12 (it.item i v hP) fun xv hx hv=>?_
  have hxm:=mem_of_getElem? hx
  rw [Y107 hd hxm hv] at hpv
  refine PySem.wpAny_mono ((he xv hxm hpv).run _ _ cl C _ s₃ (ce C) (ck C v xv s₃ m₃ hv hn hm hk)) (fun y s₄ q=>⟨fun x' hx' hv'=>?_,q.2⟩) fun _ _ e=>e
  rw [hd G v x' xv hx' hxm hv' hv]; exact q.1
theorem ItAt.listed {xs:List V} {I:Addr} {fp:List Addr} {P:Nat→Value→Prop} {S:Nat→Heap→Prop} (it:ItAt c G σ xs I s fp P S) {pv:V→Bool} {f:V→V} (hd:Det xs) {D:Addr} {h':Heap} {tk:Nat} {ys:Array Value} {vs:List Value}
  (hD:s.heap.get? D=none) (hl:h'.IsList D ys) (hlen:vs.length=xs.length) (hP:∀ j v,vs[j]?=some v→P j v) (hF:Paired (fun v y=>∀ x∈xs,VR G v x→VR G y (f x)) (vs.filter (pOf G xs pv)) ys.toList)
  (hk:∀ b o,b∉[I]→s.heap.get? b=some o→h'.get? b=some o):∃ G',PLe G G'∧c.Rep G' σ { s with heap:=h',toks:=tk }∧VR G' (.ref D) (.lst ((xs.filter pv).map f)):=by
 obtain ⟨own,m,cs,b,hr,lr,ho⟩:=it.rep
 have hvs:VRs G vs xs:=.of_get hlen fun j v e=>it.item j v (hP j v e)
 have hys:=Y108 hd (fun _ h=>h) hvs hF
 refine An3 (b.fresh hD) fun h1 h2 h3=>?_
 refine X13 hl fun oL e1 e2 Z0=>?_; clear hl; refine Ex1 Z0 fun k e3=>?_; clear Z0
 have b':Base Γ G own (⟨c.env,m,cs,fn.comp⟩ :: c.fr) { s with heap:=h',toks:=tk }:=(b.offKeep ho fun a o q e=>hk a o (by simpa using q) e).toks
 have l:=Y66 (o:=oL) h2
 refine ⟨_,l,⟨own,m,cs,b'.ins e1 h1 (fun f hf=>h3 f hf) h2,hr.grow l,lr.grow l⟩,?_⟩
 exact .lst (vs:=ys.toList) Y65 e2 (by rw [e3]) (hys.mono l)
theorem Y110 {a:Addr} {xs:List V} {E:Value→Shared→Prop} {Q:Value→Shared→Prop} (r:c.Rep G σ s) (h:VR G (.ref a) (.lst xs))
  (q:∀ I s₂ fp P S,ItAt c G σ xs I s₂ fp P S→Q (.ref I) s₂):PySem.wpAny (model Γ.prog Γ.w) c.A (pyIter (.ref a)) Q E s:=by
 match h with
 | .lst h hc hd hs =>
  refine wpAny_pyIter_list ⟨_,r.get h,hc,_,hd⟩ ?_
  refine Ex2 (ItAt.list r h hc hd hs) fun P S it=>?_
  exact q _ _ _ P S it
theorem Y111 {a b c':Int} {t u v:Tok} {E:Value→Shared→Prop} {Q:Value→Shared→Prop} (r:c.Rep G σ s) (ha:0≤a) (ha':a≤1000000) (hb:0≤b) (hb':b≤1000000) (hc:0<c') (hc':c'≤1000000) {tk:Nat}
  (q:∀ G' I s₂ fp P S,PLe G G'→ItAt c G' σ (rng a c' (Builtin.Range.rangeSize a b c').toNat) I s₂ fp P S→Q (.ref I) s₂) :
  PySem.wpAny (model Γ.prog Γ.w) c.A (pyIter (.ref s.heap.objs.size)) Q E { s with heap:=s.heap.push { cls:=.type "range",data:=.fields #[.int a t,.int b u,.int c' v] },toks:=tk }:=by
 have hk:Builtin.Range.rangeSize a b c'=((Builtin.Range.rangeSize a b c').toNat:Int):=(toNat_of_nonneg (eq_48 hc)).symm
 obtain ⟨r₁,l₁⟩:=r.push { cls:=.type "range",data:=.fields #[.int a t,.int b u,.int c' v] } tk
 refine wpAny_pyIter_range (r₁.get Y65) (eq_47 ha ha' hb hb' hc hc') ?_
 refine Ex2 (ItAt.range (a:=a) (c':=c') (k:=(Builtin.Range.rangeSize a b c').toNat) r₁) fun P S it=>?_
 rw [← hk] at it
 exact q _ _ _ _ P S l₁ it
theorem ItAt.szs {xs:List V} {I:Addr} {fp:List Addr} {P:Nat→Value→Prop} {S:Nat→Heap→Prop} (it:ItAt c G σ xs I s fp P S):∀ b∈fp,b<s.heap.objs.size:=fun b hb=>by
 obtain ⟨own,m,cs,b0,hr,lr,ho⟩:=it.rep
 rcases it.fp b hb with rfl | ⟨o,e⟩
 ·refine X22 (it.obj _ _ it.now) fun o U0 h U1=>?_
  exact Heap.lt_size h
 ·exact Heap.lt_size (b0.hG b o e)
theorem CompSc.cl {scope:Scope} {x:Str} {fv:List (Str × V)} (sc:CompSc fn σ scope x fv) (r:c.Rep G σ s):∃ cl,closureFor scope c.env=pure cl∧∀ p∈fv,cl.lookup p.1=c.env.cells.lookup p.1:=by
 obtain ⟨own,m,cs,b,hr,lr⟩:=r
 refine sc.clos c.env fun p hp=>?_
 refine X12 (sc.free p hp) fun k k1 k2=>?_
 exact lr.2 k p.1 k1
theorem PE.compL {elt iter:Expr} {x:Str} {px:Pos} {ifs:List Expr} {scope:Scope} {pos:Pos} {xs:List V} {fv:List (Str × V)} (pv:V→Bool) (f:V→V) (hc:fn.comp=false) (hi:PE Γ fn n σ iter (.lst xs)) (hz:xs.length≤1000000) (sc:CompSc fn σ scope x fv) (hd:Det xs)
  (ht:(ifs=[]∧∀ x∈xs,pv x=true)∨∃ t,ifs=[t]∧∀ G,∀ xv∈xs,TK Γ G x xv fv t (pv xv)) (he:∀ G,∀ xv∈xs,pv xv=true→PK Γ G x xv fv elt (f xv)) (hs:∀ env x,foldedSetIterable iter env x=pure x:=by intro _ _; rfl) :
  PE Γ fn n σ (.ListComp elt [⟨.Name x px,iter,ifs,0⟩] scope pos) (.lst ((xs.filter pv).map f)):=⟨fun c G s rep=>by
 rw [eval_ListComp]
 show wpAny _ _ (eval iter c.env >>= fun v=>comprehension (.ListComp elt [⟨.Name x px,iter,ifs,0⟩] scope pos) scope c.env _ (newList []) false (pure v)) _ _ _
 refine seq (hi.run c G s rep) fun v s₁ q=>?_
 obtain ⟨G₁,l₁,r₁,v₁⟩:=q
 refine X12 (sc.cl r₁) fun cl hcl hcl2=>?_
 refine kit (wpAny_comprehension_free (use:=Option.none) rfl (hs _) hcl sc.kind sc.names (PySem.wpAny_pure ?_))
 have hv:∃ a,v=.ref a:=by refine Ex4 v₁.inv fun U0 U1 U2 U3 Z1=>?_; obtain ⟨rfl,Z0⟩:=Z1; refine An4 Z0 fun U4 U5 U6 U7=>?_; clear Z0; exact ⟨_,rfl⟩
 obtain ⟨a,rfl⟩:=hv
 refine Y110 r₁ v₁ fun I s₂ fp P S it=>?_
 refine comp_block_walkC (RR:=fun acc C=>compPost (model Γ.prog Γ.w) c.A NoX Option.none (c.RP G σ (.lst ((xs.filter pv).map f))) acc C) it.W (by rw [sizeLine_eq]; exact lA1 hz) (pOf G₁ xs pv) (fun v y=>∀ x∈xs,VR G₁ v x→VR G₁ y (f x)) sc.cell sc.kind sc.at_ it.now it.szs
  (it.quiet hc sc hcl2 hd (ht.imp (fun h=>h) fun ⟨t,h1,h2⟩=>⟨t,h1,h2 G₁⟩) (he G₁)) ?_
 intro D C h' tk m' ys vs hD hC hDC hn hl hpl hlen hP hF hk
 refine ⟨m',hn,fun h'' hs''=>?_⟩
 have hk':∀ b o,b∉[I]→s₂.heap.get? b=some o→h''.get? b=some o:=fun b o hb e=>hs''.extBut b o (by rintro rfl; rw [hC] at e; cases e) (hk b o hb e)
 refine X13 (it.listed (tk:=tk) hd hD (hl.extBut hs''.extBut hDC) hlen hP hF hk') fun G₂ l₂ r₂ v₂=>?_
 exact .mk (l₁.trans l₂) r₂ v₂⟩
theorem PE.compR {elt e:Expr} {x r:Str} {px rp rpos:Pos} {ifs:List Expr} {scope:Scope} {pos:Pos} {k:Int} {fv:List (Str × V)} (pv:V→Bool) (f:V→V) (hc:fn.comp=false) (hf:PE Γ fn n σ (.Name r rp) (.bi (.type "range"))) (ha:PE Γ fn n σ e (.int k)) (h0:0≤k) (hz:k≤1000000) (sc:CompSc fn σ scope x fv)
  (ht:(ifs=[]∧∀ x∈rng 0 1 k.toNat,pv x=true)∨∃ t,ifs=[t]∧∀ G,∀ xv∈rng 0 1 k.toNat,TK Γ G x xv fv t (pv xv)) (he:∀ G,∀ xv∈rng 0 1 k.toNat,pv xv=true→PK Γ G x xv fv elt (f xv)) (hst:isStarred e=false:=by rfl) :
  PE Γ fn n σ (.ListComp elt [⟨.Name x px,.Call (.Name r rp) [e] [] rpos,ifs,0⟩] scope pos) (.lst (((rng 0 1 k.toNat).filter pv).map f)):=by
 revert hc hf ha h0 hz sc ht he hst; revert Γ fn n σ elt e x r px rp rpos ifs scope pos k fv pv f; apply s12; generalize T1 _=Γ,T2 _=fn,T3 _=n,T4 _=σ,T5 _=elt,T6 _=e,T7 _=x,T8 _=r,T9 _=px,T10 _=rp,T11 _=rpos,T12 _=ifs; apply s6; generalize T1 _=scope,T2 _=pos,T3 _=k,T4 _=fv,T5 _=pv,T6 _=f; intro hc hf ha h0 hz sc ht he hst
 refine ⟨fun c G s rep=>?_⟩
 have hd:Det (rng 0 1 k.toNat):=fun G v a b ha hb h1 h2=>by
  obtain ⟨i,hi⟩:=getElem?_of_mem ha
  obtain ⟨j,hj⟩:=getElem?_of_mem hb
  obtain ⟨_,rfl⟩:=Y93 hi
  obtain ⟨_,rfl⟩:=Y93 hj
  obtain ⟨_,rfl⟩:=h1.inv
  generalize hq:V.int (0+(j:Int)*1)=y at h2
  cases h2
  rfl
 rw [eval_ListComp]
 show wpAny _ _ (eval (.Call (.Name r rp) [e] [] rpos) c.env >>= fun v=>comprehension (.ListComp elt [⟨.Name x px,.Call (.Name r rp) [e] [] rpos,ifs,0⟩] scope pos) scope c.env _ (newList []) false (pure v)) _ _ _
 refine Y4 (Y69 (Y3 (hf.run c G s rep) (Cx.RP.el fun v s₁ G₁ l₁ r₁ v₁=>?_)))
 have hv:v=.type "range":=by obtain rfl:=v₁.inv; rfl
 subst hv
 have hp:=PEs.cons ha .nil hst
 refine Y68 (fun a e=>by cases e) (hp.plain _ _) (Y3 (hp.run c G₁ s₁ rpos r₁) (fun vs s₂ q=>?_))
 refine X13 q fun G₂ l₂ r₂ v₂=>?_; clear q
 refine Ex1 v₂.one fun w Z0=>?_; obtain ⟨rfl,h1⟩:=Z0
 obtain ⟨_,rfl⟩:=h1.inv
 refine kit <| call_range_1 ?_
 refine X12 (sc.cl r₂) fun cl hcl hcl2=>?_
 refine kit (wpAny_comprehension_free (use:=Option.none) rfl (fun _=>rfl) hcl sc.kind sc.names (PySem.wpAny_pure ?_))
 refine Y111 r₂ dD dD h0 hz dD dD fun G₃ I s₃ fp P S l₃ it=>?_
 rw [Y95,Int.sub_zero] at it
 refine comp_block_walkC (RR:=fun acc C=>compPost (model Γ.prog Γ.w) c.A NoX Option.none (c.RP G σ (.lst (((rng 0 1 k.toNat).filter pv).map f))) acc C) it.W (by rw [Y92,sizeLine_eq]; exact Nat.le_trans ((toNat_le (n:=1000000)).mpr hz) dD) (pOf G₃ (rng 0 1 k.toNat) pv) (fun v y=>∀ x∈rng 0 1 k.toNat,VR G₃ v x→VR G₃ y (f x)) sc.cell sc.kind sc.at_ it.now it.szs
  (it.quiet hc sc hcl2 hd (ht.imp (fun h=>h) fun ⟨t,h1,h2⟩=>⟨t,h1,h2 G₃⟩) (he G₃)) ?_
 intro D C h' tk m' ys vs hD hC hDC hn hl hpl hlen hP hF hk
 refine ⟨m',hn,fun h'' hs''=>?_⟩
 have hk':∀ b o,b∉[I]→s₃.heap.get? b=some o→h''.get? b=some o:=fun b o hb e=>hs''.extBut b o (by rintro rfl; rw [hC] at e; cases e) (hk b o hb e)
 refine X13 (it.listed (tk:=tk) hd hD (hl.extBut hs''.extBut hDC) hlen hP hF hk') fun G₄ l₄ r₄ v₄=>?_
 exact .mk (l₁.trans (l₂.trans (l₃.trans l₄))) r₄ v₄
end
section
variable {Γ:Gam} {fn:FnS} {n:Nat} {σ:St} {env:Env} {G:PH} {s:Shared} {c:Cx Γ fn n} {Q:AF→St→Prop} {X:St→Prop} {ss:List Stmt}
theorem XS.asgComp (k:Nat) {elt iter:Expr} {x y:Str} {px py:Pos} {ifs:List Expr} {scope:Scope} {pos spos:Pos} {xs:List V} {fv:List (Str × V)} {loc':List (Option V)} (pv:V→Bool) (f:V→V) (hc:fn.comp=false) (hi:PE Γ fn n σ iter (.lst xs)) (hz:xs.length≤1000000) (sc:CompSc fn σ scope x fv) (hd:Det xs)
  (ht:(ifs=[]∧∀ x∈xs,pv x=true)∨∃ t,ifs=[t]∧∀ G,∀ xv∈xs,TK Γ G x xv fv t (pv xv)) (he:∀ G,∀ xv∈xs,pv xv=true→PK Γ G x xv fv elt (f xv))
  (hn:fn.names[k]?=some (y,.local)) (hl:SetAt σ.loc k (.lst ((xs.filter pv).map f)) loc') (h:XS Γ fn n ss ⟨loc',σ.hp⟩ Q X)
  (hnot:(scope.names.any fun p=>p.1 == y&&(p.2 == .local || p.2 == .cell))=false)
  (hsw:(py.line == pos.line)=true:=by rfl) (hs:∀ env x,foldedSetIterable iter env x=pure x:=by intro _ _; rfl) :
  XS Γ fn n (.Assign [.Name y py] (.ListComp elt [⟨.Name x px,iter,ifs,0⟩] scope pos) spos :: ss) σ Q X:=by
 revert hc hi hz sc hd ht he hn hl h hnot hsw hs; revert Γ fn n σ Q X ss k elt iter x y px py ifs scope pos spos xs fv loc' pv f; apply s12; generalize T1 _=Γ,T2 _=fn,T3 _=n,T4 _=σ,T5 _=Q,T6 _=X,T7 _=ss,T8 _=k,T9 _=elt,T10 _=iter,T11 _=x,T12 _=y; apply s11; generalize T1 _=px,T2 _=py,T3 _=ifs,T4 _=scope,T5 _=pos,T6 _=spos,T7 _=xs,T8 _=fv,T9 _=loc',T10 _=pv,T11 _=f; intro hc hi hz sc hd ht he hn hl h hnot hsw hs
 refine .cons ⟨fun c G s rep=>?_⟩
 revert c G s; apply s3; generalize T1 _=c,T2 _=G,T3 _=s; intro rep
 have hy:=rep.good.eo.kindOf rep.good.ok hn
 have hsw':swapsWith (.ListComp elt [⟨.Name x px,iter,ifs,0⟩] scope pos) (some (.Name y py)) spos.line c.env=pure true:=by
  show (pure (c.env.blockKind == .function&&c.env.kindOf y == some .local&&py.line == pos.line&&!(scope.names.any fun p=>p.1 == y&&(p.2 == .local || p.2 == .cell))):Sem Bool)=pure true
  rw [hy,hsw,hnot]
  have:(c.env.blockKind == ScopeKind.function)=true:=by
   have:=rep.good.eo.fun_ rep.good.ok
   simp [Env.blockKind,this,ScopeKind.isAnnotationScope]
  rw [this]; rfl
 rw [exec_Assign_Name_used _ _ _ _ hsw']
 refine Y4 (Y7 (Y4 ?_))
 show wpAny _ _ (do let _ ← comprehension (.ListComp elt [⟨.Name x px,iter,ifs,0⟩] scope pos) scope c.env _ (newList []) false (eval iter c.env) (some (assign (.Name y py) c.env))) _ _ _
 refine Y4 ?_
 show wpAny _ _ (eval iter c.env >>= fun v=>comprehension (.ListComp elt [⟨.Name x px,iter,ifs,0⟩] scope pos) scope c.env _ (newList []) false (pure v) (some (assign (.Name y py) c.env))) _ _ _
 refine seq (wpAny_mono (hi.run c G s rep) (fun _ _ q=>q) NoX.to) fun v s₁ q=>?_
 revert v s₁; apply s2; generalize T1 _=v,T2 _=s₁; intro q
 obtain ⟨G₁,l₁,r₁,v₁⟩:=q
 exists G₁; intro l₁ r₁ v₁
 refine X12 (sc.cl r₁) fun cl hcl hcl2=>?_
 exists cl; intro hcl hcl2
 refine wpAny_mono (Q:=fun _ s'=>c.SP G (Then Γ fn n ss Q X) .next s') (E:=c.EP G X) (kit (wpAny_comprehension_free (use:=some (assign (.Name y py) c.env)) rfl (hs _) hcl sc.kind sc.names (PySem.wpAny_pure ?_))) (fun _ s' hq=>wpAny_pure (wpAny_pure hq)) fun _ _ e=>e
 have hv:∃ a,v=.ref a:=by refine Ex4 v₁.inv fun U0 U1 U2 U3 Z2=>?_; obtain ⟨rfl,Z0⟩:=Z2; refine An4 Z0 fun U4 U5 U6 U7=>?_; clear Z0; exact ⟨_,rfl⟩
 obtain ⟨a,rfl⟩:=hv
 exists a; intro v₁
 refine Y110 r₁ v₁ fun I s₂ fp P S it=>?_
 revert I s₂ fp P S; apply s5; generalize T1 _=I,T2 _=s₂,T3 _=fp,T4 _=P,T5 _=S; intro it
 refine comp_block_walkC (RR:=fun acc C=>compPost (model Γ.prog Γ.w) c.A (c.EP G X) (some (assign (.Name y py) c.env)) (fun _ s'=>c.SP G (Then Γ fn n ss Q X) .next s') acc C) it.W (by rw [sizeLine_eq]; exact lA1 hz) (pOf G₁ xs pv) (fun v y=>∀ x∈xs,VR G₁ v x→VR G₁ y (f x)) sc.cell sc.kind sc.at_ it.now it.szs
  (it.quiet hc sc hcl2 hd (ht.imp (fun h=>h) fun ⟨t,h1,h2⟩=>⟨t,h1,h2 G₁⟩) (he G₁)) ?_
 intro D C h' tk m' ys vs hD hC hDC hnC hlD hpl hlen hP hF hk
 revert D C h' tk m' ys vs; apply s7; generalize T1 _=D,T2 _=C,T3 _=h',T4 _=tk,T5 _=m',T6 _=ys,T7 _=vs; intro hD hC hDC hnC hlD hpl hlen hP hF hk
 show PySem.wpAny _ c.A (assign (.Name y py) c.env (.ref D)) _ _ _
 obtain ⟨own,m,cs,b,hr,lr,ho⟩:=it.rep
 revert own m cs; apply s3; generalize T1 _=own,T2 _=m,T3 _=cs; intro b hr lr ho
 have hvs:VRs G₁ vs xs:=.of_get hlen fun j v e=>it.item j v (hP j v e)
 have hys:=Y108 hd (fun _ h=>h) hvs hF
 refine An3 (b.fresh hD) fun h1 h2 h3=>?_
 refine An3 (b.fresh hC) fun k1 k2 k3=>?_
 refine X13 hlD fun oL e1 e2 Z1=>?_; clear hlD; refine Ex1 Z1 fun kk e3=>?_; clear Z1
 revert e1 e2 e3; revert oL kk; apply s2; generalize T1 _=oL,T2 _=kk; intro e1 e2 e3
 have b':Base Γ G₁ own (⟨c.env,m,cs,fn.comp⟩ :: c.fr) { s₂ with heap:=h',toks:=tk }:=(b.offKeep ho fun a o q e=>hk a o (by simpa using q) e).toks
 have l:=Y66 (o:=oL) h2
 have b2:=b'.ins e1 h1 (fun f hf=>h3 f hf) h2
 have hv2:VR (N0.ins G₁ D oL) (.ref D) (.lst ((xs.filter pv).map f)):=.lst (vs:=ys.toList) Y65 e2 (by rw [e3]) (hys.mono l)
 have hLC:c.env.locals≠C:=(k3 _ (.head _)).1
 refine PyProof.Rows.assign_Name (wpAny_storeName_local hy b2.L.ns (fun h₂ hn₂ hs₂=>?_) (by rw [lr.3.eo.fun_ lr.3.ok]; rfl))
 exists h₂; intro hn₂ hs₂
 refine ⟨m',hnC.sameBut hs₂ (Ne.symm hLC),fun h₃ hs₃=>?_⟩
 exists h₃; intro hs₃
 have b3:Base Γ (N0.ins G₁ D oL) own (⟨c.env,_,cs,fn.comp⟩ :: c.fr) { s₂ with heap:=h₂,toks:=tk+1 }:=b2.kept hn₂ fun a o q e=>(hs₂.2 a q).trans e
 have offC:Off (N0.ins G₁ D oL) own (⟨c.env,(fun x=>if x=y then some (Value.ref D) else m x),cs,fn.comp⟩ :: c.fr) C:=by
  refine ⟨(Y75 (Ne.symm hDC)).trans k2,k1,fun f hf=>?_⟩
  rcases List.mem_cons.mp hf with rfl | hf
  ·exact k3 ⟨c.env,m,cs,fn.comp⟩ (.head _)
  ·exact k3 f (mem_cons_of_mem _ hf)
 have b4:=b3.offKeep offC (h':=h₃) fun a o q e=>(hs₃.2 a q).trans e
 refine Cx.SP.mk (c:=c) (σ':=⟨loc',σ.hp⟩) (l₁.trans l) ⟨own,_,cs,b4,hr.grow l,?_⟩ .next h
 rw [← hl.eq]
 exact (lr.grow l).set lr.3.ok hn hv2
end
section
variable {Γ:Gam} {fn:FnS} {n:Nat} {σ:St} {env:Env} {G:PH} {s:Shared} {c:Cx Γ fn n} {Q:AF→St→Prop} {X:St→Prop} {ss:List Stmt}
theorem PE.nat {k:Nat} {j:Nat} {p:Pos}:PE Γ fn n σ (.Constant (.int (ofNat k)) j p) (.int (k:Nat)):=PE.int
structure BinK (Γ:Gam) (fn:FnS) (n:Nat) (σ:St) (op:Operator) (a b x:V):Prop where
 run:∀ (c:Cx Γ fn n) G s v w,c.Rep G σ s→VR G v a→VR G w b→wpAny (model Γ.prog Γ.w) c.A (binaryOp op v w) (c.RP G σ x) NoX s
theorem PE.bop {l r:Expr} {op:Operator} {p:Pos} {a b x:V} (h1:PE Γ fn n σ l a) (h2:PE Γ fn n σ r b) (k:BinK Γ fn n σ op a b x):PE Γ fn n σ (.BinOp l op r p) x:=.bin h1 h2 k.run
theorem PE.cast {e:Expr} {a b:V} (h:PE Γ fn n σ e a) (q:a=b):PE Γ fn n σ e b:=q▸h
theorem BinK.cast {op:Operator} {a b x y:V} (h:BinK Γ fn n σ op a b x) (q:x=y):BinK Γ fn n σ op a b y:=q▸h
theorem BinK.addI {a b:Int}:BinK Γ fn n σ .Add (.int a) (.int b) (.int (a+b)):=⟨fun c G s v w rep hv hw=>by obtain ⟨_,rfl⟩:=hv.inv; obtain ⟨_,rfl⟩:=hw.inv; exact kit <| add_int (Cx.RP.now rep.toks (.int _ _))⟩
theorem BinK.subI {a b:Int}:BinK Γ fn n σ .Sub (.int a) (.int b) (.int (a - b)):=⟨fun c G s v w rep hv hw=>by obtain ⟨_,rfl⟩:=hv.inv; obtain ⟨_,rfl⟩:=hw.inv; exact kit <| sub_int (Cx.RP.now rep.toks (.int _ _))⟩
theorem BinK.mulI {a b:Int} (h:a.natAbs<2 ^ 64∨b.natAbs<2 ^ 64):BinK Γ fn n σ .Mult (.int a) (.int b) (.int (a*b)):=⟨fun c G s v w rep hv hw=>by obtain ⟨_,rfl⟩:=hv.inv; obtain ⟨_,rfl⟩:=hw.inv; exact kit <| mul_int (Cx.RP.now rep.toks (.int _ _)) (Y63 h)⟩
theorem BinK.modI {a b:Int} (h:b≠0):BinK Γ fn n σ .Mod (.int a) (.int b) (.int (a.fmod b)):=⟨fun c G s v w rep hv hw=>by obtain ⟨_,rfl⟩:=hv.inv; obtain ⟨_,rfl⟩:=hw.inv; exact kit <| mod_int' h (Cx.RP.now rep.toks (.int _ _))⟩
theorem BinK.divI {a b:Int} (h:b≠0) (hs:b.natAbs<2 ^ 64):BinK Γ fn n σ .FloorDiv (.int a) (.int b) (.int (a.fdiv b)):=⟨fun c G s v w rep hv hw=>by obtain ⟨_,rfl⟩:=hv.inv; obtain ⟨_,rfl⟩:=hw.inv; exact kit <| floordiv_int h (Cx.RP.now rep.toks (.int _ _)) (.inl (Y64 hs))⟩
theorem BinK.addN {a b:Nat}:BinK Γ fn n σ .Add (.int a) (.int b) (.int (a+b:Nat)):=BinK.addI.cast (by rw [natCast_add])
theorem BinK.subN {a b:Nat} (h:b≤a):BinK Γ fn n σ .Sub (.int a) (.int b) (.int (a - b:Nat)):=BinK.subI.cast (by rw [ofNat_sub h])
theorem BinK.mulN {a b:Nat} (h:a<2 ^ 64∨b<2 ^ 64):BinK Γ fn n σ .Mult (.int a) (.int b) (.int (a*b:Nat)):=(BinK.mulI (by simpa using h)).cast (by rw [Int.natCast_mul])
theorem BinK.modN {a b:Nat} (h:b≠0):BinK Γ fn n σ .Mod (.int a) (.int b) (.int (a % b:Nat)):=(BinK.modI (by lia)).cast (by rw [Int.natCast_emod,Int.fmod_eq_emod_of_nonneg _ (natCast_nonneg _)])
theorem BinK.divN {a b:Nat} (h:b≠0) (hs:b<2 ^ 64):BinK Γ fn n σ .FloorDiv (.int a) (.int b) (.int (a / b:Nat)):=(BinK.divI (by lia) (by simpa using hs)).cast (by rw [Int.natCast_ediv,Int.fdiv_eq_ediv_of_nonneg _ (natCast_nonneg _)])
theorem Y112 (a b:Nat):Builtin.bitAnd a b=((a &&& b:Nat):Int):=by rw [bitAnd_pp (natCast_nonneg _) (natCast_nonneg _)]; simp
theorem Y113 (a b:Nat):Builtin.bitOr a b=((a ||| b:Nat):Int):=by
 rw [bitOr_and,Y112]
 rw [← natCast_add,← nat_or_add_and a b,natCast_add,Int.add_sub_cancel]
theorem eq_61 (x y:Nat):(x ^^^ y) % 2=(x+y) % 2:=by
 have h:(x ^^^ y) % 2=x % 2 ^^^ y % 2:=Nat.xor_mod_two_pow (n:=1)
 rw [h,add_mod]
 rcases mod_two_eq_zero_or_one x with p | p <;> rcases mod_two_eq_zero_or_one y with q | q <;> rw [p,q] <;> rfl
theorem eq_62 (m:Nat):∀ n:Nat,(m ^^^ n)+2*(m &&& n)=m+n:=by
 induction m using Nat.strongRecOn with
 | ind m ih =>
  intro n
  by_cases h0:m=0
  ·subst h0; simp
  ·have ih':=ih (m / 2) (Nat.div_lt_self (pos_of_ne_zero h0) dD) (n / 2)
   rw [← Nat.xor_div_two,← Nat.and_div_two] at ih'
   have hb:(m ^^^ n) % 2+2*((m &&& n) % 2)=m % 2+n % 2:=by
    rw [eq_61,show (m &&& n) % 2=m % 2 &&& n % 2 from Nat.and_mod_two_pow (n:=1),add_mod]
    rcases mod_two_eq_zero_or_one m with p | p <;> rcases mod_two_eq_zero_or_one n with q | q <;> rw [p,q] <;> rfl
   rw [← div_add_mod (m ^^^ n) 2,← div_add_mod (m &&& n) 2]
   refine (show _=2*((m ^^^ n) / 2+2*((m &&& n) / 2))+((m ^^^ n) % 2+2*((m &&& n) % 2)) from eq_11).trans ?_
   rw [ih',hb]
   refine (show _=(2*(m / 2)+m % 2)+(2*(n / 2)+n % 2) from eq_11).trans ?_
   rw [div_add_mod,div_add_mod]
theorem Y114 (a b:Nat):Builtin.bitXor a b=((a ^^^ b:Nat):Int):=by
 unfold Builtin.bitXor
 rw [bitOr_and,Y112]
 rw [← natCast_add,← eq_62 a b,Nat.two_mul,natCast_add,natCast_add,← Int.add_assoc,Int.add_sub_cancel,Int.add_sub_cancel]
theorem BinK.bandN {a b:Nat}:BinK Γ fn n σ .BitAnd (.int a) (.int b) (.int (a &&& b:Nat)):=⟨fun c G s v w rep hv hw=>by obtain ⟨_,rfl⟩:=hv.inv; obtain ⟨_,rfl⟩:=hw.inv; exact kit <| and_int (by rw [Y112]; exact Cx.RP.now rep.toks (.int _ _))⟩
theorem BinK.borN {a b:Nat}:BinK Γ fn n σ .BitOr (.int a) (.int b) (.int (a ||| b:Nat)):=⟨fun c G s v w rep hv hw=>by obtain ⟨_,rfl⟩:=hv.inv; obtain ⟨_,rfl⟩:=hw.inv; exact kit <| or_int (by rw [Y113]; exact Cx.RP.now rep.toks (.int _ _))⟩
theorem BinK.bxorN {a b:Nat}:BinK Γ fn n σ .BitXor (.int a) (.int b) (.int (a ^^^ b:Nat)):=⟨fun c G s v w rep hv hw=>by obtain ⟨_,rfl⟩:=hv.inv; obtain ⟨_,rfl⟩:=hw.inv; exact kit <| xor_int (by rw [Y114]; exact Cx.RP.now rep.toks (.int _ _))⟩
theorem Y115 (a b:Nat):((a:Int).fdiv (2 ^ (b:Int).toNat))=((a >>> b:Nat):Int):=by
 rw [toNat_natCast,shiftRight_eq_div_pow,Int.natCast_ediv,Int.fdiv_eq_ediv_of_nonneg _ (by exact Int.le_of_lt (Int.pow_pos dD))]
 rw [Int.natCast_pow]; rfl
theorem Y116 (a b:Nat):((a:Int)*2 ^ (b:Int).toNat)=((a <<< b:Nat):Int):=by
 rw [toNat_natCast,shiftLeft_eq,Int.natCast_mul,Int.natCast_pow]; rfl
theorem BinK.shrN {a b:Nat}:BinK Γ fn n σ .RShift (.int a) (.int b) (.int (a >>> b:Nat)):=⟨fun c G s v w rep hv hw=>by obtain ⟨_,rfl⟩:=hv.inv; obtain ⟨_,rfl⟩:=hw.inv; exact kit <| rshift_int (natCast_nonneg _) (by rw [Y115]; exact Cx.RP.now rep.toks (.int _ _))⟩
theorem BinK.shlN {a b:Nat} (ha:a<2 ^ 64) (hb:b≤1000000):BinK Γ fn n σ .LShift (.int a) (.int b) (.int (a <<< b:Nat)):=⟨fun c G s v w rep hv hw=>by obtain ⟨_,rfl⟩:=hv.inv; obtain ⟨_,rfl⟩:=hw.inv; exact kit <| lshift_int_small (natCast_nonneg _) (Int.ofNat_le.mpr (lA1 hb)) (by simpa using ha) (by rw [Y116]; exact Cx.RP.now rep.toks (.int _ _))⟩
theorem PE.addBK {a b:List UInt8} (hz:a.length+b.length≤1000000):BinK Γ fn n σ .Add (.byt a) (.byt b) (.byt (a++b)):=⟨fun c G s v w rep hv hw=>by
  obtain ⟨_,rfl⟩:=hv.inv; obtain ⟨_,rfl⟩:=hw.inv
  exact kit <| bytes_add_K (by rw [size_toArray,size_toArray]; exact lA1 hz) rfl fun t' k=>.now rep.toks (.byt _ _)⟩
theorem BinK.addS {x y:Str} (hz:x.length+y.length≤1000000):BinK Γ fn n σ .Add (.str x) (.str y) (.str (x++y)):=⟨fun c G s v w rep hv hw=>by
  obtain ⟨_,rfl⟩:=hv.inv; obtain ⟨_,rfl⟩:=hw.inv
  exact kit <| add_str (hsz:=by rw [sizeLine_eq]; exact lA1 hz) fun t' tk=>Cx.RP.now rep.toks (.str _ _)⟩
theorem BinK.addL {xs ys:List V} (hz:xs.length+ys.length≤1000000):BinK Γ fn n σ .Add (.lst xs) (.lst ys) (.lst (xs++ys)):=⟨fun c G s v w rep hv hw=>by
  refine Ex2 (hv.isList rep) fun a vs Z2=>?_; obtain ⟨rfl,Z0⟩:=Z2; refine An2 Z0 fun ha hvs=>?_; clear Z0
  refine Ex2 (hw.isList rep) fun b ws Z3=>?_; obtain ⟨rfl,Z1⟩:=Z3; refine An2 Z1 fun hb hws=>?_; clear Z1
  refine Ex2 rep.use fun m news U=>?_
  have e1:=hvs.length
  have e2:=hws.length
  refine kit <| add_lists U.F U.N ha hb (fun h' F N=>?_) (by rw [sizeLine_eq]; exact lA3 (eqL e1) (eqL e2) hz)
  obtain ⟨r',le⟩:=U.put h' s.toks _ _ (Heap.get?_none_of_le (le_refl _)) F N
  exact .mk le r' (.lst Y65 rfl rfl ((hvs.append hws).mono le))⟩
theorem IOp.addN {a b:Nat}:IOp Γ fn n σ .Add (.int a) (.int b) (.int (a+b:Nat)):=by rw [natCast_add]; exact IOp.add
theorem IOp.shrN {a b:Nat}:IOp Γ fn n σ .RShift (.int a) (.int b) (.int (a >>> b:Nat)):=by rw [← Y115]; exact IOp.shr (natCast_nonneg _)
theorem IOp.bxorN {a b:Nat}:IOp Γ fn n σ .BitXor (.int a) (.int b) (.int (a ^^^ b:Nat)):=by rw [← Y114]; exact IOp.bxor
theorem CmpOk.of {op:CmpOp} {a b:V} {r r':Bool} (h:CmpOk Γ fn n σ op a b r) (q:r=r'):CmpOk Γ fn n σ op a b r':=q▸h
theorem CmpOk.ltN {a b:Nat}:CmpOk Γ fn n σ .Lt (.int a) (.int b) (decide (a<b)):=CmpOk.lt.of (by simp)
theorem CmpOk.leN {a b:Nat}:CmpOk Γ fn n σ .LtE (.int a) (.int b) (decide (a≤b)):=CmpOk.le.of (by simp)
theorem CmpOk.gtN {a b:Nat}:CmpOk Γ fn n σ .Gt (.int a) (.int b) (decide (b<a)):=CmpOk.gt.of (by simp)
theorem CmpOk.geN {a b:Nat}:CmpOk Γ fn n σ .GtE (.int a) (.int b) (decide (b≤a)):=CmpOk.ge.of (by simp)
theorem CmpOk.eqN {a b:Nat}:CmpOk Γ fn n σ .Eq (.int a) (.int b) (decide (a=b)):=CmpOk.eq.of (decide_eq_decide.mpr ofNat_inj)
theorem CmpOk.neN {a b:Nat}:CmpOk Γ fn n σ .NotEq (.int a) (.int b) (decide (a≠b)):=CmpOk.ne.of (decide_eq_decide.mpr (not_congr ofNat_inj))
theorem PT.nat {e:Expr} {i:Nat} (h:PE Γ fn n σ e (.int i)) (hp:Plain e:=by intro _ _; rfl):PT Γ fn n σ e (decide (i≠0)):=(PT.int h hp).of (decide_eq_decide.mpr (not_congr (ofNat_inj (n:=0))))
theorem PE.itemLN {value slice:Expr} {p:Pos} {xs:List V} {i:Nat} {x:V} (h1:PE Γ fn n σ value (.lst xs)) (h2:PE Γ fn n σ slice (.int i)) (hx:xs[i]?=some x) (hz:xs.length≤1000000) (hs:NoSl slice:=by intro _ _; rfl) :
  PE Γ fn n σ (.Subscript value slice p) x:=PE.itemL h1 h2 (natCast_nonneg _) (by simpa using hx) hz hs
theorem PE.itemON {value slice:Expr} {p:Pos} {a:Addr} {xs:List V} {i:Nat} {x:V} (h1:PE Γ fn n σ value (.obj a)) (hi:σ.hp a=some (.list xs)) (h2:PE Γ fn n σ slice (.int i)) (hx:xs[i]?=some x) (hz:xs.length≤1000000) (hs:NoSl slice:=by intro _ _; rfl) :
  PE Γ fn n σ (.Subscript value slice p) x:=PE.itemO h1 hi h2 (natCast_nonneg _) (by simpa using hx) hz hs
theorem PE.itemBN {value slice:Expr} {p:Pos} {b:List UInt8} {i:Nat} (h1:PE Γ fn n σ value (.byt b)) (h2:PE Γ fn n σ slice (.int i)) (hi:i<b.length) (hz:b.length≤1000000) (hs:NoSl slice:=by intro _ _; rfl) :
  PE Γ fn n σ (.Subscript value slice p) (.int ((b.getD i 0).toNat:Nat)):=PE.itemB h1 h2 (natCast_nonneg _) (Int.ofNat_lt.mpr (sA1 (lsl hi))) hz hs
theorem PE.fromB {value lo:Expr} {sp p:Pos} {b:List UInt8} {i:Nat} (h1:PE Γ fn n σ value (.byt b)) (hl:PE Γ fn n σ lo (.int i)) (hz:b.length≤1000000) :
  PE Γ fn n σ (.Subscript value (.Slice (some lo) Option.none Option.none sp) p) (.byt (b.drop i)):=(PE.sliceB h1 (.some hl) .none (.some (natCast_nonneg _)) .none hz).cast (by rw [Y70]; rfl)
theorem PE.uptoB {value hi:Expr} {sp p:Pos} {b:List UInt8} {i:Nat} (h1:PE Γ fn n σ value (.byt b)) (hl:PE Γ fn n σ hi (.int i)) (hz:b.length≤1000000) :
  PE Γ fn n σ (.Subscript value (.Slice Option.none (some hi) Option.none sp) p) (.byt (b.take i)):=(PE.sliceB h1 .none (.some hl) .none (.some (natCast_nonneg _)) hz).cast (by rw [Y71]; rfl)
theorem PE.cutB {value lo hi:Expr} {sp p:Pos} {b:List UInt8} {i j:Nat} (h1:PE Γ fn n σ value (.byt b)) (hl:PE Γ fn n σ lo (.int i)) (hu:PE Γ fn n σ hi (.int j)) (hz:b.length≤1000000) :
  PE Γ fn n σ (.Subscript value (.Slice (some lo) (some hi) Option.none sp) p) (.byt ((b.drop i).take (j - i))):=(PE.sliceB h1 (.some hl) (.some hu) (.some (natCast_nonneg _)) (.some (natCast_nonneg _)) hz).cast (by rw [Y72]; rfl)
theorem PE.uptoL {value hi:Expr} {sp p:Pos} {b:List V} {i:Nat} (h1:PE Γ fn n σ value (.lst b)) (hl:PE Γ fn n σ hi (.int i)) (hz:b.length≤1000000) :
  PE Γ fn n σ (.Subscript value (.Slice Option.none (some hi) Option.none sp) p) (.lst (b.take i)):=(PE.sliceL h1 .none (.some hl) .none (.some (natCast_nonneg _)) hz).cast (by rw [Y71]; rfl)
theorem PE.uptoO {value hi:Expr} {sp p:Pos} {a:Addr} {b:List V} {i:Nat} (h1:PE Γ fn n σ value (.obj a)) (ho:σ.hp a=some (.list b)) (hl:PE Γ fn n σ hi (.int i)) (hz:b.length≤1000000) :
  PE Γ fn n σ (.Subscript value (.Slice Option.none (some hi) Option.none sp) p) (.lst (b.take i)):=(PE.sliceO h1 ho .none (.some hl) .none (.some (natCast_nonneg _)) hz).cast (by rw [Y71]; rfl)
theorem PE.fromO {value lo:Expr} {sp p:Pos} {a:Addr} {b:List V} {i:Nat} (h1:PE Γ fn n σ value (.obj a)) (ho:σ.hp a=some (.list b)) (hl:PE Γ fn n σ lo (.int i)) (hz:b.length≤1000000) :
  PE Γ fn n σ (.Subscript value (.Slice (some lo) Option.none Option.none sp) p) (.lst (b.drop i)):=(PE.sliceO h1 ho (.some hl) .none (.some (natCast_nonneg _)) .none hz).cast (by rw [Y70]; rfl)
theorem PE.minN {x:Str} {p pos:Pos} {e₁ e₂:Expr} {a b:Nat} (hf:PE Γ fn n σ (.Name x p) (.bi (.builtin "min"))) (h1:PE Γ fn n σ e₁ (.int a)) (h2:PE Γ fn n σ e₂ (.int b)) (s1:isStarred e₁=false:=by rfl) (s2:isStarred e₂=false:=by rfl) :
  PE Γ fn n σ (.Call (.Name x p) [e₁,e₂] [] pos) (.int (Nat.min a b:Nat)):=(PE.min hf (.cons h1 (.cons h2 .nil s2) s1)).cast (by congr 1; rw [show Nat.min a b=Min.min a b from rfl]; split; rename_i z; exact congrArg _ (min_eq_right (Int.ofNat_le.mp (Int.le_of_lt z))).symm; rename_i z; exact congrArg _ (min_eq_left (Int.ofNat_le.mp (Int.not_lt.mp z))).symm)
theorem PE.globN (k:Nat) {x:Str} {p:Pos} {v:Nat} (hn:fn.names[k]?=some (x,.globalImplicit)) (hg:GV Γ x (.int (ofNat v))):PE Γ fn n σ (.Name x p) (.int (v:Nat)):=.glob k hn hg
noncomputable def nB (l:List Nat):List UInt8:=l.map fun k=>k.toUInt8
theorem Y117 (l:List Nat):toB (l.map fun k:Nat=>(k:Int))=nB l:=by simp [toB,nB]
theorem PE.bytesN {x:Str} {p pos:Pos} {e:Expr} {l:List Nat} (hf:PE Γ fn n σ (.Name x p) (.bi (.type "bytes"))) (ha:PE Γ fn n σ e (.lst (l.map fun k:Nat=>.int k))) (hb:∀ k∈l,k<256) (hz:l.length≤1000000) (hst:isStarred e=false:=by rfl) :
  PE Γ fn n σ (.Call (.Name x p) [e] [] pos) (.byt (nB l)):=(PE.bytesL (ks:=l.map fun k:Nat=>(k:Int)) hf (ha.cast (by rw [List.map_map]; rfl)) (fun k hk=>by refine X12 (List.mem_map.mp hk) fun j hj Z0=>?_; obtain rfl:=Z0; have:=hb j hj; exact ⟨natCast_nonneg _,Int.ofNat_lt.mpr (sA1 (lsl this))⟩) (by simpa using hz) hst).cast (by rw [Y117])
theorem PE.bytesZN {x:Str} {p pos:Pos} {e:Expr} {k:Nat} (hf:PE Γ fn n σ (.Name x p) (.bi (.type "bytes"))) (ha:PE Γ fn n σ e (.int k)) (hz:k≤1000000) (hst:isStarred e=false:=by rfl) :
  PE Γ fn n σ (.Call (.Name x p) [e] [] pos) (.byt (List.replicate k 0)):=(PE.bytesZ hf ha (natCast_nonneg _) (Int.ofNat_le.mpr (lA1 hz)) hst).cast (by simp)
theorem PE.sumN {x:Str} {p pos:Pos} {e:Expr} {b:List UInt8} (hf:PE Γ fn n σ (.Name x p) (.bi (.builtin "sum"))) (ha:PE Γ fn n σ e (.byt b)) (hz:b.length≤1000000) (hst:isStarred e=false:=by rfl) :
  PE Γ fn n σ (.Call (.Name x p) [e] [] pos) (.int ((b.map fun x=>x.toNat).sum:Nat)):=(PE.sumB hf ha hz hst).cast (by
 congr 1
 clear hz ha
 induction b with
 | nil=>rfl
 | cons x r ih=>simp [ih])
noncomputable def rngN (a d k:Nat):List V:=(List.range k).map fun i=>.int ((a+i*d:Nat):Int)
theorem Y118 (a d k:Nat):rng a d k=rngN a d k:=by
 unfold rng rngN
 refine map_congr_left fun i _=>?_
 simp
theorem XIt.of {e:Expr} {xs ys:List V} (h:XIt Γ fn n σ e xs) (q:xs=ys):XIt Γ fn n σ e ys:=q▸h
theorem XIt.range1N {x:Str} {p pos:Pos} {e:Expr} {b:Nat} (hf:PE Γ fn n σ (.Name x p) (.bi (.type "range"))) (ha:PE Γ fn n σ e (.int b)) (hb':b≤1000000) (hst:isStarred e=false:=by rfl) :
  XIt Γ fn n σ (.Call (.Name x p) [e] [] pos) (rngN 0 1 b):=(XIt.range1 hf ha (natCast_nonneg _) (Int.ofNat_le.mpr (lA1 hb')) hst).of (by rw [← Y118]; congr 1)
theorem XIt.range2N {x:Str} {p pos:Pos} {e₁ e₂:Expr} {a b:Nat} (hf:PE Γ fn n σ (.Name x p) (.bi (.type "range"))) (h1:PE Γ fn n σ e₁ (.int a)) (h2:PE Γ fn n σ e₂ (.int b)) (ha':a≤1000000) (hb':b≤1000000) (s1:isStarred e₁=false:=by rfl) (s2:isStarred e₂=false:=by rfl) :
  XIt Γ fn n σ (.Call (.Name x p) [e₁,e₂] [] pos) (rngN a 1 (b - a)):=(XIt.range2 hf (.cons h1 (.cons h2 .nil s2) s1) (natCast_nonneg _) (Int.ofNat_le.mpr (lA1 ha')) (natCast_nonneg _) (Int.ofNat_le.mpr (lA1 hb'))).of (by rw [← Y118]; congr 1; exact Int.toNat_sub b a)
theorem eq_63 {a d k i:Nat} {x:V} (h:(rngN a d k)[i]?=some x):i<k∧x=.int ((a+i*d:Nat):Int):=by
 unfold rngN at h
 rw [getElem?_map] at h
 refine X12 (Option.map_eq_some_iff.mp h) fun j hj Z0=>?_; obtain rfl:=Z0
 have hlt:i<(List.range k).length:=(List.getElem?_eq_some_iff.mp hj).1
 rw [List.length_range] at hlt
 rw [List.getElem?_range hlt] at hj
 obtain rfl:=Option.some.inj hj; exact ⟨hlt,rfl⟩
theorem eq_64 {a d k:Nat}:(rngN a d k).length=k:=by simp [rngN]
end
noncomputable def stAt (i:Nat):Stmt:=(PySem.Challenge.pw_no0417_01.main.body)[i]?.getD (.Pass default)
noncomputable def mtAt (i j:Nat):Stmt:=match stAt i with
 | .ClassDef _ _ _ b _ _ _ _ _ _ _=>b[j]?.getD (.Pass default)
 | s=>s
noncomputable def fnOf (st:Stmt) (qual pm:Str) (tk:Nat) (code:Addr) (dflt:Value):FnS:=match st with
 | .FunctionDef n a b _ _ _ sc _ _ _=>⟨code+1,{ name:=n,qualname:=qual,params:=a,body:=.stmts b,scope:=sc,globals:=mainGlobals,closure:=[],defaults:=dflt,kwdefaults:=.none,pyModule:=.str pm tk,code:=.ref code,builtins:=builtinsNs },b,false⟩
 | _=>⟨0,default,[],false⟩
structure FK (K:Frag) (fn:FnS):Prop where
 at_:K.lookup fn.addr=some ⟨.type "function",none,.func fn.fd,#[]⟩
 code:codeIn K fn.fd.code fn.fd.qualname=true
theorem FK.ok {Γ:Gam} {fn:FnS} (h:FK Γ.K fn) (hb:fn.fd.body=.stmts fn.body) (h1:fn.fd.globals=mainGlobals) (h2:fn.fd.builtins=builtinsNs) (h3:fn.fd.scope.kind=.function) (h4:fn.fd.scope.isCoroutine=false) (h5:fn.fd.scope.isGenerator=false)
  (h6:(fn.names.map (·.1)).Nodup) (h7:("__debug__" : Str)∉fn.names.map (·.1)):FnOk Γ fn :=
 ⟨fun _=>⟨_,_,_,h.at_⟩,fun _=>h.code,fun _=>hb,h1,h2,h3,h4,h5,h6,h7⟩
noncomputable def FKs (K:Frag) (l:List FnS):Prop:=∀ f∈l,FK K f
theorem FKs.get {K:Frag} {l:List FnS} (h:FKs K l) (i:Nat) {f:FnS} (e:l[i]?=some f):FK K f:=h f (mem_of_getElem? e)
noncomputable def f_put32:FnS:=fnOf (stAt 18) "put_fixed32" "raftkeep.octets" 360 148 (.none)
noncomputable def f_rd32:FnS:=fnOf (stAt 19) "read_fixed32" "raftkeep.octets" 360 155 (.none)
noncomputable def f_tbl:FnS:=fnOf (stAt 20) "make_crc_table" "raftkeep.octets" 360 162 (.none)
noncomputable def f_crc:FnS:=fnOf (stAt 21) "crc32c" "raftkeep.octets" 360 170 (.ref 164)
noncomputable def f_mask:FnS:=fnOf (stAt 22) "mask" "raftkeep.octets" 360 177 (.none)
noncomputable def f_csum:FnS:=fnOf (stAt 23) "checksum" "raftkeep.octets" 360 184 (.none)
noncomputable def f_ckb:FnS:=fnOf (stAt 34) "check_block" "raftkeep.wal" 424 191 (.none)
noncomputable def f_ckk:FnS:=fnOf (stAt 35) "check_kind" "raftkeep.wal" 424 198 (.none)
noncomputable def f_mkf:FnS:=fnOf (stAt 36) "make_fragment" "raftkeep.wal" 424 205 (.none)
noncomputable def f_WI:FnS:=fnOf (mtAt 37 0) "LogWriter.__init__" "raftkeep.wal" 424 219 (.none)
noncomputable def f_Wput:FnS:=fnOf (mtAt 37 1) "LogWriter.put" "raftkeep.wal" 424 226 (.none)
noncomputable def f_Wadd:FnS:=fnOf (mtAt 37 2) "LogWriter.add" "raftkeep.wal" 424 233 (.none)
noncomputable def f_Wsync:FnS:=fnOf (mtAt 37 3) "LogWriter.sync" "raftkeep.wal" 424 240 (.none)
noncomputable def f_RI:FnS:=fnOf (mtAt 38 0) "LogReader.__init__" "raftkeep.wal" 424 261 (.none)
noncomputable def f_Rdrop:FnS:=fnOf (mtAt 38 1) "LogReader.drop" "raftkeep.wal" 424 268 (.none)
noncomputable def f_Rturn:FnS:=fnOf (mtAt 38 2) "LogReader.turn_block" "raftkeep.wal" 424 275 (.none)
noncomputable def f_Rfrag:FnS:=fnOf (mtAt 38 3) "LogReader.fragment" "raftkeep.wal" 424 282 (.none)
noncomputable def f_Rread:FnS:=fnOf (mtAt 38 4) "LogReader.read" "raftkeep.wal" 424 289 (.none)
noncomputable def f_rall:FnS:=fnOf (stAt 39) "read_all" "raftkeep.wal" 424 303 (.none)
noncomputable def f_rpre:FnS:=fnOf (stAt 40) "read_prefix" "raftkeep.wal" 424 310 (.none)
noncomputable def f_NI:FnS:=fnOf (mtAt 45 0) "Node.__init__" "raftkeep.files" 642 324 (.none)
noncomputable def f_Nuns:FnS:=fnOf (mtAt 45 1) "Node.unsynced" "raftkeep.files" 642 331 (.none)
noncomputable def f_SI:FnS:=fnOf (mtAt 46 0) "DirStep.__init__" "raftkeep.files" 642 359 (.none)
noncomputable def f_Shap:FnS:=fnOf (mtAt 46 1) "DirStep.happen" "raftkeep.files" 642 366 (.none)
noncomputable def f_FI:FnS:=fnOf (mtAt 47 0) "File.__init__" "raftkeep.files" 642 387 (.none)
noncomputable def f_Frdy:FnS:=fnOf (mtAt 47 1) "File.ready" "raftkeep.files" 642 394 (.none)
noncomputable def f_Fapp:FnS:=fnOf (mtAt 47 2) "File.append" "raftkeep.files" 642 401 (.none)
noncomputable def f_Fsync:FnS:=fnOf (mtAt 47 3) "File.sync" "raftkeep.files" 642 408 (.none)
noncomputable def f_Fclose:FnS:=fnOf (mtAt 47 4) "File.close" "raftkeep.files" 642 415 (.none)
noncomputable def f_Flen:FnS:=fnOf (mtAt 47 5) "File.length" "raftkeep.files" 642 422 (.none)
noncomputable def f_DI:FnS:=fnOf (mtAt 48 0) "Disk.__init__" "raftkeep.files" 642 443 (.none)
noncomputable def f_Dbud:FnS:=fnOf (mtAt 48 1) "Disk.set_budget" "raftkeep.files" 642 450 (.none)
noncomputable def f_Dalive:FnS:=fnOf (mtAt 48 2) "Disk.check_alive" "raftkeep.files" 642 457 (.none)
noncomputable def f_Dtake:FnS:=fnOf (mtAt 48 3) "Disk.take_steps" "raftkeep.files" 642 464 (.none)
noncomputable def f_Done:FnS:=fnOf (mtAt 48 4) "Disk.one_step" "raftkeep.files" 642 471 (.none)
noncomputable def f_Dnode:FnS:=fnOf (mtAt 48 5) "Disk.node_of" "raftkeep.files" 642 478 (.none)
noncomputable def f_Ddir:FnS:=fnOf (mtAt 48 6) "Disk.dir_step" "raftkeep.files" 642 485 (.none)
noncomputable def f_Dkeep:FnS:=fnOf (mtAt 48 7) "Disk.keep_creation" "raftkeep.files" 642 492 (.none)
noncomputable def f_Dcre:FnS:=fnOf (mtAt 48 8) "Disk.create" "raftkeep.files" 642 499 (.none)
noncomputable def f_Dcro:FnS:=fnOf (mtAt 48 9) "Disk.create_over" "raftkeep.files" 642 506 (.none)
noncomputable def f_Dapp:FnS:=fnOf (mtAt 48 10) "Disk.append_to" "raftkeep.files" 642 513 (.none)
noncomputable def f_Dread:FnS:=fnOf (mtAt 48 14) "Disk.read" "raftkeep.files" 642 541 (.none)
noncomputable def f_Dcut:FnS:=fnOf (mtAt 48 18) "Disk.power_cut" "raftkeep.files" 642 569 (.none)
noncomputable def f_draw:FnS:=fnOf (stAt 50) "_law_draw" "law_no0417_01" 1024 597 (.none)
noncomputable def f_lchk:FnS:=fnOf (stAt 51) "_law_check" "law_no0417_01" 1024 604 (.none)
noncomputable def f_lay:FnS:=fnOf (stAt 52) "_law_lay" "law_no0417_01" 1024 611 (.none)
noncomputable def f_lend:FnS:=fnOf (stAt 53) "_law_end" "law_no0417_01" 1024 618 (.none)
noncomputable def f_lcut:FnS:=fnOf (stAt 54) "_law_cut" "law_no0417_01" 1024 625 (.none)
noncomputable def f_lgap:FnS:=fnOf (stAt 55) "_law_gap" "law_no0417_01" 1024 632 (.none)
noncomputable def f_lhurt:FnS:=fnOf (stAt 56) "_law_hurt" "law_no0417_01" 1024 637 (.none)
noncomputable def f_law:FnS:=fnOf (stAt 57) "law" "law_no0417_01" 1024 642 (.none)
noncomputable def allFns:List FnS:=[f_put32,f_rd32,f_tbl,f_crc,f_mask,f_csum,f_ckb,f_ckk,f_mkf,f_WI,f_Wput,f_Wadd,f_Wsync,f_RI,f_Rdrop,f_Rturn,f_Rfrag,f_Rread,f_rall,f_rpre,f_NI,f_Nuns,f_SI,f_Shap,f_FI,f_Frdy,f_Fapp,f_Fsync,f_Fclose,f_Flen,f_DI,f_Dbud,f_Dalive,f_Dtake,f_Done,f_Dnode,f_Ddir,f_Dkeep,f_Dcre,f_Dcro,f_Dapp,f_Dread,f_Dcut,f_draw,f_lchk,f_lay,f_lend,f_lcut,f_lgap,f_lhurt,f_law]
theorem Y119:allFns.all (fun f=>decide (f.names.map (·.1)).Nodup&&decide (("__debug__" : Str)∉f.names.map (·.1)))=true:=by kernel_rfl
theorem FKs.ok {Γ:Gam} (h:FKs Γ.K allFns) (i:Nat) {fn:FnS} (e:allFns[i]?=some fn) (hb:fn.fd.body=.stmts fn.body) (h1:fn.fd.globals=mainGlobals) (h2:fn.fd.builtins=builtinsNs) (h3:fn.fd.scope.kind=.function) (h4:fn.fd.scope.isCoroutine=false) (h5:fn.fd.scope.isGenerator=false):FnOk Γ fn :=
 have q:=Bool.and_eq_true_iff.mp (List.all_eq_true.mp Y119 fn (mem_of_getElem? e))
 (h.get i e).ok hb h1 h2 h3 h4 h5 (of_decide_eq_true q.1) (of_decide_eq_true q.2)
noncomputable abbrev N1 (f:FnS) (k:Nat) (x:Str) (d:NameKind):Prop:=f.names[k]?=some (x,d)
theorem nn {f:FnS} {l:List (Str × NameKind)} (h:f.names=l) (k:Nat) {x:Str} {d:NameKind} (e:l[k]?=some (x,d):=by exact rfl):N1 f k x d:=by show f.names[k]?=_; rw [h,e]
noncomputable abbrev Nm (f:FnS) (l:List (Str × NameKind)):Prop:=f.names=l
theorem eq_65:Nm f_put32 [("n",.local),("MAX_32",.globalImplicit),("BadOption",.globalImplicit),("bytes",.globalImplicit)]:=by kernel_rfl
theorem eq_66:Nm f_rd32 [("data",.local),("at",.local),("len",.globalImplicit),("ShortOctets",.globalImplicit)]:=by kernel_rfl
theorem eq_67:Nm f_tbl [("table",.local),("c",.local),("half",.local),("low",.local),("CRC_POLY",.globalImplicit),("range",.globalImplicit)]:=by kernel_rfl
theorem eq_68:Nm f_crc [("data",.local),("start",.local),("table",.local),("c",.local),("octet",.local),("make_crc_table",.globalImplicit),("MAX_32",.globalImplicit)]:=by kernel_rfl
theorem eq_69:Nm f_mask [("c",.local),("MASK_DELTA",.globalImplicit),("MAX_32",.globalImplicit)]:=by kernel_rfl
theorem eq_70:Nm f_csum [("kind",.local),("data",.local),("CHECK_CRC",.globalImplicit),("mask",.globalImplicit),("crc32c",.globalImplicit),("CHECK_SUM",.globalImplicit),("sum",.globalImplicit),("len",.globalImplicit),("MAX_32",.globalImplicit),("BadOption",.globalImplicit)]:=by kernel_rfl
theorem eq_71:Nm f_ckb [("block",.local),("HEADER",.globalImplicit),("MAX_BLOCK",.globalImplicit),("BadOption",.globalImplicit)]:=by kernel_rfl
theorem eq_72:Nm f_ckk [("check",.local),("CHECK_CRC",.globalImplicit),("CHECK_SUM",.globalImplicit),("BadOption",.globalImplicit)]:=by kernel_rfl
theorem eq_73:Nm f_mkf [("kind",.local),("data",.local),("check",.local),("size",.local),("body",.local),("len",.globalImplicit),("bytes",.globalImplicit),("put_fixed32",.globalImplicit),("checksum",.globalImplicit)]:=by kernel_rfl
theorem eq_74:Nm f_WI [("self",.local),("file",.local),("block",.local),("check",.local),("length",.local),("check_block",.globalImplicit),("check_kind",.globalImplicit),("BadOption",.globalImplicit)]:=by kernel_rfl
theorem eq_75:Nm f_Wput [("self",.local),("octets",.local),("len",.globalImplicit)]:=by kernel_rfl
theorem eq_76:Nm f_Wadd [("self",.local),("octets",.local),("size",.local),("at",.local),("begun",.local),("ended",.local),("room",.local),("upto",.local),("kind",.local),("len",.globalImplicit),("HEADER",.globalImplicit),("bytes",.globalImplicit),("min",.globalImplicit),("LAST",.globalImplicit),("MIDDLE",.globalImplicit),("FULL",.globalImplicit),("FIRST",.globalImplicit),("make_fragment",.globalImplicit)]:=by kernel_rfl
theorem eq_77:Nm f_Wsync [("self",.local)]:=by kernel_rfl
theorem eq_78:Nm f_RI [("self",.local),("data",.local),("block",.local),("check",.local),("check_block",.globalImplicit),("check_kind",.globalImplicit),("bytes",.globalImplicit)]:=by kernel_rfl
theorem eq_79:Nm f_Rdrop [("self",.local),("octets",.local),("why",.local)]:=by kernel_rfl
theorem eq_80:Nm f_Rturn [("self",.local),("min",.globalImplicit),("len",.globalImplicit)]:=by kernel_rfl
theorem eq_81:Nm f_Rfrag [("self",.local),("at",.local),("left",.local),("size",.local),("kind",.local),("upto",.local),("body",.local),("HEADER",.globalImplicit),("AT_END",.globalImplicit),("BROKEN",.globalImplicit),("ZERO",.globalImplicit),("read_fixed32",.globalImplicit),("checksum",.globalImplicit)]:=by kernel_rfl
theorem eq_82:Nm f_Rread [("self",.local),("begun",.local),("parts",.local),("kind",.local),("data",.local),("bytearray",.globalImplicit),("AT_END",.globalImplicit),("FULL",.globalImplicit),("FIRST",.globalImplicit),("len",.globalImplicit),("MIDDLE",.globalImplicit),("LAST",.globalImplicit),("bytes",.globalImplicit),("BROKEN",.globalImplicit),("str",.globalImplicit)]:=by kernel_rfl
theorem eq_83:Nm f_rall [("data",.local),("block",.local),("check",.local),("reader",.local),("records",.local),("record",.local),("LogReader",.globalImplicit)]:=by kernel_rfl
theorem eq_84:Nm f_rpre [("data",.local),("block",.local),("check",.local),("reader",.local),("records",.local),("good",.local),("record",.local),("LogReader",.globalImplicit)]:=by kernel_rfl
theorem eq_85:Nm f_NI [("self",.local),("number",.local),("data",.local),("kept",.local)]:=by kernel_rfl
theorem eq_86:Nm f_Nuns [("self",.local),("len",.globalImplicit)]:=by kernel_rfl
theorem eq_87:Nm f_SI [("self",.local),("kind",.local),("name",.local),("other",.local),("number",.local)]:=by kernel_rfl
theorem eq_88:Nm f_Shap [("self",.local),("directory",.local),("number",.local),("STEP_CREATE",.globalImplicit),("STEP_REMOVE",.globalImplicit)]:=by kernel_rfl
theorem eq_89:Nm f_FI [("self",.local),("disk",.local),("name",.local),("node",.local)]:=by kernel_rfl
theorem eq_90:Nm f_Frdy [("self",.local),("BadHandle",.globalImplicit)]:=by kernel_rfl
theorem eq_91:Nm f_Fapp [("self",.local),("octets",.local),("wanted",.local),("got",.local),("len",.globalImplicit),("DiskDead",.globalImplicit)]:=by kernel_rfl
theorem eq_92:Nm f_Fsync [("self",.local),("len",.globalImplicit)]:=by kernel_rfl
theorem eq_93:Nm f_Fclose [("self",.local)]:=by kernel_rfl
theorem eq_94:Nm f_Flen [("self",.local),("len",.globalImplicit)]:=by kernel_rfl
theorem eq_95:Nm f_DI [("self",.local),("budget",.local),("BadOption",.globalImplicit)]:=by kernel_rfl
theorem eq_96:Nm f_Dbud [("self",.local),("budget",.local),("BadOption",.globalImplicit)]:=by kernel_rfl
theorem eq_97:Nm f_Dalive [("self",.local),("DiskDead",.globalImplicit)]:=by kernel_rfl
theorem eq_98:Nm f_Dtake [("self",.local),("wanted",.local),("got",.local)]:=by kernel_rfl
theorem eq_99:Nm f_Done [("self",.local),("what",.local),("DiskDead",.globalImplicit)]:=by kernel_rfl
theorem eq_100:Nm f_Dnode [("self",.local),("name",.local),("NoSuchFile",.globalImplicit)]:=by kernel_rfl
theorem eq_101:Nm f_Ddir [("self",.local),("step",.local)]:=by kernel_rfl
theorem eq_102:Nm f_Dkeep [("self",.local),("number",.local),("upto",.local),("at",.local),("step",.local),("range",.globalImplicit),("len",.globalImplicit),("STEP_CREATE",.globalImplicit)]:=by kernel_rfl
theorem eq_103:Nm f_Dcre [("self",.local),("name",.local),("FileThere",.globalImplicit)]:=by kernel_rfl
theorem eq_104:Nm f_Dcro [("self",.local),("name",.local),("node",.local),("Node",.globalImplicit),("bytearray",.globalImplicit),("DirStep",.globalImplicit),("STEP_CREATE",.globalImplicit),("File",.globalImplicit)]:=by kernel_rfl
theorem eq_105:Nm f_Dapp [("self",.local),("name",.local),("File",.globalImplicit)]:=by kernel_rfl
theorem eq_106:Nm f_Dread [("self",.local),("name",.local),("bytes",.globalImplicit)]:=by kernel_rfl
theorem eq_107:Nm f_Dcut [("self",.local),("picks",.local),("row",.local),("directory",.local),("happened",.local),("step",.local),("after",.local),("place",.local),("name",.local),("node",.local),("length",.local),("len",.globalImplicit),("dict",.globalImplicit),("Disk",.globalImplicit),("sorted",.globalImplicit),("Node",.globalImplicit),("bytearray",.globalImplicit)]:=by kernel_rfl
theorem eq_108:Nm f_draw [("nums",.local),("i",.local),("len",.globalImplicit)]:=by kernel_rfl
theorem eq_109:Nm f_lchk [("kind",.local),("data",.local),("total",.local),("one",.local),("rest",.local),("turn",.local),("len",.globalImplicit),("range",.globalImplicit)]:=by kernel_rfl
theorem eq_110:Nm f_lay [("records",.local),("block",.local),("check",.local),("out",.local),("pieces",.local),("ends",.local),("r",.local),("rest",.local),("first",.local),("going",.local),("left",.local),("turn",.local),("part",.local),("kind",.local),("start",.local),("told",.local),("one",.local),("range",.globalImplicit),("len",.globalImplicit),("_law_check",.globalImplicit),("bytes",.globalImplicit)]:=by kernel_rfl
theorem eq_111:Nm f_lend [("ends",.local),("count",.local)]:=by kernel_rfl
theorem eq_112:Nm f_lcut [("nums",.local),("block",.local),("check",.local),("records",.local),("ways",.local),("data",.local),("ends",.local),("further",.local),("disk",.local),("file",.local),("safe",.local),("dead",.local),("writer",.local),("i",.local),("after",.local),("torn",.local),("whole",.local),("good",.local),("rows",.local),("reader",.local),("torn_now",.local),("Disk",.globalImplicit),("_law_draw",.globalImplicit),("len",.globalImplicit),("LogWriter",.globalImplicit),("range",.globalImplicit),("DiskDead",.globalImplicit),("_law_end",.globalImplicit),("read_prefix",.globalImplicit),("read_all",.globalImplicit)]:=by kernel_rfl
theorem eq_113:Nm f_lgap [("nums",.local),("block",.local),("check",.local),("records",.local),("data",.local),("pieces",.local),("ends",.local),("further",.local),("r",.local),("start",.local),("end",.local),("disk",.local),("file",.local),("writer",.local),("text",.local),("rows",.local),("reader",.local),("kept",.local),("good",.local),("told",.local),("lost",.local),("p",.local),("_law_draw",.globalImplicit),("len",.globalImplicit),("Disk",.globalImplicit),("LogWriter",.globalImplicit),("read_all",.globalImplicit),("_law_end",.globalImplicit),("read_prefix",.globalImplicit)]:=by kernel_rfl
theorem eq_114:Nm f_lhurt [("nums",.local),("block",.local),("check",.local),("records",.cell),("data",.local),("pieces",.local),("ends",.local),("places",.local),("r",.local),("start",.cell),("end",.local),("at",.local),("new",.local),("hurt",.local),("limit",.cell),("lost",.cell),("reader",.local),("rows",.local),("one",.local),("quiet",.local),("range",.globalImplicit),("_law_draw",.globalImplicit),("len",.globalImplicit),("bytes",.globalImplicit),("read_prefix",.globalImplicit),("_law_end",.globalImplicit),("LogReader",.globalImplicit)]:=by kernel_rfl
theorem eq_115:Nm f_law [("script",.local),("x",.local),("nums",.local),("block",.local),("check",.local),("most",.local),("records",.local),("ways",.local),("total",.local),("i",.local),("y",.cell),("size",.local),("data",.local),("pieces",.local),("ends",.local),("way",.local),("further",.local),("len",.globalImplicit),("_law_draw",.globalImplicit),("min",.globalImplicit),("range",.globalImplicit),("max",.globalImplicit),("bytes",.globalImplicit),("_law_lay",.globalImplicit),("_law_hurt",.globalImplicit),("_law_gap",.globalImplicit),("_law_cut",.globalImplicit)]:=by kernel_rfl
noncomputable def tI (x:Str) (i:Int) (t:Tok):Str × Option Value:=(x,some (.int i t))
noncomputable def tB (x:Str):Str × Option Value:=(x,none)
noncomputable def tR (x:Str) (a:Addr):Str × Option Value:=(x,some (.ref a))
noncomputable def tM (c:Addr) (x:Str) (a:Addr):Addr × Str × Addr:=(c,x,a)
noncomputable def tA (c:Addr) (x:Str):Addr × Str:=(c,x)
noncomputable def allG:List (Str × Option Value):=[tI "MAX_32" 4294967295 362,tB "bytes",tB "len",tI "CRC_POLY" 2197175160 368,tB "range",tR "make_crc_table" 163,tI "MASK_DELTA" 2726488792 370,tI "CHECK_CRC" 1 364,tR "mask" 178,tR "crc32c" 171,tI "CHECK_SUM" 2 366,tB "sum",tI "HEADER" 7 426,tI "MAX_BLOCK" 65542 428,tR "put_fixed32" 149,tR "checksum" 185,tR "check_block" 192,tR "check_kind" 199,tB "min",tI "LAST" 4 438,tI "MIDDLE" 3 436,tI "FULL" 1 432,tI "FIRST" 2 434,tR "make_fragment" 206,tI "AT_END" (-1) 441,tI "BROKEN" (-2) 444,tI "ZERO" 0 430,tR "read_fixed32" 156,tB "bytearray",tB "str",tR "LogReader" 293,tI "STEP_CREATE" 1 644,tI "STEP_REMOVE" 2 646,tR "DiskDead" 128,tR "Node" 342,tR "DirStep" 370,tR "File" 426,tB "dict",tR "Disk" 587,tB "sorted",tR "_law_check" 605,tR "_law_draw" 598,tR "LogWriter" 244,tR "_law_end" 619,tR "read_prefix" 311,tR "read_all" 304,tB "max",tR "_law_lay" 612,tR "_law_hurt" 638,tR "_law_gap" 633,tR "_law_cut" 626,tR "law" 643]
noncomputable def allM:List (Addr × Str × Addr):=[tM 244 "__init__" 220,tM 244 "put" 227,tM 244 "add" 234,tM 244 "sync" 241,tM 293 "__init__" 262,tM 293 "drop" 269,tM 293 "turn_block" 276,tM 293 "fragment" 283,tM 293 "read" 290,tM 342 "__init__" 325,tM 342 "unsynced" 332,tM 370 "__init__" 360,tM 370 "happen" 367,tM 426 "__init__" 388,tM 426 "ready" 395,tM 426 "append" 402,tM 426 "sync" 409,tM 426 "close" 416,tM 426 "length" 423,tM 587 "__init__" 444,tM 587 "set_budget" 451,tM 587 "check_alive" 458,tM 587 "take_steps" 465,tM 587 "one_step" 472,tM 587 "node_of" 479,tM 587 "dir_step" 486,tM 587 "keep_creation" 493,tM 587 "create" 500,tM 587 "create_over" 507,tM 587 "append_to" 514,tM 587 "read" 542,tM 587 "power_cut" 570]
noncomputable def allA:List (Addr × Str):=[tA 244 "file",tA 244 "block",tA 244 "check",tA 244 "length",tA 293 "data",tA 293 "block",tA 293 "check",tA 293 "at",tA 293 "block_end",tA 293 "short",tA 293 "skipped",tA 293 "reasons",tA 293 "torn",tA 293 "good_length",tA 293 "breaks",tA 342 "number",tA 342 "data",tA 342 "kept",tA 370 "kind",tA 370 "name",tA 370 "other",tA 370 "number",tA 426 "disk",tA 426 "name",tA 426 "node",tA 426 "closed",tA 587 "left",tA 587 "spent",tA 587 "alive",tA 587 "nodes",tA 587 "made",tA 587 "kept_names",tA 587 "present",tA 587 "journal"]
noncomputable def allC:List (Addr × Addr):=[(244,220),(293,262),(342,325),(370,360),(426,388),(587,444)]
noncomputable def okG (K:Frag) (p:Str × Option Value):Bool:=nsIn K mainGlobals p.1 == some p.2
noncomputable def okM (K:Frag) (p:Addr × Str × Addr):Bool:=findIn K (.ref p.1) p.2.1 == some (some (.ref p.2.2))&&isFn K (.ref p.2.2)&&keepIn K (.ref p.2.2)
noncomputable def okA (K:Frag) (p:Addr × Str):Bool:=findIn K (.ref p.1) p.2 == some none&&takerIn K p.1 p.2 == some none
noncomputable def okC (K:Frag) (p:Addr × Addr):Bool:=plainGet K p.1 ""&&hasDictIn K p.1&&findIn K (.ref p.1) "__setattr__" == some (some (.builtin "object.__setattr__"))&&plainOver K p.1&&makesIn K p.1&&findIn K (.ref p.1) "__init__" == some (some (.ref p.2))&&isFn K (.ref p.2)&&keepIn K (.ref p.1)
noncomputable def okK (K:Frag) (a:Addr):Bool:=keepIn K (.ref a)
noncomputable abbrev gq (x:Str) (v:V):Str × V:=(x,v)
noncomputable def gvL:List (Str × V):=[gq "MAX_32" (.int (ofNat 4294967295)),gq "bytes" (.bi (.type "bytes")),gq "len" (.bi (.builtin "len")),gq "CRC_POLY" (.int (ofNat 2197175160)),gq "range" (.bi (.type "range")),gq "make_crc_table" (.obj 163),gq "MASK_DELTA" (.int (ofNat 2726488792)),gq "CHECK_CRC" (.int (ofNat 1)),gq "mask" (.obj 178),gq "crc32c" (.obj 171),gq "CHECK_SUM" (.int (ofNat 2)),gq "sum" (.bi (.builtin "sum")),gq "HEADER" (.int (ofNat 7)),gq "MAX_BLOCK" (.int (ofNat 65542)),gq "put_fixed32" (.obj 149),gq "checksum" (.obj 185),gq "check_block" (.obj 192),gq "check_kind" (.obj 199),gq "min" (.bi (.builtin "min")),gq "LAST" (.int (ofNat 4)),gq "MIDDLE" (.int (ofNat 3)),gq "FULL" (.int (ofNat 1)),gq "FIRST" (.int (ofNat 2)),gq "make_fragment" (.obj 206),gq "AT_END" (.int (-1)),gq "BROKEN" (.int (-2)),gq "ZERO" (.int (ofNat 0)),gq "read_fixed32" (.obj 156),gq "bytearray" (.bi (.type "bytearray")),gq "LogReader" (.obj 293),gq "STEP_CREATE" (.int (ofNat 1)),gq "DiskDead" (.obj 128),gq "Node" (.obj 342),gq "DirStep" (.obj 370),gq "File" (.obj 426),gq "dict" (.bi (.type "dict")),gq "Disk" (.obj 587),gq "sorted" (.bi (.builtin "sorted")),gq "_law_check" (.obj 605),gq "_law_draw" (.obj 598),gq "LogWriter" (.obj 244),gq "_law_end" (.obj 619),gq "read_prefix" (.obj 311),gq "read_all" (.obj 304),gq "max" (.bi (.builtin "max")),gq "_law_lay" (.obj 612),gq "_law_hurt" (.obj 638),gq "_law_gap" (.obj 633),gq "_law_cut" (.obj 626)]
class Facts (Γ:Gam):Prop where
 fk:FKs Γ.K allFns
 g:allG.all (okG Γ.K)=true
 m:allM.all (okM Γ.K)=true
 a:allA.all (okA Γ.K)=true
 c:allC.all (okC Γ.K)=true
 k:(allFns.map (·.addr)).all (okK Γ.K)=true
 x:XOk Γ
 dflt:∃ o n,Γ.B.get? 164=some o∧o.data=.seq #[.int 0 397] n
 xc:Γ.xc=128
section
variable {Γ:Gam} [F:Facts Γ]
theorem eq_116 (i:Nat) {x:Str} {v:Int} {t:Tok} (h:allG[i]?=some (x,some (.int v t))):GV Γ x (.int v) :=
 .inl ⟨_,by have:=List.all_eq_true.mp F.g _ (mem_of_getElem? h); exact beq_iff_eq.mp this,fun G=>.int _ _⟩
theorem eq_117 (i:Nat) {x:Str} {a:Addr} (h:allG[i]?=some (x,some (.ref a))):GV Γ x (.obj a) :=
 .inl ⟨_,by have:=List.all_eq_true.mp F.g _ (mem_of_getElem? h); exact beq_iff_eq.mp this,fun G=>.obj _⟩
theorem eq_118 (i:Nat) {x:Str} {n:String} (h:allG[i]?=some (x,none)) (hn:x≠"__name__") (hb:bootBuiltins x=some (.builtin n)):GV Γ x (.bi (.builtin n)) :=
 .inr ⟨by have:=List.all_eq_true.mp F.g _ (mem_of_getElem? h); exact beq_iff_eq.mp this,hn,_,hb,fun G=>.bu _⟩
theorem eq_119 (i:Nat) {x:Str} {n:String} (h:allG[i]?=some (x,none)) (hn:x≠"__name__") (hb:bootBuiltins x=some (.type n)):GV Γ x (.bi (.type n)) :=
 .inr ⟨by have:=List.all_eq_true.mp F.g _ (mem_of_getElem? h); exact beq_iff_eq.mp this,hn,_,hb,fun G=>.ty _⟩
theorem eq_120 (i:Nat) {x:Str} {v:Option Value} (h:allG[i]?=some (x,v)):nsIn Γ.K mainGlobals x=some v:=by
 have:=List.all_eq_true.mp F.g _ (mem_of_getElem? h); exact beq_iff_eq.mp this
theorem eq_121 (i:Nat) {C f:Addr} {x:Str} (h:allM[i]?=some (C,x,f)):findIn Γ.K (.ref C) x=some (some (.ref f))∧isFn Γ.K (.ref f)=true∧keepIn Γ.K (.ref f)=true:=by
 have:=List.all_eq_true.mp F.m _ (mem_of_getElem? h)
 unfold okM at this
 rw [and_eq_true,and_eq_true] at this
 exact ⟨beq_iff_eq.mp this.1.1,this.1.2,this.2⟩
theorem eq_122 (i:Nat) {C:Addr} {x:Str} (h:allA[i]?=some (C,x)):findIn Γ.K (.ref C) x=some none∧takerIn Γ.K C x=some none:=by
 have:=List.all_eq_true.mp F.a _ (mem_of_getElem? h)
 unfold okA at this
 rw [and_eq_true] at this
 exact ⟨beq_iff_eq.mp this.1,beq_iff_eq.mp this.2⟩
theorem eq_123 (i:Nat) {C f:Addr} (h:allC[i]?=some (C,f)):ClsOk Γ C∧NewOk Γ C f:=by
 have:=List.all_eq_true.mp F.c _ (mem_of_getElem? h)
 unfold okC at this
 simp only [and_eq_true] at this
 obtain ⟨⟨⟨⟨⟨⟨⟨h1,h2⟩,h3⟩,h4⟩,h5⟩,h6⟩,h7⟩,h8⟩:=this
 exact ⟨⟨fun nm=>h1,h2,beq_iff_eq.mp h3,h4⟩,⟨h5,beq_iff_eq.mp h6,h7,h8⟩⟩
theorem eq_124 (i:Nat) {f:FnS} (h:allFns[i]?=some f):keepIn Γ.K (.ref f.addr)=true :=
 List.all_eq_true.mp F.k _ (mem_map_of_mem (f:=(·.addr)) (mem_of_getElem? h))
theorem eq_125:FnOk Γ f_put32:=F.fk.ok 0 rfl rfl rfl rfl rfl rfl rfl
theorem eq_126:FnOk Γ f_rd32:=F.fk.ok 1 rfl rfl rfl rfl rfl rfl rfl
theorem eq_127:FnOk Γ f_tbl:=F.fk.ok 2 rfl rfl rfl rfl rfl rfl rfl
theorem eq_128:FnOk Γ f_crc:=F.fk.ok 3 rfl rfl rfl rfl rfl rfl rfl
theorem eq_129:FnOk Γ f_mask:=F.fk.ok 4 rfl rfl rfl rfl rfl rfl rfl
theorem eq_130:FnOk Γ f_csum:=F.fk.ok 5 rfl rfl rfl rfl rfl rfl rfl
theorem eq_131:FnOk Γ f_ckb:=F.fk.ok 6 rfl rfl rfl rfl rfl rfl rfl
theorem eq_132:FnOk Γ f_ckk:=F.fk.ok 7 rfl rfl rfl rfl rfl rfl rfl
theorem eq_133:FnOk Γ f_mkf:=F.fk.ok 8 rfl rfl rfl rfl rfl rfl rfl
theorem eq_134:FnOk Γ f_WI:=F.fk.ok 9 rfl rfl rfl rfl rfl rfl rfl
theorem eq_135:FnOk Γ f_Wput:=F.fk.ok 10 rfl rfl rfl rfl rfl rfl rfl
theorem eq_136:FnOk Γ f_Wadd:=F.fk.ok 11 rfl rfl rfl rfl rfl rfl rfl
theorem eq_137:FnOk Γ f_Wsync:=F.fk.ok 12 rfl rfl rfl rfl rfl rfl rfl
theorem eq_138:FnOk Γ f_RI:=F.fk.ok 13 rfl rfl rfl rfl rfl rfl rfl
theorem eq_139:FnOk Γ f_Rdrop:=F.fk.ok 14 rfl rfl rfl rfl rfl rfl rfl
theorem eq_140:FnOk Γ f_Rturn:=F.fk.ok 15 rfl rfl rfl rfl rfl rfl rfl
theorem eq_141:FnOk Γ f_Rfrag:=F.fk.ok 16 rfl rfl rfl rfl rfl rfl rfl
theorem eq_142:FnOk Γ f_Rread:=F.fk.ok 17 rfl rfl rfl rfl rfl rfl rfl
theorem eq_143:FnOk Γ f_rall:=F.fk.ok 18 rfl rfl rfl rfl rfl rfl rfl
theorem eq_144:FnOk Γ f_rpre:=F.fk.ok 19 rfl rfl rfl rfl rfl rfl rfl
theorem eq_145:FnOk Γ f_NI:=F.fk.ok 20 rfl rfl rfl rfl rfl rfl rfl
theorem eq_146:FnOk Γ f_Nuns:=F.fk.ok 21 rfl rfl rfl rfl rfl rfl rfl
theorem eq_147:FnOk Γ f_SI:=F.fk.ok 22 rfl rfl rfl rfl rfl rfl rfl
theorem eq_148:FnOk Γ f_Shap:=F.fk.ok 23 rfl rfl rfl rfl rfl rfl rfl
theorem eq_149:FnOk Γ f_FI:=F.fk.ok 24 rfl rfl rfl rfl rfl rfl rfl
theorem eq_150:FnOk Γ f_Frdy:=F.fk.ok 25 rfl rfl rfl rfl rfl rfl rfl
theorem eq_151:FnOk Γ f_Fapp:=F.fk.ok 26 rfl rfl rfl rfl rfl rfl rfl
theorem eq_152:FnOk Γ f_Fsync:=F.fk.ok 27 rfl rfl rfl rfl rfl rfl rfl
theorem eq_153:FnOk Γ f_Fclose:=F.fk.ok 28 rfl rfl rfl rfl rfl rfl rfl
theorem eq_154:FnOk Γ f_Flen:=F.fk.ok 29 rfl rfl rfl rfl rfl rfl rfl
theorem eq_155:FnOk Γ f_DI:=F.fk.ok 30 rfl rfl rfl rfl rfl rfl rfl
theorem eq_156:FnOk Γ f_Dbud:=F.fk.ok 31 rfl rfl rfl rfl rfl rfl rfl
theorem eq_157:FnOk Γ f_Dalive:=F.fk.ok 32 rfl rfl rfl rfl rfl rfl rfl
theorem eq_158:FnOk Γ f_Dtake:=F.fk.ok 33 rfl rfl rfl rfl rfl rfl rfl
theorem eq_159:FnOk Γ f_Done:=F.fk.ok 34 rfl rfl rfl rfl rfl rfl rfl
theorem eq_160:FnOk Γ f_Dnode:=F.fk.ok 35 rfl rfl rfl rfl rfl rfl rfl
theorem eq_161:FnOk Γ f_Ddir:=F.fk.ok 36 rfl rfl rfl rfl rfl rfl rfl
theorem eq_162:FnOk Γ f_Dkeep:=F.fk.ok 37 rfl rfl rfl rfl rfl rfl rfl
theorem eq_163:FnOk Γ f_Dcre:=F.fk.ok 38 rfl rfl rfl rfl rfl rfl rfl
theorem eq_164:FnOk Γ f_Dcro:=F.fk.ok 39 rfl rfl rfl rfl rfl rfl rfl
theorem eq_165:FnOk Γ f_Dapp:=F.fk.ok 40 rfl rfl rfl rfl rfl rfl rfl
theorem eq_166:FnOk Γ f_Dread:=F.fk.ok 41 rfl rfl rfl rfl rfl rfl rfl
theorem eq_167:FnOk Γ f_Dcut:=F.fk.ok 42 rfl rfl rfl rfl rfl rfl rfl
theorem eq_168:FnOk Γ f_draw:=F.fk.ok 43 rfl rfl rfl rfl rfl rfl rfl
theorem eq_169:FnOk Γ f_lchk:=F.fk.ok 44 rfl rfl rfl rfl rfl rfl rfl
theorem eq_170:FnOk Γ f_lay:=F.fk.ok 45 rfl rfl rfl rfl rfl rfl rfl
theorem eq_171:FnOk Γ f_lend:=F.fk.ok 46 rfl rfl rfl rfl rfl rfl rfl
theorem eq_172:FnOk Γ f_lcut:=F.fk.ok 47 rfl rfl rfl rfl rfl rfl rfl
theorem eq_173:FnOk Γ f_lgap:=F.fk.ok 48 rfl rfl rfl rfl rfl rfl rfl
theorem eq_174:FnOk Γ f_lhurt:=F.fk.ok 49 rfl rfl rfl rfl rfl rfl rfl
theorem eq_175:FnOk Γ f_law:=F.fk.ok 50 rfl rfl rfl rfl rfl rfl rfl
theorem eq_176:keepIn Γ.K (.ref 149)=true:=eq_124 0 (f:=f_put32) rfl
theorem eq_177:keepIn Γ.K (.ref 156)=true:=eq_124 1 (f:=f_rd32) rfl
theorem eq_178:keepIn Γ.K (.ref 163)=true:=eq_124 2 (f:=f_tbl) rfl
theorem eq_179:keepIn Γ.K (.ref 171)=true:=eq_124 3 (f:=f_crc) rfl
theorem eq_180:keepIn Γ.K (.ref 178)=true:=eq_124 4 (f:=f_mask) rfl
theorem eq_181:keepIn Γ.K (.ref 185)=true:=eq_124 5 (f:=f_csum) rfl
theorem eq_182:keepIn Γ.K (.ref 192)=true:=eq_124 6 (f:=f_ckb) rfl
theorem eq_183:keepIn Γ.K (.ref 199)=true:=eq_124 7 (f:=f_ckk) rfl
theorem eq_184:keepIn Γ.K (.ref 206)=true:=eq_124 8 (f:=f_mkf) rfl
theorem eq_185:keepIn Γ.K (.ref 304)=true:=eq_124 18 (f:=f_rall) rfl
theorem eq_186:keepIn Γ.K (.ref 311)=true:=eq_124 19 (f:=f_rpre) rfl
theorem eq_187:keepIn Γ.K (.ref 598)=true:=eq_124 43 (f:=f_draw) rfl
theorem eq_188:keepIn Γ.K (.ref 605)=true:=eq_124 44 (f:=f_lchk) rfl
theorem eq_189:keepIn Γ.K (.ref 612)=true:=eq_124 45 (f:=f_lay) rfl
theorem eq_190:keepIn Γ.K (.ref 619)=true:=eq_124 46 (f:=f_lend) rfl
theorem eq_191:keepIn Γ.K (.ref 626)=true:=eq_124 47 (f:=f_lcut) rfl
theorem eq_192:keepIn Γ.K (.ref 633)=true:=eq_124 48 (f:=f_lgap) rfl
theorem eq_193:keepIn Γ.K (.ref 638)=true:=eq_124 49 (f:=f_lhurt) rfl
theorem eq_194:∀ p∈gvL,GV Γ p.1 p.2:=List.forall_mem_cons.mpr ⟨eq_116 0 rfl,List.forall_mem_cons.mpr ⟨eq_119 1 rfl dK (by kernel_rfl),List.forall_mem_cons.mpr ⟨eq_118 2 rfl dK (by kernel_rfl),List.forall_mem_cons.mpr ⟨eq_116 3 rfl,List.forall_mem_cons.mpr ⟨eq_119 4 rfl dK (by kernel_rfl),List.forall_mem_cons.mpr ⟨eq_117 5 rfl,List.forall_mem_cons.mpr ⟨eq_116 6 rfl,List.forall_mem_cons.mpr ⟨eq_116 7 rfl,List.forall_mem_cons.mpr ⟨eq_117 8 rfl,List.forall_mem_cons.mpr ⟨eq_117 9 rfl,List.forall_mem_cons.mpr ⟨eq_116 10 rfl,List.forall_mem_cons.mpr ⟨eq_118 11 rfl dK (by kernel_rfl),List.forall_mem_cons.mpr ⟨eq_116 12 rfl,List.forall_mem_cons.mpr ⟨eq_116 13 rfl,List.forall_mem_cons.mpr ⟨eq_117 14 rfl,List.forall_mem_cons.mpr ⟨eq_117 15 rfl,List.forall_mem_cons.mpr ⟨eq_117 16 rfl,List.forall_mem_cons.mpr ⟨eq_117 17 rfl,List.forall_mem_cons.mpr ⟨eq_118 18 rfl dK (by kernel_rfl),List.forall_mem_cons.mpr ⟨eq_116 19 rfl,List.forall_mem_cons.mpr ⟨eq_116 20 rfl,List.forall_mem_cons.mpr ⟨eq_116 21 rfl,List.forall_mem_cons.mpr ⟨eq_116 22 rfl,List.forall_mem_cons.mpr ⟨eq_117 23 rfl,List.forall_mem_cons.mpr ⟨eq_116 24 rfl,List.forall_mem_cons.mpr ⟨eq_116 25 rfl,List.forall_mem_cons.mpr ⟨eq_116 26 rfl,List.forall_mem_cons.mpr ⟨eq_117 27 rfl,List.forall_mem_cons.mpr ⟨eq_119 28 rfl dK (by kernel_rfl),List.forall_mem_cons.mpr ⟨eq_117 30 rfl,List.forall_mem_cons.mpr ⟨eq_116 31 rfl,List.forall_mem_cons.mpr ⟨eq_117 33 rfl,List.forall_mem_cons.mpr ⟨eq_117 34 rfl,List.forall_mem_cons.mpr ⟨eq_117 35 rfl,List.forall_mem_cons.mpr ⟨eq_117 36 rfl,List.forall_mem_cons.mpr ⟨eq_119 37 rfl dK (by kernel_rfl),List.forall_mem_cons.mpr ⟨eq_117 38 rfl,List.forall_mem_cons.mpr ⟨eq_118 39 rfl dK (by kernel_rfl),List.forall_mem_cons.mpr ⟨eq_117 40 rfl,List.forall_mem_cons.mpr ⟨eq_117 41 rfl,List.forall_mem_cons.mpr ⟨eq_117 42 rfl,List.forall_mem_cons.mpr ⟨eq_117 43 rfl,List.forall_mem_cons.mpr ⟨eq_117 44 rfl,List.forall_mem_cons.mpr ⟨eq_117 45 rfl,List.forall_mem_cons.mpr ⟨eq_118 46 rfl dK (by kernel_rfl),List.forall_mem_cons.mpr ⟨eq_117 47 rfl,List.forall_mem_cons.mpr ⟨eq_117 48 rfl,List.forall_mem_cons.mpr ⟨eq_117 49 rfl,List.forall_mem_cons.mpr ⟨eq_117 50 rfl,nofun⟩⟩⟩⟩⟩⟩⟩⟩⟩⟩⟩⟩⟩⟩⟩⟩⟩⟩⟩⟩⟩⟩⟩⟩⟩⟩⟩⟩⟩⟩⟩⟩⟩⟩⟩⟩⟩⟩⟩⟩⟩⟩⟩⟩⟩⟩⟩⟩⟩
theorem eq_195 {x:Str} {u:V}:∀ {l:List (Str × V)},l.lookup x=some u→(x,u)∈l
 | (y,w) :: l,h=>by
  rw [lookup_cons] at h
  cases q:x == y
  ·rw [q] at h; exact .tail _ (eq_195 h)
  ·rw [q] at h; obtain rfl:=Option.some.inj h; obtain rfl:=eq_of_beq q; exact .head _
theorem Y120 {x:Str} {u:V} (h:gvL.lookup x=some u):GV Γ x u:=eq_194 _ (eq_195 h)
theorem eq_196:nsIn Γ.K mainGlobals "DiskDead" = some (some (.ref 128)):=eq_120 33 rfl
theorem eq_197:findIn Γ.K (.ref 244) "put" = some (some (.ref 227))∧isFn Γ.K (.ref 227)=true∧keepIn Γ.K (.ref 227)=true:=eq_121 1 rfl
theorem eq_198:findIn Γ.K (.ref 244) "add" = some (some (.ref 234))∧isFn Γ.K (.ref 234)=true∧keepIn Γ.K (.ref 234)=true:=eq_121 2 rfl
theorem eq_199:findIn Γ.K (.ref 244) "sync" = some (some (.ref 241))∧isFn Γ.K (.ref 241)=true∧keepIn Γ.K (.ref 241)=true:=eq_121 3 rfl
theorem eq_200:findIn Γ.K (.ref 293) "drop" = some (some (.ref 269))∧isFn Γ.K (.ref 269)=true∧keepIn Γ.K (.ref 269)=true:=eq_121 5 rfl
theorem eq_201:findIn Γ.K (.ref 293) "turn_block" = some (some (.ref 276))∧isFn Γ.K (.ref 276)=true∧keepIn Γ.K (.ref 276)=true:=eq_121 6 rfl
theorem eq_202:findIn Γ.K (.ref 293) "fragment" = some (some (.ref 283))∧isFn Γ.K (.ref 283)=true∧keepIn Γ.K (.ref 283)=true:=eq_121 7 rfl
theorem eq_203:findIn Γ.K (.ref 293) "read" = some (some (.ref 290))∧isFn Γ.K (.ref 290)=true∧keepIn Γ.K (.ref 290)=true:=eq_121 8 rfl
theorem eq_204:findIn Γ.K (.ref 342) "unsynced" = some (some (.ref 332))∧isFn Γ.K (.ref 332)=true∧keepIn Γ.K (.ref 332)=true:=eq_121 10 rfl
theorem eq_205:findIn Γ.K (.ref 370) "happen" = some (some (.ref 367))∧isFn Γ.K (.ref 367)=true∧keepIn Γ.K (.ref 367)=true:=eq_121 12 rfl
theorem eq_206:findIn Γ.K (.ref 426) "ready" = some (some (.ref 395))∧isFn Γ.K (.ref 395)=true∧keepIn Γ.K (.ref 395)=true:=eq_121 14 rfl
theorem eq_207:findIn Γ.K (.ref 426) "append" = some (some (.ref 402))∧isFn Γ.K (.ref 402)=true∧keepIn Γ.K (.ref 402)=true:=eq_121 15 rfl
theorem eq_208:findIn Γ.K (.ref 426) "sync" = some (some (.ref 409))∧isFn Γ.K (.ref 409)=true∧keepIn Γ.K (.ref 409)=true:=eq_121 16 rfl
theorem eq_209:findIn Γ.K (.ref 426) "close" = some (some (.ref 416))∧isFn Γ.K (.ref 416)=true∧keepIn Γ.K (.ref 416)=true:=eq_121 17 rfl
theorem eq_210:findIn Γ.K (.ref 426) "length" = some (some (.ref 423))∧isFn Γ.K (.ref 423)=true∧keepIn Γ.K (.ref 423)=true:=eq_121 18 rfl
theorem eq_211:findIn Γ.K (.ref 587) "set_budget" = some (some (.ref 451))∧isFn Γ.K (.ref 451)=true∧keepIn Γ.K (.ref 451)=true:=eq_121 20 rfl
theorem eq_212:findIn Γ.K (.ref 587) "check_alive" = some (some (.ref 458))∧isFn Γ.K (.ref 458)=true∧keepIn Γ.K (.ref 458)=true:=eq_121 21 rfl
theorem eq_213:findIn Γ.K (.ref 587) "take_steps" = some (some (.ref 465))∧isFn Γ.K (.ref 465)=true∧keepIn Γ.K (.ref 465)=true:=eq_121 22 rfl
theorem eq_214:findIn Γ.K (.ref 587) "one_step" = some (some (.ref 472))∧isFn Γ.K (.ref 472)=true∧keepIn Γ.K (.ref 472)=true:=eq_121 23 rfl
theorem eq_215:findIn Γ.K (.ref 587) "node_of" = some (some (.ref 479))∧isFn Γ.K (.ref 479)=true∧keepIn Γ.K (.ref 479)=true:=eq_121 24 rfl
theorem eq_216:findIn Γ.K (.ref 587) "dir_step" = some (some (.ref 486))∧isFn Γ.K (.ref 486)=true∧keepIn Γ.K (.ref 486)=true:=eq_121 25 rfl
theorem eq_217:findIn Γ.K (.ref 587) "keep_creation" = some (some (.ref 493))∧isFn Γ.K (.ref 493)=true∧keepIn Γ.K (.ref 493)=true:=eq_121 26 rfl
theorem eq_218:findIn Γ.K (.ref 587) "create" = some (some (.ref 500))∧isFn Γ.K (.ref 500)=true∧keepIn Γ.K (.ref 500)=true:=eq_121 27 rfl
theorem eq_219:findIn Γ.K (.ref 587) "create_over" = some (some (.ref 507))∧isFn Γ.K (.ref 507)=true∧keepIn Γ.K (.ref 507)=true:=eq_121 28 rfl
theorem eq_220:findIn Γ.K (.ref 587) "append_to" = some (some (.ref 514))∧isFn Γ.K (.ref 514)=true∧keepIn Γ.K (.ref 514)=true:=eq_121 29 rfl
theorem eq_221:findIn Γ.K (.ref 587) "read" = some (some (.ref 542))∧isFn Γ.K (.ref 542)=true∧keepIn Γ.K (.ref 542)=true:=eq_121 30 rfl
theorem eq_222:findIn Γ.K (.ref 587) "power_cut" = some (some (.ref 570))∧isFn Γ.K (.ref 570)=true∧keepIn Γ.K (.ref 570)=true:=eq_121 31 rfl
theorem eq_223:findIn Γ.K (.ref 244) "file" = some none∧takerIn Γ.K 244 "file" = some none:=eq_122 0 rfl
theorem eq_224:findIn Γ.K (.ref 244) "block" = some none∧takerIn Γ.K 244 "block" = some none:=eq_122 1 rfl
theorem eq_225:findIn Γ.K (.ref 244) "check" = some none∧takerIn Γ.K 244 "check" = some none:=eq_122 2 rfl
theorem Y121:findIn Γ.K (.ref 244) "length" = some none∧takerIn Γ.K 244 "length" = some none:=eq_122 3 rfl
theorem eq_226:findIn Γ.K (.ref 293) "data" = some none∧takerIn Γ.K 293 "data" = some none:=eq_122 4 rfl
theorem eq_227:findIn Γ.K (.ref 293) "block" = some none∧takerIn Γ.K 293 "block" = some none:=eq_122 5 rfl
theorem eq_228:findIn Γ.K (.ref 293) "check" = some none∧takerIn Γ.K 293 "check" = some none:=eq_122 6 rfl
theorem Y122:findIn Γ.K (.ref 293) "at" = some none∧takerIn Γ.K 293 "at" = some none:=eq_122 7 rfl
theorem Y123:findIn Γ.K (.ref 293) "block_end" = some none∧takerIn Γ.K 293 "block_end" = some none:=eq_122 8 rfl
theorem Y124:findIn Γ.K (.ref 293) "short" = some none∧takerIn Γ.K 293 "short" = some none:=eq_122 9 rfl
theorem Y125:findIn Γ.K (.ref 293) "skipped" = some none∧takerIn Γ.K 293 "skipped" = some none:=eq_122 10 rfl
theorem eq_229:findIn Γ.K (.ref 293) "reasons" = some none∧takerIn Γ.K 293 "reasons" = some none:=eq_122 11 rfl
theorem Y126:findIn Γ.K (.ref 293) "torn" = some none∧takerIn Γ.K 293 "torn" = some none:=eq_122 12 rfl
theorem Y127:findIn Γ.K (.ref 293) "good_length" = some none∧takerIn Γ.K 293 "good_length" = some none:=eq_122 13 rfl
theorem Y128:findIn Γ.K (.ref 293) "breaks" = some none∧takerIn Γ.K 293 "breaks" = some none:=eq_122 14 rfl
theorem eq_230:findIn Γ.K (.ref 342) "number" = some none∧takerIn Γ.K 342 "number" = some none:=eq_122 15 rfl
theorem eq_231:findIn Γ.K (.ref 342) "data" = some none∧takerIn Γ.K 342 "data" = some none:=eq_122 16 rfl
theorem Y129:findIn Γ.K (.ref 342) "kept" = some none∧takerIn Γ.K 342 "kept" = some none:=eq_122 17 rfl
theorem eq_232:findIn Γ.K (.ref 370) "kind" = some none∧takerIn Γ.K 370 "kind" = some none:=eq_122 18 rfl
theorem eq_233:findIn Γ.K (.ref 370) "name" = some none∧takerIn Γ.K 370 "name" = some none:=eq_122 19 rfl
theorem eq_234:findIn Γ.K (.ref 370) "other" = some none∧takerIn Γ.K 370 "other" = some none:=eq_122 20 rfl
theorem eq_235:findIn Γ.K (.ref 370) "number" = some none∧takerIn Γ.K 370 "number" = some none:=eq_122 21 rfl
theorem eq_236:findIn Γ.K (.ref 426) "disk" = some none∧takerIn Γ.K 426 "disk" = some none:=eq_122 22 rfl
theorem eq_237:findIn Γ.K (.ref 426) "name" = some none∧takerIn Γ.K 426 "name" = some none:=eq_122 23 rfl
theorem eq_238:findIn Γ.K (.ref 426) "node" = some none∧takerIn Γ.K 426 "node" = some none:=eq_122 24 rfl
theorem Y130:findIn Γ.K (.ref 426) "closed" = some none∧takerIn Γ.K 426 "closed" = some none:=eq_122 25 rfl
theorem Y131:findIn Γ.K (.ref 587) "left" = some none∧takerIn Γ.K 587 "left" = some none:=eq_122 26 rfl
theorem Y132:findIn Γ.K (.ref 587) "spent" = some none∧takerIn Γ.K 587 "spent" = some none:=eq_122 27 rfl
theorem Y133:findIn Γ.K (.ref 587) "alive" = some none∧takerIn Γ.K 587 "alive" = some none:=eq_122 28 rfl
theorem eq_239:findIn Γ.K (.ref 587) "nodes" = some none∧takerIn Γ.K 587 "nodes" = some none:=eq_122 29 rfl
theorem Y134:findIn Γ.K (.ref 587) "made" = some none∧takerIn Γ.K 587 "made" = some none:=eq_122 30 rfl
theorem eq_240:findIn Γ.K (.ref 587) "kept_names" = some none∧takerIn Γ.K 587 "kept_names" = some none:=eq_122 31 rfl
theorem eq_241:findIn Γ.K (.ref 587) "present" = some none∧takerIn Γ.K 587 "present" = some none:=eq_122 32 rfl
theorem Y135:findIn Γ.K (.ref 587) "journal" = some none∧takerIn Γ.K 587 "journal" = some none:=eq_122 33 rfl
theorem c_W:ClsOk Γ 244∧NewOk Γ 244 220:=eq_123 0 rfl
theorem c_R:ClsOk Γ 293∧NewOk Γ 293 262:=eq_123 1 rfl
theorem c_N:ClsOk Γ 342∧NewOk Γ 342 325:=eq_123 2 rfl
theorem eq_242:ClsOk Γ 370∧NewOk Γ 370 360:=eq_123 3 rfl
theorem c_F:ClsOk Γ 426∧NewOk Γ 426 388:=eq_123 4 rfl
theorem c_D:ClsOk Γ 587∧NewOk Γ 587 444:=eq_123 5 rfl
end
theorem eq_243 {Γ:Gam} [F:Facts Γ] {x0:V}:BindOk Γ f_put32 [x0] [some x0,none,none,none] :=
 BindOk.plain (ps:=["n"]) rfl (eq_125 (Γ:=Γ)).nd rfl fun vs h=>by apply eq_54 (vs:=vs) h; exact fun _=>rfl
theorem eq_244 {Γ:Gam} [F:Facts Γ] {x0:V} {x1:V}:BindOk Γ f_rd32 [x0,x1] [some x0,some x1,none,none] :=
 BindOk.plain (ps:=["data","at"]) rfl (eq_126 (Γ:=Γ)).nd rfl fun vs h=>by apply el2 (vs:=vs) h; exact fun _ _=>rfl
theorem eq_245 {Γ:Gam} [F:Facts Γ]:BindOk Γ f_tbl [] [none,none,none,none,none,none] :=
 BindOk.plain (ps:=[]) rfl (eq_127 (Γ:=Γ)).nd rfl fun vs h=>by apply eq_52 (vs:=vs) h; exact rfl
theorem eq_246 {Γ:Gam} [F:Facts Γ] {x0:V}:BindOk Γ f_mask [x0] [some x0,none,none] :=
 BindOk.plain (ps:=["c"]) rfl (eq_129 (Γ:=Γ)).nd rfl fun vs h=>by apply eq_54 (vs:=vs) h; exact fun _=>rfl
theorem eq_247 {Γ:Gam} [F:Facts Γ] {x0:V} {x1:V}:BindOk Γ f_csum [x0,x1] [some x0,some x1,none,none,none,none,none,none,none,none] :=
 BindOk.plain (ps:=["kind","data"]) rfl (eq_130 (Γ:=Γ)).nd rfl fun vs h=>by apply el2 (vs:=vs) h; exact fun _ _=>rfl
theorem eq_248 {Γ:Gam} [F:Facts Γ] {x0:V}:BindOk Γ f_ckb [x0] [some x0,none,none,none] :=
 BindOk.plain (ps:=["block"]) rfl (eq_131 (Γ:=Γ)).nd rfl fun vs h=>by apply eq_54 (vs:=vs) h; exact fun _=>rfl
theorem eq_249 {Γ:Gam} [F:Facts Γ] {x0:V}:BindOk Γ f_ckk [x0] [some x0,none,none,none] :=
 BindOk.plain (ps:=["check"]) rfl (eq_132 (Γ:=Γ)).nd rfl fun vs h=>by apply eq_54 (vs:=vs) h; exact fun _=>rfl
theorem eq_250 {Γ:Gam} [F:Facts Γ] {x0:V} {x1:V} {x2:V}:BindOk Γ f_mkf [x0,x1,x2] [some x0,some x1,some x2,none,none,none,none,none,none] :=
 BindOk.plain (ps:=["kind","data","check"]) rfl (eq_133 (Γ:=Γ)).nd rfl fun vs h=>by apply eq_55 (vs:=vs) h; exact fun _ _ _=>rfl
theorem eq_251 {Γ:Gam} [F:Facts Γ] {x0:V} {x1:V} {x2:V} {x3:V} {x4:V}:BindOk Γ f_WI [x0,x1,x2,x3,x4] [some x0,some x1,some x2,some x3,some x4,none,none,none] :=
 BindOk.plain (ps:=["self","file","block","check","length"]) rfl (eq_134 (Γ:=Γ)).nd rfl fun vs h=>by apply eq_57 (vs:=vs) h; exact fun _ _ _ _ _=>rfl
theorem eq_252 {Γ:Gam} [F:Facts Γ] {x0:V} {x1:V}:BindOk Γ f_Wput [x0,x1] [some x0,some x1,none] :=
 BindOk.plain (ps:=["self","octets"]) rfl (eq_135 (Γ:=Γ)).nd rfl fun vs h=>by apply el2 (vs:=vs) h; exact fun _ _=>rfl
theorem eq_253 {Γ:Gam} [F:Facts Γ] {x0:V} {x1:V}:BindOk Γ f_Wadd [x0,x1] [some x0,some x1,none,none,none,none,none,none,none,none,none,none,none,none,none,none,none,none] :=
 BindOk.plain (ps:=["self","octets"]) rfl (eq_136 (Γ:=Γ)).nd rfl fun vs h=>by apply el2 (vs:=vs) h; exact fun _ _=>rfl
theorem eq_254 {Γ:Gam} [F:Facts Γ] {x0:V}:BindOk Γ f_Wsync [x0] [some x0] :=
 BindOk.plain (ps:=["self"]) rfl (eq_137 (Γ:=Γ)).nd rfl fun vs h=>by apply eq_54 (vs:=vs) h; exact fun _=>rfl
theorem eq_255 {Γ:Gam} [F:Facts Γ] {x0:V} {x1:V} {x2:V} {x3:V}:BindOk Γ f_RI [x0,x1,x2,x3] [some x0,some x1,some x2,some x3,none,none,none] :=
 BindOk.plain (ps:=["self","data","block","check"]) rfl (eq_138 (Γ:=Γ)).nd rfl fun vs h=>by apply eq_56 (vs:=vs) h; exact fun _ _ _ _=>rfl
theorem eq_256 {Γ:Gam} [F:Facts Γ] {x0:V} {x1:V} {x2:V}:BindOk Γ f_Rdrop [x0,x1,x2] [some x0,some x1,some x2] :=
 BindOk.plain (ps:=["self","octets","why"]) rfl (eq_139 (Γ:=Γ)).nd rfl fun vs h=>by apply eq_55 (vs:=vs) h; exact fun _ _ _=>rfl
theorem eq_257 {Γ:Gam} [F:Facts Γ] {x0:V}:BindOk Γ f_Rturn [x0] [some x0,none,none] :=
 BindOk.plain (ps:=["self"]) rfl (eq_140 (Γ:=Γ)).nd rfl fun vs h=>by apply eq_54 (vs:=vs) h; exact fun _=>rfl
theorem eq_258 {Γ:Gam} [F:Facts Γ] {x0:V}:BindOk Γ f_Rfrag [x0] [some x0,none,none,none,none,none,none,none,none,none,none,none,none] :=
 BindOk.plain (ps:=["self"]) rfl (eq_141 (Γ:=Γ)).nd rfl fun vs h=>by apply eq_54 (vs:=vs) h; exact fun _=>rfl
theorem eq_259 {Γ:Gam} [F:Facts Γ] {x0:V}:BindOk Γ f_Rread [x0] [some x0,none,none,none,none,none,none,none,none,none,none,none,none,none,none] :=
 BindOk.plain (ps:=["self"]) rfl (eq_142 (Γ:=Γ)).nd rfl fun vs h=>by apply eq_54 (vs:=vs) h; exact fun _=>rfl
theorem eq_260 {Γ:Gam} [F:Facts Γ] {x0:V} {x1:V} {x2:V}:BindOk Γ f_rall [x0,x1,x2] [some x0,some x1,some x2,none,none,none,none] :=
 BindOk.plain (ps:=["data","block","check"]) rfl (eq_143 (Γ:=Γ)).nd rfl fun vs h=>by apply eq_55 (vs:=vs) h; exact fun _ _ _=>rfl
theorem eq_261 {Γ:Gam} [F:Facts Γ] {x0:V} {x1:V} {x2:V}:BindOk Γ f_rpre [x0,x1,x2] [some x0,some x1,some x2,none,none,none,none,none] :=
 BindOk.plain (ps:=["data","block","check"]) rfl (eq_144 (Γ:=Γ)).nd rfl fun vs h=>by apply eq_55 (vs:=vs) h; exact fun _ _ _=>rfl
theorem eq_262 {Γ:Gam} [F:Facts Γ] {x0:V} {x1:V} {x2:V} {x3:V}:BindOk Γ f_NI [x0,x1,x2,x3] [some x0,some x1,some x2,some x3] :=
 BindOk.plain (ps:=["self","number","data","kept"]) rfl (eq_145 (Γ:=Γ)).nd rfl fun vs h=>by apply eq_56 (vs:=vs) h; exact fun _ _ _ _=>rfl
theorem eq_263 {Γ:Gam} [F:Facts Γ] {x0:V}:BindOk Γ f_Nuns [x0] [some x0,none] :=
 BindOk.plain (ps:=["self"]) rfl (eq_146 (Γ:=Γ)).nd rfl fun vs h=>by apply eq_54 (vs:=vs) h; exact fun _=>rfl
theorem eq_264 {Γ:Gam} [F:Facts Γ] {x0:V} {x1:V} {x2:V} {x3:V} {x4:V}:BindOk Γ f_SI [x0,x1,x2,x3,x4] [some x0,some x1,some x2,some x3,some x4] :=
 BindOk.plain (ps:=["self","kind","name","other","number"]) rfl (eq_147 (Γ:=Γ)).nd rfl fun vs h=>by apply eq_57 (vs:=vs) h; exact fun _ _ _ _ _=>rfl
theorem eq_265 {Γ:Gam} [F:Facts Γ] {x0:V} {x1:V}:BindOk Γ f_Shap [x0,x1] [some x0,some x1,none,none,none] :=
 BindOk.plain (ps:=["self","directory"]) rfl (eq_148 (Γ:=Γ)).nd rfl fun vs h=>by apply el2 (vs:=vs) h; exact fun _ _=>rfl
theorem eq_266 {Γ:Gam} [F:Facts Γ] {x0:V} {x1:V} {x2:V} {x3:V}:BindOk Γ f_FI [x0,x1,x2,x3] [some x0,some x1,some x2,some x3] :=
 BindOk.plain (ps:=["self","disk","name","node"]) rfl (eq_149 (Γ:=Γ)).nd rfl fun vs h=>by apply eq_56 (vs:=vs) h; exact fun _ _ _ _=>rfl
theorem eq_267 {Γ:Gam} [F:Facts Γ] {x0:V}:BindOk Γ f_Frdy [x0] [some x0,none] :=
 BindOk.plain (ps:=["self"]) rfl (eq_150 (Γ:=Γ)).nd rfl fun vs h=>by apply eq_54 (vs:=vs) h; exact fun _=>rfl
theorem eq_268 {Γ:Gam} [F:Facts Γ] {x0:V} {x1:V}:BindOk Γ f_Fapp [x0,x1] [some x0,some x1,none,none,none,none] :=
 BindOk.plain (ps:=["self","octets"]) rfl (eq_151 (Γ:=Γ)).nd rfl fun vs h=>by apply el2 (vs:=vs) h; exact fun _ _=>rfl
theorem eq_269 {Γ:Gam} [F:Facts Γ] {x0:V}:BindOk Γ f_Fsync [x0] [some x0,none] :=
 BindOk.plain (ps:=["self"]) rfl (eq_152 (Γ:=Γ)).nd rfl fun vs h=>by apply eq_54 (vs:=vs) h; exact fun _=>rfl
theorem eq_270 {Γ:Gam} [F:Facts Γ] {x0:V}:BindOk Γ f_Fclose [x0] [some x0] :=
 BindOk.plain (ps:=["self"]) rfl (eq_153 (Γ:=Γ)).nd rfl fun vs h=>by apply eq_54 (vs:=vs) h; exact fun _=>rfl
theorem eq_271 {Γ:Gam} [F:Facts Γ] {x0:V}:BindOk Γ f_Flen [x0] [some x0,none] :=
 BindOk.plain (ps:=["self"]) rfl (eq_154 (Γ:=Γ)).nd rfl fun vs h=>by apply eq_54 (vs:=vs) h; exact fun _=>rfl
theorem eq_272 {Γ:Gam} [F:Facts Γ] {x0:V} {x1:V}:BindOk Γ f_DI [x0,x1] [some x0,some x1,none] :=
 BindOk.plain (ps:=["self","budget"]) rfl (eq_155 (Γ:=Γ)).nd rfl fun vs h=>by apply el2 (vs:=vs) h; exact fun _ _=>rfl
theorem eq_273 {Γ:Gam} [F:Facts Γ] {x0:V} {x1:V}:BindOk Γ f_Dbud [x0,x1] [some x0,some x1,none] :=
 BindOk.plain (ps:=["self","budget"]) rfl (eq_156 (Γ:=Γ)).nd rfl fun vs h=>by apply el2 (vs:=vs) h; exact fun _ _=>rfl
theorem eq_274 {Γ:Gam} [F:Facts Γ] {x0:V}:BindOk Γ f_Dalive [x0] [some x0,none] :=
 BindOk.plain (ps:=["self"]) rfl (eq_157 (Γ:=Γ)).nd rfl fun vs h=>by apply eq_54 (vs:=vs) h; exact fun _=>rfl
theorem eq_275 {Γ:Gam} [F:Facts Γ] {x0:V} {x1:V}:BindOk Γ f_Dtake [x0,x1] [some x0,some x1,none] :=
 BindOk.plain (ps:=["self","wanted"]) rfl (eq_158 (Γ:=Γ)).nd rfl fun vs h=>by apply el2 (vs:=vs) h; exact fun _ _=>rfl
theorem eq_276 {Γ:Gam} [F:Facts Γ] {x0:V} {x1:V}:BindOk Γ f_Done [x0,x1] [some x0,some x1,none] :=
 BindOk.plain (ps:=["self","what"]) rfl (eq_159 (Γ:=Γ)).nd rfl fun vs h=>by apply el2 (vs:=vs) h; exact fun _ _=>rfl
theorem eq_277 {Γ:Gam} [F:Facts Γ] {x0:V} {x1:V}:BindOk Γ f_Dnode [x0,x1] [some x0,some x1,none] :=
 BindOk.plain (ps:=["self","name"]) rfl (eq_160 (Γ:=Γ)).nd rfl fun vs h=>by apply el2 (vs:=vs) h; exact fun _ _=>rfl
theorem eq_278 {Γ:Gam} [F:Facts Γ] {x0:V} {x1:V}:BindOk Γ f_Ddir [x0,x1] [some x0,some x1] :=
 BindOk.plain (ps:=["self","step"]) rfl (eq_161 (Γ:=Γ)).nd rfl fun vs h=>by apply el2 (vs:=vs) h; exact fun _ _=>rfl
theorem eq_279 {Γ:Gam} [F:Facts Γ] {x0:V} {x1:V}:BindOk Γ f_Dkeep [x0,x1] [some x0,some x1,none,none,none,none,none,none] :=
 BindOk.plain (ps:=["self","number"]) rfl (eq_162 (Γ:=Γ)).nd rfl fun vs h=>by apply el2 (vs:=vs) h; exact fun _ _=>rfl
theorem eq_280 {Γ:Gam} [F:Facts Γ] {x0:V} {x1:V}:BindOk Γ f_Dcre [x0,x1] [some x0,some x1,none] :=
 BindOk.plain (ps:=["self","name"]) rfl (eq_163 (Γ:=Γ)).nd rfl fun vs h=>by apply el2 (vs:=vs) h; exact fun _ _=>rfl
theorem eq_281 {Γ:Gam} [F:Facts Γ] {x0:V} {x1:V}:BindOk Γ f_Dcro [x0,x1] [some x0,some x1,none,none,none,none,none,none] :=
 BindOk.plain (ps:=["self","name"]) rfl (eq_164 (Γ:=Γ)).nd rfl fun vs h=>by apply el2 (vs:=vs) h; exact fun _ _=>rfl
theorem eq_282 {Γ:Gam} [F:Facts Γ] {x0:V} {x1:V}:BindOk Γ f_Dapp [x0,x1] [some x0,some x1,none] :=
 BindOk.plain (ps:=["self","name"]) rfl (eq_165 (Γ:=Γ)).nd rfl fun vs h=>by apply el2 (vs:=vs) h; exact fun _ _=>rfl
theorem eq_283 {Γ:Gam} [F:Facts Γ] {x0:V} {x1:V}:BindOk Γ f_Dread [x0,x1] [some x0,some x1,none] :=
 BindOk.plain (ps:=["self","name"]) rfl (eq_166 (Γ:=Γ)).nd rfl fun vs h=>by apply el2 (vs:=vs) h; exact fun _ _=>rfl
theorem eq_284 {Γ:Gam} [F:Facts Γ] {x0:V} {x1:V}:BindOk Γ f_Dcut [x0,x1] [some x0,some x1,none,none,none,none,none,none,none,none,none,none,none,none,none,none,none] :=
 BindOk.plain (ps:=["self","picks"]) rfl (eq_167 (Γ:=Γ)).nd rfl fun vs h=>by apply el2 (vs:=vs) h; exact fun _ _=>rfl
theorem eq_285 {Γ:Gam} [F:Facts Γ] {x0:V} {x1:V}:BindOk Γ f_draw [x0,x1] [some x0,some x1,none] :=
 BindOk.plain (ps:=["nums","i"]) rfl (eq_168 (Γ:=Γ)).nd rfl fun vs h=>by apply el2 (vs:=vs) h; exact fun _ _=>rfl
theorem eq_286 {Γ:Gam} [F:Facts Γ] {x0:V} {x1:V}:BindOk Γ f_lchk [x0,x1] [some x0,some x1,none,none,none,none,none,none] :=
 BindOk.plain (ps:=["kind","data"]) rfl (eq_169 (Γ:=Γ)).nd rfl fun vs h=>by apply el2 (vs:=vs) h; exact fun _ _=>rfl
theorem eq_287 {Γ:Gam} [F:Facts Γ] {x0:V} {x1:V} {x2:V}:BindOk Γ f_lay [x0,x1,x2] [some x0,some x1,some x2,none,none,none,none,none,none,none,none,none,none,none,none,none,none,none,none,none,none] :=
 BindOk.plain (ps:=["records","block","check"]) rfl (eq_170 (Γ:=Γ)).nd rfl fun vs h=>by apply eq_55 (vs:=vs) h; exact fun _ _ _=>rfl
theorem eq_288 {Γ:Gam} [F:Facts Γ] {x0:V} {x1:V}:BindOk Γ f_lend [x0,x1] [some x0,some x1] :=
 BindOk.plain (ps:=["ends","count"]) rfl (eq_171 (Γ:=Γ)).nd rfl fun vs h=>by apply el2 (vs:=vs) h; exact fun _ _=>rfl
theorem eq_289 {Γ:Gam} [F:Facts Γ] {x0:V} {x1:V} {x2:V} {x3:V} {x4:V} {x5:V} {x6:V} {x7:V}:BindOk Γ f_lcut [x0,x1,x2,x3,x4,x5,x6,x7] [some x0,some x1,some x2,some x3,some x4,some x5,some x6,some x7,none,none,none,none,none,none,none,none,none,none,none,none,none,none,none,none,none,none,none,none,none,none] :=
 BindOk.plain (ps:=["nums","block","check","records","ways","data","ends","further"]) rfl (eq_172 (Γ:=Γ)).nd rfl fun vs h=>by apply eq_60 (vs:=vs) h; exact fun _ _ _ _ _ _ _ _=>rfl
theorem eq_290 {Γ:Gam} [F:Facts Γ] {x0:V} {x1:V} {x2:V} {x3:V} {x4:V} {x5:V} {x6:V} {x7:V}:BindOk Γ f_lgap [x0,x1,x2,x3,x4,x5,x6,x7] [some x0,some x1,some x2,some x3,some x4,some x5,some x6,some x7,none,none,none,none,none,none,none,none,none,none,none,none,none,none,none,none,none,none,none,none,none] :=
 BindOk.plain (ps:=["nums","block","check","records","data","pieces","ends","further"]) rfl (eq_173 (Γ:=Γ)).nd rfl fun vs h=>by apply eq_60 (vs:=vs) h; exact fun _ _ _ _ _ _ _ _=>rfl
set_option maxHeartbeats 4000000
noncomputable def gamOf (q:Program) (loose:List Str) (K:Frag) (w:World) (B:Heap) (os:OsState) (mg mb:Str→Option Value) (hK:K.In B) (hT:TopRead q loose mg mb B):Gam :=
 ⟨PySem.Challenge.pw_no0417_01,w,B,os,K,q,loose,mg,mb,128,hK,hT⟩
set_option tactic.hygienic true in
theorem finish {q:Program} {loose:List Str} {XP:(Str→Option Value)→Heap→Prop} {K:Params→Frag} {d:DefRec} {kwd:List (Str × Expr)}
  (hn:d.name = "law") (hlawA:∀ P,nsIn (K P) mainGlobals "law" = some (some (.ref 643)))
  (hlaw:∀ (w:World) (Γ:Gam),Γ.prog=PySem.Challenge.pw_no0417_01→Γ.w=w→Γ.K=K w.params→Γ.xc=128→∀ xs:List Int,xs.length≤63→FC Γ 40 643 [.lst (xs.map .int)] (fun _=>none) (fun x _=>x=.bool true) noH) :
   WalkN q loose XP (fun w h=>(K w.params).In h) PySem.Challenge.rw_no0417_01.row.toRowW d kwd:=by
 w_on
 intro w s₀ s₁ mg mb G Y a o pm cd doc dV kV ho hd hmg hg args vals as hpre hlay hrd hwl hlo
 wrow_args hpre hlay hrd hwl hlo
 rename_i w5 hs1 hlay0 hL1 hr1 hl2 w4 w3 w2 w1 w0 hL ra w1' r0 hI hr hc1 hc2
 have hT:=topRead_of G.T
 let Γ:=gamOf q (looseW q loose) (K w.params) w s₁.heap s₁.os mg mb Y hT
 have ha:mg d.name=some (.ref 643):=by rw [hn]; exact mg_of Γ.hK Γ.hT.g (hlawA _)
 rw [hmg] at ha; cases ha
 have hlen:w5.length≤63:=by lia
 have F:=hlaw w Γ rfl rfl rfl rfl w5 hlen
 refine Y2 ?_; rintro G0 hG0; obtain ⟨ol,hol,hcl,nl,hdl⟩:=hL; refine hG0 ?_; clear hG0
 have b:Base Γ s₁.heap.get? (fun _=>none) [] s₁:=⟨hg,rfl,fun a o e=>e,fun a o e=>e,fun a o e=>(nomatch e),fun a o e=>(nomatch e),fun f hf=>(nomatch hf),nodup_nil,fun f hf=>(nomatch hf)⟩
 have hr:HR Γ s₁.heap.get? (fun _=>none) (fun _=>none):=⟨fun _=>0,fun a o e=>(nomatch e),fun a C ns vs e=>(nomatch e),fun a a' C ns vs C' ns' vs' e=>(nomatch e)⟩
 have hints:∀ {vs:List Value} {ks:List Int},IntsAre vs ks→VRs s₁.heap.get? vs (ks.map .int):=fun h=>by
  induction h with
  | nil=>exact .nil
  | cons _ _ _ ih=>exact .cons (.int _ _) ih
 have hv:VRs s₁.heap.get? [.ref w2] [.lst (w5.map .int)]:=.cons (.lst hol hcl hdl (hints hI)) .nil
 have ao:AOk 40 callerA (([]:List FrI).map (·.env)):=⟨rfl,rfl,dK,dK⟩
 refine Y8 (Y9 (F.run callerA s₁ s₁.heap.get? (fun _=>none) [] [.ref w2] ao (fun g hg=>(nomatch hg)) (le_refl _) b hr hv) fun r s' q=>?_)
 match r,q with
 | .ok (.ret v),⟨G',own',hp',x,l,b',hr',hv',hx⟩ =>
  subst hx
  cases hv'
  refine ⟨.inl ⟨_,.bool true,[],rfl,fun _=>rfl,.bool _,?_,fun _=>⟨nodup_nil,fun a h=>(nomatch h)⟩⟩,OldK.of_keep fun a o e=>b'.hG a o (b'.hB a o e),b'.os,.of_eq b'.gens⟩
  wrow_post
 | .error e,⟨G',own',hp',a,l,b',hr',he,hx,q⟩=>exact q.elim
noncomputable def ownIn (K:Frag) (A:Addr):Bool:=match K.lookup A with
 | some ⟨_,_,.cls cd,_⟩=>nsOkIn K cd.ns&&nsIn K cd.ns "__init__" == some none
 | _=>false
theorem eq_291 {K:Frag} {h:Heap} {A:Addr} {b tl:List Value} (X:K.In h) (q:ownIn K A=true) (T:OwnTail h b tl):OwnTail h b (.ref A :: tl):=by
 unfold ownIn at q
 split at q
 ·rename_i ho
  rw [and_eq_true,beq_iff_eq] at q
  have hN:=Heap.Ns.of_isNs (isNs_of_in X q.1)
  exact .own (X _ _ ho) hN (ns_none_of X hN q.2) T
 ·cases q
noncomputable def xcIn (K:Frag) (C:Addr):Bool:=match K.lookup C with
 | some ⟨cl,_,.cls cd,sl⟩=>(match cd.mro with
  | c1 :: .ref A1 :: .ref A2 :: tl=>decide (c1=.ref C)&&decide (cl=.type "type")&&decide (tl=[.type "Exception",.type "BaseException",.type "object"])&&!cd.hasDel&&(nsOkIn K cd.ns&&nsIn K cd.ns "__init__" == some none)&&(ownIn K A1&&ownIn K A2)&&keepIn K (.ref C)&&decide (sl.size=6)&&decide (sl.getD 4 none=some (.builtin "Exception.__new__"))
  | _=>false)
 | _=>false
theorem eq_292 {α:Type} {a:Array α} (d:α) (h:a.size=6):∃ k0 k1 k2 k3 k5,a = #[k0,k1,k2,k3,a.getD 4 d,k5]:=by
 obtain ⟨l⟩:=a
 match l,h with
 | [k0,k1,k2,k3,k4,k5],_=>exact (EI5 k0 k1 k2 k3 k5 rfl)
set_option tactic.hygienic true in
theorem Y136 {Γ:Gam} (q:xcIn Γ.K Γ.xc=true):XOk Γ:=by
 revert q; exists Γ; intro q
 have X:=Γ.hK
 unfold xcIn at q
 split at q
 ·rename_i cl dd cd sl ho
  split at q
  ·rename_i c1 A1 A2 tl hm
   simp only [and_eq_true,beq_iff_eq,Bool.not_eq_true',decide_eq_true_eq] at q
   obtain ⟨⟨⟨⟨⟨⟨⟨⟨rfl,rfl⟩,rfl⟩,hdel⟩,hN,hi⟩,h1,h2⟩,hk⟩,hs⟩,hs4⟩:=q
   obtain ⟨nm,bs,mro,ns,qn,hd,sn,sub,ab,col,del⟩:=cd
   dsimp only at hm hdel hN hi
   subst hm hdel
   refine Ex5 (eq_292 none hs) fun k0 k1 k2 k3 k5 hsl=>?_
   rw [hs4] at hsl
   rw [hsl] at ho
   have hN:=Heap.Ns.of_isNs (isNs_of_in X hN)
   exact ⟨(eq_28 nm qn ns bs _ hd sn sub ⟨ab,col,dd,k0,k1,k2,k3,k5,X _ _ ho,⟨_,hN,ns_none_of X hN hi⟩,eq_291 X h1 (eq_291 X h2 .base),rfl⟩),hk⟩
  ·cases q
 ·cases q
noncomputable def dfIn (K:Frag):Bool:=match K.lookup 164 with
 | some ⟨_,_,.seq a _,_⟩=>decide (a.toList=[.int 0 397])
 | _=>false
set_option tactic.hygienic true in
theorem Y137 {Γ:Gam} (q:dfIn Γ.K=true):∃ o n,Γ.B.get? 164=some o∧o.data=.seq #[.int 0 397] n:=by
 unfold dfIn at q
 split at q
 ·rename_i c d a n sl ho
  have e:a = #[.int 0 397]:=Array.toList_inj.mp (of_decide_eq_true q)
  exact (EI2 _ n ⟨Γ.hK _ _ ho,by rw [e]⟩)
 ·cases q
structure FactsK (K:Frag):Prop where
 fk:FKs K allFns
 g:allG.all (okG K)=true
 m:allM.all (okM K)=true
 a:allA.all (okA K)=true
 c:allC.all (okC K)=true
 k:(allFns.map (·.addr)).all (okK K)=true
 x:xcIn K 128=true
 d:dfIn K=true
theorem FactsK.facts {Γ:Gam} (h:FactsK Γ.K) (hx:Γ.xc=128):Facts Γ:=⟨h.fk,h.g,h.m,h.a,h.c,h.k,Y136 (by rw [hx]; exact h.x),Y137 h.d,hx⟩
noncomputable abbrev Bs:=List UInt8
noncomputable def crcT:List Nat:=[0,274646895,549293790,820201905,1098587580,1361435347,1640403810,1905808397,2197175160,2460548119,2722870694,2987750089,3280807620,3553878443,3811616794,4084100981]
noncomputable def nib (c:Nat):Nat:=c >>> 4 ^^^ crcT.getD (c &&& 15) 0
noncomputable def crcW (c:Nat) (d:Bs):Nat:=d.foldl (fun c o=>nib (nib (c ^^^ o.toNat))) c
noncomputable def crcN (d:Bs):Nat:=crcW 4294967295 d ^^^ 4294967295
noncomputable def maskN (c:Nat):Nat:=(c >>> 15 ||| c <<< 17)+2726488792 &&& 4294967295
noncomputable def sumN (d:Bs):Nat:=(d.map fun x=>x.toNat).sum
noncomputable def csumN (k:Nat) (d:Bs):Nat:=if k=1 then maskN (crcN d) else sumN d*251+d.length*65537+7 &&& 4294967295
noncomputable def put32 (n:Nat):Bs:=nB [n &&& 255,n >>> 8 &&& 255,n >>> 16 &&& 255,n >>> 24]
noncomputable def rd32 (d:Bs) (i:Nat):Nat:=(d.getD i 0).toNat ||| (d.getD (i+1) 0).toNat <<< 8 ||| (d.getD (i+2) 0).toNat <<< 16 ||| (d.getD (i+3) 0).toNat <<< 24
noncomputable def frag (k:Nat) (d:Bs) (c:Nat):Bs:=put32 (csumN c (nB [k]++d))++nB [d.length % 256,d.length / 256]++(nB [k]++d)
theorem eq_293 (l:List Nat):(nB l).length=l.length:=by simp [nB]
noncomputable def PFC (Γ:Gam) (n:Nat) (f:PySem.Addr) (xs:List V) (u:V):Prop:=∀ hp,FC Γ n f xs hp (fun x hp'=>x=u∧hp'=hp) noH
section
variable {Γ:Gam} {fn:FnS} {n:Nat} {σ:St} {Q:AF→St→Prop} {X:St→Prop} {ss:List Stmt}
theorem XS.ifF {t:Expr} {b:Bool} {ts es:List Stmt} {p:Pos} (ht:PT Γ fn n σ t b) (hb:b=false) (h2:XS Γ fn n es σ (Then Γ fn n ss Q X) X):XS Γ fn n (.If t ts es p :: ss) σ Q X:=.ifP ht (fun q=>by rw [hb] at q; cases q) fun _=>h2
theorem XS.ifF0 {t:Expr} {b:Bool} {ts:List Stmt} {p:Pos} (ht:PT Γ fn n σ t b) (hb:b=false) (h2:XS Γ fn n ss σ Q X):XS Γ fn n (.If t ts [] p :: ss) σ Q X:=.ifF ht hb (.done h2)
theorem XS.ifT {t:Expr} {b:Bool} {ts es:List Stmt} {p:Pos} (ht:PT Γ fn n σ t b) (hb:b=true) (h2:XS Γ fn n ts σ (Then Γ fn n ss Q X) X):XS Γ fn n (.If t ts es p :: ss) σ Q X:=.ifP ht (fun _=>h2) fun q=>by rw [hb] at q; cases q
theorem PFC.intro {f:FnS} {xs:List V} {u:V} {loc:List (Option V)} (ok:FnOk Γ f) (hb:BindOk Γ f xs loc) (hcell:∀ x∈f.names,x.2≠.cell) (h:∀ hp,XS Γ f n f.body ⟨loc,hp⟩ (bodyPost fun x hp'=>x=u∧hp'=hp) (fun τ=>noH τ.hp)) (hc:f.comp=false:=by rfl) (hcl:f.fd.closure=[]:=by rfl):PFC Γ (n+1) f.addr xs u :=
 fun hp=>FC.intro ok hc hcell hcl hb (h hp)
end
section
variable {Γ:Gam} {fn:FnS} {n:Nat} {σ:St} {Q:AF→St→Prop} {X:St→Prop} {ss:List Stmt}
theorem Y138 {x:V} (k:Nat):(List.replicate k [x]).flatten=List.replicate k x:=by
 induction k with
 | zero=>rfl
 | succ k ih=>rw [replicate_succ,replicate_succ,flatten_cons,ih]; rfl
theorem XE.mulL1 {l r:Expr} {p:Pos} {x:V} {k:Nat} {QV:V→St→Prop} (h1:PE Γ fn n σ l (.lst [x])) (h2:PE Γ fn n σ r (.int k)) (hz:k≤1000000)
  (q:∀ a,σ.hp a=none→QV (.obj a) ⟨σ.loc,upd σ.hp a (.list (List.replicate k x))⟩):XE Γ fn n σ (.BinOp l .Mult r p) QV X :=
 XE.mulL h1 h2 (natCast_nonneg _) (Int.ofNat_le.mpr (lA1 hz)) (by simp; exact lA1 hz) fun a ha=>by rw [toNat_natCast,Y138]; exact q a ha
theorem PE.mulL1 {l r:Expr} {p:Pos} {x:V} {k:Nat} (h1:PE Γ fn n σ l (.lst [x])) (h2:PE Γ fn n σ r (.int k)) (hz:k≤1000000):PE Γ fn n σ (.BinOp l .Mult r p) (.lst (List.replicate k x)) :=
 (PE.mulL h1 h2 (natCast_nonneg _) (Int.ofNat_le.mpr (lA1 hz)) (by simp; exact lA1 hz)).cast (by rw [toNat_natCast,Y138])
theorem XS.asgC {x:Str} {p q:Pos} {e:Expr} (k:Nat) (hn:fn.names[k]?=some (x,.local)) (he:XE Γ fn n σ e (fun u τ=>XS Γ fn n ss ⟨τ.loc.set k (some u),τ.hp⟩ Q X) X) (hp:AsgPl (.Name x p) e q) :
  XS Γ fn n (.Assign [.Name x p] e q :: ss) σ Q X:=.asgX (he.mono (fun u τ h=>(Tgt.name k hn).toX h) fun _ q=>q) hp
theorem XS.ifM {t:Expr} {b:Bool} {ts es:List Stmt} {p:Pos} (M:St→Prop) (ht:PT Γ fn n σ t b) (h1:b=true→XS Γ fn n ts σ (fun af τ=>af=.next∧M τ) X) (h2:b=false→XS Γ fn n es σ (fun af τ=>af=.next∧M τ) X) (h:∀ τ,M τ→XS Γ fn n ss τ Q X) :
  XS Γ fn n (.If t ts es p :: ss) σ Q X:=.ifP ht (fun q=>(h1 q).mono (fun af τ ⟨e,hm⟩=>by subst e; exact h τ hm) fun _ q=>q) (fun q=>(h2 q).mono (fun af τ ⟨e,hm⟩=>by subst e; exact h τ hm) fun _ q=>q)
theorem PE.pfn {x:Str} {p pos:Pos} {f:Addr} {args:List Expr} {xs:List V} {u:V} (hf:PE Γ fn n σ (.Name x p) (.obj f)) (hk:keepIn Γ.K (.ref f)=true) (ha:PEs Γ fn n σ args xs) (h:PFC Γ n f xs u) (hc:fn.comp=false:=by rfl) :
  PE Γ fn n σ (.Call (.Name x p) args [] pos) u:=PE.ufn hf hk hc ha (h _)
end
section
variable {Γ:Gam} {fn:FnS} {n:Nat} {loc loc':List (Option V)} {hp:HP} {Q:AF→St→Prop} {QS X:St→Prop} {ss:List Stmt} {QV:V→St→Prop}
theorem XE.mulL1' {l r:Expr} {p:Pos} {x:V} {k:Nat} (h1:PE Γ fn n ⟨loc,hp⟩ l (.lst [x])) (h2:PE Γ fn n ⟨loc,hp⟩ r (.int k)) (hz:k≤1000000)
  (q:∀ a,hp a=none→QV (.obj a) ⟨loc,upd hp a (.list (List.replicate k x))⟩):XE Γ fn n ⟨loc,hp⟩ (.BinOp l .Mult r p) QV X:=XE.mulL1 h1 h2 hz q
theorem XE.list' {es:List Expr} {p:Pos} {xs:List V} (h:PEs Γ fn n ⟨loc,hp⟩ es xs) (hz:xs.length≤1000000) (q:∀ a,hp a=none→QV (.obj a) ⟨loc,upd hp a (.list xs)⟩):XE Γ fn n ⟨loc,hp⟩ (.List es p) QV X:=XE.list h hz q
theorem XE.append' {o e:Expr} {apos pos:Pos} {a:Addr} {xs:List V} {x:V} (ho:PE Γ fn n ⟨loc,hp⟩ o (.obj a)) (hi:hp a=some (.list xs)) (he:PE Γ fn n ⟨loc,hp⟩ e x) (hz:xs.length≤1000000)
  (q:QV .none ⟨loc,upd hp a (.list (xs++[x]))⟩) (h:MethPl o "append" [e] apos pos:=by intro _; rfl) (hst:isStarred e=false:=by rfl):XE Γ fn n ⟨loc,hp⟩ (.Call (.Attribute o "append" apos) [e] [] pos) QV X:=XE.append ho hi he hz q h hst
theorem XE.extend' {o e:Expr} {apos pos:Pos} {a:Addr} {b d:List UInt8} (ho:PE Γ fn n ⟨loc,hp⟩ o (.obj a)) (hi:hp a=some (.ba b)) (he:PE Γ fn n ⟨loc,hp⟩ e (.byt d)) (hz:b.length+d.length≤1000000)
  (q:QV .none ⟨loc,upd hp a (.ba (b++d))⟩) (h:MethPl o "extend" [e] apos pos:=by intro _; rfl) (hst:isStarred e=false:=by rfl):XE Γ fn n ⟨loc,hp⟩ (.Call (.Attribute o "extend" apos) [e] [] pos) QV X:=XE.extend ho hi he hz q h hst
theorem XE.baNew' {x:Str} {p pos:Pos} (hf:PE Γ fn n ⟨loc,hp⟩ (.Name x p) (.bi (.type "bytearray"))) (q:∀ a,hp a=none→QV (.obj a) ⟨loc,upd hp a (.ba [])⟩):XE Γ fn n ⟨loc,hp⟩ (.Call (.Name x p) [] [] pos) QV X:=XE.baNew hf q
theorem XE.dictS' {p:Pos} (q:∀ a,hp a=none→QV (.obj a) ⟨loc,upd hp a (.sd [])⟩):XE Γ fn n ⟨loc,hp⟩ (.Dict [] [] p) QV X:=XE.dictS q
theorem XE.dictI' {p:Pos} (q:∀ a,hp a=none→QV (.obj a) ⟨loc,upd hp a (.idd [])⟩):XE Γ fn n ⟨loc,hp⟩ (.Dict [] [] p) QV X:=XE.dictI q
theorem XTg.attrN' {o:Expr} {nm:Str} {p:Pos} {a C:Addr} {ns:List Str} {vs:List V} {u:V} (ho:PE Γ fn n ⟨loc,hp⟩ o (.obj a)) (hi:hp a=some (.inst C ns vs)) (hn:nm∉ns) (hC:ClsOk Γ C) (ht:takerIn Γ.K C nm=some none)
  (hz:ns.length≤100) (q:QS ⟨loc,upd hp a (.inst C (ns++[nm]) (vs++[u]))⟩):XTg Γ fn n ⟨loc,hp⟩ (.Attribute o nm p) u QS X:=XTg.attrN ho hi hn hC ht hz q
theorem XTg.itemSD' {value slice:Expr} {p:Pos} {a:Addr} {fs:List (Str × V)} {x:Str} {u:V} (h1:PE Γ fn n ⟨loc,hp⟩ value (.obj a)) (hi:hp a=some (.sd fs)) (h2:PE Γ fn n ⟨loc,hp⟩ slice (.str x)) (hz:fs.length≤1000)
  (q:QS ⟨loc,upd hp a (.sd (put fs x u))⟩):XTg Γ fn n ⟨loc,hp⟩ (.Subscript value slice p) u QS X:=XTg.itemSD h1 hi h2 hz q
theorem XTg.itemID' {value slice:Expr} {p:Pos} {a:Addr} {fs:List (Int × V)} {x:Int} {u:V} (h1:PE Γ fn n ⟨loc,hp⟩ value (.obj a)) (hi:hp a=some (.idd fs)) (h2:PE Γ fn n ⟨loc,hp⟩ slice (.int x)) (hz:fs.length≤1000)
  (q:QS ⟨loc,upd hp a (.idd (put fs x u))⟩):XTg Γ fn n ⟨loc,hp⟩ (.Subscript value slice p) u QS X:=XTg.itemID h1 hi h2 hz q
theorem XS.freeze' {a:Addr} {xs:List V} (k:Nat) (h:hp a=some (.list xs)) (hk:loc[k]?=some (some (.obj a))) (hl:SetAt loc k (.lst xs) loc') (hs:XS Γ fn n ss ⟨loc',del hp a⟩ Q X):XS Γ fn n ss ⟨loc,hp⟩ Q X:=XS.freeze k h hk hl hs
theorem XS.asg' {x:Str} {p q:Pos} {e:Expr} {u:V} (k:Nat) (hn:fn.names[k]?=some (x,.local)) (he:PE Γ fn n ⟨loc,hp⟩ e u) (hl:SetAt loc k u loc') (h:XS Γ fn n ss ⟨loc',hp⟩ Q X) (ha:AsgPl (.Name x p) e q:=by exact Y87):XS Γ fn n (.Assign [.Name x p] e q :: ss) ⟨loc,hp⟩ Q X:=XS.asg k hn he hl ha h
theorem XS.aug' {x:Str} {p q:Pos} {e:Expr} {op:Operator} {a b u:V} (k:Nat) (hn:fn.names[k]?=some (x,.local)) (hv:loc[k]?=some (some a)) (he:PE Γ fn n ⟨loc,hp⟩ e b) (ho:IOp Γ fn n ⟨loc,hp⟩ op a b u) (hl:SetAt loc k u loc') (h:XS Γ fn n ss ⟨loc',hp⟩ Q X):XS Γ fn n (.AugAssign (.Name x p) op e q :: ss) ⟨loc,hp⟩ Q X:=XS.aug k hn hv he ho hl h
theorem XS.set' {t e:Expr} {q:Pos} {u:V} (he:PE Γ fn n ⟨loc,hp⟩ e u) (ht:XTg Γ fn n ⟨loc,hp⟩ t u (fun τ=>XS Γ fn n ss τ Q X) X) (ha:AsgPl t e q:=by exact Y87):XS Γ fn n (.Assign [t] e q :: ss) ⟨loc,hp⟩ Q X:=XS.asgX (he.toX ht) ha
theorem XS.asgC' {x:Str} {p q:Pos} {e:Expr} {σ:St} (k:Nat) (hn:fn.names[k]?=some (x,.local)) (he:XE Γ fn n σ e (fun u τ=>XS Γ fn n ss ⟨τ.loc.set k (some u),τ.hp⟩ Q X) X) (ha:AsgPl (.Name x p) e q:=by exact Y87) :
  XS Γ fn n (.Assign [.Name x p] e q :: ss) σ Q X:=XS.asgC k hn he ha
end
theorem eq_294 {h:HP} {a:Addr} {o:O} (e:h a=some o):upd h a o=h:=by
 funext b; unfold upd; split
 ·rename_i q; rw [q,e]
 ·rfl
theorem eq_295 {h:HP} {a:Addr} {o:O} (e:h a=none):del (upd h a o) a=h:=by
 funext b; unfold del upd; split
 ·rename_i q; rw [q,e]
 ·rfl
noncomputable abbrev NL (l:List Nat):List V:=l.map fun k:Nat=>V.int (k:Int)
theorem eq_296 {l:List Nat} {i:Nat} (h:i<l.length):(NL l)[i]?=some (V.int ((l.getD i 0:Nat):Int)):=by
 rw [getElem?_map,getElem?_eq_getElem h,getD_eq_getElem?_getD,getElem?_eq_getElem h]; rfl
theorem eq_297 {l:List Nat} {i k:Nat}:(NL l).set i (V.int (k:Int))=NL (l.set i k):=by
 unfold NL; rw [List.map_set]
noncomputable def tblC (c:Nat):Nat:=if c &&& 1≠0 then c >>> 1 ^^^ 2197175160 else c >>> 1
noncomputable def tblF (c half:Nat):Nat→List Nat→List Nat
 | 0,t=>t
 | i+1,t=>let t':=tblF c half i t; t'.set (i*(2*half)+half) (t'.getD (i*(2*half)) 0 ^^^ c)
noncomputable def tblR:Nat→List Nat→Nat→Nat→List Nat
 | 0,t,_,_=>t
 | k+1,t,c,half=>if half=0 then t else tblR k (tblF (tblC c) half (8 / half) t) (tblC c) (half >>> 1)
theorem eq_298:tblR 4 (List.replicate 16 0) 1 8=crcT:=dK
theorem eq_299 (c half:Nat) (t:List Nat):∀ i,(tblF c half i t).length=t.length
 | 0=>rfl
 | i+1=>by show (List.set _ _ _).length=_; rw [length_set]; exact eq_299 c half t i
section
variable {Γ:Gam} [F:Facts Γ] {fn:FnS} {n:Nat} {loc:List (Option V)} {hp:HP} {Q:AF→St→Prop} {QS X:St→Prop} {ss:List Stmt} {op:Operator}
noncomputable abbrev nsW:List Str:=["file","block","check","length"]
theorem ndW:nsW.Nodup:=dK
theorem XS.W_length {o e:Expr} {p q:Pos} {a:Addr} {v0 v1 v2 v3 b u:V} (ho:PE Γ fn n ⟨loc,hp⟩ o (.obj a)) (hi:hp a=some (.inst 244 nsW [v0,v1,v2,v3])) (he:PE Γ fn n ⟨loc,hp⟩ e b) (hop:IOp Γ fn n ⟨loc,hp⟩ op v3 b u) (hb:v3.isBu=false) (h:XS Γ fn n ss ⟨loc,upd hp a (.inst 244 nsW [v0,v1,v2,u])⟩ Q X):XS Γ fn n (.AugAssign (.Attribute o "length" p) op e q :: ss) ⟨loc,hp⟩ Q X:=.augA 3 ho hi rfl rfl c_W.1 ndW dD Y121.1 Y121.2 he hop h hb
noncomputable abbrev nsR:List Str:=["data","block","check","at","block_end","short","skipped","reasons","torn","good_length","breaks"]
theorem ndR:nsR.Nodup:=dK
theorem XTg.R_at {o:Expr} {p:Pos} {a:Addr} {v0 v1 v2 v3 v4 v5 v6 v7 v8 v9 v10 u:V} (ho:PE Γ fn n ⟨loc,hp⟩ o (.obj a)) (hi:hp a=some (.inst 293 nsR [v0,v1,v2,v3,v4,v5,v6,v7,v8,v9,v10])) (q:QS ⟨loc,upd hp a (.inst 293 nsR [v0,v1,v2,u,v4,v5,v6,v7,v8,v9,v10])⟩):XTg Γ fn n ⟨loc,hp⟩ (.Attribute o "at" p) u QS X:=.attr 3 ho hi rfl c_R.1 Y122.2 ndR dD q
theorem XTg.R_block_end {o:Expr} {p:Pos} {a:Addr} {v0 v1 v2 v3 v4 v5 v6 v7 v8 v9 v10 u:V} (ho:PE Γ fn n ⟨loc,hp⟩ o (.obj a)) (hi:hp a=some (.inst 293 nsR [v0,v1,v2,v3,v4,v5,v6,v7,v8,v9,v10])) (q:QS ⟨loc,upd hp a (.inst 293 nsR [v0,v1,v2,v3,u,v5,v6,v7,v8,v9,v10])⟩):XTg Γ fn n ⟨loc,hp⟩ (.Attribute o "block_end" p) u QS X:=.attr 4 ho hi rfl c_R.1 Y123.2 ndR dD q
theorem XTg.R_short {o:Expr} {p:Pos} {a:Addr} {v0 v1 v2 v3 v4 v5 v6 v7 v8 v9 v10 u:V} (ho:PE Γ fn n ⟨loc,hp⟩ o (.obj a)) (hi:hp a=some (.inst 293 nsR [v0,v1,v2,v3,v4,v5,v6,v7,v8,v9,v10])) (q:QS ⟨loc,upd hp a (.inst 293 nsR [v0,v1,v2,v3,v4,u,v6,v7,v8,v9,v10])⟩):XTg Γ fn n ⟨loc,hp⟩ (.Attribute o "short" p) u QS X:=.attr 5 ho hi rfl c_R.1 Y124.2 ndR dD q
theorem XS.R_skipped {o e:Expr} {p q:Pos} {a:Addr} {v0 v1 v2 v3 v4 v5 v6 v7 v8 v9 v10 b u:V} (ho:PE Γ fn n ⟨loc,hp⟩ o (.obj a)) (hi:hp a=some (.inst 293 nsR [v0,v1,v2,v3,v4,v5,v6,v7,v8,v9,v10])) (he:PE Γ fn n ⟨loc,hp⟩ e b) (hop:IOp Γ fn n ⟨loc,hp⟩ op v6 b u) (hb:v6.isBu=false) (h:XS Γ fn n ss ⟨loc,upd hp a (.inst 293 nsR [v0,v1,v2,v3,v4,v5,u,v7,v8,v9,v10])⟩ Q X):XS Γ fn n (.AugAssign (.Attribute o "skipped" p) op e q :: ss) ⟨loc,hp⟩ Q X:=.augA 6 ho hi rfl rfl c_R.1 ndR dD Y125.1 Y125.2 he hop h hb
theorem XTg.R_torn {o:Expr} {p:Pos} {a:Addr} {v0 v1 v2 v3 v4 v5 v6 v7 v8 v9 v10 u:V} (ho:PE Γ fn n ⟨loc,hp⟩ o (.obj a)) (hi:hp a=some (.inst 293 nsR [v0,v1,v2,v3,v4,v5,v6,v7,v8,v9,v10])) (q:QS ⟨loc,upd hp a (.inst 293 nsR [v0,v1,v2,v3,v4,v5,v6,v7,u,v9,v10])⟩):XTg Γ fn n ⟨loc,hp⟩ (.Attribute o "torn" p) u QS X:=.attr 8 ho hi rfl c_R.1 Y126.2 ndR dD q
theorem XTg.R_good_length {o:Expr} {p:Pos} {a:Addr} {v0 v1 v2 v3 v4 v5 v6 v7 v8 v9 v10 u:V} (ho:PE Γ fn n ⟨loc,hp⟩ o (.obj a)) (hi:hp a=some (.inst 293 nsR [v0,v1,v2,v3,v4,v5,v6,v7,v8,v9,v10])) (q:QS ⟨loc,upd hp a (.inst 293 nsR [v0,v1,v2,v3,v4,v5,v6,v7,v8,u,v10])⟩):XTg Γ fn n ⟨loc,hp⟩ (.Attribute o "good_length" p) u QS X:=.attr 9 ho hi rfl c_R.1 Y127.2 ndR dD q
theorem XS.R_breaks {o e:Expr} {p q:Pos} {a:Addr} {v0 v1 v2 v3 v4 v5 v6 v7 v8 v9 v10 b u:V} (ho:PE Γ fn n ⟨loc,hp⟩ o (.obj a)) (hi:hp a=some (.inst 293 nsR [v0,v1,v2,v3,v4,v5,v6,v7,v8,v9,v10])) (he:PE Γ fn n ⟨loc,hp⟩ e b) (hop:IOp Γ fn n ⟨loc,hp⟩ op v10 b u) (hb:v10.isBu=false) (h:XS Γ fn n ss ⟨loc,upd hp a (.inst 293 nsR [v0,v1,v2,v3,v4,v5,v6,v7,v8,v9,u])⟩ Q X):XS Γ fn n (.AugAssign (.Attribute o "breaks" p) op e q :: ss) ⟨loc,hp⟩ Q X:=.augA 10 ho hi rfl rfl c_R.1 ndR dD Y128.1 Y128.2 he hop h hb
noncomputable abbrev nsN:List Str:=["number","data","kept"]
theorem ndN:nsN.Nodup:=dK
theorem XTg.N_kept {o:Expr} {p:Pos} {a:Addr} {v0 v1 v2 u:V} (ho:PE Γ fn n ⟨loc,hp⟩ o (.obj a)) (hi:hp a=some (.inst 342 nsN [v0,v1,v2])) (q:QS ⟨loc,upd hp a (.inst 342 nsN [v0,v1,u])⟩):XTg Γ fn n ⟨loc,hp⟩ (.Attribute o "kept" p) u QS X:=.attr 2 ho hi rfl c_N.1 Y129.2 ndN dD q
noncomputable abbrev nsS:List Str:=["kind","name","other","number"]
theorem eq_300:nsS.Nodup:=dK
noncomputable abbrev nsF:List Str:=["disk","name","node","closed"]
theorem ndF:nsF.Nodup:=dK
theorem XTg.F_closed {o:Expr} {p:Pos} {a:Addr} {v0 v1 v2 v3 u:V} (ho:PE Γ fn n ⟨loc,hp⟩ o (.obj a)) (hi:hp a=some (.inst 426 nsF [v0,v1,v2,v3])) (q:QS ⟨loc,upd hp a (.inst 426 nsF [v0,v1,v2,u])⟩):XTg Γ fn n ⟨loc,hp⟩ (.Attribute o "closed" p) u QS X:=.attr 3 ho hi rfl c_F.1 Y130.2 ndF dD q
noncomputable abbrev nsD:List Str:=["left","spent","alive","nodes","made","kept_names","present","journal"]
theorem ndD:nsD.Nodup:=dK
theorem XTg.D_left {o:Expr} {p:Pos} {a:Addr} {v0 v1 v2 v3 v4 v5 v6 v7 u:V} (ho:PE Γ fn n ⟨loc,hp⟩ o (.obj a)) (hi:hp a=some (.inst 587 nsD [v0,v1,v2,v3,v4,v5,v6,v7])) (q:QS ⟨loc,upd hp a (.inst 587 nsD [u,v1,v2,v3,v4,v5,v6,v7])⟩):XTg Γ fn n ⟨loc,hp⟩ (.Attribute o "left" p) u QS X:=.attr 0 ho hi rfl c_D.1 Y131.2 ndD dD q
theorem XS.D_left {o e:Expr} {p q:Pos} {a:Addr} {v0 v1 v2 v3 v4 v5 v6 v7 b u:V} (ho:PE Γ fn n ⟨loc,hp⟩ o (.obj a)) (hi:hp a=some (.inst 587 nsD [v0,v1,v2,v3,v4,v5,v6,v7])) (he:PE Γ fn n ⟨loc,hp⟩ e b) (hop:IOp Γ fn n ⟨loc,hp⟩ op v0 b u) (hb:v0.isBu=false) (h:XS Γ fn n ss ⟨loc,upd hp a (.inst 587 nsD [u,v1,v2,v3,v4,v5,v6,v7])⟩ Q X):XS Γ fn n (.AugAssign (.Attribute o "left" p) op e q :: ss) ⟨loc,hp⟩ Q X:=.augA 0 ho hi rfl rfl c_D.1 ndD dD Y131.1 Y131.2 he hop h hb
theorem XS.D_spent {o e:Expr} {p q:Pos} {a:Addr} {v0 v1 v2 v3 v4 v5 v6 v7 b u:V} (ho:PE Γ fn n ⟨loc,hp⟩ o (.obj a)) (hi:hp a=some (.inst 587 nsD [v0,v1,v2,v3,v4,v5,v6,v7])) (he:PE Γ fn n ⟨loc,hp⟩ e b) (hop:IOp Γ fn n ⟨loc,hp⟩ op v1 b u) (hb:v1.isBu=false) (h:XS Γ fn n ss ⟨loc,upd hp a (.inst 587 nsD [v0,u,v2,v3,v4,v5,v6,v7])⟩ Q X):XS Γ fn n (.AugAssign (.Attribute o "spent" p) op e q :: ss) ⟨loc,hp⟩ Q X:=.augA 1 ho hi rfl rfl c_D.1 ndD dD Y132.1 Y132.2 he hop h hb
theorem XTg.D_alive {o:Expr} {p:Pos} {a:Addr} {v0 v1 v2 v3 v4 v5 v6 v7 u:V} (ho:PE Γ fn n ⟨loc,hp⟩ o (.obj a)) (hi:hp a=some (.inst 587 nsD [v0,v1,v2,v3,v4,v5,v6,v7])) (q:QS ⟨loc,upd hp a (.inst 587 nsD [v0,v1,u,v3,v4,v5,v6,v7])⟩):XTg Γ fn n ⟨loc,hp⟩ (.Attribute o "alive" p) u QS X:=.attr 2 ho hi rfl c_D.1 Y133.2 ndD dD q
theorem XS.D_made {o e:Expr} {p q:Pos} {a:Addr} {v0 v1 v2 v3 v4 v5 v6 v7 b u:V} (ho:PE Γ fn n ⟨loc,hp⟩ o (.obj a)) (hi:hp a=some (.inst 587 nsD [v0,v1,v2,v3,v4,v5,v6,v7])) (he:PE Γ fn n ⟨loc,hp⟩ e b) (hop:IOp Γ fn n ⟨loc,hp⟩ op v4 b u) (hb:v4.isBu=false) (h:XS Γ fn n ss ⟨loc,upd hp a (.inst 587 nsD [v0,v1,v2,v3,u,v5,v6,v7])⟩ Q X):XS Γ fn n (.AugAssign (.Attribute o "made" p) op e q :: ss) ⟨loc,hp⟩ Q X:=.augA 4 ho hi rfl rfl c_D.1 ndD dD Y134.1 Y134.2 he hop h hb
theorem XTg.D_journal {o:Expr} {p:Pos} {a:Addr} {v0 v1 v2 v3 v4 v5 v6 v7 u:V} (ho:PE Γ fn n ⟨loc,hp⟩ o (.obj a)) (hi:hp a=some (.inst 587 nsD [v0,v1,v2,v3,v4,v5,v6,v7])) (q:QS ⟨loc,upd hp a (.inst 587 nsD [v0,v1,v2,v3,v4,v5,v6,u])⟩):XTg Γ fn n ⟨loc,hp⟩ (.Attribute o "journal" p) u QS X:=.attr 7 ho hi rfl c_D.1 Y135.2 ndD dD q
noncomputable def clsT:List (Addr × List Str):=[(244,nsW),(293,nsR),(342,nsN),(370,nsS),(426,nsF),(587,nsD)]
theorem Y139 {x:Str} {u:V} {ns:List Str}:∀ {vs:List V},(ns.zip vs).lookup x=some u→∃ k:Nat,ns[k]?=some x∧vs[k]?=some u:=by
 induction ns with
 | nil=>intro vs h; cases h
 | cons n ns ih =>
  intro vs h
  cases vs with
  | nil=>cases h
  | cons v vs =>
   change (match x == n with | true=>some v | false=>(ns.zip vs).lookup x)=some u at h
   cases q:x == n with
   | true=>rw [q] at h; exact ⟨0,congrArg some (beq_iff_eq.mp q).symm,h⟩
   | false=>rw [q] at h; exact Ex1 (ih h) fun k e=>⟨k+1,e⟩
theorem eq_301 {C:Addr} {ns:List Str} (h:∀ x∈ns,(C,x)∈allA) (x:Str) (hx:x∈ns):findIn Γ.K (.ref C) x=some none:=Ex1 (getElem?_of_mem (h x hx)) fun k e=>(eq_122 k e).1
theorem Y140:∀ t∈clsT,ClsOk Γ t.1∧t.2.Nodup∧∀ x∈t.2,findIn Γ.K (.ref t.1) x=some none :=
 List.forall_mem_cons.mpr ⟨⟨c_W.1,ndW,eq_301 dK⟩,List.forall_mem_cons.mpr ⟨⟨c_R.1,ndR,eq_301 dK⟩,List.forall_mem_cons.mpr ⟨⟨c_N.1,ndN,eq_301 dK⟩,List.forall_mem_cons.mpr ⟨⟨eq_242.1,eq_300,eq_301 dK⟩,List.forall_mem_cons.mpr ⟨⟨c_F.1,ndF,eq_301 dK⟩,List.forall_mem_cons.mpr ⟨⟨c_D.1,ndD,eq_301 dK⟩,fun _ h=>nomatch h⟩⟩⟩⟩⟩⟩
theorem PE.at {o:Expr} {nm:Str} {p:Pos} {a C:Addr} {ns:List Str} {vs:List V} {u:V} (ho:PE Γ fn n ⟨loc,hp⟩ o (.obj a)) (hi:hp a=some (.inst C ns vs)) (hm:decide ((C,ns)∈clsT)=true) (hv:(ns.zip vs).lookup nm=some u) (hb:u.isBu=false) (ha:AttrPl o nm):PE Γ fn n ⟨loc,hp⟩ (.Attribute o nm p) u :=
 X12 (Y139 hv) fun k e1 e2=>An3 (Y140 _ (of_decide_eq_true hm)) fun h1 h2 h3=>.attr k ho hi e1 e2 h1 h2 (h3 nm (mem_of_getElem? e1)) hb ha
end
noncomputable def O.tag:O→Nat
 | .list _=>0 | .ba _=>1 | .sd _=>2 | .idd _=>3 | .inst C _ _=>C
theorem Y141 {h:HP} {a b:Addr} {o o':O} (h1:h a=some o) (h2:h b=some o') (q:(o.tag == o'.tag)=false):a≠b:=fun e=>by
 subst e; rw [h1] at h2; obtain rfl:=Option.some.inj h2; simp at q
theorem Y142 {h:HP} {a b:Addr} {o:O} (h1:h a=none) (h2:h b=some o):a≠b:=fun e=>by subst e; rw [h1] at h2; cases h2
theorem Y143 {h:HP} {a b:Addr} {o:O} (h2:h b=some o) (h1:h a=none):b≠a:=fun e=>by subst e; rw [h1] at h2; cases h2
structure MOk (Γ:Gam) (C f:Addr) (nm:Str) (ns:List Str):Prop where
 c:ClsOk Γ C
 m:findIn Γ.K (.ref C) nm=some (some (.ref f))∧isFn Γ.K (.ref f)=true∧keepIn Γ.K (.ref f)=true
 n:nm∉ns
section
variable {Γ:Gam} {fn:FnS} {n:Nat} {σ:St} {loc:List (Option V)} {hp:HP} {Q:AF→St→Prop} {X:St→Prop} {ss:List Stmt} {QV:V→St→Prop} {R:V→HP→Prop} {Y:HP→Prop} {o:Expr} {nm:Str} {apos pos:Pos} {a C f:Addr} {ns:List Str} {vs:List V} {args:List Expr} {xs:List V}
theorem XE.mth (hm:MOk Γ C f nm ns) (ho:PE Γ fn n ⟨loc,hp⟩ o (.obj a)) (hi:hp a=some (.inst C ns vs))
  (ha:PEs Γ fn n ⟨loc,hp⟩ args xs) (h:FC Γ n f (.obj a :: xs) hp R Y) (hQ:∀ x hp',R x hp'→QV x ⟨loc,hp'⟩) (hX:∀ hp',Y hp'→X ⟨loc,hp'⟩) (hp0:MethPl o nm args apos pos) (hc:fn.comp=false:=by rfl):XE Γ fn n ⟨loc,hp⟩ (.Call (.Attribute o nm apos) args [] pos) QV X :=
 XE.meth ho hi hm.c hm.m.1 hm.m.2.1 hm.m.2.2 hm.n hc hp0 (ha.toX (h.mono hQ hX))
theorem XS.mexp {p:Pos} (hm:MOk Γ C f nm ns) (ho:PE Γ fn n ⟨loc,hp⟩ o (.obj a)) (hi:hp a=some (.inst C ns vs))
  (ha:PEs Γ fn n ⟨loc,hp⟩ args xs) (h:FC Γ n f (.obj a :: xs) hp R Y) (hQ:∀ x hp',R x hp'→XS Γ fn n ss ⟨loc,hp'⟩ Q X) (hX:∀ hp',Y hp'→X ⟨loc,hp'⟩) (hp0:MethPl o nm args apos pos:=by intro _; rfl) (hc:fn.comp=false:=by rfl) (hs:∀ env,swapsWith (.Call (.Attribute o nm apos) args [] pos) none p.line env=pure false:=by intro _; rfl) :
  XS Γ fn n (.Expr (.Call (.Attribute o nm apos) args [] pos) p :: ss) ⟨loc,hp⟩ Q X:=XS.expr (XE.mth hm ho hi ha h hQ hX hp0 hc) hs
theorem XS.mexp2 {p:Pos} {u:V} {h2:HP} (hm:MOk Γ C f nm ns) (ho:PE Γ fn n ⟨loc,hp⟩ o (.obj a)) (hi:hp a=some (.inst C ns vs))
  (ha:PEs Γ fn n ⟨loc,hp⟩ args xs) (h:FC Γ n f (.obj a :: xs) hp (fun x hp'=>x=u∧hp'=h2) Y) (hX:∀ hp',Y hp'→X ⟨loc,hp'⟩) (hQ:XS Γ fn n ss ⟨loc,h2⟩ Q X) (hp0:MethPl o nm args apos pos:=by intro _; rfl) (hc:fn.comp=false:=by rfl) (hs:∀ env,swapsWith (.Call (.Attribute o nm apos) args [] pos) none p.line env=pure false:=by intro _; rfl) :
  XS Γ fn n (.Expr (.Call (.Attribute o nm apos) args [] pos) p :: ss) ⟨loc,hp⟩ Q X:=XS.mexp hm ho hi ha h (fun x hp' q=>by rw [q.2]; exact hQ) hX hp0 hc hs
theorem XS.mexp3 {p:Pos} {u:V} {h2:HP} {c:Prop} (hm:MOk Γ C f nm ns) (ho:PE Γ fn n ⟨loc,hp⟩ o (.obj a)) (hi:hp a=some (.inst C ns vs))
  (ha:PEs Γ fn n ⟨loc,hp⟩ args xs) (h:FC Γ n f (.obj a :: xs) hp (fun x hp'=>x=u∧c∧hp'=h2) Y) (hX:∀ hp',Y hp'→X ⟨loc,hp'⟩) (hQ:c→XS Γ fn n ss ⟨loc,h2⟩ Q X) (hp0:MethPl o nm args apos pos:=by intro _; rfl) (hc:fn.comp=false:=by rfl) (hs:∀ env,swapsWith (.Call (.Attribute o nm apos) args [] pos) none p.line env=pure false:=by intro _; rfl) :
  XS Γ fn n (.Expr (.Call (.Attribute o nm apos) args [] pos) p :: ss) ⟨loc,hp⟩ Q X:=XS.mexp hm ho hi ha h (fun x hp' q=>by rw [q.2.2]; exact hQ q.2.1) hX hp0 hc hs
theorem XS.mexpP {p:Pos} {u:V} (hm:MOk Γ C f nm ns) (ho:PE Γ fn n ⟨loc,hp⟩ o (.obj a)) (hi:hp a=some (.inst C ns vs))
  (ha:PEs Γ fn n ⟨loc,hp⟩ args xs) (h:FC Γ n f (.obj a :: xs) hp (fun x hp'=>x=u∧hp'=hp) noH) (hQ:XS Γ fn n ss ⟨loc,hp⟩ Q X) (hp0:MethPl o nm args apos pos:=by intro _; rfl) (hc:fn.comp=false:=by rfl) (hs:∀ env,swapsWith (.Call (.Attribute o nm apos) args [] pos) none p.line env=pure false:=by intro _; rfl) :
  XS Γ fn n (.Expr (.Call (.Attribute o nm apos) args [] pos) p :: ss) ⟨loc,hp⟩ Q X:=XS.mexp hm ho hi ha h (fun x hp' q=>by rw [q.2]; exact hQ) (fun _ q=>q.elim) hp0 hc hs
theorem XS.masg {x:Str} {q xp:Pos} (k:Nat) (hn:fn.names[k]?=some (x,.local)) (hm:MOk Γ C f nm ns) (ho:PE Γ fn n ⟨loc,hp⟩ o (.obj a)) (hi:hp a=some (.inst C ns vs)) (ha:PEs Γ fn n ⟨loc,hp⟩ args xs) (h:FC Γ n f (.obj a :: xs) hp R Y) (hQ:∀ x hp',R x hp'→XS Γ fn n ss ⟨loc.set k (some x),hp'⟩ Q X) (hX:∀ hp',Y hp'→X ⟨loc,hp'⟩) (hp0:MethPl o nm args apos pos:=by intro _; rfl) (hc:fn.comp=false:=by rfl) (ha2:AsgPl (.Name x xp) (.Call (.Attribute o nm apos) args [] pos) q:=by exact Y87) :
  XS Γ fn n (.Assign [.Name x xp] (.Call (.Attribute o nm apos) args [] pos) q :: ss) ⟨loc,hp⟩ Q X:=XS.asgC k hn (XE.mth hm ho hi ha h hQ hX hp0 hc) ha2
theorem XS.masg2 {x:Str} {q xp:Pos} {u:V} {h2:HP} {loc':List (Option V)} (k:Nat) (hn:fn.names[k]?=some (x,.local)) (hm:MOk Γ C f nm ns) (ho:PE Γ fn n ⟨loc,hp⟩ o (.obj a)) (hi:hp a=some (.inst C ns vs)) (ha:PEs Γ fn n ⟨loc,hp⟩ args xs) (h:FC Γ n f (.obj a :: xs) hp (fun x hp'=>x=u∧hp'=h2) Y) (hX:∀ hp',Y hp'→X ⟨loc,hp'⟩) (hl:SetAt loc k u loc') (hs:XS Γ fn n ss ⟨loc',h2⟩ Q X) (hp0:MethPl o nm args apos pos:=by intro _; rfl) (hc:fn.comp=false:=by rfl) (ha2:AsgPl (.Name x xp) (.Call (.Attribute o nm apos) args [] pos) q:=by exact Y87) :
  XS Γ fn n (.Assign [.Name x xp] (.Call (.Attribute o nm apos) args [] pos) q :: ss) ⟨loc,hp⟩ Q X:=XS.masg k hn hm ho hi ha h (fun x hp' q=>by rw [q.1,q.2,hl.eq]; exact hs) hX hp0 hc ha2
theorem XS.mret {p:Pos} (hm:MOk Γ C f nm ns) (ho:PE Γ fn n ⟨loc,hp⟩ o (.obj a)) (hi:hp a=some (.inst C ns vs))
  (ha:PEs Γ fn n ⟨loc,hp⟩ args xs) (h:FC Γ n f (.obj a :: xs) hp R Y) (hQ:∀ x hp',R x hp'→Q (.ret x) ⟨loc,hp'⟩) (hX:∀ hp',Y hp'→X ⟨loc,hp'⟩) (hp0:MethPl o nm args apos pos:=by intro _; rfl) (hc:fn.comp=false:=by rfl) :
  XS Γ fn n (.Return (some (.Call (.Attribute o nm apos) args [] pos)) p :: ss) ⟨loc,hp⟩ Q X:=XS.retX (XE.mth hm ho hi ha h hQ hX hp0 hc)
theorem PE.mth {u:V} (hm:MOk Γ C f nm ns) (ho:PE Γ fn n ⟨loc,hp⟩ o (.obj a)) (hi:hp a=some (.inst C ns vs)) (ha:PEs Γ fn n ⟨loc,hp⟩ args xs)
  (h:FC Γ n f (.obj a :: xs) hp (fun x hp'=>x=u∧hp'=hp) noH) (hp0:MethPl o nm args apos pos:=by intro _; rfl) (hc:fn.comp=false:=by rfl):PE Γ fn n ⟨loc,hp⟩ (.Call (.Attribute o nm apos) args [] pos) u :=
 PE.meth ho hi hm.c hm.m.1 hm.m.2.1 hm.m.2.2 hm.n hc hp0 ha h
theorem XE.cls {x:Str} {p:Pos} {fI:Addr} (hN:NewOk Γ C fI) (hf:PE Γ fn (n+1) ⟨loc,hp⟩ (.Name x p) (.obj C)) (ha:PEs Γ fn (n+1) ⟨loc,hp⟩ args xs)
  (h:∀ a,hp a=none→FC Γ n fI (.obj a :: xs) (upd hp a (.inst C [] [])) (fun x hp'=>x=.none∧QV (.obj a) ⟨loc,hp'⟩) (fun hp'=>X ⟨loc,hp'⟩)) (hc:fn.comp=false:=by rfl):XE Γ fn (n+1) ⟨loc,hp⟩ (.Call (.Name x p) args [] pos) QV X :=
 XE.new hf hN hc (ha.toX h)
theorem XE.ufn2 {x:Str} {p:Pos} (hk:keepIn Γ.K (.ref f)=true) (hf:PE Γ fn n ⟨loc,hp⟩ (.Name x p) (.obj f)) (ha:PEs Γ fn n ⟨loc,hp⟩ args xs) (h:FC Γ n f xs hp R Y)
  (hQ:∀ x hp',R x hp'→QV x ⟨loc,hp'⟩) (hX:∀ hp',Y hp'→X ⟨loc,hp'⟩) (hc:fn.comp=false:=by rfl):XE Γ fn n ⟨loc,hp⟩ (.Call (.Name x p) args [] pos) QV X :=
 XE.ufn hf hk hc (ha.toX (h.mono hQ hX))
theorem XS.ifX {l r:Expr} {op:CmpOp} {cp p:Pos} {ts es:List Stmt} (he:XE Γ fn n σ l (fun u τ=>∃ b v,PE Γ fn n τ r v∧CmpOk Γ fn n τ op u v b∧(b=true→XS Γ fn n ts τ (Then Γ fn n ss Q X) X)∧(b=false→XS Γ fn n es τ (Then Γ fn n ss Q X) X)) X) (hm:behindInMarks op r=false:=by rfl) :
  XS Γ fn n (.If (.Compare l [op] [r] cp) ts es p :: ss) σ Q X:=by
 revert he hm; revert Γ fn n σ Q X ss l r op cp p ts es; apply s12; generalize T1 _=Γ,T2 _=fn,T3 _=n,T4 _=σ,T5 _=Q,T6 _=X,T7 _=ss,T8 _=l,T9 _=r,T10 _=op,T11 _=cp,T12 _=p; apply s2; generalize T1 _=ts,T2 _=es; intro he hm
 exact .cons ⟨fun c G s rep=>by
  refine Y38 (Y19 (Y3 (he.run c G s rep) (fun v s₁ q=>?_)) hm)
  obtain ⟨G₁,u,τ,l₁,r₁,v₁,b,y,hr,hk,ht,hf⟩:=q
  refine wpAny_mono (hr.run c G₁ s₁ r₁) (Cx.RP.el fun w s₂ G₂ l₂ r₂ v₂=>?_) NoX.to
  refine wpAny_mono (hk.run c G₂ s₂ v w r₂ (v₁.mono l₂) v₂) (Cx.RP.el fun z s₃ G₃ l₃ r₃ v₃=>?_) NoX.to
  have l:=l₁.trans (l₂.trans l₃)
  obtain rfl:=v₃.inv
  cases b with
  | true=>exact Y21 (wpAny_mono ((ht rfl).run c G₃ s₃ r₃) (fun _ _ q=>q.up l) fun _ _ q=>q.up l)
  | false=>exact Y21 (wpAny_mono ((hf rfl).run c G₃ s₃ r₃) (fun _ _ q=>q.up l) fun _ _ q=>q.up l)⟩
theorem eq_302 {Y:HP→Prop} (hp:HP) (h:noH hp):Y hp:=h.elim
end
section
variable {Γ:Gam} [F:Facts Γ]
theorem eq_303:MOk Γ 244 227 "put" nsW:=⟨c_W.1,eq_197,dK⟩
theorem eq_304:MOk Γ 244 234 "add" nsW:=⟨c_W.1,eq_198,dK⟩
theorem eq_305:MOk Γ 244 241 "sync" nsW:=⟨c_W.1,eq_199,dK⟩
theorem eq_306:MOk Γ 293 269 "drop" nsR:=⟨c_R.1,eq_200,dK⟩
theorem eq_307:MOk Γ 293 276 "turn_block" nsR:=⟨c_R.1,eq_201,dK⟩
theorem eq_308:MOk Γ 293 283 "fragment" nsR:=⟨c_R.1,eq_202,dK⟩
theorem eq_309:MOk Γ 293 290 "read" nsR:=⟨c_R.1,eq_203,dK⟩
theorem eq_310:MOk Γ 342 332 "unsynced" nsN:=⟨c_N.1,eq_204,dK⟩
theorem eq_311:MOk Γ 370 367 "happen" nsS:=⟨eq_242.1,eq_205,dK⟩
theorem eq_312:MOk Γ 426 395 "ready" nsF:=⟨c_F.1,eq_206,dK⟩
theorem eq_313:MOk Γ 426 402 "append" nsF:=⟨c_F.1,eq_207,dK⟩
theorem eq_314:MOk Γ 426 409 "sync" nsF:=⟨c_F.1,eq_208,dK⟩
theorem eq_315:MOk Γ 426 416 "close" nsF:=⟨c_F.1,eq_209,dK⟩
theorem eq_316:MOk Γ 426 423 "length" nsF:=⟨c_F.1,eq_210,dK⟩
theorem eq_317:MOk Γ 587 451 "set_budget" nsD:=⟨c_D.1,eq_211,dK⟩
theorem eq_318:MOk Γ 587 458 "check_alive" nsD:=⟨c_D.1,eq_212,dK⟩
theorem eq_319:MOk Γ 587 465 "take_steps" nsD:=⟨c_D.1,eq_213,dK⟩
theorem eq_320:MOk Γ 587 472 "one_step" nsD:=⟨c_D.1,eq_214,dK⟩
theorem eq_321:MOk Γ 587 479 "node_of" nsD:=⟨c_D.1,eq_215,dK⟩
theorem eq_322:MOk Γ 587 486 "dir_step" nsD:=⟨c_D.1,eq_216,dK⟩
theorem eq_323:MOk Γ 587 493 "keep_creation" nsD:=⟨c_D.1,eq_217,dK⟩
theorem eq_324:MOk Γ 587 500 "create" nsD:=⟨c_D.1,eq_218,dK⟩
theorem eq_325:MOk Γ 587 507 "create_over" nsD:=⟨c_D.1,eq_219,dK⟩
theorem eq_326:MOk Γ 587 514 "append_to" nsD:=⟨c_D.1,eq_220,dK⟩
theorem eq_327:MOk Γ 587 542 "read" nsD:=⟨c_D.1,eq_221,dK⟩
theorem eq_328:MOk Γ 587 570 "power_cut" nsD:=⟨c_D.1,eq_222,dK⟩
end
noncomputable def rm0 (blk len:Nat):Nat:=blk - len % blk
noncomputable def roomN (blk len:Nat):Nat:=if rm0 blk len<7 then blk else rm0 blk len
noncomputable def fillN (blk len:Nat):Bs:=if rm0 blk len<7 then List.replicate (rm0 blk len) 0 else []
noncomputable def kindN (begun e:Bool):Nat:=if begun then (if e then 4 else 3) else (if e then 1 else 2)
noncomputable def addM (blk len r:Nat):Nat:=Nat.min r (roomN blk len - 7)
noncomputable def addO (blk chk len:Nat) (begun:Bool) (rest:Bs):Bs:=fillN blk len++frag (kindN begun (decide (addM blk len rest.length=rest.length))) (rest.take (addM blk len rest.length)) chk
noncomputable def addF (blk chk:Nat):Nat→Nat→Bool→Bs→Bs
 | 0,_,_,_=>[]
 | k+1,len,begun,rest=>addO blk chk len begun rest++(if addM blk len rest.length=rest.length then [] else addF blk chk k (len+(addO blk chk len begun rest).length) true (rest.drop (addM blk len rest.length)))
noncomputable def addN (blk chk len:Nat) (o:Bs):Bs:=addF blk chk (2*o.length+2) len false o
noncomputable def EnoughN (blk k len r:Nat):Prop:=2*r+(if len % blk+7=blk then 2 else 1)≤k
theorem eq_329 (k:Nat) (d:Bs) (c:Nat):(frag k d c).length=7+d.length:=by
 simp only [frag,length_append,eq_293,put32,length_cons,length_nil]; exact eq_11
theorem eq_330 {blk len:Nat} (h:0<blk):(len+rm0 blk len) % blk=0:=by
 unfold rm0
 have h1:=div_add_mod len blk
 have h2:=mod_lt len h
 have:len+(blk - len % blk)=blk*(len / blk+1):=by rw [Nat.mul_add]; exact le_antisymm (lA2 (eqG h1) (nsa blk (len % blk) (lA1 (lsl h2)))) (lA2 (eqL h1) (nas blk (len % blk)))
 rw [this]; exact Nat.mul_mod_right ..
theorem eq_331 {blk len:Nat} (h:8≤blk):7≤roomN blk len:=by unfold roomN; split; exact lA1 h; rename_i q; exact nlt q
theorem eq_332 {blk chk len:Nat} {begun:Bool} {rest:Bs}:(addO blk chk len begun rest).length=(fillN blk len).length+7+addM blk len rest.length:=by
 have:addM blk len rest.length≤rest.length:=min_le_left ..
 simp only [addO,length_append,eq_329,length_take]; lia
theorem eq_333 {blk chk len:Nat} {begun:Bool} {rest:Bs} (h:8≤blk) (ne:addM blk len rest.length≠rest.length):(len+(addO blk chk len begun rest).length) % blk=0:=by
 have e:addM blk len rest.length=roomN blk len - 7:=by
  unfold addM at ne ⊢
  rcases le_total rest.length (roomN blk len - 7) with q | q
  ·exact absurd (min_eq_left q) ne
  ·exact min_eq_right q
 revert blk chk len begun rest; apply s5; generalize T1 _=blk,T2 _=chk,T3 _=len,T4 _=begun,T5 _=rest; intro h ne e
 have r:=eq_331 (len:=len) h
 rw [eq_332,e]
 have f:=eq_330 (blk:=blk) (len:=len) (sA1 h)
 unfold fillN roomN at *
 split
 ·rename_i q
  rw [if_pos q] at r
  rw [length_replicate,show len+(rm0 blk len+7+(blk - 7))=len+rm0 blk len+blk by exact le_antisymm (lA1 (nsa blk 7 (lA1 r))) (lA1 (nas blk 7)),Nat.add_mod_right]; exact f
 ·rename_i q
  rw [if_neg q] at r
  rw [length_nil,show len+(0+7+(rm0 blk len - 7))=len+rm0 blk len by exact le_antisymm (lA1 (nsa (rm0 blk len) 7 (lA1 (nlt q)))) (lA1 (nas (rm0 blk len) 7))]; exact f
theorem eq_334 {blk chk k len:Nat} {begun:Bool} {rest:Bs} (h:8≤blk) (hk:EnoughN blk (k+1) len rest.length) (ne:addM blk len rest.length≠rest.length) :
  EnoughN blk k (len+(addO blk chk len begun rest).length) (rest.drop (addM blk len rest.length)).length:=by
 have f:=eq_333 (chk:=chk) (begun:=begun) h ne
 revert blk chk k len begun rest; apply s6; generalize T1 _=blk,T2 _=chk,T3 _=k,T4 _=len,T5 _=begun,T6 _=rest; intro h hk ne f
 have e:addM blk len rest.length=roomN blk len - 7∧roomN blk len - 7<rest.length:=by
  unfold addM at ne ⊢
  rcases le_total rest.length (roomN blk len - 7) with q | q
  ·exact absurd (min_eq_left q) ne
  ·refine ⟨min_eq_right q,?_⟩
   rcases lt_or_ge (roomN blk len - 7) rest.length with z | z
   ·exact z
   ·exact absurd (min_eq_left z) ne
 unfold EnoughN at hk ⊢
 rw [f,if_neg (fun q_=>eq_5 h (eqG q_)),length_drop,e.1]
 have e2:=e.2
 have hm:=mod_lt len (show 0<blk by exact sA1 h)
 unfold roomN rm0 at *
 split at hk
 ·rename_i q
  split <;> lia
 ·rename_i q
  split at e2 <;> rename_i q2
  ·rw [if_pos q2]; exact eq_2 (sub_le (List.length rest) (blk - 7)) (nsa (List.length rest) (blk - 7) (lA1 (lsl e2))) hk h (nas blk 7)
  ·have q3:=lt_of_le_of_ne (show len % blk+7≤blk from lA2 (nlt q2) (nsa blk (len % blk) (lA1 (lsl hm)))) q
   have q4:=nsa rest.length (blk - len % blk - 7) (lA1 (lsl e2))
   rw [if_neg q2]; exact eq_7 q4 q4 hk (nas (blk - len % blk) 7) (nas blk (len % blk)) (lsl q3)
theorem eq_335 {blk len:Nat} {o:Bs}:EnoughN blk (2*o.length+2) len o.length:=by unfold EnoughN; split <;> exact lA0
set_option genInjectivity false in
structure Rd where
 «at» : Nat
 be:Nat
 short:Bool
 skip:Nat
 torn:Bool
 good:Nat
 brk:Nat
 rn:Nat
deriving instance Nonempty for Rd
noncomputable def rd0:Rd:=⟨0,0,false,0,false,0,0,0⟩
section
variable (d:Bs) (blk chk:Nat)
noncomputable def turnR (R:Rd):Rd:={ R with «at»:=R.be,be:=Nat.min d.length (R.be+blk),short:=decide (Nat.min d.length (R.be+blk) - R.be<blk) }
noncomputable def finR (R:Rd):Rd:=if R.at<R.be then { R with torn:=true,«at»:=R.be } else R
noncomputable def seekR (R:Rd):Rd × Bool :=
 if R.be - R.at<7 then
  if R.short then (finR R,true)
  else if (turnR d blk R).be - (turnR d blk R).at<7 then (finR (turnR d blk R),true) else (turnR d blk R,false)
 else (R,false)
noncomputable def bodyR (i size:Nat):Bs:=(d.drop (i+7 - 1)).take (i+7+size - (i+7 - 1))
noncomputable def fragB (R:Rd):(Int × Bs) × Rd :=
 let size:=(d.getD (R.at+4) 0).toNat+(d.getD (R.at+5) 0).toNat*256
 let kind:=(d.getD (R.at+6) 0).toNat
 if R.be - R.at<7+size then
  if R.short then ((-1,[]),{ R with «at»:=R.be,torn:=true })
  else ((-2,[]),{ R with «at»:=R.be,brk:=R.brk+1,skip:=R.skip+(R.be - R.at),rn:=R.rn+1 })
 else if kind=0∧size=0 then ((-2,[]),{ R with «at»:=R.be,brk:=R.brk+1 })
 else if rd32 d R.at≠csumN chk (bodyR d R.at size) then ((-2,[]),{ R with «at»:=R.be,brk:=R.brk+1,skip:=R.skip+(R.be - R.at),rn:=R.rn+1 })
 else (((kind:Nat),(bodyR d R.at size).drop 1),{ R with «at»:=R.at+7+size })
noncomputable def fragR (R:Rd):(Int × Bs) × Rd:=if (seekR d blk R).2 then ((-1,[]),(seekR d blk R).1) else fragB d chk (seekR d blk R).1
noncomputable def dropR (R:Rd) (k:Nat):Rd:={ R with skip:=R.skip+k,rn:=R.rn+1 }
noncomputable def breakR (R:Rd):Rd:={ R with brk:=R.brk+1 }
noncomputable def readF:Nat→Bool→Bs→Rd→Option (Option Bs × Rd)
 | 0,_,_,_=>none
 | n+1,begun,parts,R =>
  let k:=(fragR d blk chk R).1.1
  let x:=(fragR d blk chk R).1.2
  let R:=(fragR d blk chk R).2
  if k = -1 then some (none,if begun then { R with torn:=true } else R)
  else if k=1∨k=2 then
   let R:=if begun then (if 0<parts.length then dropR (breakR R) parts.length else breakR R) else R
   if k=1 then some (some x,{ R with good:=R.at }) else readF n true x R
  else if k=3∨k=4 then
   if begun then (if k=4 then some (some (parts++x),{ R with good:=R.at }) else readF n true (parts++x) R)
   else readF n false parts (dropR (breakR R) x.length)
  else if k = -2 then readF n false [] (if begun then dropR R parts.length else R)
  else none
noncomputable def allF:Nat→Rd→Option (List Bs × Rd)
 | 0,_=>none
 | n+1,R=>match readF d blk chk (d.length+1) false [] R with
  | none=>none
  | some (none,R)=>some ([],R)
  | some (some x,R)=>(allF n R).map fun (l,R)=>(x :: l,R)
end
noncomputable def preF (d:Bs) (blk chk:Nat):Nat→Nat→Rd→Option (List Bs × Nat)
 | 0,_,_=>none
 | n+1,good,R=>match readF d blk chk (d.length+1) false [] R with
  | none=>none
  | some (none,_)=>some ([],good)
  | some (some x,R1)=>if R1.brk=0 then (preF d blk chk n R1.good R1).map fun (l,g)=>(x :: l,g) else some ([],good)
noncomputable def plcN:List (Nat × Nat × Nat)→List (Nat × Nat × Nat × Nat)
 | []=>[]
 | p :: ps=>(((List.range (p.2.2 - p.2.1)).map fun i=>p.2.1+i).filter fun i=>decide (i≠p.2.1+4)).map (fun i=>(i,p.1,p.2.1,p.2.2))++plcN ps
theorem eq_336:∀ (a b:List (Nat × Nat × Nat)),plcN (a++b)=plcN a++plcN b
 | [],_=>rfl
 | p :: a,b=>by rw [cons_append,plcN,plcN,eq_336 a b,append_assoc]
noncomputable def bitC (c:Nat):Nat:=if c % 2=1 then c / 2 ^^^ 2197175160 else c / 2
noncomputable def bit8 (c:Nat):Nat:=bitC (bitC (bitC (bitC (bitC (bitC (bitC (bitC c)))))))
noncomputable def lcrcW (c:Nat) (d:Bs):Nat:=d.foldl (fun c o=>bit8 (c ^^^ o.toNat)) c
noncomputable def lchkN (k:Nat) (d:Bs):Nat:=if k=2 then (sumN d*251+d.length*65537+7) % 4294967296 else
 ((4294967295 - lcrcW 4294967295 d) / 32768+(4294967295 - lcrcW 4294967295 d) % 32768*131072+2726488792) % 4294967296
theorem eq_337 (x y:Nat):bitC (x ^^^ y)=bitC x ^^^ bitC y:=by
 have h1:=@Nat.xor_div_two x y
 revert x y; apply s2; generalize T1 _=x,T2 _=y; intro h1
 have h2:=eq_61 x y
 unfold bitC
 rw [h1]
 rcases mod_two_eq_zero_or_one x with p | p <;> rcases mod_two_eq_zero_or_one y with q | q
 ·rw [if_neg (by rw [h2,add_mod,p,q]; decide),if_neg (fun q_=>eq_5 (eqL p) (eqG q_)),if_neg (fun q_=>eq_5 (eqL q) (eqG q_))]
 ·rw [if_pos (by rw [h2,add_mod,p,q]),if_neg (fun q_=>eq_5 (eqL p) (eqG q_)),if_pos q,xor_assoc]
 ·rw [if_pos (by rw [h2,add_mod,p,q]),if_pos p,if_neg (fun q_=>eq_5 (eqL q) (eqG q_)),xor_assoc,xor_comm (y / 2),← xor_assoc]
 ·rw [if_neg (by rw [h2,add_mod,p,q]; decide),if_pos p,if_pos q]
  rw [xor_assoc,xor_comm (y / 2),← xor_assoc 2197175160,Nat.xor_self,zero_xor]
theorem eq_338 (q:Nat):bitC (2*q)=q:=by unfold bitC; rw [if_neg (by rw [Nat.mul_mod_right]; decide),Nat.mul_div_cancel_left _ dD]
noncomputable def bit4 (c:Nat):Nat:=bitC (bitC (bitC (bitC c)))
theorem eq_339 (x y:Nat):bit4 (x ^^^ y)=bit4 x ^^^ bit4 y:=by simp only [bit4,eq_337]
theorem eq_340:∀ r:Fin 16,bit4 r.val=crcT.getD r.val 0:=dK
theorem eq_341 (c:Nat):c=(16*(c / 16)) ^^^ (c % 16):=by
 have h:16*(c / 16) ^^^ c % 16=16*(c / 16)+c % 16:=by
  have:=eq_62 (16*(c / 16)) (c % 16)
  have z:16*(c / 16) &&& c % 16=0:=by
   apply Nat.eq_of_testBit_eq
   intro i
   rw [Nat.testBit_and,Nat.zero_testBit]
   by_cases hi:i<4
   ·rw [show 16*(c / 16)=2 ^ 4*(c / 16) from rfl,Nat.testBit_two_pow_mul,decide_eq_false (Nat.not_le_of_lt (sA1 (lsl hi)))]; rfl
   ·rw [Nat.testBit_lt_two_pow (x:=c % 16) (i:=i) (lt_of_lt_of_le (mod_lt c dD) (Nat.pow_le_pow_right (n:=2) dD (show 4≤i by exact lA1 (nlt hi)))),Bool.and_false]
  exact le_antisymm (lA1 (eqL this)) (lA3 (eqG this) (eqL z) (eqL z))
 exact le_antisymm (lA2 (eqG (div_add_mod c 16)) (eqG h)) (lA2 (eqL h) (eqL (div_add_mod c 16)))
theorem eq_342 (c:Nat):nib c=bit4 c:=by
 have h15:c &&& 15=c % 16:=Nat.and_two_pow_sub_one_eq_mod c 4
 rw [nib,h15,shiftRight_eq_div_pow]
 conv=>rhs; rw [eq_341 c]
 rw [eq_339]
 have e1:bit4 (16*(c / 16))=c / 2 ^ 4:=by
  show bitC (bitC (bitC (bitC _)))=_
  rw [show 16*(c / 16)=2*(2*(2*(2*(c / 16)))) by exact eq_11,eq_338,eq_338,eq_338,eq_338]
 rw [e1]
 have:=eq_340 ⟨c % 16,mod_lt c dD⟩
 rw [this]
theorem eq_343 (c:Nat) (d:Bs):crcW c d=lcrcW c d:=by
 unfold crcW lcrcW
 congr 1
 funext c o
 rw [eq_342,eq_342]; rfl
theorem eq_344:∀ x∈crcT,x<2 ^ 32:=dD
theorem eq_345 {c:Nat} (h:c<2 ^ 32):nib c<2 ^ 32:=by
 unfold nib
 refine xor_lt_two_pow (by rw [shiftRight_eq_div_pow]; exact lt_of_le_of_lt (Nat.div_le_self ..) h) ?_
 have hl:c &&& 15<crcT.length:=lt_of_le_of_lt and_le_right dD
 rw [getD_eq_getElem?_getD,getElem?_eq_getElem hl]
 exact eq_344 _ (getElem_mem hl)
theorem eq_346 {c:Nat} (h:c<2 ^ 32) (d:Bs):crcW c d<2 ^ 32:=by
 unfold crcW
 induction d generalizing c with
 | nil=>exact h
 | cons b r ih=>exact ih (eq_345 (eq_345 (xor_lt_two_pow h (by have:=UInt8.toNat_lt b; exact sA1 (lsl this)))))
theorem eq_347 {c:Nat} (h:c<2 ^ 32):c ^^^ 4294967295=4294967295 - c:=by
 have h1:=eq_62 c 4294967295
 have h2:c &&& 4294967295=c:=by
  rw [show (4294967295:Nat)=2 ^ 32 - 1 from rfl,Nat.and_two_pow_sub_one_eq_mod,mod_eq_of_lt h]
 exact le_antisymm (eq_1 (eqL h1) (eqG h2) (nas 4294967295 c) (eqG h2)) (eq_1 (nsa 4294967295 c (lA3 (eqG h2) (eqL h1) (eqG h2))) (eqG h1) (eqL h2) (eqL h2))
theorem eq_348 (c:Nat):c &&& 4294967295=c % 4294967296:=Nat.and_two_pow_sub_one_eq_mod c 32
theorem eq_349 {c:Nat} (h:c<2 ^ 32):maskN c=(c / 32768+c % 32768*131072+2726488792) % 4294967296:=by
 unfold maskN
 exists c; intro h
 rw [eq_348]
 have e1:c >>> 15=c / 32768:=shiftRight_eq_div_pow c 15
 have e2:c <<< 17=c*131072:=shiftLeft_eq c 17
 rw [e1,e2]
 have z:c / 32768 &&& c*131072=0:=by
  apply Nat.eq_of_testBit_eq
  intro i
  rw [Nat.testBit_and,Nat.zero_testBit]
  by_cases hi:i<17
  ·rw [show c*131072=2 ^ 17*c from mul_comm c (2 ^ 17),Nat.testBit_two_pow_mul,decide_eq_false (Nat.not_le_of_lt (sA1 (lsl hi)))]; simp
  ·rw [Nat.testBit_lt_two_pow (x:=c / 32768) (i:=i) (lt_of_lt_of_le (show c / 32768<2 ^ 17 from div_lt_of_lt_mul (by assumption)) (Nat.pow_le_pow_right (n:=2) dD (show 17≤i by exact lA1 (nlt hi)))),Bool.false_and]
 have h1:=PyProof.Rows.nat_or_add_and (c / 32768) (c*131072)
 rw [z,add_zero] at h1
 rw [h1]
 lia
theorem eq_350 {k:Nat} (hk:k=1∨k=2) (d:Bs):lchkN k d=csumN k d:=by
 have hc:=eq_346 (c:=4294967295) dD d
 unfold lchkN csumN
 rcases hk with rfl | rfl
 ·rw [if_neg dD,if_pos rfl]
  have e:crcN d=4294967295 - lcrcW 4294967295 d:=by rw [crcN,eq_347 hc,eq_343]
  rw [← e]
  exact (eq_349 (by rw [crcN,eq_347 hc]; exact sA1 (sub_le 4294967295 (crcW 4294967295 d)))).symm
 ·rw [if_pos rfl,if_neg dD,eq_348]
theorem eq_351 (k:Nat) (d:Bs):csumN k d<2 ^ 32:=by
 unfold csumN maskN
 split <;> exact lt_of_le_of_lt and_le_right dD
theorem eq_352 {t:Nat} (h:t<2 ^ 32):put32 t=nB [t % 256,t / 256 % 256,t / 256 / 256 % 256,t / 256 / 256 / 256 % 256]:=by
 unfold put32
 have e:∀ c:Nat,c &&& 255=c % 256:=fun c=>Nat.and_two_pow_sub_one_eq_mod c 8
 rw [e,e,e,shiftRight_eq_div_pow,shiftRight_eq_div_pow,shiftRight_eq_div_pow]
 rw [Nat.div_div_eq_div_mul,Nat.div_div_eq_div_mul,mod_eq_of_lt (show t / (256*256*256)<256 from div_lt_of_lt_mul (by assumption))]
noncomputable def drawN (nums:List Nat) (i:Nat):Nat:=nums.getD (i % nums.length) 0+31*(i / nums.length)
noncomputable def pcsF (blk r:Nat):Nat→Nat→Bs→List (Nat × Nat × Nat)
 | 0,_,_=>[]
 | k+1,len,rest=>(r,len+(fillN blk len).length,len+(fillN blk len).length+7+addM blk len rest.length) :: (if addM blk len rest.length=rest.length then [] else pcsF blk r k (len+(fillN blk len).length+7+addM blk len rest.length) (rest.drop (addM blk len rest.length)))
noncomputable def pcsN (blk r len:Nat) (o:Bs):List (Nat × Nat × Nat):=pcsF blk r (2*o.length+2) len o
noncomputable def layO (blk chk:Nat):Nat→List Bs→Bs
 | _,[]=>[]
 | len,x :: xs=>addN blk chk len x++layO blk chk (len+(addN blk chk len x).length) xs
noncomputable def layP (blk chk:Nat):Nat→Nat→List Bs→List (Nat × Nat × Nat)
 | _,_,[]=>[]
 | r,len,x :: xs=>pcsN blk r len x++layP blk chk (r+1) (len+(addN blk chk len x).length) xs
noncomputable def layE (blk chk:Nat):Nat→List Bs→List Nat
 | _,[]=>[]
 | len,x :: xs=>(len+(addN blk chk len x).length) :: layE blk chk (len+(addN blk chk len x).length) xs
noncomputable def endN (ends:List Nat) (k:Nat):Nat:=if k=0 then 0 else ends.getD (k - 1) 0
noncomputable abbrev OL (l:Bs):List V:=l.map fun x=>V.int ((x.toNat:Nat):Int)
noncomputable abbrev PL (l:List (Nat × Nat × Nat)):List V:=l.map fun p=>V.tup [.int (p.1:Nat),.int (p.2.1:Nat),.int (p.2.2:Nat)]
theorem eq_353 {hp:HP} {d ba w:Addr} {a a' b c:O} (h1:d≠ba) (h2:d≠w) (h3:ba≠w):upd (upd (upd (upd hp d a) ba b) w c) d a'=upd (upd (upd hp d a') ba b) w c:=by
 funext x; unfold upd
 by_cases e1:x=w
 ·simp [e1,Ne.symm h2]
 ·by_cases e2:x=ba
  ·simp [e2,Ne.symm h1]
  ·by_cases e3:x=d
   ·simp [e3,h1,h2]
   ·simp [e1,e2,e3]
theorem eq_354 {hp:HP} {d ba w:Addr} {a b b' c:O} (h3:ba≠w):upd (upd (upd (upd hp d a) ba b) w c) ba b'=upd (upd (upd hp d a) ba b') w c:=by
 funext x; unfold upd
 by_cases e1:x=w
 ·simp [e1,Ne.symm h3]
 ·by_cases e2:x=ba <;> simp [e1,e2,h3]
section
variable {Γ:Gam} {fn:FnS} {n:Nat} {loc:List (Option V)} {hp:HP} {Q:AF→St→Prop} {X:St→Prop} {ss:List Stmt}
theorem XS.app' {o e:Expr} {apos pos p:Pos} {a:Addr} {xs:List V} {x:V} (ho:PE Γ fn n ⟨loc,hp⟩ o (.obj a)) (hi:hp a=some (.list xs)) (he:PE Γ fn n ⟨loc,hp⟩ e x) (hz:xs.length≤1000000)
  (q:XS Γ fn n ss ⟨loc,upd hp a (.list (xs++[x]))⟩ Q X) (h:MethPl o "append" [e] apos pos:=by intro _; rfl) (hst:isStarred e=false:=by rfl) (hs:∀ env,swapsWith (.Call (.Attribute o "append" apos) [e] [] pos) none p.line env=pure false:=by intro _; rfl) :
  XS Γ fn n (.Expr (.Call (.Attribute o "append" apos) [e] [] pos) p :: ss) ⟨loc,hp⟩ Q X:=XS.expr (XE.append' ho hi he hz q h hst) hs
end
section
variable {Γ:Gam} {fn:FnS} {n:Nat} {σ:St} {loc:List (Option V)} {hp:HP} {Q:AF→St→Prop} {X:St→Prop} {ss:List Stmt}
theorem XS.whileQ {k₀:Nat} {t:Expr} {body:List Stmt} {p:Pos} (J:Nat→List (Option V)→HP→Prop) (hJ:J k₀ loc hp) (turn:∀ k l h (Q':AF→St→Prop),J k l h→(∀ k' l' h',k'<k→J k' l' h'→Q' .next ⟨l',h'⟩)→(∀ x τ',Q (.ret x) τ'→Q' (.ret x) τ')→∃ b,PT Γ fn n ⟨l,h⟩ t b∧(b=true→XS Γ fn n body ⟨l,h⟩ Q' X)∧(b=false→XS Γ fn n ss ⟨l,h⟩ Q X)) (hc:fn.comp=false:=by rfl) :
  XS Γ fn n (.While t body [] p :: ss) ⟨loc,hp⟩ Q X:=XS.whileP (fun k τ=>J k τ.loc τ.hp) hc hJ fun k τ hj=>by
 obtain ⟨b,h1,h2,h3⟩:=turn k τ.loc τ.hp (fun af τ'=>match af with
    | .next | .cont=>∃ k',k'<k∧J k' τ'.loc τ'.hp
    | .brk=>XS Γ fn n ss τ' Q X
    | .ret x=>Q (.ret x) τ') hj (fun k' l' h' q1 q2=>⟨k',q1,q2⟩) (fun x τ' q=>q)
 exact ⟨b,h1,h2,h3⟩
theorem XS.forQ {xs:List V} {target iter:Expr} {body:List Stmt} {p:Pos} (J:Nat→List (Option V)→HP→Prop) (hi:XIt Γ fn n ⟨loc,hp⟩ iter xs) (h0:J 0 loc hp) (turn:∀ i l h x (Q':AF→St→Prop),xs[i]?=some x→J i l h→(∀ l' h',J (i+1) l' h'→Q' .next ⟨l',h'⟩)→(∀ x τ',Q (.ret x) τ'→Q' (.ret x) τ')→∃ f,Tgt Γ fn n target x f∧XS Γ fn n body ⟨f l,h⟩ Q' X) (fin:∀ l h,J xs.length l h→XS Γ fn n ss ⟨l,h⟩ Q X) (hs:∀ env x,foldedSetIterable iter env x=pure x:=by intro _ _; rfl) (hc:fn.comp=false:=by rfl):XS Γ fn n (.For target iter body [] p :: ss) ⟨loc,hp⟩ Q X :=
 XS.forP (fun k τ=>J k τ.loc τ.hp) hc hi h0 (fun i τ x hx hj=>turn i τ.loc τ.hp x _ hx hj (fun l' h' q=>q) (fun x τ' q=>q)) (fun τ hj=>fin τ.loc τ.hp hj) hs
theorem XS.forN {nm:Str} {np:Pos} {xs:List V} {iter:Expr} {body:List Stmt} {p:Pos} (k:Nat) (hn:fn.names[k]?=some (nm,.local)) (J:Nat→List (Option V)→HP→Prop) (hi:XIt Γ fn n ⟨loc,hp⟩ iter xs) (h0:J 0 loc hp) (turn:∀ i l h x (Q':AF→St→Prop),xs[i]?=some x→J i l h→(∀ l' h',J (i+1) l' h'→Q' .next ⟨l',h'⟩)→(∀ x τ',Q (.ret x) τ'→Q' (.ret x) τ')→XS Γ fn n body ⟨l.set k (some x),h⟩ Q' X) (fin:∀ l h,J xs.length l h→XS Γ fn n ss ⟨l,h⟩ Q X) (hs:∀ env x,foldedSetIterable iter env x=pure x:=by intro _ _; rfl) (hc:fn.comp=false:=by rfl):XS Γ fn n (.For (.Name nm np) iter body [] p :: ss) ⟨loc,hp⟩ Q X :=
 XS.forQ J hi h0 (fun i l h x Q' hx hj q1 q2=>⟨_,Tgt.name k hn,turn i l h x Q' hx hj q1 q2⟩) fin hs hc
theorem XS.ifQ {t:Expr} {b:Bool} {ts es:List Stmt} {p:Pos} (M:List (Option V)→HP→Prop) (ht:PT Γ fn n ⟨loc,hp⟩ t b) (h1:b=true→∀ Q':AF→St→Prop,(∀ l h,M l h→Q' .next ⟨l,h⟩)→(∀ x τ,Q (.ret x) τ→Q' (.ret x) τ)→XS Γ fn n ts ⟨loc,hp⟩ Q' X) (h2:b=false→∀ Q':AF→St→Prop,(∀ l h,M l h→Q' .next ⟨l,h⟩)→(∀ x τ,Q (.ret x) τ→Q' (.ret x) τ)→XS Γ fn n es ⟨loc,hp⟩ Q' X) (h:∀ l hp',M l hp'→XS Γ fn n ss ⟨l,hp'⟩ Q X):XS Γ fn n (.If t ts es p :: ss) ⟨loc,hp⟩ Q X :=
 .ifP ht (fun q=>h1 q _ (fun l hh m=>h l hh m) fun x τ q=>q) (fun q=>h2 q _ (fun l hh m=>h l hh m) fun x τ q=>q)
theorem eq_355 {A B:Type} {Q:A→B→Prop} {u:A} {R:B→Prop} (k:∀ h,R h→Q u h) (x:A) (h:B) (e:x=u∧R h):Q x h:=by rw [e.1]; exact k h e.2
theorem eq_356 {A B:Type} {Q:A→B→Prop} {u:A} {g:B} (k:Q u g) (x:A) (h:B) (e:x=u∧h=g):Q x h:=by rw [e.1,e.2]; exact k
theorem eq_357 {A B:Type} {Q:A→B→Prop} {u:A} {g:B} {C:Prop} (k:C→Q u g) (x:A) (h:B) (e:x=u∧C∧h=g):Q x h:=by rw [e.1,e.2.2]; exact k e.2.1
theorem eq_358 {A B:Type} {f:A→B} {G:B→Prop} (k:∀ a,G (f a)) (x:B) (e:∃ a,x=f a):G x:=e.elim fun a q=>by rw [q]; exact k a
theorem eq_359 {A A' B:Type} {f:A→A'→B} {G:B→Prop} (k:∀ a b,G (f a b)) (x:B) (e:∃ a b,x=f a b):G x:=e.elim fun a e=>e.elim fun b q=>by rw [q]; exact k a b
theorem eq_360 {A B C:Type} {f:A→B} {g:C} {G:B→C→Prop} (k:∀ a,G (f a) g) (x:B) (y:C) (e:∃ a,x=f a∧y=g):G x y:=e.elim fun a q=>by rw [q.1,q.2]; exact k a
theorem eq_361 {B:Type} {C:Prop} {g:B} {G:B→Prop} (k:C→G g) (x:B) (e:C∧x=g):G x:=by rw [e.2]; exact k e.1
theorem XS.whileV {σ:St} {k₀:Nat} {t:Expr} {body:List Stmt} {p:Pos} (J:Nat→St→Prop) (hJ:J k₀ σ) (turn:∀ k τ (Q':AF→St→Prop),J k τ→(∀ k' τ',k'<k→J k' τ'→Q' .next τ')→(∀ x τ',Q (.ret x) τ'→Q' (.ret x) τ')→∃ b,PT Γ fn n τ t b∧(b=true→XS Γ fn n body τ Q' X)∧(b=false→XS Γ fn n ss τ Q X)) (hc:fn.comp=false:=by rfl) :
  XS Γ fn n (.While t body [] p :: ss) σ Q X:=XS.whileP J hc hJ fun k τ hj=>turn k τ (fun af τ'=>match af with
    | .next | .cont=>∃ k',k'<k∧J k' τ'
    | .brk=>XS Γ fn n ss τ' Q X
    | .ret x=>Q (.ret x) τ') hj (fun k' _ q1 q2=>⟨k',q1,q2⟩) (fun _ _ q=>q)
theorem XS.forV {σ:St} {nm:Str} {np:Pos} {xs:List V} {iter:Expr} {body:List Stmt} {p:Pos} (k:Nat) (hn:fn.names[k]?=some (nm,.local)) (J:Nat→St→Prop) (hi:XIt Γ fn n σ iter xs) (h0:J 0 σ) (turn:∀ i τ x (Q':AF→St→Prop),xs[i]?=some x→J i τ→(∀ τ',J (i+1) τ'→Q' .next τ')→(∀ x τ',Q (.ret x) τ'→Q' (.ret x) τ')→XS Γ fn n body ⟨τ.loc.set k (some x),τ.hp⟩ Q' X) (fin:∀ τ,J xs.length τ→XS Γ fn n ss τ Q X) (hs:∀ env x,foldedSetIterable iter env x=pure x:=by intro _ _; rfl) (hc:fn.comp=false:=by rfl):XS Γ fn n (.For (.Name nm np) iter body [] p :: ss) σ Q X :=
 XS.forP J hc hi h0 (fun i τ x hx hj=>⟨_,Tgt.name k hn,turn i τ x _ hx hj (fun _ q=>q) (fun _ _ q=>q)⟩) fin hs
theorem XS.ifV {σ:St} {t:Expr} {b:Bool} {ts es:List Stmt} {p:Pos} (M:St→Prop) (ht:PT Γ fn n σ t b) (h1:b=true→∀ Q':AF→St→Prop,(∀ τ,M τ→Q' .next τ)→XS Γ fn n ts σ Q' X) (h2:b=false→∀ Q':AF→St→Prop,(∀ τ,M τ→Q' .next τ)→XS Γ fn n es σ Q' X) (h:∀ τ,M τ→XS Γ fn n ss τ Q X):XS Γ fn n (.If t ts es p :: ss) σ Q X :=
 .ifP ht (fun q=>h1 q _ fun τ m=>h τ m) (fun q=>h2 q _ fun τ m=>h τ m)
theorem FC.introQ {fn:FnS} {xs:List V} {R:V→HP→Prop} {Y:HP→Prop} (ok:FnOk Γ fn) (hcell:∀ x∈fn.names,x.2≠.cell) (hb:BindOk Γ fn xs loc)
  (h:∀ Q':AF→St→Prop,(∀ x l h,R x h→Q' (.ret x) ⟨l,h⟩)→(∀ l h,R .none h→Q' .next ⟨l,h⟩)→XS Γ fn n fn.body ⟨loc,hp⟩ Q' (fun τ=>Y τ.hp)) (hc:fn.comp=false:=by rfl) (hcl:fn.fd.closure=[]:=by rfl):FC Γ (n+1) fn.addr xs hp R Y :=
 FC.intro ok hc hcell hcl hb (h _ (fun x l h q=>q) fun l h q=>q)
theorem FC.introCQ {fn:FnS} {xs:List V} {R:V→HP→Prop} {Y:HP→Prop} (ok:FnOk Γ fn) (hb:BindOkC Γ fn xs loc)
  (h:∀ Q':AF→St→Prop,(∀ x l h,R x h→Q' (.ret x) ⟨l,h⟩)→(∀ l h,R .none h→Q' .next ⟨l,h⟩)→XS Γ fn n fn.body ⟨loc,hp⟩ Q' (fun τ=>Y τ.hp)) (hc:fn.comp=false:=by rfl) (hcl:fn.fd.closure=[]:=by rfl):FC Γ (n+1) fn.addr xs hp R Y :=
 FC.introC ok hc hcl hb (h _ (fun x l h q=>q) fun l h q=>q)
theorem XS.unp {ts:List Expr} {k:Nat} {tp q:Pos} {e:Expr} {xs:List V} {f:List (Option V)→List (Option V)} (he:PE Γ fn n ⟨loc,hp⟩ e (.tup xs)) (ht:Tgts Γ fn n ts xs f) (h:XS Γ fn n ss ⟨f loc,hp⟩ Q X) (ha:AsgPl (.Tuple ts k tp) e q:=by exact Y87) :
  XS Γ fn n (.Assign [.Tuple ts k tp] e q :: ss) ⟨loc,hp⟩ Q X:=XS.asgX (he.toX ((Tgt.tup ht).toX h)) ha
end
noncomputable def lostN (r e:Nat):List (Nat × Nat × Nat)→Nat
 | []=>0
 | p :: ps=>(if p.1=r∧p.2.2≤e then p.2.2 - p.2.1 - 7 else 0)+lostN r e ps
theorem eq_362 {kf:Str→Option NameKind} {x:Str}:∀ {bs:List (Str × Value)} {m:Str→Option Value},x∉bs.map (·.1)→bindL kf bs m x=m x
 | [],_,_=>rfl
 | (y,v) :: r,m,h=>by
  rw [map_cons,mem_cons,not_or] at h
  show bindL kf r (if kf y=some .local then fun z=>if z=y then some v else m z else m) x=_
  rw [eq_362 h.2]
  split
  ·exact if_neg h.1
  ·rfl
theorem eq_363 {kf:Str→Option NameKind} {x:Str}:∀ {bs:List (Str × Value)} {m:Str→Option Value},x∉bs.map (·.1)→bindC kf bs m x=m x
 | [],_,_=>rfl
 | (y,v) :: r,m,h=>by
  rw [map_cons,mem_cons,not_or] at h
  show bindC kf r (if kf y=some .local then m else fun z=>if z=y then some v else m z) x=_
  rw [eq_363 h.2]
  split
  ·rfl
  ·exact if_neg h.1
theorem Y144 {kf:Str→Option NameKind} {x:Str} {v:Value} (hk:kf x=some .local):∀ {bs:List (Str × Value)} {m:Str→Option Value},(bs.map (·.1)).Nodup→(x,v)∈bs→bindL kf bs m x=some v
 | [],_,_,h=>by cases h
 | (y,w) :: r,m,hn,h=>by
  rw [map_cons,nodup_cons] at hn
  show bindL kf r (if kf y=some .local then fun z=>if z=y then some w else m z else m) x=_
  rcases List.mem_cons.mp h with e | h
  ·cases e; rw [eq_362 hn.1,if_pos hk]; exact if_pos rfl
  ·exact Y144 hk hn.2 h
theorem Y145 {kf:Str→Option NameKind} {x:Str} {v:Value} (hk:kf x=some .cell):∀ {bs:List (Str × Value)} {m:Str→Option Value},(bs.map (·.1)).Nodup→(x,v)∈bs→bindC kf bs m x=some v
 | [],_,_,h=>by cases h
 | (y,w) :: r,m,hn,h=>by
  rw [map_cons,nodup_cons] at hn
  show bindC kf r (if kf y=some .local then m else fun z=>if z=y then some w else m z) x=_
  rcases List.mem_cons.mp h with e | h
  ·cases e; rw [eq_363 hn.1,if_neg (by rw [hk]; decide)]; exact if_pos rfl
  ·exact Y145 hk hn.2 h
theorem BindOkC.plain {Γ:Gam} {fn:FnS} {xs:List V} {ps rest:List (Str × NameKind)} (h1:fn.names=ps++rest) (hps:∀ p∈ps,p.2=.local∨p.2=.cell) (hn:(fn.names.map (·.1)).Nodup) (hl:xs.length=ps.length)
  (h2:∀ vs:List Value,vs.length=ps.length→bindArgs fn.fd ⟨vs,[]⟩=pure ((ps.map (·.1)).zip vs)):BindOkC Γ fn xs (xs.map some++rest.map fun _=>none):=by
 refine ⟨fun s G vs hB hv=>?_⟩
 revert h1 hps hn hl h2 hB hv; revert Γ fn xs ps rest s G vs; apply s8; generalize T1 _=Γ,T2 _=fn,T3 _=xs,T4 _=ps,T5 _=rest,T6 _=s,T7 _=G,T8 _=vs; intro h1 hps hn hl h2 hB hv
 have hlen:=hv.length
 have hnd:(((ps.map (·.1)).zip vs).map (·.1)).Nodup:=by
  rw [List.map_fst_zip (by rw [length_map]; exact lA2 (eqG hl) (eqG hlen))]
  rw [h1,map_append] at hn
  exact (List.nodup_append.mp hn).1
 have lk:∀ p∈ps,fn.names.lookup p.1=some p.2:=fun p hp=>lkp hn (by rw [h1]; exact mem_append_left _ hp)
 refine ⟨_,h2 vs (le_antisymm (lA2 (eqL hlen) (eqL hl)) (lA2 (eqG hl) (eqG hlen))),fun y hy=>?_,fun k x kd u e1 e2=>?_⟩
 ·obtain ⟨p,hp,e⟩:=List.mem_map.mp (List.of_mem_zip hy).1
  rw [← e,lk p hp]
  exact (hps p hp).imp (fun h=>by rw [h]) fun h=>by rw [h]
 ·revert k x kd u; apply s4; generalize T1 _=k,T2 _=x,T3 _=kd,T4 _=u; intro e1 e2
  have hk:k<xs.length:=by
   rcases lt_or_ge k xs.length with h | h
   ·exact h
   ·rw [List.getElem?_append_right (by rw [length_map]; exact h),getElem?_map] at e2
    obtain ⟨_,_,h⟩:=Option.map_eq_some_iff.mp e2
    cases h
  rw [getElem?_append_left (by rw [length_map]; exact hk),getElem?_map] at e2
  obtain ⟨u',hu,e⟩:=Option.map_eq_some_iff.mp e2
  exists u'; intro hu e
  cases e
  rw [h1,getElem?_append_left (sA2 (lsl hk) (eqL hl))] at e1
  obtain ⟨v,hv1,hv2⟩:=hv.get hu
  have hm:(x,v)∈(ps.map (·.1)).zip vs:=mem_of_getElem? (i:=k) (by rw [List.getElem?_zip_eq_some]; exact ⟨by rw [getElem?_map,e1]; rfl,hv1⟩)
  have hpm:=mem_of_getElem? e1
  have hk2:=lk _ hpm
  rcases hps _ hpm with h | h
  ·cases h; exact .inl ⟨rfl,v,Y144 hk2 hnd hm,hv2⟩
  ·cases h; exact .inr ⟨rfl,v,Y145 hk2 hnd hm,hv2⟩
section
variable {Γ:Gam} {fn:FnS} {n:Nat} {σ:St} {loc:List (Option V)} {hp:HP} {Q:AF→St→Prop} {X:St→Prop} {ss:List Stmt}
theorem XS.asgK {y:Str} {py q:Pos} {e:Expr} {u:V} {loc':List (Option V)} (k:Nat) (hn:fn.names[k]?=some (y,.cell)) (he:PE Γ fn n ⟨loc,hp⟩ e u) (hl:SetAt loc k u loc') (h:XS Γ fn n ss ⟨loc',hp⟩ Q X) (hp0:∀ env:Env,env.kindOf y=some .cell→swapsWithSole [.Name y py] e q.line env=pure false) (h2:∀ env,swappedStores [.Name y py] e env=pure none:=by intro _; rfl) (hc:fn.comp=false:=by rfl):XS Γ fn n (.Assign [.Name y py] e q :: ss) ⟨loc,hp⟩ Q X:=.cons ⟨fun c G s rep=>by
 show wpAny _ _ ((do
  standAt q
  if ← swapsWithSole [.Name y py] e q.line c.env then do
   evalThenUse e c.env fun v=>assignAll v ((assignEach [.Name y py] c.env).map (·.2))
   pure .next
  else do
   let v ← eval e c.env
   assignStores c.env v (← swappedStores [.Name y py] e c.env) ((assignEach [.Name y py] c.env).map (·.2))):Sem Flow) _ _ _
 rw [hp0 _ (rep.good.eo.kindOf rep.good.ok hn),h2]
 show wpAny _ _ ((do standAt q; let v ← eval e c.env; assign (.Name y py) c.env v; pure .next):Sem Flow) _ _ _
 refine Y4 (Y7 (Y4 (wpAny_mono (he.run c G s rep) (Cx.RP.el fun v s₁ G₁ l₁ r₁ v₁=>?_) NoX.to)))
 refine Y4 (Y3 (kit <| (Tgt.cell (p:=py) k hc hn).run c G₁ _ s₁ v (c.EP G X) r₁ v₁) (fun _ s₂ r₂=>wpAny_pure ?_))
 rw [hl.eq] at r₂
 exact .mk l₁ r₂ .next h⟩
end
section
variable {Γ:Gam} {fn:FnS} {n:Nat} {loc:List (Option V)} {hp:HP} {Q:AF→St→Prop} {X:St→Prop} {ss:List Stmt}
theorem CmpOk.neBo {σ:St} {a b:Bool}:CmpOk Γ fn n σ .NotEq (.bool a) (.bool b) (a != b):=⟨fun c G s v w rep hv hw=>by cases hv; cases hw; exact kit <| ne_bool (Cx.RP.now rep (.bool _))⟩
theorem XS.tryQ {x y:Str} {np yp hpos kp sp pos:Pos} {kk:Nat} {b:Bool} {body:List Stmt} {j:Nat} (k:Nat) (M:Bool→List (Option V)→HP→Prop) (hx:XOk Γ) (hf:fn.names[j]?=some (x,.globalImplicit)) (hg:nsIn Γ.K mainGlobals x=some (some (.ref Γ.xc))) (hn:fn.names[k]?=some (y,.local)) (hb:∀ (Q1:AF→St→Prop) (X1:St→Prop),(∀ l h,M false l h→Q1 .next ⟨l,h⟩)→(∀ x τ,Q (.ret x) τ→Q1 (.ret x) τ)→(∀ l h,M true (l.set k (some (.bool b))) h→X1 ⟨l,h⟩)→XS Γ fn n body ⟨loc,hp⟩ Q1 X1) (hs:∀ bb l h,M bb l h→XS Γ fn n ss ⟨l,h⟩ Q X) (hc:fn.comp=false:=by rfl) :
  XS Γ fn n (.Try body [.ExceptHandler (some (.Name x np)) Option.none [.Assign [.Name y yp] (.Constant (.bool b) kk kp) sp] hpos] [] [] pos :: ss) ⟨loc,hp⟩ Q X :=
 XS.try1 k (X':=fun τ=>M true (τ.loc.set k (some (.bool b))) τ.hp) hc hx hf hg hn (hb _ _ (fun l h m=>hs false l h m) (fun x τ q=>q) fun l h q=>q) fun τ h2=>hs true _ τ.hp h2
end
noncomputable def cutF (blk chk:Nat):Nat→List Bs→List Nat→Bs→Nat→Nat→Nat→Bs × Nat × Nat × Bool
 | i,x :: xs,w :: ws,b,left,kept,safe =>
  if left<(addN blk chk b.length x).length then (b++(addN blk chk b.length x).take left,kept,safe,true)
  else if w % 2=1 then
   if left - (addN blk chk b.length x).length<1 then (b++addN blk chk b.length x,kept,safe,true)
   else cutF blk chk (i+1) xs ws (b++addN blk chk b.length x) (left - (addN blk chk b.length x).length - 1) (b++addN blk chk b.length x).length (i+1)
  else cutF blk chk (i+1) xs ws (b++addN blk chk b.length x) (left - (addN blk chk b.length x).length) kept safe
 | _,_,_,b,_,kept,safe=>(b,kept,safe,false)
theorem eq_364 (blk chk i:Nat) (ws:List Nat) (b:Bs) (left kept safe:Nat):cutF blk chk i [] ws b left kept safe=(b,kept,safe,false):=by cases ws <;> rfl
noncomputable def whN (len:Nat):List Nat→Nat
 | []=>0
 | e :: es=>if e≤len then whN len es+1 else 0
noncomputable def numsN (xs:List Int):List Nat:=if (xs.take 40).length=0 then [5] else (xs.take 40).map fun x=>(x.fmod 999983).toNat
noncomputable def blkN (nums:List Nat):Nat:=8+drawN nums 0 % 33
noncomputable def chkN (nums:List Nat):Nat:=1+drawN nums 0 / 33 % 2
noncomputable def mostN (nums:List Nat):Nat:=Nat.min 30 (3*(blkN nums - 7))
noncomputable def countN (nums:List Nat):Nat:=Nat.max 1 (Nat.min 6 (nums.length - 5))
noncomputable def sizeN (nums:List Nat) (i total:Nat):Nat :=
 if 90<total+drawN nums (5+i) % (mostN nums+1) then drawN nums (5+i) % (mostN nums+1) % 8 else drawN nums (5+i) % (mostN nums+1)
noncomputable def totN (nums:List Nat):Nat→Nat
 | 0=>0
 | i+1=>totN nums i+sizeN nums i (totN nums i)
noncomputable def recOf (y size:Nat):Bs:=nB ((List.range size).map fun k=>(y+k*(y % 5)) % 256)
noncomputable def recsN (nums:List Nat) (k:Nat):List Bs:=(List.range k).map fun i=>recOf (drawN nums (5+i) / 7) (sizeN nums i (totN nums i))
noncomputable def waysN (nums:List Nat) (k:Nat):List Nat:=(List.range k).map fun i=>drawN nums (5+i) / 31 % 4
noncomputable def furN (nums:List Nat):Bs:=nB (List.replicate (drawN nums 4 / 256 % (mostN nums+1)) (drawN nums 4 % 256))
theorem eq_365 (nums:List Nat) (i total:Nat):sizeN nums i total≤30:=by
 have h:mostN nums≤30:=min_le_left ..
 have:=mod_lt (drawN nums (5+i)) (show 0<mostN nums+1 by exact sA0)
 unfold sizeN
 split
 ·have:=Nat.mod_le (drawN nums (5+i) % (mostN nums+1)) 8; exact lA1 (eq_12 (drawN nums (5+i) % (mostN nums+1)) 8 (sA0))
 ·exact lA2 (lsl this) h
theorem eq_366 (y size:Nat):(recOf y size).length=size:=by simp [recOf,nB]
local macro_rules | `(tactic| wtm_at "ds")=>`(tactic| try dsimp only [set_cons_succ,set_cons_zero])
local macro_rules | `(tactic| wtm_at "sa")=>`(tactic| (apply SetAt.mk; first | dsimp only [set_cons_succ,set_cons_zero] | rfl))
local macro_rules | `(tactic| wtm_at "leaf")=>`(tactic| first | ((with_reducible apply PE.loc); (with_reducible assumption); exact rfl) | ((with_reducible apply PE.globN); (with_reducible assumption); exact Y120 rfl) | ((with_reducible apply PE.glob); (with_reducible assumption); exact Y120 rfl) | ((with_reducible apply PE.cell); (with_reducible assumption); exact rfl))
local macro_rules | `(tactic| wtm_at "sc")=>`(tactic| first | assumption | exact dD | exact Nat.le_of_ble_eq_true rfl | (refine Nat.le_trans (by assumption) ?_; exact Nat.le_of_ble_eq_true rfl) | exact .inr dD | exact .inl dD)
local macro_rules | `(tactic| wtm_at "bk")=>`(tactic| first | with_reducible exact BinK.addN | ((with_reducible apply BinK.subN); wtm_at "sc") | ((with_reducible apply BinK.mulN); wtm_at "sc") | ((with_reducible apply BinK.modN); wtm_at "sc") | ((with_reducible apply BinK.divN); wtm_at "sc"; wtm_at "sc") | with_reducible exact BinK.bandN | with_reducible exact BinK.borN | with_reducible exact BinK.bxorN | with_reducible exact BinK.shrN | ((with_reducible apply BinK.shlN); wtm_at "sc"; wtm_at "sc") | ((with_reducible apply PE.addBK); wtm_at "sc") | ((with_reducible apply BinK.addL); wtm_at "sc") | ((with_reducible apply BinK.addS); wtm_at "sc") | with_reducible exact BinK.addI | with_reducible exact BinK.subI | ((with_reducible apply BinK.modI); wtm_at "sc"))
local macro_rules | `(tactic| wtm_at "ck")=>`(tactic| first | (with_reducible first | exact CmpOk.ltN | exact CmpOk.leN | exact CmpOk.gtN | exact CmpOk.geN | exact CmpOk.eqN | exact CmpOk.neN | exact CmpOk.neB | exact CmpOk.isNot | exact CmpOk.lt | exact CmpOk.le | exact CmpOk.gt | exact CmpOk.ge | exact CmpOk.eq | exact CmpOk.ne | exact CmpOk.eqLB | exact CmpOk.neLB | exact CmpOk.eqT | exact CmpOk.neT) | ((with_reducible apply CmpOk.inSD); wtm_at "hp") | ((with_reducible apply CmpOk.notInSD); wtm_at "hp"))
local macro_rules | `(tactic| wtm_at "pes")=>`(tactic| first | with_reducible exact PEs.nil | ((with_reducible apply PEs.cons); wtm_at "pe"; wtm_at "pes"; rfl))
local macro_rules | `(tactic| wtm_at "hp")=>`(tactic| first | assumption | with_reducible exact Y56 | ((with_reducible refine Y58 (by wtm_at "ne") ?_); wtm_at "hp") | exact Y56)
local macro_rules | `(tactic| wtm_at "ne")=>`(tactic| first | assumption | exact Ne.symm (by assumption))
local macro_rules | `(tactic| wtm_at "pe")=>`(tactic| first | exact PE.nat | wtm_at "leaf" | ((with_reducible apply PE.bop); wtm_at "pe"; wtm_at "pe"; wtm_at "bk") | ((with_reducible apply PE.cmp); wtm_at "pe"; wtm_at "pe"; wtm_at "ck"; rfl) | wtm_at "ca" | wtm_at "pi" | wtm_at "at" | with_reducible exact PE.bool | with_reducible exact PE.str | with_reducible exact PE.none | with_reducible exact PE.byt | ((with_reducible apply PE.list); wtm_at "pes"; wtm_at "sc") | ((with_reducible apply PE.tuple); wtm_at "pes"; wtm_at "sc") | ((with_reducible apply PE.neg); wtm_at "pe"))
local macro_rules | `(tactic| wtm_at "ca")=>`(tactic| first | ((with_reducible apply PE.lenB); wtm_at "leaf"; wtm_at "pe"; wtm_at "sc"; rfl) | ((with_reducible apply PE.lenL); wtm_at "leaf"; wtm_at "pe"; wtm_at "sc"; rfl) | ((with_reducible apply PE.lenO); wtm_at "leaf"; wtm_at "pe"; wtm_at "hp"; wtm_at "sc"; rfl) | ((with_reducible apply PE.lenA); wtm_at "leaf"; wtm_at "pe"; wtm_at "hp"; wtm_at "sc"; rfl) | ((with_reducible apply PE.minN); wtm_at "leaf"; wtm_at "pe"; wtm_at "pe"; rfl; rfl) | ((with_reducible apply PE.bytesZN); wtm_at "leaf"; wtm_at "pe"; wtm_at "sc"; rfl) | ((with_reducible apply PE.bytesB); wtm_at "leaf"; wtm_at "pe"; rfl) | ((with_reducible apply PE.bytesA); wtm_at "leaf"; wtm_at "pe"; wtm_at "hp"; wtm_at "sc"; rfl) | ((with_reducible apply PE.sumN); wtm_at "leaf"; wtm_at "pe"; wtm_at "sc"; rfl))
local macro_rules | `(tactic| wtm_at "pi")=>`(tactic| first | ((with_reducible apply PE.itemBN); wtm_at "pe"; wtm_at "pe"; wtm_at "sc"; wtm_at "sc"; (intro _ _; rfl)) | ((with_reducible apply PE.itemLN); wtm_at "pe"; wtm_at "pe"; wtm_at "it"; wtm_at "sc"; (intro _ _; rfl)) | ((with_reducible apply PE.itemON); wtm_at "pe"; wtm_at "hp"; wtm_at "pe"; wtm_at "it"; wtm_at "sc"; (intro _ _; rfl)) | ((with_reducible apply PE.fromB); wtm_at "pe"; wtm_at "pe"; wtm_at "sc") | ((with_reducible apply PE.uptoB); wtm_at "pe"; wtm_at "pe"; wtm_at "sc") | ((with_reducible apply PE.cutB); wtm_at "pe"; wtm_at "pe"; wtm_at "pe"; wtm_at "sc"))
local macro_rules | `(tactic| wtm_at "it")=>`(tactic| first | assumption | exact rfl)
local macro_rules | `(tactic| wtm_at "pt")=>`(tactic| first | ((with_reducible apply PT.cmp); wtm_at "pe"; wtm_at "pe"; wtm_at "ck"; rfl) | ((with_reducible apply PT.not); wtm_at "pt") | ((with_reducible apply PT.and); wtm_at "pt"; intro _; wtm_at "pt") | ((with_reducible apply PT.or); wtm_at "pt"; intro _; wtm_at "pt") | with_reducible exact PT.andN | with_reducible exact PT.orN | ((with_reducible apply PT.bool); wtm_at "pe"; (intro _ _; rfl)) | ((with_reducible apply PT.nat); wtm_at "pe"; (intro _ _; rfl)))
local macro_rules | `(tactic| wtm_at "at")=>`(tactic| ((with_reducible apply PE.at); wtm_at "pe"; wtm_at "hp"; kernel_rfl; exact rfl; exact rfl; (intro _ _; rfl)))
local macro_rules | `(tactic| left)=>`(tactic| wtm_at "pe")
local macro_rules | `(tactic| right)=>`(tactic| wtm_at "hp")
local macro_rules | `(tactic| nofun)=>`(tactic| wtm_at "pes")
local macro_rules | `(tactic| ac_rfl)=>`(tactic| wtm_at "sa")
section
variable {Γ:Gam} {n:Nat}
theorem eq_367 {c:Nat} [F:Facts Γ] (h:c<2 ^ 32):PFC Γ (n+1) 178 [.int c] (.int (maskN c)):=PFC.intro (Γ:=Γ) (n:=n) (f:=f_mask) eq_129 eq_246 dK fun hp=>by
 have nm0:=nn eq_69 0
 have nm1:=nn eq_69 1
 have nm2:=nn eq_69 2
 refine XS.retP (PE.cast (by left) (by exact rfl)) ⟨rfl,rfl⟩
theorem eq_368 {c:Nat} [F:Facts Γ] (h:c<2 ^ 32):PFC Γ (n+1) 149 [.int c] (.byt (put32 c)):=PFC.intro (Γ:=Γ) (n:=n) (f:=f_put32) eq_125 eq_243 dK fun hp=>by
 have nm0:=nn eq_65 0
 have nm1:=nn eq_65 1
 have nm2:=nn eq_65 2
 have nm3:=nn eq_65 3
 refine XS.ifF0 (by wtm_at "pt") (by simp; exact lA1 (lsl h)) ?_
 refine XS.retP (PE.bytesN (l:=[c &&& 255,c >>> 8 &&& 255,c >>> 16 &&& 255,c >>> 24]) (by wtm_at "leaf") (PE.cast (by left) (by exact rfl)) ?_ (by simp)) ⟨rfl,rfl⟩
 have h1:c >>> 24<256:=by rw [shiftRight_eq_div_pow]; exact div_lt_of_lt_mul (show c<2 ^ 24*256 from h)
 have h2:∀ k:Nat,k &&& 255<256:=fun k=>lt_of_le_of_lt and_le_right dD
 simp only [mem_cons,not_mem_nil,or_false]
 rintro k (rfl | rfl | rfl | rfl)
 ·exact h2 _
 ·exact h2 _
 ·exact h2 _
 ·exact h1
theorem eq_369 {d:Bs} {i:Nat} [F:Facts Γ] (h:i+4≤d.length) (hz:d.length≤100000):PFC Γ (n+1) 156 [.byt d,.int i] (.int (rd32 d i)):=PFC.intro (Γ:=Γ) (n:=n) (f:=f_rd32) eq_126 eq_244 dK fun hp=>by
 have nm0:=nn eq_66 0
 have nm1:=nn eq_66 1
 have nm2:=nn eq_66 2
 have nm3:=nn eq_66 3
 have hb:∀ j,(d.getD j 0).toNat<256:=fun j=>UInt8.toNat_lt _
 have b0:=hb i
 have b1:=hb (i+1)
 have b2:=hb (i+2)
 have b3:=hb (i+3)
 refine XS.ifF0 (by wtm_at "pt") (by simp; exact lA1 h) ?_
 have S0:i<List.length d:=sA1 h
 have S1:i+1<List.length d:=sA1 h
 have S2:i+2<List.length d:=sA1 h
 refine XS.retP (PE.cast (by left) (by exact rfl)) ⟨rfl,rfl⟩
theorem eq_370 [F:Facts Γ]:PFC Γ (n+1) 163 [] (.lst (NL crcT)):=PFC.intro (Γ:=Γ) (n:=n) (f:=f_tbl) eq_127 eq_245 dK fun hp=>by
 have nm0:=nn eq_67 0
 revert F; revert Γ n hp; apply s3; generalize T1 _=Γ,T2 _=n,T3 _=hp; intro F
 have nm1:=nn eq_67 1
 have nm2:=nn eq_67 2
 have nm3:=nn eq_67 3
 have nm4:=nn eq_67 4
 have nm5:=nn eq_67 5
 refine XS.asgC' 0 nm0 (XE.mulL1' (x:=.int (0:Nat)) (k:=16) (by left) (by left) dD fun a ha=>?_) Y87
 exists a; intro ha
 wtm_at "ds"
 refine XS.asg' 1 nm1 (by left) (by ac_rfl) ?_
 refine XS.asg' 2 nm2 (by left) (by ac_rfl) ?_
 refine XS.whileV (fun k τ=>∃ t c half lo,τ=⟨[some (.obj a),some (.int (c:Nat)),some (.int (half:Nat)),lo,none,none],upd hp a (.list (NL t))⟩∧t.length=16∧(half=0∨half=1∨half=2∨half=4∨half=8)∧half<2 ^ k∧tblR k t c half=crcT) (k₀:=4) (EI4 (List.replicate 16 0) 1 8 none ⟨rfl,rfl,dD,dD,eq_298⟩) ?_
 rintro k _ Q1 hR0 nx1 _; refine Ex4 hR0 fun t c half lo Z1=>?_; clear hR0; obtain ⟨rfl,Z0⟩:=Z1; refine An4 Z0 fun ht hh hk hr=>?_; clear Z0
 revert nx1 a_1 ht hh hk hr; revert k Q1 t c half lo; apply s6; generalize T1 _=k,T2 _=Q1,T3 _=t,T4 _=c,T5 _=half,T6 _=lo; intro nx1 a_1 ht hh hk hr
 refine ⟨_,by wtm_at "pt",fun q=>?_,fun q=>?_⟩
 ·have h0:0<half:=of_decide_eq_true q
  obtain ⟨k,rfl⟩:∃ j,k=j+1:=⟨k - 1,by cases k with | zero=>simp at hk; exact le_antisymm (lA0) (lA1 (nsa 0 1 (lA2 (lsl h0) (eqL hk)))) | succ k=>rfl⟩
  exists k; intro nx1 hk hr
  have hm:(Builtin.Range.rangeSize ((0:Nat):Int) ((16:Nat):Int) ((2*half:Nat):Int)).toNat=8 / half:=by
   rcases hh with rfl | rfl | rfl | rfl | rfl <;> first | lia | decide +kernel
  refine XS.ifV (fun τ=>τ=⟨[some (.obj a),some (.int (tblC c:Nat)),some (.int (half:Nat)),lo,none,none],upd hp a (.list (NL t))⟩) (b:=decide (c &&& 1≠0)) (PT.nat (by left)) (fun q Q2 nx2=>?_) (fun q Q2 nx2=>?_) ?_
  ·refine XS.asg' 1 nm1 (by left) (by ac_rfl) ?_
   refine XS.nil (nx2 _ ?_)
   rw [tblC,if_pos (by simpa using q)]
  ·refine XS.aug' 1 nm1 rfl (by left) (IOp.shrN) (by ac_rfl) ?_
   refine XS.nil (nx2 _ ?_)
   rw [tblC,if_neg (by simpa using q)]
  rintro _ rfl
  refine XS.forV 3 nm3 (fun i τ=>∃ lo,τ=⟨[some (.obj a),some (.int (tblC c:Nat)),some (.int (half:Nat)),lo,none,none],upd hp a (.list (NL (tblF (tblC c) half i t)))⟩) (XIt.range3 (a:=(0:Nat)) (b:=(16:Nat)) (d:=(2*half:Nat)) (by wtm_at "leaf") (by nofun) dD dD dD dD (Int.ofNat_lt.mpr (sA1 (lsl h0))) (by lia)) ⟨lo,rfl⟩ ?_ ?_
  ·rintro i _ x Q2 hx ⟨lo,rfl⟩ nx2 _
   revert hx nx2 a_2; revert i x Q2 lo; apply s4; generalize T1 _=i,T2 _=x,T3 _=Q2,T4 _=lo; intro hx nx2 a_2
   rw [Y118,hm] at hx
   exists lo
   obtain ⟨hi,rfl⟩:=eq_63 hx
   have hb:i*(2*half)+half<16:=by
    rcases hh with rfl | rfl | rfl | rfl | rfl <;> lia
   have hl:(tblF (tblC c) half i t).length=16:=(eq_299 ..).trans ht
   wtm_at "ds"
   refine XS.asgX (PE.toX (x:=.int ((tblF (tblC c) half i t).getD (i*(2*half)) 0 ^^^ tblC c:Nat)) ?_ (XTg.itemO (by left) Y56 (i:=((i*(2*half)+half:Nat):Int)) ?_ (natCast_nonneg _) (by rw [length_map,hl]; exact Int.ofNat_lt.mpr (sA1 (lsl hb))) (by rw [length_map,hl]; decide) ?_)) Y87
   ·refine PE.bop (PE.itemON (by left) Y56 (i:=i*(2*half)) (PE.cast (by left) (by rw [Nat.zero_add])) (eq_296 (sA2 (lsl hb) (eqG hl))) (by rw [length_map,hl]; decide)) (by left) BinK.bxorN
   ·exact PE.cast (by left) (by rw [Nat.zero_add])
   ·refine XS.nil (nx2 _ ⟨some (.int ((0+i*(2*half):Nat):Int)),?_⟩)
    rw [eq_39,toNat_natCast,eq_297]
    rfl
  ·refine eq_358 fun lo=>?_
   refine XS.aug' 2 nm2 rfl (by left) (IOp.shrN) (by ac_rfl) ?_
   refine XS.nil (nx1 k _ (sA0) (EI4 _ _ _ lo ⟨rfl,?_⟩))
   rw [Y118,hm,eq_64]
   refine ⟨(eq_299 ..).trans ht,?_,?_,?_⟩
   ·rcases hh with rfl | rfl | rfl | rfl | rfl <;> decide
   ·rw [shiftRight_eq_div_pow,Nat.pow_one]; rw [Nat.pow_succ,mul_comm] at hk; exact div_lt_of_lt_mul hk
   ·rw [tblR,if_neg (fun q_=>eq_5 (lsl h0) (eqL q_))] at hr; exact hr
 ·have h0:half=0:=by simpa using q
  subst h0
  have:t=crcT:=by cases k with | zero=>exact hr | succ k=>rw [tblR,if_pos rfl] at hr; exact hr
  subst this
  refine XS.freeze' 0 Y56 rfl (by ac_rfl) ?_
  rw [eq_295 ha]
  refine XS.retP (by left) ⟨rfl,rfl⟩
theorem BindOk.crc {x0:V} [F:Facts Γ]:BindOk Γ f_crc [x0] [some x0,some (.int (0:Nat)),none,none,none,none,none]:=⟨fun s G vs hB hv=>by
 refine Ex1 hv.one fun v Z0=>?_; obtain ⟨rfl,h1⟩:=Z0
 revert F hB h1 hv; revert Γ x0 s G v; apply s5; generalize T1 _=Γ,T2 _=x0,T3 _=s,T4 _=G,T5 _=v; intro F hB h1 hv
 refine X22 F.dflt fun o n h2 h3=>?_
 revert o n; apply s2; generalize T1 _=o,T2 _=n; intro h2 h3
 refine ⟨[("data",v),("start",.int 0 397)],.of_defaults rfl (hB _ _ h2) h3 rfl rfl,?_,?_⟩
 ·intro y hy
  simp only [mem_cons,not_mem_nil,or_false] at hy
  rcases hy with rfl | rfl
  ·exact (by decide +kernel:f_crc.names.lookup ("data" : Str)=some .local)
  ·exact (by decide +kernel:f_crc.names.lookup ("start" : Str)=some .local)
 ·intro k x kd u e1 e2
  match k,e2 with
  | 0,e2=>cases e2; cases e1; exact ⟨rfl,_,rfl,h1⟩
  | 1,e2=>cases e2; cases e1; exact ⟨rfl,_,rfl,.int _ _⟩
  | 2,e2 | 3,e2 | 4,e2 | 5,e2 | 6,e2=>cases e2
  | k+7,e2=>cases e2⟩
theorem eq_371 {d:Bs} [F:Facts Γ] (hz:d.length≤100000):PFC Γ (n+2) 171 [.byt d] (.int (crcN d)):=PFC.intro (Γ:=Γ) (n:=n+1) (f:=f_crc) eq_128 BindOk.crc dK fun hp=>by
 have nm0:=nn eq_68 0
 revert F hz; revert Γ n d hp; apply s4; generalize T1 _=Γ,T2 _=n,T3 _=d,T4 _=hp; intro F hz
 have nm1:=nn eq_68 1
 have nm2:=nn eq_68 2
 have nm3:=nn eq_68 3
 have nm4:=nn eq_68 4
 have nm5:=nn eq_68 5
 have nm6:=nn eq_68 6
 refine XS.asg' 2 nm2 (PE.pfn (by wtm_at "leaf") eq_178 .nil eq_370) (by ac_rfl) ?_
 refine XS.asg' 3 nm3 (by left) (by ac_rfl) ?_
 refine XS.forP (fun i τ=>∃ oc,τ=⟨[some (.byt d),some (.int (0:Nat)),some (.lst (NL crcT)),some (.int (crcW 4294967295 (d.take i):Nat)),oc,none,none],hp⟩) rfl (XIt.bytes (by left)) ⟨none,by simp; rfl⟩ ?_ ?_
 ·rintro i _ x hx ⟨oc,rfl⟩
  revert hx; revert i x oc; apply s3; generalize T1 _=i,T2 _=x,T3 _=oc; intro hx
  rw [getElem?_map] at hx
  exists oc
  refine X12 (Option.map_eq_some_iff.mp hx) fun b hb Z0=>?_; obtain rfl:=Z0
  exists b; intro hb hx
  have e1:crcW 4294967295 (d.take (i+1))=nib (nib (crcW 4294967295 (d.take i) ^^^ b.toNat)):=by
   rw [take_add_one,hb]
   simp [crcW,foldl_append]
  have nb:∀ k:Nat,(NL crcT)[k &&& 15]?=some (V.int ((crcT.getD (k &&& 15) 0:Nat):Int)):=fun k=>eq_296 (lt_of_le_of_lt and_le_right dD)
  refine ⟨_,Tgt.name 4 nm4,?_⟩
  refine XS.aug' 3 nm3 rfl (by left) (IOp.bxorN) (by ac_rfl) ?_
  refine XS.asg' 3 nm3 (.bop (by left) (.itemLN (by left) (by left) (nb _) dD) BinK.bxorN) (by ac_rfl) ?_
  refine XS.asg' 3 nm3 (.bop (by left) (.itemLN (by left) (by left) (nb _) dD) BinK.bxorN) (by ac_rfl) ?_
  refine XS.nil ⟨some (.int (b.toNat:Nat)),?_⟩
  rw [e1]; rfl
 ·refine eq_358 fun oc=>?_
  refine XS.retP (PE.cast (by left) (by rw [length_map,take_length]; rfl)) ⟨rfl,rfl⟩
theorem eq_372 (d:Bs):crcN d<2 ^ 32:=xor_lt_two_pow (eq_346 dD d) dD
theorem eq_373 {k:Nat} {d:Bs} [F:Facts Γ] (hk:k=1∨k=2) (hz:d.length≤100000):PFC Γ (n+3) 185 [.int k,.byt d] (.int (csumN k d)):=PFC.intro (Γ:=Γ) (n:=n+2) (f:=f_csum) eq_130 eq_247 dK fun hp=>by
 have nm0:=nn eq_70 0
 have nm1:=nn eq_70 1
 have nm2:=nn eq_70 2
 have nm3:=nn eq_70 3
 have nm4:=nn eq_70 4
 have nm5:=nn eq_70 5
 have nm6:=nn eq_70 6
 have nm7:=nn eq_70 7
 have nm8:=nn eq_70 8
 have nm9:=nn eq_70 9
 have:=eq_372 d
 refine XS.ifP (by wtm_at "pt") (fun q=>?_) (fun q=>?_)
 ·have q:k=1:=of_decide_eq_true q
  refine XS.retP (PE.cast (PE.pfn (by wtm_at "leaf") eq_180 (.cons (PE.pfn (by wtm_at "leaf") eq_179 (by nofun) (eq_371 (by wtm_at "sc"))) .nil) (eq_367 (by wtm_at "sc"))) (by rw [csumN,if_pos q])) ⟨rfl,rfl⟩
 ·have q:k≠1:=of_decide_eq_false q
  refine XS.done ?_
  refine XS.ifT (by wtm_at "pt") (by simp; lia) ?_
  refine XS.retP (PE.cast (by left) (by rw [csumN,if_neg q]; rfl)) ⟨rfl,rfl⟩
theorem eq_374 {b:Nat} [F:Facts Γ] (h1:8≤b) (h2:b≤65542):PFC Γ (n+1) 192 [.int b] .none:=PFC.intro (Γ:=Γ) (n:=n) (f:=f_ckb) eq_131 eq_248 dK fun hp=>by
 have nm0:=nn eq_71 0
 have nm1:=nn eq_71 1
 have nm2:=nn eq_71 2
 have nm3:=nn eq_71 3
 refine XS.ifF0 (by wtm_at "pt") (by simp; exact ⟨lA1 h1,lA1 h2⟩) ?_
 exact XS.nil ⟨rfl,rfl⟩
theorem eq_375 {b:Nat} [F:Facts Γ] (h1:b=1∨b=2):PFC Γ (n+1) 199 [.int b] .none:=PFC.intro (Γ:=Γ) (n:=n) (f:=f_ckk) eq_132 eq_249 dK fun hp=>by
 have nm0:=nn eq_72 0
 have nm1:=nn eq_72 1
 have nm2:=nn eq_72 2
 have nm3:=nn eq_72 3
 refine XS.ifF0 (by wtm_at "pt") (by simp; lia) ?_
 exact XS.nil ⟨rfl,rfl⟩
theorem eq_376 {k c:Nat} {d:Bs} [F:Facts Γ] (hk:k<256) (hc:c=1∨c=2) (hz:d.length≤60000):PFC Γ (n+4) 206 [.int k,.byt d,.int c] (.byt (frag k d c)):=PFC.intro (Γ:=Γ) (n:=n+3) (f:=f_mkf) eq_133 eq_250 dK fun hp=>by
 have nm0:=nn eq_73 0
 have nm1:=nn eq_73 1
 have nm2:=nn eq_73 2
 have nm3:=nn eq_73 3
 have nm4:=nn eq_73 4
 have nm5:=nn eq_73 5
 have nm6:=nn eq_73 6
 have nm7:=nn eq_73 7
 have nm8:=nn eq_73 8
 have hb:∀ j∈[k],j<256:=by simpa using hk
 have hs:∀ j∈[d.length % 256,d.length / 256],j<256:=by
  simp only [mem_cons,not_mem_nil,or_false]
  rintro j (rfl | rfl) <;> lia
 have hl:(nB [k]++d).length≤100000:=by simp [nB]; exact lA1 hz
 have:=eq_351 c (nB [k]++d)
 refine XS.asg' 3 nm3 (by left) (by ac_rfl) ?_
 refine XS.asg' 4 nm4 (.bop (.bytesN (l:=[k]) (by wtm_at "leaf") (PE.cast (by left) (by exact rfl)) hb (by simp)) (by left) (PE.addBK (by simp [nB]; exact lA1 hz))) (by ac_rfl) ?_
 refine XS.retP (PE.cast (.bop (.bop (PE.pfn (by wtm_at "leaf") eq_176 (.cons (PE.pfn (by wtm_at "leaf") eq_181 (by nofun) (eq_373 (by wtm_at "sc") (by wtm_at "sc"))) .nil) (eq_368 (by wtm_at "sc"))) (.bytesN (l:=[d.length % 256,d.length / 256]) (by wtm_at "leaf") (PE.cast (by left) (by exact rfl)) hs (by simp)) (PE.addBK (by simp [nB,put32]))) (by left) (PE.addBK (by simp [nB,put32]; exact lA1 hz))) (by exact rfl)) ⟨rfl,rfl⟩
end
noncomputable abbrev oF (d:Addr) (nm:Str) (nd:Addr) (cl:Bool):O:=.inst 426 nsF [.obj d,.str nm,.obj nd,.bool cl]
noncomputable abbrev oD (left:Int) (sp:Nat) (al:Bool) (dn:Addr) (made:Nat) (dk dp:Addr) (dj:V):O:=.inst 587 nsD [.int left,.int sp,.bool al,.obj dn,.int made,.obj dk,.obj dp,dj]
noncomputable abbrev oN (num:Nat) (ba:Addr) (kept:Nat):O:=.inst 342 nsN [.int num,.obj ba,.int kept]
noncomputable abbrev oS (kind:Nat) (nm other:Str) (num:Nat):O:=.inst 370 nsS [.int kind,.str nm,.str other,.int num]
section
variable {Γ:Gam} {n:Nat} {hp:HP}
theorem eq_377 {a ba:Addr} {num kept:Nat} [F:Facts Γ]:FC Γ (n+1) 325 [.obj a,.int num,.obj ba,.int kept] (upd hp a (.inst 342 [] [])) (fun x hp'=>x=.none∧hp'=upd hp a (oN num ba kept)) noH:=by
 refine FC.intro (fn:=f_NI) eq_145 rfl dK rfl eq_262 ?_
 have nm0:=nn eq_85 0
 have nm1:=nn eq_85 1
 have nm2:=nn eq_85 2
 have nm3:=nn eq_85 3
 refine XS.set' (by left) (XTg.attrN' (by left) Y56 dK c_N.1 eq_230.2 dD ?_)
 refine XS.set' (by left) (XTg.attrN' (by left) Y56 dK c_N.1 eq_231.2 dD ?_)
 refine XS.set' (by left) (XTg.attrN' (by left) Y56 dK c_N.1 Y129.2 dD ?_)
 exact XS.nil ⟨rfl,by simp only [eq_39]; rfl⟩
theorem eq_378 {a ba:Addr} {num kept:Nat} {b:Bs} [F:Facts Γ] (h:hp a=some (oN num ba kept)) (hb:hp ba=some (.ba b)) (hk:kept≤b.length) (hz:b.length≤100000):FC Γ (n+1) 332 [.obj a] hp (fun x hp'=>x=.int (b.length - kept:Nat)∧hp'=hp) noH:=by
 refine FC.intro (fn:=f_Nuns) eq_146 rfl dK rfl eq_263 ?_
 have nm0:=nn eq_86 0
 have nm1:=nn eq_86 1
 refine XS.retP (PE.cast (by left) (by exact rfl)) ⟨rfl,rfl⟩
theorem eq_379 {a:Addr} {kind num:Nat} {nm other:Str} [F:Facts Γ]:FC Γ (n+1) 360 [.obj a,.int kind,.str nm,.str other,.int num] (upd hp a (.inst 370 [] [])) (fun x hp'=>x=.none∧hp'=upd hp a (oS kind nm other num)) noH:=by
 refine FC.intro (fn:=f_SI) eq_147 rfl dK rfl eq_264 ?_
 have nm0:=nn eq_87 0
 have nm1:=nn eq_87 1
 have nm2:=nn eq_87 2
 have nm3:=nn eq_87 3
 have nm4:=nn eq_87 4
 refine XS.set' (by left) (XTg.attrN' (by left) Y56 dK eq_242.1 eq_232.2 dD ?_)
 refine XS.set' (by left) (XTg.attrN' (by left) Y56 dK eq_242.1 eq_233.2 dD ?_)
 refine XS.set' (by left) (XTg.attrN' (by left) Y56 dK eq_242.1 eq_234.2 dD ?_)
 refine XS.set' (by left) (XTg.attrN' (by left) Y56 dK eq_242.1 eq_235.2 dD ?_)
 exact XS.nil ⟨rfl,by simp only [eq_39]; rfl⟩
theorem eq_380 {a q:Addr} {num:Nat} {nm other:Str} {ps:List (Str × V)} [F:Facts Γ] (h:hp a=some (oS 1 nm other num)) (hq:hp q=some (.sd ps)) (hz:ps.length≤1000):FC Γ (n+1) 367 [.obj a,.obj q] hp (fun x hp'=>x=.none∧hp'=upd hp q (.sd (put ps nm (.int num)))) noH:=by
 refine FC.intro (fn:=f_Shap) eq_148 rfl dK rfl eq_265 ?_
 have nm0:=nn eq_88 0
 have nm1:=nn eq_88 1
 have nm2:=nn eq_88 2
 have nm3:=nn eq_88 3
 have nm4:=nn eq_88 4
 refine XS.ifT (by wtm_at "pt") dD ?_
 refine XS.set' (by left) (XTg.itemSD' (by left) (by right) (by left) hz ?_)
 exact XS.done (XS.nil ⟨rfl,rfl⟩)
theorem eq_381 {a d nd:Addr} {nm:Str} [F:Facts Γ]:FC Γ (n+1) 388 [.obj a,.obj d,.str nm,.obj nd] (upd hp a (.inst 426 [] [])) (fun x hp'=>x=.none∧hp'=upd hp a (oF d nm nd false)) noH:=by
 refine FC.intro (fn:=f_FI) eq_149 rfl dK rfl eq_266 ?_
 have nm0:=nn eq_89 0
 have nm1:=nn eq_89 1
 have nm2:=nn eq_89 2
 have nm3:=nn eq_89 3
 refine XS.set' (by left) (XTg.attrN' (by left) Y56 dK c_F.1 eq_236.2 dD ?_)
 refine XS.set' (by left) (XTg.attrN' (by left) Y56 dK c_F.1 eq_237.2 dD ?_)
 refine XS.set' (by left) (XTg.attrN' (by left) Y56 dK c_F.1 eq_238.2 dD ?_)
 refine XS.set' (by left) (XTg.attrN' (by left) Y56 dK c_F.1 Y130.2 dD ?_)
 exact XS.nil ⟨rfl,by simp only [eq_39]; rfl⟩
theorem eq_382 {d:Addr} {left:Int} {sp made:Nat} {dn dk dp:Addr} {dj:V} [F:Facts Γ] (h:hp d=some (oD left sp true dn made dk dp dj)):FC Γ (n+1) 458 [.obj d] hp (fun x hp'=>x=.none∧hp'=hp) noH:=by
 refine FC.intro (fn:=f_Dalive) eq_157 rfl dK rfl eq_274 ?_
 have nm0:=nn eq_97 0
 have nm1:=nn eq_97 1
 refine XS.ifF0 (by wtm_at "pt") dD ?_
 exact XS.nil ⟨rfl,rfl⟩
theorem eq_383 {f d nd:Addr} {nm:Str} {left:Int} {sp made:Nat} {dn dk dp:Addr} {dj:V} [F:Facts Γ] (hf:hp f=some (oF d nm nd false)) (h:hp d=some (oD left sp true dn made dk dp dj)):FC Γ (n+2) 395 [.obj f] hp (fun x hp'=>x=.none∧hp'=hp) noH:=by
 refine FC.intro (fn:=f_Frdy) eq_150 rfl dK rfl eq_267 ?_
 have nm0:=nn eq_90 0
 have nm1:=nn eq_90 1
 refine XS.mexpP eq_318 (by left) (by right) (by nofun) (eq_382 h) ?_
 refine XS.ifF0 (by wtm_at "pt") dD ?_
 exact XS.nil ⟨rfl,rfl⟩
noncomputable def takN (left:Int) (w:Nat):Nat:=if 0≤left∧left<w then left.toNat else w
noncomputable def lefN (left:Int) (w:Nat):Int:=if 0≤left then left - takN left w else left
noncomputable def aliN (left:Int) (w:Nat):Bool:=!decide (0≤left∧left<w)
theorem eq_384 {d:Addr} {left:Int} {sp made w:Nat} {dn dk dp:Addr} {dj:V} [F:Facts Γ] (h:hp d=some (oD left sp true dn made dk dp dj)):FC Γ (n+2) 465 [.obj d,.int w] hp (fun x hp'=>x=.int (takN left w:Nat)∧hp'=upd hp d (oD (lefN left w) (sp+takN left w) (aliN left w) dn made dk dp dj)) noH:=by
 revert F h; revert Γ n hp d left sp made w dn dk dp dj; apply s12; generalize T1 _=Γ,T2 _=n,T3 _=hp,T4 _=d,T5 _=left,T6 _=sp,T7 _=made,T8 _=w,T9 _=dn,T10 _=dk,T11 _=dp,T12 _=dj; intro F h
 refine FC.intro (fn:=f_Dtake) eq_158 rfl dK rfl eq_275 ?_
 have nm0:=nn eq_98 0
 have nm1:=nn eq_98 1
 have nm2:=nn eq_98 2
 refine XS.mexpP eq_318 (by left) (by right) (by nofun) (eq_382 h) ?_
 refine XS.asg' 2 nm2 (by left) (by ac_rfl) ?_
 refine XS.ifM (fun τ=>τ=⟨[some (.obj d),some (.int (w:Nat)),some (.int (takN left w:Nat))],upd hp d (oD (lefN left w) sp (aliN left w) dn made dk dp dj)⟩) (by wtm_at "pt") (fun q=>?_) (fun q=>?_) ?_
 ·have q:0≤left:=of_decide_eq_true q
  refine XS.ifP (by wtm_at "pt") (fun q2=>?_) (fun q2=>?_)
  ·have q2:left<w:=of_decide_eq_true q2
   have e:takN left w=left.toNat:=if_pos ⟨q,q2⟩
   refine XS.asg' 2 nm2 (PE.cast (by left) (show V.int left=V.int (takN left w:Nat) by rw [e,toNat_of_nonneg q])) (by ac_rfl) ?_
   refine XS.set' (by left) (XTg.D_alive (by left) (by right) ?_)
   refine XS.done ?_
   refine XS.D_left (by left) (by right) (by left) (IOp.sub) rfl ?_
   refine XS.nil ⟨rfl,?_⟩
   rw [eq_39,lefN,if_pos q,aliN,decide_eq_true ⟨q,q2⟩]; rfl
  ·have q2:¬ left<w:=of_decide_eq_false q2
   have e:takN left w=w:=if_neg fun h=>q2 h.2
   refine XS.done ?_
   refine XS.D_left (by left) (by right) (by left) (IOp.sub) rfl ?_
   refine XS.nil ⟨rfl,?_⟩
   rw [lefN,if_pos q,aliN,decide_eq_false (fun h=>q2 h.2),e]; rfl
 ·have q:¬ 0≤left:=of_decide_eq_false q
  have e:takN left w=w:=if_neg fun h=>q h.1
  refine XS.nil ⟨rfl,?_⟩
  rw [lefN,if_neg q,aliN,decide_eq_false (fun h=>q h.1),e]
  congr 1
  exact (eq_294 h).symm
 rintro _ rfl
 refine XS.D_spent (by left) (by right) (by left) (IOp.addN) rfl ?_
 refine XS.retP (by left) ⟨rfl,?_⟩
 rw [eq_39]
theorem eq_385 {d:Addr} {left:Int} {sp made:Nat} {dn dk dp:Addr} {dj:V} {s:Str} [F:Facts Γ] (h:hp d=some (oD left sp true dn made dk dp dj)) (hs:s.length≤1000):FC Γ (n+3) 472 [.obj d,.str s] hp (fun x hp'=>x=.none∧aliN left 1=true∧hp'=upd hp d (oD (lefN left 1) (sp+takN left 1) true dn made dk dp dj)) (fun hp'=>aliN left 1=false∧hp'=upd hp d (oD (lefN left 1) (sp+takN left 1) false dn made dk dp dj)):=by
 revert F h hs; revert Γ n hp d left sp made dn dk dp dj s; apply s12; generalize T1 _=Γ,T2 _=n,T3 _=hp,T4 _=d,T5 _=left,T6 _=sp,T7 _=made,T8 _=dn,T9 _=dk,T10 _=dp,T11 _=dj,T12 _=s; intro F h hs
 refine FC.intro (fn:=f_Done) eq_159 rfl dK rfl eq_276 ?_
 have nm0:=nn eq_99 0
 have nm1:=nn eq_99 1
 have nm2:=nn eq_99 2
 refine XS.ifX (XE.mth eq_319 (by left) (by right) (by nofun) (eq_384 h) ?_ eq_302 (by intro _; rfl))
 refine eq_356 ?_
 refine (EI2 (decide (takN left 1<1)) _ ⟨by left,by wtm_at "ck",fun q=>?_,fun q=>?_⟩)
 ·have e:aliN left 1=false:=by
   have q:takN left 1<1:=of_decide_eq_true q
   unfold takN at q
   split at q
   ·rename_i h'; rw [aliN,decide_eq_true h']; rfl
   ·lia
  rw [e]
  have hl:(Str.ofString "the power went before ").length≤1000:=dK
  exact XS.raise F.x (by rw [F.xc]; left) (PEs.cons (PE.bop (by left) (by left) (BinK.addS (lA2 hl hs))) .nil) (by simp) ⟨rfl,rfl⟩
 ·have e:aliN left 1=true:=by
   have q:¬ takN left 1<1:=of_decide_eq_false q
   unfold takN at q
   split at q
   ·rename_i h'; exact absurd ((toNat_lt h'.1).mpr h'.2) q
   ·rename_i h'; rw [aliN,decide_eq_false h']; rfl
  rw [e]
  exact XS.done (XS.nil ⟨rfl,rfl,rfl⟩)
theorem eq_386 {f d nd ba dn dk dp:Addr} {nm:Str} {left:Int} {sp made num kept:Nat} {dj:V} {b o:Bs} [F:Facts Γ] (hf:hp f=some (oF d nm nd false)) (h:hp d=some (oD left sp true dn made dk dp dj)) (hn:hp nd=some (oN num ba kept)) (hb:hp ba=some (.ba b)) (hs:nm.length≤100) (hz:b.length+o.length≤100000) :
  FC Γ (n+3) 402 [.obj f,.byt o] hp (fun x hp'=>x=.none∧aliN left o.length=true∧hp'=upd (upd hp d (oD (lefN left o.length) (sp+takN left o.length) true dn made dk dp dj)) ba (.ba (b++o)))
   (fun hp'=>aliN left o.length=false∧hp'=upd (upd hp d (oD (lefN left o.length) (sp+takN left o.length) false dn made dk dp dj)) ba (.ba (b++o.take (takN left o.length)))):=by
 revert F hf h hn hb hs hz; revert Γ n hp f d nd ba dn dk dp nm left sp made num kept dj b o; apply s12; generalize T1 _=Γ,T2 _=n,T3 _=hp,T4 _=f,T5 _=d,T6 _=nd,T7 _=ba,T8 _=dn,T9 _=dk,T10 _=dp,T11 _=nm,T12 _=left; apply s7; generalize T1 _=sp,T2 _=made,T3 _=num,T4 _=kept,T5 _=dj,T6 _=b,T7 _=o; intro F hf h hn hb hs hz
 refine FC.intro (fn:=f_Fapp) eq_151 rfl dK rfl eq_268 ?_
 have nm0:=nn eq_91 0
 have nm1:=nn eq_91 1
 have nm2:=nn eq_91 2
 have nm3:=nn eq_91 3
 have nm4:=nn eq_91 4
 have nm5:=nn eq_91 5
 refine XS.mexpP eq_312 (by left) (by right) (by nofun) (eq_383 hf h) ?_
 have ne_f_d:f≠d:=Y141 hf h rfl
 have ne_nd_d:nd≠d:=Y141 hn h rfl
 have ne_ba_d:ba≠d:=Y141 hb h rfl
 have ne_f_ba:f≠ba:=Y141 hf hb rfl
 have S0:List.length o≤1000000:=lA1 hz
 refine XS.asg' 2 nm2 (by left) (by ac_rfl) ?_
 refine XS.masg2 3 nm3 eq_319 (by left) (by right) (by nofun) (eq_384 h) eq_302 (by ac_rfl) ?_
 have hle:takN left o.length≤o.length:=by unfold takN; split <;> first | exact le_refl _ | (rename_i z; exact Nat.le_of_lt ((toNat_lt z.1).mpr z.2))
 refine XS.ifP (by wtm_at "pt") (fun q=>?_) (fun q=>?_)
 ·have e:aliN left o.length=false:=by
   have q:takN left o.length<o.length:=of_decide_eq_true q
   unfold takN at q
   split at q
   ·rename_i h'; rw [aliN,decide_eq_true h']; rfl
   ·lia
  rw [e]
  have S1:List.length o≤1000000:=lA1 hz
  refine XS.expr (XE.extend' (by left) (by right) (by left) (by simp only [length_take]; exact lA2 hz (min_le_right (takN left (List.length o)) (List.length o))) ?_)
  have hl:(Str.ofString "the power went within an append to ").length≤1000:=dK
  exact XS.raise F.x (by rw [F.xc]; left) (PEs.cons (PE.bop (by left) (by left) (BinK.addS (lA2 hl hs))) .nil) (by simp) ⟨rfl,rfl⟩
 ·have e:aliN left o.length=true:=by
   have q:¬ takN left o.length<o.length:=of_decide_eq_false q
   unfold takN at q
   split at q
   ·rename_i h'; exact absurd ((toNat_lt h'.1).mpr h'.2) q
   ·rename_i h'; rw [aliN,decide_eq_false h']; rfl
  rw [e]
  refine XS.done (XS.expr (XE.extend' (by left) (by right) (by left) (lA1 hz) ?_))
  exact XS.nil ⟨rfl,rfl,rfl⟩
end
theorem eq_387 {h:HP} {a x:Addr} {o:O} (e:upd h a o x=none):x≠a∧h x=none:=by
 unfold upd at e
 split at e
 ·cases e
 ·rename_i q; exact ⟨q,e⟩
theorem eq_388 {h:HP} {a x:Addr} {o:O}:upd h a o x=none↔x≠a∧h x=none:=⟨eq_387,fun ⟨q,e⟩=>(Y57 q).trans e⟩
noncomputable def HLe (h h':HP):Prop:=∀ a o,h a=some o→h' a=some o
section
variable {Γ:Gam} {n:Nat} {hp:HP}
theorem eq_389 {f d nd:Addr} {nm:Str} {left:Int} {sp made:Nat} {dn dk dp:Addr} {dj:V} [F:Facts Γ] (hf:hp f=some (oF d nm nd false)) (h:hp d=some (oD left sp true dn made dk dp dj)):FC Γ (n+3) 416 [.obj f] hp (fun x hp'=>x=.none∧hp'=upd hp f (oF d nm nd true)) noH:=by
 refine FC.intro (fn:=f_Fclose) eq_153 rfl dK rfl eq_270 ?_
 have nm0:=nn eq_93 0
 refine XS.mexpP eq_312 (by left) (by right) (by nofun) (eq_383 hf h) ?_
 refine XS.set' (by left) (XTg.F_closed (by left) (by right) ?_)
 exact XS.nil ⟨rfl,rfl⟩
theorem eq_390 {f d nd ba:Addr} {nm:Str} {left:Int} {sp made num kept:Nat} {dn dk dp:Addr} {dj:V} {b:Bs} [F:Facts Γ] (hf:hp f=some (oF d nm nd false)) (h:hp d=some (oD left sp true dn made dk dp dj)) (hn:hp nd=some (oN num ba kept)) (hb:hp ba=some (.ba b)) (hz:b.length≤100000):FC Γ (n+3) 423 [.obj f] hp (fun x hp'=>x=.int (b.length:Nat)∧hp'=hp) noH:=by
 refine FC.intro (fn:=f_Flen) eq_154 rfl dK rfl eq_271 ?_
 have nm0:=nn eq_94 0
 have nm1:=nn eq_94 1
 refine XS.mexpP eq_312 (by left) (by right) (by nofun) (eq_383 hf h) ?_
 refine XS.retP (PE.cast (by left) (by exact rfl)) ⟨rfl,rfl⟩
theorem eq_391 {d:Addr} {left:Int} {sp made k:Nat} {dn dk dp:Addr} {dj:V} [F:Facts Γ] (h:hp d=some (oD left sp true dn made dk dp dj)):FC Γ (n+2) 451 [.obj d,.int k] hp (fun x hp'=>x=.none∧hp'=upd hp d (oD k sp true dn made dk dp dj)) noH:=by
 refine FC.intro (fn:=f_Dbud) eq_156 rfl dK rfl eq_273 ?_
 have nm0:=nn eq_96 0
 have nm1:=nn eq_96 1
 have nm2:=nn eq_96 2
 refine XS.mexpP eq_318 (by left) (by right) (by nofun) (eq_382 h) ?_
 refine XS.ifF0 (by wtm_at "pt") (by first | (simp; done) | (simp; lia)) ?_
 refine XS.set' (by left) (XTg.D_left (by left) (by right) ?_)
 exact XS.nil ⟨rfl,rfl⟩
theorem eq_392 {d:Addr} {left:Int} {sp made num:Nat} {dn dk dp:Addr} {dj:V} {nm:Str} {nd:Addr} {ps:List (Str × V)} {ns:List (Int × V)} [F:Facts Γ] (h:hp d=some (oD left sp true dn made dk dp dj)) (hp1:hp dp=some (.sd ps)) (hp2:hp dn=some (.idd ns)) (hl:look ps nm=some (.int (num:Nat))) (hl2:look ns (num:Nat)=some (.obj nd)):FC Γ (n+2) 479 [.obj d,.str nm] hp (fun x hp'=>x=.obj nd∧hp'=hp) noH:=by
 refine FC.intro (fn:=f_Dnode) eq_160 rfl dK rfl eq_277 ?_
 have nm0:=nn eq_100 0
 have nm1:=nn eq_100 1
 have nm2:=nn eq_100 2
 refine XS.mexpP eq_318 (by left) (by right) (by nofun) (eq_382 h) ?_
 refine XS.ifF0 (by wtm_at "pt") (by rw [hl]; rfl) ?_
 exact XS.retP (PE.itemID (by left) (by right) (PE.itemSD (by left) (by right) (by left) hl) hl2) ⟨rfl,rfl⟩
theorem eq_393 {d:Addr} {left:Int} {sp made num kept num2:Nat} {dn dk dp ba:Addr} {dj:V} {nm:Str} {nd:Addr} {ps:List (Str × V)} {ns:List (Int × V)} {b:Bs} [F:Facts Γ] (h:hp d=some (oD left sp true dn made dk dp dj)) (hp1:hp dp=some (.sd ps)) (hp2:hp dn=some (.idd ns)) (hl:look ps nm=some (.int (num:Nat))) (hl2:look ns (num:Nat)=some (.obj nd)) (hn:hp nd=some (oN num2 ba kept)) (hb:hp ba=some (.ba b)) (hz:b.length≤100000) :
  FC Γ (n+3) 542 [.obj d,.str nm] hp (fun x hp'=>x=.byt b∧hp'=hp) noH:=by
 refine FC.intro (fn:=f_Dread) eq_166 rfl dK rfl eq_283 ?_
 have nm0:=nn eq_106 0
 have nm1:=nn eq_106 1
 have nm2:=nn eq_106 2
 refine XS.retP (PE.bytesA (by wtm_at "leaf") (PE.at (PE.mth eq_321 (by left) (by right) (by nofun) (eq_392 h hp1 hp2 hl hl2)) (by right) (by kernel_rfl) rfl rfl (by intro _ _; rfl)) (by right) (by wtm_at "sc")) ⟨rfl,rfl⟩
theorem eq_394 {d:Addr} {left:Int} {sp made num:Nat} {dn dk dp:Addr} {dj:V} {nm:Str} {nd:Addr} {ps:List (Str × V)} {ns:List (Int × V)} [F:Facts Γ] (h:hp d=some (oD left sp true dn made dk dp dj)) (hp1:hp dp=some (.sd ps)) (hp2:hp dn=some (.idd ns)) (hl:look ps nm=some (.int (num:Nat))) (hl2:look ns (num:Nat)=some (.obj nd)) :
  FC Γ (n+3) 514 [.obj d,.str nm] hp (fun x hp'=>∃ f,hp f=none∧x=.obj f∧hp'=upd hp f (oF d nm nd false)) noH:=by
 refine FC.intro (fn:=f_Dapp) eq_165 rfl dK rfl eq_282 ?_
 have nm0:=nn eq_105 0
 have nm1:=nn eq_105 1
 have nm2:=nn eq_105 2
 refine XS.retX (XE.cls (n:=n+1) c_F.2 (by left) (.cons (by left) (.cons (by left) (.cons (PE.mth eq_321 (by left) (by right) (by nofun) (eq_392 h hp1 hp2 hl hl2)) .nil))) fun f hf=>?_)
 refine eq_381.mono ?_ eq_302
 refine eq_356 ?_
 exact ⟨rfl,f,hf,rfl,rfl⟩
theorem eq_395 {d s:Addr} {left:Int} {sp made num:Nat} {dn dk dp dj:Addr} {nm other:Str} {ps:List (Str × V)} {js:List V} [F:Facts Γ] (h:hp d=some (oD left sp true dn made dk dp (.obj dj))) (hp1:hp dp=some (.sd ps)) (hp2:hp dj=some (.list js)) (hs:hp s=some (oS 1 nm other num)) (hz:ps.length≤1000) (hz2:js.length≤1000) :
  FC Γ (n+2) 486 [.obj d,.obj s] hp (fun x hp'=>x=.none∧hp'=upd (upd hp dp (.sd (put ps nm (.int num)))) dj (.list (js++[.obj s]))) noH:=by
 refine FC.intro (fn:=f_Ddir) eq_161 rfl dK rfl eq_278 ?_
 have nm0:=nn eq_101 0
 have nm1:=nn eq_101 1
 have ne_d_dp:d≠dp:=Y141 h hp1 rfl
 have ne_dj_dp:dj≠dp:=Y141 hp2 hp1 rfl
 refine XS.mexp2 eq_311 (by left) (by right) (by nofun) (eq_380 hs hp1 hz) eq_302 ?_
 refine XS.expr (XE.append' (by left) (by right) (by left) (lA1 hz2) ?_)
 exact XS.nil ⟨rfl,rfl⟩
theorem eq_396 {d:Addr} {left:Int} {sp made num:Nat} {dn dk dp:Addr} [F:Facts Γ] (h:hp d=some (oD left sp true dn made dk dp (.lst []))):FC Γ (n+1) 493 [.obj d,.int num] hp (fun x hp'=>x=.none∧hp'=hp) noH:=by
 refine FC.intro (fn:=f_Dkeep) eq_162 rfl dK rfl eq_279 ?_
 have nm0:=nn eq_102 0
 have nm1:=nn eq_102 1
 have nm2:=nn eq_102 2
 have nm3:=nn eq_102 3
 have nm4:=nn eq_102 4
 have nm5:=nn eq_102 5
 have nm6:=nn eq_102 6
 have nm7:=nn eq_102 7
 refine XS.asg' 2 nm2 (by left) (by ac_rfl) ?_
 refine XS.forP (xs:=[]) (fun i τ=>τ=⟨[some (.obj d),some (.int num),some (.int (0:Nat)),none,none,none,none,none],hp⟩) rfl ((XIt.range1N (b:=0) (by wtm_at "leaf") (PE.cast (by left) (by rfl)) dD).of rfl) rfl ?_ ?_
 ·intro i τ x hx; cases hx
 rintro _ rfl
 refine XS.forP (xs:=[]) (fun i τ=>τ=⟨[some (.obj d),some (.int num),some (.int (0:Nat)),none,none,none,none,none],hp⟩) rfl (XIt.list ((PE.uptoL (by left) (by left) dD).cast rfl)) rfl ?_ ?_
 ·intro i τ x hx; cases hx
 rintro _ rfl
 refine XS.asgX (PE.toX ((PE.sliceL (by left) (.some (by left)) .none (.some dD) .none dD).cast rfl) (XTg.D_journal (by left) (by right) ?_)) Y87
 exact XS.nil ⟨rfl,eq_294 h⟩
theorem eq_397 {d s:Addr} {left:Int} {sp made num:Nat} {dn dk dp dj:Addr} {nm other:Str} {ks:List (Str × V)} [F:Facts Γ] (h:hp d=some (oD left sp true dn made dk dp (.obj dj))) (hj:hp dj=some (.list [.obj s])) (hs:hp s=some (oS 1 nm other num)) (hk:hp dk=some (.sd ks)) (hz:ks.length≤1000) :
  FC Γ (n+2) 493 [.obj d,.int num] hp (fun x hp'=>x=.none∧hp'=upd (upd hp dk (.sd (put ks nm (.int num)))) d (oD left sp true dn made dk dp (.lst []))) noH:=by
 revert F h hj hs hk hz; revert Γ n hp d s left sp made num dn dk dp dj nm other ks; apply s12; generalize T1 _=Γ,T2 _=n,T3 _=hp,T4 _=d,T5 _=s,T6 _=left,T7 _=sp,T8 _=made,T9 _=num,T10 _=dn,T11 _=dk,T12 _=dp; apply s4; generalize T1 _=dj,T2 _=nm,T3 _=other,T4 _=ks; intro F h hj hs hk hz
 refine FC.intro (fn:=f_Dkeep) eq_162 rfl dK rfl eq_279 ?_
 have nm0:=nn eq_102 0
 have nm1:=nn eq_102 1
 have nm2:=nn eq_102 2
 have nm3:=nn eq_102 3
 have nm4:=nn eq_102 4
 have nm5:=nn eq_102 5
 have nm6:=nn eq_102 6
 have nm7:=nn eq_102 7
 have ne_d_dk:d≠dk:=Y141 h hk rfl
 have ne_dj_dk:dj≠dk:=Y141 hj hk rfl
 refine XS.asg' 2 nm2 (by left) (by ac_rfl) ?_
 refine XS.forP (xs:=[.int (0:Nat)]) (fun i τ=>(i=0∧τ=⟨[some (.obj d),some (.int num),some (.int (0:Nat)),none,none,none,none,none],hp⟩)∨(i=1∧∃ x,τ=⟨[some (.obj d),some (.int num),some (.int (1:Nat)),some x,some (.obj s),none,none,none],hp⟩)) rfl ((XIt.range1N (b:=1) (by wtm_at "leaf") (PE.cast (by left) (by rfl)) dD).of (by rfl)) (.inl ⟨rfl,rfl⟩) ?_ ?_
 ·rintro i τ x hx (⟨rfl,rfl⟩ | ⟨rfl,_⟩)
  ·cases hx
   refine ⟨_,Tgt.name 3 nm3,?_⟩
   refine XS.asg' 4 nm4 (by left) (by ac_rfl) ?_
   refine XS.ifT (by wtm_at "pt") (by simp) ?_
   refine XS.asg' 2 nm2 (by left) (by ac_rfl) ?_
   exact XS.done (XS.nil (.inr ⟨rfl,_,rfl⟩))
  ·cases hx
 rintro _ (⟨q,_⟩ | ⟨_,x,rfl⟩)
 ·cases q
 refine XS.forP (xs:=[.obj s]) (fun i τ=>(i=0∧τ=⟨[some (.obj d),some (.int num),some (.int (1:Nat)),some x,some (.obj s),none,none,none],hp⟩)∨(i=1∧τ=⟨[some (.obj d),some (.int num),some (.int (1:Nat)),some x,some (.obj s),none,none,none],upd hp dk (.sd (put ks nm (.int num)))⟩)) rfl (XIt.list ((PE.uptoO (by left) (by right) (by left) (by simp)).cast (by rfl))) (.inl ⟨rfl,rfl⟩) ?_ ?_
 ·rintro i τ y hx (⟨rfl,rfl⟩ | ⟨rfl,_⟩)
  ·cases hx
   refine ⟨_,Tgt.name 4 nm4,?_⟩
   refine XS.mexp2 eq_311 (by left) (by right) (by nofun) (eq_380 hs hk hz) eq_302 ?_
   exact XS.nil (.inr ⟨rfl,rfl⟩)
  ·cases hx
 rintro _ (⟨q,_⟩ | ⟨_,rfl⟩)
 ·cases q
 refine XS.asgX (PE.toX ((PE.fromO (by left) (by right) (by left) (by simp)).cast (by rfl)) (XTg.D_journal (by left) (by right) ?_)) Y87
 exact XS.nil ⟨rfl,rfl⟩
theorem eq_398 {f d nd ba:Addr} {nm:Str} {left:Int} {sp made num kept:Nat} {dn dk dp:Addr} {b:Bs} [F:Facts Γ] (hf:hp f=some (oF d nm nd false)) (h:hp d=some (oD left sp true dn made dk dp (.lst []))) (hn:hp nd=some (oN num ba kept)) (hb:hp ba=some (.ba b)) (hs:nm.length≤100) (hz:b.length≤100000) :
  FC Γ (n+4) 409 [.obj f] hp (fun x hp'=>x=.none∧aliN left 1=true∧hp'=upd (upd hp d (oD (lefN left 1) (sp+takN left 1) true dn made dk dp (.lst []))) nd (oN num ba b.length))
   (fun hp'=>aliN left 1=false∧hp'=upd hp d (oD (lefN left 1) (sp+takN left 1) false dn made dk dp (.lst []))):=by
 refine FC.intro (fn:=f_Fsync) eq_152 rfl dK rfl eq_269 ?_
 have nm0:=nn eq_92 0
 have nm1:=nn eq_92 1
 have ne_f_d:f≠d:=Y141 hf h rfl
 have ne_nd_d:nd≠d:=Y141 hn h rfl
 have ne_ba_d:ba≠d:=Y141 hb h rfl
 have ne_f_nd:f≠nd:=Y141 hf hn rfl
 have hl:(Str.ofString "a sync of ").length≤100:=dK
 refine XS.mexpP eq_312 (by left) (by right) (by nofun) (eq_383 hf h) ?_
 refine XS.mexp3 eq_320 (by left) (by right) (.cons (.bop (by left) (by left) (BinK.addS (lA2 hl hs))) .nil) (eq_385 h (by rw [PySem.Str.length_append]; exact lA2 hl hs)) (fun _ q=>q) fun e=>?_
 refine XS.set' (by left) (XTg.N_kept (by left) (by right) ?_)
 refine XS.mexpP eq_323 (by left) (by right) (by nofun) (eq_396 (by right)) ?_
 exact XS.nil ⟨rfl,e,rfl⟩
theorem eq_399 {f d nd ba s:Addr} {nm nm2 other:Str} {sp made num kept:Nat} {dn dk dp dj:Addr} {b:Bs} {ks:List (Str × V)} [F:Facts Γ] (hf:hp f=some (oF d nm nd false)) (h:hp d=some (oD (-1) sp true dn made dk dp (.obj dj))) (hn:hp nd=some (oN num ba kept)) (hb:hp ba=some (.ba b)) (hj:hp dj=some (.list [.obj s])) (hst:hp s=some (oS 1 nm2 other num)) (hk:hp dk=some (.sd ks)) (hzk:ks.length≤1000) (hs:nm.length≤100) (hz:b.length≤100000) :
  FC Γ (n+4) 409 [.obj f] hp (fun x hp'=>x=.none∧hp'=upd (upd (upd (upd hp d (oD (-1) (sp+1) true dn made dk dp (.obj dj))) nd (oN num ba b.length)) dk (.sd (put ks nm2 (.int num)))) d (oD (-1) (sp+1) true dn made dk dp (.lst []))) noH:=by
 refine FC.intro (fn:=f_Fsync) eq_152 rfl dK rfl eq_269 ?_
 have nm0:=nn eq_92 0
 have nm1:=nn eq_92 1
 have ne_f_d:f≠d:=Y141 hf h rfl
 have ne_nd_d:nd≠d:=Y141 hn h rfl
 have ne_ba_d:ba≠d:=Y141 hb h rfl
 have ne_f_nd:f≠nd:=Y141 hf hn rfl
 have ne_dj_d:dj≠d:=Y141 hj h rfl
 have ne_s_d:s≠d:=Y141 hst h rfl
 have ne_dk_d:dk≠d:=Y141 hk h rfl
 have ne_dj_nd:dj≠nd:=Y141 hj hn rfl
 have ne_s_nd:s≠nd:=Y141 hst hn rfl
 have ne_dk_nd:dk≠nd:=Y141 hk hn rfl
 have hl:(Str.ofString "a sync of ").length≤100:=dK
 refine XS.mexpP eq_312 (by left) (by right) (by nofun) (eq_383 hf h) ?_
 refine XS.mexp3 eq_320 (by left) (by right) (.cons (.bop (by left) (by left) (BinK.addS (lA2 hl hs))) .nil) (eq_385 h (by rw [PySem.Str.length_append]; exact lA2 hl hs)) (fun _ q=>by cases q.1) fun e=>?_
 refine XS.set' (by left) (XTg.N_kept (by left) (by right) ?_)
 refine XS.mexp2 eq_323 (by left) (by right) (by nofun) (eq_397 (by right) (by right) (by right) (by right) hzk) eq_302 ?_
 exact XS.nil ⟨rfl,rfl⟩
theorem eq_400 {d:Addr} {left:Int} [F:Facts Γ] (hd:hp d=none) (hl : -1≤left):FC Γ (n+1) 444 [.obj d,.int left] (upd hp d (.inst 587 [] []))
  (fun x hp'=>x=.none∧∃ dn dk dp dj,hp' d=some (oD left 0 true dn 0 dk dp (.obj dj))∧hp' dn=some (.idd [])∧hp' dk=some (.sd [])∧hp' dp=some (.sd [])∧hp' dj=some (.list [])∧dk≠dp∧(hp dn=none∧hp dk=none∧hp dp=none∧hp dj=none)∧HLe hp hp') noH:=by
 revert F hd hl; revert Γ n hp d left; apply s5; generalize T1 _=Γ,T2 _=n,T3 _=hp,T4 _=d,T5 _=left; intro F hd hl
 refine FC.intro (fn:=f_DI) eq_155 rfl dK rfl eq_272 ?_
 have nm0:=nn eq_95 0
 have nm1:=nn eq_95 1
 have nm2:=nn eq_95 2
 refine XS.ifF0 (by wtm_at "pt") (by first | (simp; done) | (simp; lia)) ?_
 refine XS.set' (by left) (XTg.attrN' (by left) Y56 dK c_D.1 Y131.2 dD ?_)
 refine XS.set' (by left) (XTg.attrN' (by left) Y56 dK c_D.1 Y132.2 dD ?_)
 refine XS.set' (by left) (XTg.attrN' (by left) Y56 dK c_D.1 Y133.2 dD ?_)
 refine XS.asgX (XE.dictI' fun dn hdn=>XTg.attrN' (by left) ((Y57 (Y143 Y56 hdn)).trans Y56) dK c_D.1 eq_239.2 dD ?_) Y87
 exists dn; intro hdn
 refine XS.asgX (PE.toX (by left) (XTg.attrN' (by left) Y56 dK c_D.1 Y134.2 dD ?_)) Y87
 refine XS.asgX (XE.dictS' fun dk hdk=>XTg.attrN' (by left) ((Y57 (Y143 Y56 hdk)).trans Y56) dK c_D.1 eq_240.2 dD ?_) Y87
 exists dk; intro hdk
 refine XS.asgX (XE.dictS' fun dp hdp=>XTg.attrN' (by left) ((Y57 (Y143 Y56 hdp)).trans Y56) dK c_D.1 eq_241.2 dD ?_) Y87
 exists dp; intro hdp
 refine XS.asgX (XE.list' .nil dD fun dj hdj=>XTg.attrN' (by left) ((Y57 (Y143 Y56 hdj)).trans Y56) dK c_D.1 Y135.2 dD ?_) Y87
 exists dj; intro hdj
 simp only [eq_388] at hdj hdp hdk hdn
 refine eq_24 hdj fun j1 j2 _ j3 _ _ j4 _ _ _ _ j5=>?_; clear hdj
 refine eq_22 hdp fun p1 p2 _ _ p3 _ _ _ _ p4=>?_; clear hdp
 refine eq_21 hdk fun k1 _ k2 _ _ _ _ k3=>?_; clear hdk
 refine An5 hdn fun n1 _ _ _ n2=>?_; clear hdn
 refine XS.nil ⟨rfl,dn,dk,dp,dj,Y56,by right,by right,by right,by right,Ne.symm p2,⟨n2,k3,p4,j5⟩,fun a o q=>?_⟩
 have q1:=Y143 q hd
 have q2:=Y143 q n2
 have q3:=Y143 q k3
 have q4:=Y143 q p4
 have q5:=Y143 q j5
 right
theorem eq_401 {d:Addr} {sp made:Nat} {dn dk dp dj:Addr} {nm:Str} {ps:List (Str × V)} {ns:List (Int × V)} {js:List V} [F:Facts Γ] (h:hp d=some (oD (-1) sp true dn made dk dp (.obj dj))) (hp1:hp dn=some (.idd ns)) (hp2:hp dp=some (.sd ps)) (hp3:hp dj=some (.list js)) (hz1:ns.length≤1000) (hz2:ps.length≤1000) (hz3:js.length≤1000) (hs:nm.length≤100) :
  FC Γ (n+4) 507 [.obj d,.str nm] hp (fun x hp'=>∃ f nd ba s,x=.obj f∧hp' f=some (oF d nm nd false)∧hp' nd=some (oN (made+1) ba 0)∧hp' ba=some (.ba [])∧hp' s=some (oS 1 nm (Str.ofString "") (made+1))∧hp' d=some (oD (-1) (sp+1) true dn (made+1) dk dp (.obj dj)) ∧
   hp' dn=some (.idd (put ns (made+1:Nat) (.obj nd)))∧hp' dp=some (.sd (put ps nm (.int (made+1:Nat))))∧hp' dj=some (.list (js++[.obj s]))∧(hp f=none∧hp nd=none∧hp ba=none∧hp s=none)∧∀ a o,hp a=some o→a≠d→a≠dn→a≠dp→a≠dj→hp' a=some o) noH:=by
 revert F h hp1 hp2 hp3 hz1 hz2 hz3 hs; revert Γ n hp d sp made dn dk dp dj nm ps ns js; apply s12; generalize T1 _=Γ,T2 _=n,T3 _=hp,T4 _=d,T5 _=sp,T6 _=made,T7 _=dn,T8 _=dk,T9 _=dp,T10 _=dj,T11 _=nm,T12 _=ps; apply s2; generalize T1 _=ns,T2 _=js; intro F h hp1 hp2 hp3 hz1 hz2 hz3 hs
 refine FC.intro (fn:=f_Dcro) eq_164 rfl dK rfl eq_281 ?_
 have nm0:=nn eq_104 0
 have nm1:=nn eq_104 1
 have nm2:=nn eq_104 2
 have nm3:=nn eq_104 3
 have nm4:=nn eq_104 4
 have nm5:=nn eq_104 5
 have nm6:=nn eq_104 6
 have nm7:=nn eq_104 7
 have ne_dn_d:dn≠d:=Y141 hp1 h rfl
 have ne_dp_d:dp≠d:=Y141 hp2 h rfl
 have ne_dj_d:dj≠d:=Y141 hp3 h rfl
 have ne_dp_dn:dp≠dn:=Y141 hp2 hp1 rfl
 have ne_dj_dn:dj≠dn:=Y141 hp3 hp1 rfl
 have ne_dj_dp:dj≠dp:=Y141 hp3 hp2 rfl
 have hl:(Str.ofString "the creation of ").length≤100:=dK
 refine XS.mexp3 eq_320 (by left) (by right) (.cons (.bop (by left) (by left) (BinK.addS (lA2 hl hs))) .nil) (eq_385 h (by rw [PySem.Str.length_append]; exact lA2 hl hs)) (fun _ q=>by cases q.1) fun _=>?_
 change XS _ _ _ _ ⟨_,upd hp d (oD (-1) (sp+1) true dn made dk dp (.obj dj))⟩ _ _
 refine XS.D_made (by left) (by right) (by left) (IOp.addN) rfl ?_
 refine XS.asgC' 2 nm2 (XE.new (n:=n+2) (by wtm_at "leaf") c_N.2 rfl (XEs.consP (by left) (XEs.cons (XE.baNew' (by wtm_at "leaf") fun ba hba=>XEs.consP (by left) (XEs.nil fun nd hnd=>?_)))))
 revert hba hnd; revert ba nd; apply s2; generalize T1 _=ba,T2 _=nd; intro hba hnd
 refine eq_377.mono ?_ eq_302
 refine eq_356 ?_
 refine ⟨rfl,?_⟩; wtm_at "ds"
 simp only [eq_388] at hba hnd
 refine An3 hba fun b1 _ b2=>?_; clear hba
 refine An4 hnd fun n0 n1 _ n2=>?_; clear hnd
 have m1:=Y143 hp1 b2
 have m2:=Y143 hp2 b2
 have m3:=Y143 hp3 b2
 have m4:=Y143 hp1 n2
 have m5:=Y143 hp2 n2
 have m6:=Y143 hp3 n2
 refine XS.set' (by left) (XTg.itemID' (by left) (by right) (by left) hz1 ?_)
 have M:=eq_322 (Γ:=Γ)
 refine XS.expr (XE.meth (by left) (by right) M.c M.m.1 M.m.2.1 M.m.2.2 M.n rfl (by intro _; rfl) (XEs.cons (XE.cls (n:=n+2) (eq_242 (Γ:=Γ)).2 (by wtm_at "leaf") (by nofun) fun s hs=>?_)))
 exists s; intro hs
 refine eq_379.mono ?_ eq_302
 refine eq_356 ?_
 simp only [eq_388] at hs
 refine An6 hs fun s1 s2 s3 s4 _ s5=>?_; clear hs
 have m7:=Y143 hp1 s5
 have m8:=Y143 hp2 s5
 have m9:=Y143 hp3 s5
 refine ⟨rfl,XEs.nil ?_⟩
 refine FC.more (k:=n+2) ((eq_395 (Γ:=Γ) (by right) (by right) (by right) (by right) hz2 hz3).mono ?_ eq_302) (lA0)
 refine eq_356 ?_
 refine XS.retX (XE.cls (n:=n+2) c_F.2 (by wtm_at "leaf") (by nofun) fun f hf=>?_)
 refine eq_381.mono ?_ eq_302
 refine eq_356 ?_
 simp only [eq_388] at hf
 refine An9 hf fun f1 f2 f3 f4 f5 f6 f7 _ f8=>?_; clear hf
 refine ⟨rfl,f,nd,ba,s,rfl,by right,by right,by right,by right,by right,by right,by right,by right,⟨f8,n2,b2,s5⟩,fun a o q q1 q2 q3 q4=>?_⟩
 have r1:=Y143 q f8
 have r2:=Y143 q n2
 have r3:=Y143 q b2
 have r4:=Y143 q s5
 right
theorem eq_402 {d:Addr} {sp made:Nat} {dn dk dp dj:Addr} {nm:Str} {ps:List (Str × V)} {ns:List (Int × V)} {js:List V} [F:Facts Γ] (h:hp d=some (oD (-1) sp true dn made dk dp (.obj dj))) (hp1:hp dn=some (.idd ns)) (hp2:hp dp=some (.sd ps)) (hp3:hp dj=some (.list js)) (hz1:ns.length≤1000) (hz2:ps.length≤1000) (hz3:js.length≤1000) (hs:nm.length≤100) (hl:look ps nm=none) :
  FC Γ (n+5) 500 [.obj d,.str nm] hp (fun x hp'=>∃ f nd ba s,x=.obj f∧hp' f=some (oF d nm nd false)∧hp' nd=some (oN (made+1) ba 0)∧hp' ba=some (.ba [])∧hp' s=some (oS 1 nm (Str.ofString "") (made+1))∧hp' d=some (oD (-1) (sp+1) true dn (made+1) dk dp (.obj dj)) ∧
   hp' dn=some (.idd (put ns (made+1:Nat) (.obj nd)))∧hp' dp=some (.sd (put ps nm (.int (made+1:Nat))))∧hp' dj=some (.list (js++[.obj s]))∧(hp f=none∧hp nd=none∧hp ba=none∧hp s=none)∧∀ a o,hp a=some o→a≠d→a≠dn→a≠dp→a≠dj→hp' a=some o) noH:=by
 refine FC.intro (fn:=f_Dcre) eq_163 rfl dK rfl eq_280 ?_
 have nm0:=nn eq_103 0
 have nm1:=nn eq_103 1
 have nm2:=nn eq_103 2
 refine XS.mexpP eq_318 (by left) (by right) (by nofun) (eq_382 h) ?_
 refine XS.ifF0 (by wtm_at "pt") (by rw [hl]; rfl) ?_
 exact XS.mret eq_325 (by left) (by right) (by nofun) (eq_401 h hp1 hp2 hp3 hz1 hz2 hz3 hs) (fun x hp' q=>q) eq_302
theorem eq_403 {d:Addr} {left:Int} {al:Bool} {sp made num num2 kept x:Nat} {dn dk dp:Addr} {nm:Str} {nd ba:Addr} {ns:List (Int × V)} {b:Bs} [F:Facts Γ] (h:hp d=some (oD left sp al dn made dk dp (.lst []))) (hp1:hp dn=some (.idd ns)) (hp2:hp dk=some (.sd [(nm,.int (num:Nat))])) (hl2:look ns (num:Nat)=some (.obj nd)) (hn:hp nd=some (oN num2 ba kept)) (hb:hp ba=some (.ba b)) (hz:b.length≤100000) (hk:kept≤b.length) :
  FC Γ (n+3) 570 [.obj d,.lst [.int x]] hp (fun r hp'=>∃ e en ek ep ej nd2 ba2,r=.obj e∧hp' e=some (oD (-1) 0 true en 1 ek ep (.obj ej))∧hp' en=some (.idd [((1:Nat),.obj nd2)])∧hp' ek=some (.sd [(nm,.int (1:Nat))])∧hp' ep=some (.sd [(nm,.int (1:Nat))])∧hp' ej=some (.list []) ∧
   hp' nd2=some (oN 1 ba2 (kept+x % (b.length - kept+1)))∧hp' ba2=some (.ba (b.take (kept+x % (b.length - kept+1))))∧HLe hp hp') noH:=by
 revert F h hp1 hp2 hl2 hn hb hz hk; revert Γ n hp d left al sp made num num2 kept x dn dk dp nm nd ba ns b; apply s12; generalize T1 _=Γ,T2 _=n,T3 _=hp,T4 _=d,T5 _=left,T6 _=al,T7 _=sp,T8 _=made,T9 _=num,T10 _=num2,T11 _=kept,T12 _=x; apply s8; generalize T1 _=dn,T2 _=dk,T3 _=dp,T4 _=nm,T5 _=nd,T6 _=ba,T7 _=ns,T8 _=b; intro F h hp1 hp2 hl2 hn hb hz hk
 refine FC.intro (fn:=f_Dcut) eq_167 rfl dK rfl eq_284 ?_
 have nm0:=nn eq_107 0
 have nm1:=nn eq_107 1
 have nm2:=nn eq_107 2
 have nm3:=nn eq_107 3
 have nm4:=nn eq_107 4
 have nm5:=nn eq_107 5
 have nm6:=nn eq_107 6
 have nm7:=nn eq_107 7
 have nm8:=nn eq_107 8
 have nm9:=nn eq_107 9
 have nm10:=nn eq_107 10
 have nm11:=nn eq_107 11
 have nm12:=nn eq_107 12
 have nm13:=nn eq_107 13
 have nm14:=nn eq_107 14
 have nm15:=nn eq_107 15
 have nm16:=nn eq_107 16
 refine XS.asg' 2 nm2 (PE.list (by nofun) (by simp)) (by ac_rfl) ?_
 refine XS.ifT (by wtm_at "pt") (by simp) ?_
 refine XS.asg' 2 nm2 (by left) (by ac_rfl) ?_
 refine XS.done ?_
 refine XS.asgC' 3 nm3 (XE.dictCopy (by wtm_at "leaf") (by left) (by right) (by simp) fun q hq=>?_)
 wtm_at "ds"
 exists q; intro hq
 have q1:=Y143 h hq
 have q2:=Y143 hp1 hq
 have q3:=Y143 hn hq
 have q4:=Y143 hb hq
 have q5:=Y143 hp2 hq
 refine XS.asg' 4 nm4 (PE.bop (PE.itemLN (i:=0) (by left) (by left) rfl (by simp)) (by left) (BinK.modN (by simp))) (by ac_rfl) ?_
 refine XS.forP (xs:=[]) (fun i τ=>τ=⟨[some (.obj d),some (.lst [.int x]),some (.lst [.int x]),some (.obj q),some (.int (x % 1:Nat)),none,none,none,none,none,none,none,none,none,none,none,none],upd hp q (.sd [(nm,.int (num:Nat))])⟩) rfl (XIt.list ((PE.uptoL (by left) (by left) dD).cast (by simp))) rfl ?_ ?_
 ·intro i τ x hx; cases hx
 rintro _ rfl
 refine XS.asgC' 6 nm6 (XE.cls (n:=n+1) c_D.2 (by wtm_at "leaf") (.cons ((PE.neg (by left)).cast (by rfl)) .nil) fun e he=>?_)
 exists e; intro he
 refine (eq_400 (left:=-1) he dD).mono ?_ eq_302
 refine eq_355 fun h1 Z0=>?_; refine Ex4 Z0 fun en ek ep ej Z1=>?_; clear Z0; refine eq_21 Z1 fun e1 e2 e3 e4 e5 e6 Z2 e7=>?_; clear Z1; refine An4 Z2 fun x1 x2 x3 x4=>?_; clear Z2
 revert h1 en ek ep ej; apply s5; generalize T1 _=h1,T2 _=en,T3 _=ek,T4 _=ep,T5 _=ej; intro e1 e2 e3 e4 e5 e6 e7 x1 x2 x3 x4
 refine ⟨rfl,?_⟩; wtm_at "ds"
 have g0:h1 q=some (.sd [(nm,.int (num:Nat))]):=e7 _ _ Y56
 have g1:h1 d=some (oD left sp al dn made dk dp (.lst [])):=e7 _ _ (by right)
 have g2:h1 dn=some (.idd ns):=e7 _ _ (by right)
 have g3:h1 nd=some (oN num2 ba kept):=e7 _ _ (by right)
 have g4:h1 ba=some (.ba b):=e7 _ _ (by right)
 have g5:nd≠e:=Y143 (by right) he
 have g6:ba≠e:=Y143 (by right) he
 refine XS.asg' 7 nm7 (by left) (by ac_rfl) ?_
 generalize hL:kept+x % (b.length - kept+1)=L
 exists L; intro hL
 have hL1:L≤b.length:=by have:=mod_lt x (succ_pos (b.length - kept)); simp only [Nat.succ_eq_add_one] at this; exact lA3 (eqG hL) (nsa (List.length b) kept (lA1 hk)) (lsl this)
 refine XS.forP (xs:=[.str nm]) (fun i τ=>(i=0∧τ=⟨[some (.obj d),some (.lst [.int x]),some (.lst [.int x]),some (.obj q),some (.int (x % 1:Nat)),none,some (.obj e),some (.int (0:Nat)),none,none,none,none,none,none,none,none,none],h1⟩)∨(i=1∧∃ u1 u2 u3 u4 nd2 ba2 h2,τ=⟨[some (.obj d),some (.lst [.int x]),some (.lst [.int x]),some (.obj q),some (.int (x % 1:Nat)),none,some (.obj e),u1,u2,u3,u4,none,none,none,none,none,none],h2⟩ ∧
   h2 e=some (oD (-1) 0 true en 1 ek ep (.obj ej))∧h2 en=some (.idd [((1:Nat),.obj nd2)])∧h2 ek=some (.sd [(nm,.int (1:Nat))])∧h2 ep=some (.sd [(nm,.int (1:Nat))])∧h2 ej=some (.list []) ∧
   h2 nd2=some (oN 1 ba2 L)∧h2 ba2=some (.ba (b.take L))∧HLe hp h2)) rfl (XIt.list (PE.sorted1 (by wtm_at "leaf") (by left) (by right))) (.inl ⟨rfl,rfl⟩) ?_ ?_
 ·rintro i τ y hy (⟨rfl,rfl⟩ | ⟨rfl,_⟩)
  ·exists y; intro hy
   cases hy
   refine ⟨_,Tgt.name 8 nm8,?_⟩
   dsimp only [set_cons_succ,set_cons_zero]
   refine XS.asg' 9 nm9 (PE.itemID (by left) (by right) (PE.itemSD (by left) (by right) (by left) (u:=.int (num:Nat)) (by simp [look])) hl2) (by ac_rfl) ?_
   have hmod:0 % ([V.int ↑x]:List V).length=0:=rfl
   have S0:0+1≠0:=fun q_=>eq_4 (eqL q_)
   refine XS.asg' 10 nm10 (PE.cast (.bop (by left) (.bop (.itemLN (i:=0) (by left) (PE.cast (by left) (by rfl)) rfl (by simp)) (.bop (PE.mth eq_310 (by left) (by right) (by nofun) (eq_378 g3 g4 hk hz)) (by left) BinK.addN) (BinK.modN (succ_ne_zero _))) BinK.addN) (by rw [hL])) (by ac_rfl) ?_
   refine XS.D_made (by left) (by right) (by left) (IOp.addN) rfl ?_
   refine XS.asgX (XE.new (n:=n+1) (by wtm_at "leaf") c_N.2 rfl (XEs.consP (by left) (XEs.cons (XE.baNewCut (i:=(L:Nat)) (by wtm_at "leaf") (by left) (by right) (by left) (natCast_nonneg _) (lA1 hz) fun ba2 hba=>XEs.consP (by left) (XEs.nil fun nd2 hnd=>?_))))) Y87
   revert hba hnd; revert ba2 nd2; apply s2; generalize T1 _=ba2,T2 _=nd2; intro hba hnd
   refine eq_377.mono ?_ eq_302
   refine eq_356 ?_
   simp only [eq_388] at hba hnd
   obtain ⟨b1,b2⟩:=hba
   refine An3 hnd fun n0 n1 n2=>?_; clear hnd
   have m1:=Y143 e2 b2
   have m2:=Y143 e3 b2
   have m3:=Y143 e4 b2
   have m4:=Y143 e5 b2
   have m5:=Y143 e2 n2
   have m6:=Y143 e3 n2
   have m7:=Y143 e4 n2
   have m8:=Y143 e5 n2
   have ne_en_e:en≠e:=Y141 e2 e1 rfl
   have ne_ek_e:ek≠e:=Y141 e3 e1 rfl
   have ne_ep_e:ep≠e:=Y141 e4 e1 rfl
   have ne_ej_e:ej≠e:=Y141 e5 e1 rfl
   have ne_en_ek:en≠ek:=Y141 e2 e3 rfl
   have ne_en_ep:en≠ep:=Y141 e2 e4 rfl
   have ne_en_ej:en≠ej:=Y141 e2 e5 rfl
   have ne_ek_ej:ek≠ej:=Y141 e3 e5 rfl
   have ne_ep_ej:ep≠ej:=Y141 e4 e5 rfl
   refine ⟨rfl,XTg.itemID' (by left) (by right) (by left) (by simp) ?_⟩
   refine XS.set' (by left) (XTg.itemSD' (by left) (by right) (by left) (by simp) ?_)
   refine XS.set' (by left) (XTg.itemSD' (by left) (by right) (by left) (by simp) ?_)
   refine XS.aug' 7 nm7 rfl (by left) (IOp.addN) (by ac_rfl) ?_
   refine XS.nil (.inr ⟨rfl,_,_,_,_,nd2,ba2,_,rfl,by right,by right,by right,by right,by right,by right,by right,fun a o q=>?_⟩)
   have r0:=Y143 q hq
   have r:=(Y57 (o:=.sd [(nm,.int (num:Nat))]) r0).trans q
   have r1:=e7 a o r
   have r2:=Y143 r1 b2
   have r3:=Y143 r1 n2
   have r4:=Y143 r he
   have r5:=Y143 r x1
   have r6:=Y143 r x2
   have r7:=Y143 r x3
   right
  ·cases hy
 rintro _ (⟨q,_⟩ | ⟨_,u1,u2,u3,u4,nd2,ba2,h2,rfl,r⟩)
 ·cases q
 exact XS.retP (by wtm_at "leaf") (eq_27 e en ek ep ej nd2 ba2 ⟨rfl,r⟩)
end
noncomputable abbrev oR (d:Bs) (blk chk:Nat) (R:Rd) (rl:Addr):O:=.inst 293 nsR [.byt d,.int blk,.int chk,.int R.at,.int R.be,.bool R.short,.int R.skip,.obj rl,.bool R.torn,.int R.good,.int R.brk]
noncomputable def RdOk (d:Bs) (R:Rd):Prop:=R.at≤R.be∧R.be≤d.length
theorem eq_404 {d:Bs} {blk:Nat} {R:Rd} (h:RdOk d R):RdOk d (turnR d blk R):=⟨Nat.le_min.mpr ⟨h.2,le_add_right ..⟩,min_le_left ..⟩
section
variable {Γ:Gam} {n:Nat} {hp:HP}
theorem eq_405 {r:Addr} {d:Bs} {blk chk:Nat} [F:Facts Γ] (hr:hp r=none) (h1:8≤blk) (h2:blk≤65542) (h3:chk=1∨chk=2):FC Γ (n+2) 262 [.obj r,.byt d,.int blk,.int chk] (upd hp r (.inst 293 [] [])) (fun x hp'=>x=.none∧∃ rl,hp rl=none∧rl≠r∧hp'=upd (upd hp r (oR d blk chk rd0 rl)) rl (.list [])) noH:=by
 revert F hr h1 h2 h3; revert Γ n hp r d blk chk; apply s7; generalize T1 _=Γ,T2 _=n,T3 _=hp,T4 _=r,T5 _=d,T6 _=blk,T7 _=chk; intro F hr h1 h2 h3
 refine FC.intro (fn:=f_RI) eq_138 rfl dK rfl eq_255 ?_
 have nm0:=nn eq_78 0
 have nm1:=nn eq_78 1
 have nm2:=nn eq_78 2
 have nm3:=nn eq_78 3
 have nm4:=nn eq_78 4
 have nm5:=nn eq_78 5
 have nm6:=nn eq_78 6
 refine XS.expr (PE.toX (PE.pfn (by wtm_at "leaf") eq_182 (by nofun) (eq_374 (by wtm_at "sc") (by wtm_at "sc"))) ?_)
 refine XS.expr (PE.toX (PE.pfn (by wtm_at "leaf") eq_183 (by nofun) (eq_375 (by wtm_at "sc"))) ?_)
 refine XS.set' (by left) (XTg.attrN' (by left) Y56 dK c_R.1 eq_226.2 dD ?_)
 refine XS.set' (by left) (XTg.attrN' (by left) Y56 dK c_R.1 eq_227.2 dD ?_)
 refine XS.set' (by left) (XTg.attrN' (by left) Y56 dK c_R.1 eq_228.2 dD ?_)
 refine XS.set' (by left) (XTg.attrN' (by left) Y56 dK c_R.1 Y122.2 dD ?_)
 refine XS.set' (by left) (XTg.attrN' (by left) Y56 dK c_R.1 Y123.2 dD ?_)
 refine XS.set' (by left) (XTg.attrN' (by left) Y56 dK c_R.1 Y124.2 dD ?_)
 refine XS.set' (by left) (XTg.attrN' (by left) Y56 dK c_R.1 Y125.2 dD ?_)
 refine XS.asgX (XE.list' .nil dD fun rl hrl=>XTg.attrN' (by left) ((Y57 (Y143 Y56 hrl)).trans Y56) dK c_R.1 eq_229.2 dD ?_) Y87
 exists rl; intro hrl
 refine XS.set' (by left) (XTg.attrN' (by left) Y56 dK c_R.1 Y126.2 dD ?_)
 refine XS.set' (by left) (XTg.attrN' (by left) Y56 dK c_R.1 Y127.2 dD ?_)
 refine XS.set' (by left) (XTg.attrN' (by left) Y56 dK c_R.1 Y128.2 dD ?_)
 obtain ⟨q1,q2⟩:=eq_387 hrl
 refine XS.nil ⟨rfl,rl,by simp only [eq_388] at q2; simp only [q2],q1,?_⟩
 simp only [eq_39]
 funext x
 unfold upd
 by_cases e1:x=r
 ·subst e1; simp [Ne.symm q1,rd0]
 ·simp [e1]
theorem eq_406 {r rl:Addr} {d:Bs} {blk chk k:Nat} {R:Rd} {rs:List V} {s:Str} [F:Facts Γ] (hr:hp r=some (oR d blk chk R rl)) (hl:hp rl=some (.list rs)) (hz:rs.length≤100000):FC Γ (n+1) 269 [.obj r,.int k,.str s] hp (fun x hp'=>x=.none∧hp'=upd (upd hp r (oR d blk chk (dropR R k) rl)) rl (.list (rs++[.str s]))) noH:=by
 refine FC.intro (fn:=f_Rdrop) eq_139 rfl dK rfl eq_256 ?_
 have nm0:=nn eq_79 0
 have nm1:=nn eq_79 1
 have nm2:=nn eq_79 2
 have ne_r_rl:r≠rl:=Y141 hr hl rfl
 refine XS.R_skipped (by left) (by right) (by left) (IOp.addN) rfl ?_
 refine XS.expr (XE.append' (by left) (by right) (by left) (lA1 hz) ?_)
 exact XS.nil ⟨rfl,rfl⟩
theorem eq_407 {r rl:Addr} {d:Bs} {blk chk:Nat} {R:Rd} [F:Facts Γ] (hr:hp r=some (oR d blk chk R rl)) (ho:RdOk d R) (hz:d.length≤100000):FC Γ (n+1) 276 [.obj r] hp (fun x hp'=>x=.none∧hp'=upd hp r (oR d blk chk (turnR d blk R) rl)) noH:=by
 refine FC.intro (fn:=f_Rturn) eq_140 rfl dK rfl eq_257 ?_
 have nm0:=nn eq_80 0
 have nm1:=nn eq_80 1
 have nm2:=nn eq_80 2
 have h1:R.be≤Nat.min d.length (R.be+blk):=(eq_404 ho).1
 refine XS.set' (by left) (XTg.R_at (by left) (by right) ?_)
 refine XS.set' (by left) (XTg.R_block_end (by left) (by right) ?_)
 refine XS.set' (by left) (XTg.R_short (by left) (by right) ?_)
 exact XS.nil ⟨rfl,by simp only [eq_39]; rfl⟩
theorem eq_408 {r rl:Addr} {d:Bs} {blk chk:Nat} {R:Rd} {rs:List V} [F:Facts Γ] (hr:hp r=some (oR d blk chk R rl)) (hl:hp rl=some (.list rs)) (hrs:rs.length=R.rn) (hrn:R.rn≤100000) (ho:RdOk d R) (hb:8≤blk) (hc:chk=1∨chk=2) (hz:d.length≤100000) :
  FC Γ (n+4) 283 [.obj r] hp (fun x hp'=>x=.tup [.int (fragR d blk chk R).1.1,.byt (fragR d blk chk R).1.2]∧∃ rs',rs'.length=(fragR d blk chk R).2.rn∧hp'=upd (upd hp r (oR d blk chk (fragR d blk chk R).2 rl)) rl (.list rs')) noH:=by
 revert F hr hl hrs hrn ho hb hc hz; revert Γ n hp r rl d blk chk R rs; apply eq_17; generalize T1 _=Γ,T2 _=n,T3 _=hp,T4 _=r,T5 _=rl,T6 _=d,T7 _=blk,T8 _=chk,T9 _=R,T10 _=rs; intro F hr hl hrs hrn ho hb hc hz
 refine FC.intro (fn:=f_Rfrag) eq_141 rfl dK rfl eq_258 ?_
 have nm0:=nn eq_81 0
 have nm1:=nn eq_81 1
 have nm2:=nn eq_81 2
 have nm3:=nn eq_81 3
 have nm4:=nn eq_81 4
 have nm5:=nn eq_81 5
 have nm6:=nn eq_81 6
 have nm7:=nn eq_81 7
 have nm8:=nn eq_81 8
 have nm9:=nn eq_81 9
 have nm10:=nn eq_81 10
 have nm11:=nn eq_81 11
 have nm12:=nn eq_81 12
 have ne_r_rl:r≠rl:=Y141 hr hl rfl
 have keep:∀ o,upd (upd hp r o) rl (.list rs)=upd hp r o:=fun o=>eq_294 ((Y57 (Ne.symm ne_r_rl)).trans hl)
 refine XS.whileP (fun k τ=>∃ R1,τ=⟨[some (.obj r),none,none,none,none,none,none,none,none,none,none,none,none],upd hp r (oR d blk chk R1 rl)⟩∧RdOk d R1∧R1.rn=R.rn∧((k=2∧R1=R)∨(k=1∧R1=turnR d blk R∧R.be - R.at<7∧R.short=false))) (k₀:=2) rfl ⟨R,by rw [eq_294 hr],ho,rfl,.inl ⟨rfl,rfl⟩⟩ ?_
 rintro k _ hR0; refine Ex1 hR0 fun R1 Z1=>?_; clear hR0; obtain ⟨rfl,Z0⟩:=Z1; refine An3 Z0 fun ho1 hn1 hk=>?_; clear Z0
 revert k R1; apply s2; generalize T1 _=k,T2 _=R1; intro ho1 hn1 hk
 obtain ⟨o1,o2⟩:=ho1
 refine ⟨decide (R1.be - R1.at<7),by wtm_at "pt",fun q=>?_,fun q=>?_⟩
 ·have q:R1.be - R1.at<7:=of_decide_eq_true q
  refine XS.ifP (PT.bool (by left) (by intro _ _; rfl)) (fun q2=>?_) (fun q2=>?_)
  ·have s:seekR d blk R=(finR R1,true):=by
    rcases hk with ⟨-,rfl⟩ | ⟨-,rfl,h1,h2⟩
    ·rw [seekR,if_pos q,if_pos q2]
    ·rw [seekR,if_pos h1,if_neg (by simp [h2]),if_pos q]
   have e:fragR d blk chk R=((-1,[]),finR R1):=by rw [fragR,s]; rfl
   have hn:(finR R1).rn=R.rn:=by unfold finR; split <;> exact hn1
   have fin:∀ loc,XS Γ f_Rfrag (n+3) [] ⟨loc,upd hp r (oR d blk chk (finR R1) rl)⟩ (fun af τ=>af=.next∧τ=⟨loc,upd hp r (oR d blk chk (finR R1) rl)⟩) (fun τ=>noH τ.hp):=fun loc=>XS.nil ⟨rfl,rfl⟩
   rw [e]
   refine XS.ifM (fun τ=>τ=⟨[some (.obj r),none,none,none,none,none,none,none,none,none,none,none,none],upd hp r (oR d blk chk (finR R1) rl)⟩) (by wtm_at "pt") (fun q3=>?_) (fun q3=>?_) ?_
   ·have q3:R1.at<R1.be:=of_decide_eq_true q3
    refine XS.set' (by left) (XTg.R_torn (by left) (by right) ?_)
    refine XS.set' (by left) (XTg.R_at (by left) (by right) ?_)
    refine XS.nil ⟨rfl,?_⟩
    rw [eq_39,eq_39,finR,if_pos q3]
   ·have q3:¬ R1.at<R1.be:=of_decide_eq_false q3
    refine XS.nil ⟨rfl,?_⟩
    rw [finR,if_neg q3]
   rintro _ rfl
   exact XS.retP (by left) ⟨rfl,rs,hrs.trans hn.symm,(keep _).symm⟩
  ·have q2:R1.short=false:=q2
   obtain ⟨rfl,rfl⟩:k=2∧R1=R:=by
    rcases hk with h | ⟨-,rfl,h1,h2⟩
    ·exact h
    ·have:¬ (turnR d blk R).be - (turnR d blk R).at<blk:=by simpa [turnR] using q2
     lia
   refine XS.done ?_
   refine XS.mexp2 eq_307 (by left) (by right) (by nofun) (eq_407 Y56 ho hz) eq_302 ?_
   exact XS.nil ⟨1,dD,_,by rw [eq_39],eq_404 ho,rfl,.inr ⟨rfl,rfl,q,q2⟩⟩
 ·have q:7≤R1.be - R1.at:=by simpa using q
  have s:seekR d blk R=(R1,false):=by
   rcases hk with ⟨-,rfl⟩ | ⟨-,rfl,h1,h2⟩
   ·rw [seekR,if_neg (not_lt_of_le (lA1 q))]
   ·rw [seekR,if_pos h1,if_neg (by simp [h2]),if_neg (not_lt_of_le (lA1 q))]
  have e:fragR d blk chk R=fragB d chk R1:=by rw [fragR,s]; rfl
  have b1:=UInt8.toNat_lt (d.getD (R1.at+4) 0)
  have b2:=UInt8.toNat_lt (d.getD (R1.at+5) 0)
  refine XS.asg' 1 nm1 (by left) (by ac_rfl) ?_
  refine XS.asg' 2 nm2 (by left) (by ac_rfl) ?_
  have S0:R1.at+4<List.length d:=sA3 (nsa R1.be R1.at (lA1 o1)) o2 q
  have S1:R1.at+5<List.length d:=sA3 (nsa R1.be R1.at (lA1 o1)) o2 q
  refine XS.asg' 3 nm3 (by left) (by ac_rfl) ?_
  have S2:R1.at+6<List.length d:=sA3 (nsa R1.be R1.at (lA1 o1)) o2 q
  refine XS.asg' 4 nm4 (by left) (by ac_rfl) ?_
  rw [e,fragB]
  try dsimp only
  generalize hs:(d.getD (R1.at+4) 0).toNat+(d.getD (R1.at+5) 0).toNat*256=size
  exists size; intro hs
  generalize hk2:(d.getD (R1.at+6) 0).toNat=kind
  exists kind; intro hk2
  refine XS.ifP (by wtm_at "pt") (fun q1=>?_) (fun q1=>?_)
  ·have q1:R1.be - R1.at<7+size:=of_decide_eq_true q1
   rw [if_pos q1]
   refine XS.set' (by left) (XTg.R_at (by left) (by right) ?_)
   refine XS.ifP (PT.bool (by left) (by intro _ _; rfl)) (fun q2=>?_) (fun q2=>?_)
   ·rw [if_pos q2]
    refine XS.set' (by left) (XTg.R_torn (by left) (by right) ?_)
    refine XS.retP (by left) ⟨rfl,rs,hrs.trans hn1.symm,?_⟩
    rw [eq_39,eq_39,keep]
   ·rw [if_neg (by simp [q2])]
    refine XS.done ?_
    refine XS.R_breaks (by left) (by right) (by left) (IOp.addN) rfl ?_
    refine XS.mexp2 eq_306 (by left) (by right) (by nofun) (eq_406 (R:={ R1 with «at»:=R1.be,brk:=R1.brk+1 }) (by right) (by right) (lA2 (eqL hrs) hrn)) eq_302 ?_
    refine XS.retP (by left) ⟨rfl,rs++[.str (Str.ofString "bad record length")],by simp [hrs,hn1],?_⟩
    simp only [eq_39]; rfl
  ·have q1:¬ R1.be - R1.at<7+size:=of_decide_eq_false q1
   rw [if_neg q1]
   refine XS.done ?_
   refine XS.ifP (b:=decide (kind=0)&&decide (size=0)) (by
    refine PT.of (PT.and (by wtm_at "pt") fun _=>PT.and (by wtm_at "pt") fun _=>PT.andN) (by simp)) (fun q2=>?_) (fun q2=>?_)
   ·have q2:kind=0∧size=0:=by simpa using q2
    rw [if_pos q2]
    refine XS.set' (by left) (XTg.R_at (by left) (by right) ?_)
    refine XS.R_breaks (by left) (by right) (by left) (IOp.addN) rfl ?_
    refine XS.retP (by left) ⟨rfl,rs,hrs.trans hn1.symm,?_⟩
    rw [eq_39,eq_39,keep]
   ·have q2:¬ (kind=0∧size=0):=by simpa using q2
    rw [if_neg q2]
    refine XS.done ?_
    refine XS.asg' 5 nm5 (by left) (by ac_rfl) ?_
    refine XS.asg' 6 nm6 (PE.cast (by left) (show _=V.byt (bodyR d R1.at size) by rfl)) (by ac_rfl) ?_
    have hbl:(bodyR d R1.at size).length≤100000:=by unfold bodyR; simp only [length_take,length_drop]; exact lA3 (min_le_right (R1.at+7+size - (R1.at+7 - 1)) (List.length d - (R1.at+7 - 1))) (sub_le (List.length d) (R1.at+7 - 1)) hz
    have S3:R1.at+4≤List.length d:=lA3 (nsa R1.be R1.at (lA1 o1)) o2 (nlt q1)
    refine XS.ifP (b:=decide (rd32 d R1.at≠csumN chk (bodyR d R1.at size))) (PT.cmp (PE.pfn (by wtm_at "leaf") eq_177 (by nofun) (eq_369 (by wtm_at "sc") (by wtm_at "sc"))) (PE.pfn (by wtm_at "leaf") eq_181 (by nofun) (eq_373 (by wtm_at "sc") (by wtm_at "sc"))) CmpOk.neN) (fun q3=>?_) (fun q3=>?_)
    ·have q3:rd32 d R1.at≠csumN chk (bodyR d R1.at size):=of_decide_eq_true q3
     rw [if_pos q3]
     refine XS.set' (by left) (XTg.R_at (by left) (by right) ?_)
     refine XS.R_breaks (by left) (by right) (by left) (IOp.addN) rfl ?_
     refine XS.mexp2 eq_306 (by left) (by right) (by nofun) (eq_406 (R:={ R1 with «at»:=R1.be,brk:=R1.brk+1 }) (by right) (by right) (lA2 (eqL hrs) hrn)) eq_302 ?_
     refine XS.retP (by left) ⟨rfl,rs++[.str (Str.ofString "checksum mismatch")],by simp [hrs,hn1],?_⟩
     simp only [eq_39]; rfl
    ·have q3:¬ rd32 d R1.at≠csumN chk (bodyR d R1.at size):=of_decide_eq_false q3
     rw [if_neg q3]
     refine XS.done ?_
     refine XS.set' (by left) (XTg.R_at (by left) (by right) ?_)
     refine XS.retP (by left) ⟨rfl,rs,hrs.trans hn1.symm,?_⟩
     rw [eq_39,keep]
theorem eq_409 {d:Bs} {chk:Nat} {R:Rd} (h:RdOk d R) (h7:7≤R.be - R.at):RdOk d (fragB d chk R).2∧(fragB d chk R).2.rn≤R.rn+1∧((fragB d chk R).1.1≠-1→R.at+(fragB d chk R).1.2.length+7≤(fragB d chk R).2.at):=by
 revert h h7; revert d chk R; apply s3; generalize T1 _=d,T2 _=chk,T3 _=R; intro h h7
 obtain ⟨h1,h2⟩:=h
 unfold fragB
 dsimp only
 split
 ·split
  ·exact ⟨⟨le_refl _,h2⟩,le_succ _,fun q=>absurd rfl q⟩
  ·exact ⟨⟨le_refl _,h2⟩,le_refl _,fun _=>by simp; exact lA2 (nsa R.be R.at (lA1 h1)) h7⟩
 ·rename_i q
  split
  ·exact ⟨⟨le_refl _,h2⟩,le_succ _,fun _=>by simp; exact lA2 (nsa R.be R.at (lA1 h1)) (nlt q)⟩
  ·split
   ·exact ⟨⟨le_refl _,h2⟩,le_refl _,fun _=>by simp; exact lA2 (nsa R.be R.at (lA1 h1)) (nlt q)⟩
   ·refine ⟨⟨?_,h2⟩,le_succ _,fun _=>?_⟩
    ·show R.at+7+_≤R.be; exact lA2 (nlt q) (nsa R.be R.at (lA1 h1))
    ·unfold bodyR; simp only [length_drop,length_take]; exact (le_total (min (R.at+7+((getD d (R.at+4) 0).toNat+(getD d (R.at+5) 0).toNat*256) - (R.at+7 - 1))   (List.length d - (R.at+7 - 1))) 1).elim (fun m0_=>lA1 (eqL (sub_eq_zero_of_le m0_))) (fun m0_=>eq_1 (nsa (min (R.at+7+((getD d (R.at+4) 0).toNat+(getD d (R.at+5) 0).toNat*256) - (R.at+7 - 1))   (List.length d - (R.at+7 - 1))) 1 (lA1 m0_)) (min_le_left (R.at+7+((getD d (R.at+4) 0).toNat+(getD d (R.at+5) 0).toNat*256) - (R.at+7 - 1)) (List.length d - (R.at+7 - 1))) (nsa (R.at+7+((getD d (R.at+4) 0).toNat+(getD d (R.at+5) 0).toNat*256)) (R.at+7 - 1) (lA1 (sub_le (R.at+7) 1))) (nas (R.at+7) 1))
theorem eq_410 {d:Bs} {blk:Nat} {R:Rd} (h:RdOk d R):RdOk d (seekR d blk R).1∧(seekR d blk R).1.rn=R.rn∧R.at≤(seekR d blk R).1.at∧((seekR d blk R).2=false→7≤(seekR d blk R).1.be - (seekR d blk R).1.at):=by
 have f:∀ R:Rd,RdOk d R→RdOk d (finR R)∧(finR R).rn=R.rn∧R.at≤(finR R).at:=fun R h=>by
  unfold finR; split
  ·exact ⟨⟨le_refl _,h.2⟩,rfl,h.1⟩
  ·exact ⟨h,rfl,le_refl _⟩
 revert d blk R; apply s3; generalize T1 _=d,T2 _=blk,T3 _=R; intro h f
 unfold seekR
 split
 ·split
  ·exact ⟨(f R h).1,(f R h).2.1,(f R h).2.2,fun q=>by cases q⟩
  ·have t:=eq_404 (blk:=blk) h
   split
   ·exact ⟨(f _ t).1,(f _ t).2.1,Nat.le_trans h.1 (f _ t).2.2,fun q=>by cases q⟩
   ·exact ⟨t,rfl,h.1,fun _=>by dsimp only; lia⟩
 ·exact ⟨h,rfl,le_refl _,fun _=>by dsimp only; lia⟩
theorem eq_411 {d:Bs} {blk chk:Nat} {R:Rd} (h:RdOk d R):RdOk d (fragR d blk chk R).2∧(fragR d blk chk R).2.rn≤R.rn+1∧((fragR d blk chk R).1.1≠-1→R.at+(fragR d blk chk R).1.2.length+7≤(fragR d blk chk R).2.at):=by
 refine An4 (eq_410 (blk:=blk) h) fun s1 s2 s3 s4=>?_
 unfold fragR
 split
 ·exact ⟨s1,by rw [s2]; exact lA0,fun q=>absurd rfl q⟩
 ·rename_i q
  refine An3 (eq_409 (chk:=chk) s1 (s4 (by simpa using q))) fun f1 f2 f3=>?_
  exact ⟨f1,lA2 f2 (eqL s2),fun q=>by have:=f3 q; exact lA2 s3 this⟩
end
noncomputable def opV:Option Bs→V
 | none=>.none
 | some x=>.byt x
noncomputable def HX (hp hp':HP) (r rl:Addr):Prop:=∀ a o,hp a=some o→a≠r→a≠rl→hp' a=some o
theorem HX.upr {hp h:HP} {r rl:Addr} {o:O} (f:HX hp h r rl):HX hp (upd h r o) r rl:=fun a o q q1 q2=>(Y57 q1).trans (f a o q q1 q2)
theorem HX.uprl {hp h:HP} {r rl:Addr} {o:O} (f:HX hp h r rl):HX hp (upd h rl o) r rl:=fun a o q q1 q2=>(Y57 q2).trans (f a o q q1 q2)
theorem HX.upx {hp h:HP} {r rl x:Addr} {o:O} (f:HX hp h r rl) (e:hp x=none):HX hp (upd h x o) r rl:=fun a o q q1 q2=>(Y57 (Y143 q e)).trans (f a o q q1 q2)
theorem HX.fresh {hp h:HP} {r rl x:Addr} {o o':O} (f:HX hp h r rl) (h1:h r=some o) (h2:h rl=some o') (e:h x=none):hp x=none:=by
 cases q:hp x with
 | none=>rfl
 | some y=>rw [f x y q (Y142 e h1) (Y142 e h2)] at e; cases e
structure JRd (hp:HP) (r rl:Addr) (d:Bs) (blk chk:Nat) (res:Option Bs) (R':Rd) (k:Nat) (h:HP) (pa:Addr) (begun:Bool) (parts:Bs) (R:Rd) (rs:List V):Prop where
 hr:h r=some (oR d blk chk R rl)
 hl:h rl=some (.list rs)
 hp0:h pa=some (.ba parts)
 hpa:hp pa=none
 hf:HX hp h r rl
 hrs:rs.length=R.rn
 hrn:R.rn≤R.at
 ho:RdOk d R
 hpl:parts.length≤R.at
 hres:readF d blk chk k begun parts R=some (res,R')
structure MRd (hp:HP) (r rl:Addr) (d:Bs) (blk chk:Nat) (h:HP) (R:Rd) (rs:List V):Prop where
 hr:h r=some (oR d blk chk R rl)
 hl:h rl=some (.list rs)
 hrs:rs.length=R.rn
 hf:HX hp h r rl
section
variable {Γ:Gam} {n:Nat} {hp:HP}
theorem eq_412 {r rl:Addr} {d:Bs} {blk chk k:Nat} {R R':Rd} {rs:List V} {res:Option Bs} [F:Facts Γ] (hr:hp r=some (oR d blk chk R rl)) (hl:hp rl=some (.list rs)) (hrs:rs.length=R.rn) (hrn:R.rn≤R.at) (ho:RdOk d R) (hb:8≤blk) (hc:chk=1∨chk=2) (hz:d.length≤10000) (hres:readF d blk chk k false [] R=some (res,R')) :
  FC Γ (n+5) 290 [.obj r] hp (fun x hp'=>x=opV res∧hp' r=some (oR d blk chk R' rl)∧(∃ rs',rs'.length=R'.rn∧hp' rl=some (.list rs'))∧HX hp hp' r rl) noH:=by
 revert F hr hl hrs hrn ho hb hc hz hres; revert Γ n hp r rl d blk chk k R R' rs res; apply s12; generalize T1 _=Γ,T2 _=n,T3 _=hp,T4 _=r,T5 _=rl,T6 _=d,T7 _=blk,T8 _=chk,T9 _=k,T10 _=R,T11 _=R',T12 _=rs; apply s1; generalize T1 _=res; intro F hr hl hrs hrn ho hb hc hz hres
 refine FC.introQ (fn:=f_Rread) eq_142 dK eq_259 fun Q' hret _=>?_
 exists Q'; intro hret _
 have nm0:=nn eq_82 0
 have nm1:=nn eq_82 1
 have nm2:=nn eq_82 2
 have nm3:=nn eq_82 3
 have nm4:=nn eq_82 4
 have nm5:=nn eq_82 5
 have nm6:=nn eq_82 6
 have nm7:=nn eq_82 7
 have nm8:=nn eq_82 8
 have nm9:=nn eq_82 9
 have nm10:=nn eq_82 10
 have nm11:=nn eq_82 11
 have nm12:=nn eq_82 12
 have nm13:=nn eq_82 13
 have nm14:=nn eq_82 14
 refine XS.asg' 1 nm1 (by left) (by ac_rfl) ?_
 refine XS.asgC' 2 nm2 (XE.baNew' (by wtm_at "leaf") fun pa hpa=>?_)
 exists pa; intro hpa
 wtm_at "ds"
 have a1:=Y143 hr hpa
 have a2:=Y143 hl hpa
 refine XS.whileQ (fun k l h=>∃ pa begun parts kd dt R rs,l=[some (.obj r),some (.bool begun),some (.obj pa),kd,dt,none,none,none,none,none,none,none,none,none,none]∧JRd hp r rl d blk chk res R' k h pa begun parts R rs) (k₀:=k)
  (eq_27 pa false [] _ _ R rs ⟨rfl,by right,by right,Y56,hpa,fun a o q q1 q2=>(Y57 (Y143 q hpa)).trans q,hrs,hrn,ho,zero_le _,hres⟩) ?_
 clear hres hpa a1 a2 pa hr hl hrs hrn ho R rs k
 rintro k _ h Q2 hR0 nx ret; refine Y2 ?_; rintro G0 hG0; obtain ⟨pa,begun,parts,kd,dt,R,rs,rfl,hr,hl,hp0,hpa,hf,hrs,hrn,ho,hpl,hres⟩:=hR0; refine hG0 ?_; clear hG0
 revert nx ret hr hl hp0 hpa hf hrs hrn ho hpl hres; revert k h Q2 pa begun parts kd dt R rs; apply eq_17; generalize T1 _=k,T2 _=h,T3 _=Q2,T4 _=pa,T5 _=begun,T6 _=parts,T7 _=kd,T8 _=dt,T9 _=R,T10 _=rs; intro nx ret hr hl hp0 hpa hf hrs hrn ho hpl hres
 refine ⟨true,by wtm_at "pt",fun _=>?_,fun q=>by cases q⟩
 obtain ⟨k,rfl⟩:∃ j,k=j+1:=by cases k with | zero=>cases hres | succ k=>exact ⟨k,rfl⟩
 exists k; intro nx hres
 have ne_r_rl:r≠rl:=Y141 hr hl rfl
 have ne_pa_r:pa≠r:=Y141 hp0 hr rfl
 have ne_pa_rl:pa≠rl:=Y141 hp0 hl rfl
 have ho0:=ho
 obtain ⟨o1,o2⟩:=ho
 refine XS.asgX (XE.mth eq_308 (by left) (by right) (by nofun) (eq_408 hr hl hrs (eq_1 hrn o1 o2 hz) ho0 hb hc (lA1 hz)) ?_ eq_302 (by intro _; rfl)) Y87
 refine eq_355 fun _ Z0=>?_; refine X12 Z0 fun rs' hrs' Z1=>?_; clear Z0; obtain rfl:=Z1
 exists rs'; intro hrs'
 refine (Tgt.tup (.cons (Tgt.name 3 nm3) (.cons (Tgt.name 4 nm4) .nil))).toX ?_
 dsimp only [set_cons_succ,set_cons_zero,id_eq]
 refine An3 (eq_411 (blk:=blk) (chk:=chk) ho0) fun f1 f2 f3=>?_
 rw [readF] at hres
 exists rs'; intro hrs'
 dsimp only at hres
 generalize (fragR d blk chk R).1.1=kk at *
 exists kk; intro hres f3
 generalize (fragR d blk chk R).1.2=x at *
 exists x; intro hres f3
 generalize (fragR d blk chk R).2=R1 at *
 obtain ⟨o3,o4⟩:=f1
 refine XS.ifP (by wtm_at "pt") (fun q=>?_) (fun q=>?_)
 ·have q:kk = -1:=of_decide_eq_true q
  rw [if_pos q] at hres
  cases hres
  refine XS.ifP (PT.bool (by left) (by intro _ _; rfl)) (fun q2=>?_) (fun q2=>?_)
  ·rw [if_pos q2] at hret
   refine XS.set' (by left) (XTg.R_torn (by left) (by right) ?_)
   refine XS.done ?_
   refine XS.retP PE.none (ret _ _ (hret _ _ _ ⟨rfl,Y56,⟨rs',hrs',by right⟩,hf.upr.uprl.upr⟩))
  ·rw [if_neg (by simp [q2])] at hret
   refine XS.done (XS.retP PE.none (ret _ _ (hret _ _ _ ⟨rfl,by right,⟨rs',hrs',by right⟩,hf.upr.uprl⟩)))
 ·have q:kk≠-1:=of_decide_eq_false q
  have f3:=f3 q
  rw [if_neg q] at hres
  refine XS.done (XS.ifP (b:=decide (kk=1) || decide (kk=2)) (by
   refine PT.of (PT.or (by wtm_at "pt") fun _=>PT.or (by wtm_at "pt") fun _=>PT.orN) (by simp)) (fun q1=>?_) (fun q1=>?_))
  ·have q1:kk=1∨kk=2:=by simpa using q1
   rw [if_pos q1] at hres
   refine XS.ifQ (fun l h=>l=[some (.obj r),some (.bool begun),some (.obj pa),some (.int kk),some (.byt x),none,none,none,none,none,none,none,none,none,none]∧∃ rs,MRd hp r rl d blk chk h (if begun then (if 0<parts.length then dropR (breakR R1) parts.length else breakR R1) else R1) rs) (PT.bool (by left) (by intro _ _; rfl)) (fun q2 Q3 nx3 _=>?_) (fun q2 Q3 nx3 _=>?_) ?_
   ·exists Q3; intro nx3 _
    refine XS.R_breaks (by left) (by right) (by left) (IOp.addN) rfl ?_
    have S0:List.length parts≤1000000:=eq_1 hpl o1 o2 hz
    refine XS.ifP (by wtm_at "pt") (fun q3=>?_) (fun q3=>?_)
    ·have q3:0<parts.length:=of_decide_eq_true q3
     rw [if_pos q2,if_pos q3] at nx3
     have S1:List.length parts≤1000000:=eq_1 hpl o1 o2 hz
     refine XS.mexp2 eq_306 (by left) (by right) (by nofun) (eq_406 (R:=breakR R1) (by right) (by right) (eq_7 (eqL hrs') f2 hrn o1 o2 hz)) eq_302 ?_
     refine XS.done (XS.nil (nx3 _ _ ⟨rfl,_,by right,by right,by rw [length_append,hrs']; rfl,hf.upr.uprl.upr.upr.uprl⟩))
    ·have q3:¬ 0<parts.length:=of_decide_eq_false q3
     rw [if_pos q2,if_neg q3] at nx3
     refine XS.done (XS.nil (nx3 _ _ ⟨rfl,_,by right,by right,hrs',hf.upr.uprl.upr⟩))
   ·rw [if_neg (by simp [q2])] at nx3
    refine XS.nil (nx3 _ _ ⟨rfl,_,by right,by right,hrs',hf.upr.uprl⟩)
   have g:(if begun then (if 0<parts.length then dropR (breakR R1) parts.length else breakR R1) else R1).rn≤R1.rn+1∧(if begun then (if 0<parts.length then dropR (breakR R1) parts.length else breakR R1) else R1).at=R1.at∧(if begun then (if 0<parts.length then dropR (breakR R1) parts.length else breakR R1) else R1).be=R1.be:=by
    split
    ·split
     ·exact ⟨le_refl _,rfl,rfl⟩
     ·exact ⟨le_succ _,rfl,rfl⟩
    ·exact ⟨le_succ _,rfl,rfl⟩
   generalize (if begun then (if 0<parts.length then dropR (breakR R1) parts.length else breakR R1) else R1)=R2 at *
   exists R2; intro hres g
   refine An3 g fun g1 g2 g3=>?_; clear g
   rintro _ h2 hR0; obtain ⟨rfl,rs2,hr2,hl2,hrs2,hf2⟩:=hR0
   revert h2 rs2; apply s2; generalize T1 _=h2,T2 _=rs2; intro hr2 hl2 hrs2 hf2
   refine XS.ifP (b:=decide (kk=1)) (by refine PT.of (by wtm_at "pt") (by simp)) (fun q3=>?_) (fun q3=>?_)
   ·have q3:kk=1:=of_decide_eq_true q3
    rw [if_pos q3] at hres
    cases hres
    have ne_r_rl:r≠rl:=Y141 hr2 hl2 rfl
    refine XS.set' (by left) (XTg.R_good_length (by left) (by right) ?_)
    refine XS.retP (by left) (ret _ _ (hret _ _ _ ⟨rfl,by right,⟨rs2,hrs2,by right⟩,hf2.upr⟩))
   ·have q3:¬ kk=1:=of_decide_eq_false q3
    rw [if_neg q3] at hres
    revert h2 rs2; apply s2; generalize T1 _=h2,T2 _=rs2; intro hr2 hl2 hrs2 hf2
    refine XS.done (XS.asgC' 2 nm2 (XE.baNewB (by wtm_at "leaf") (by left) (eq_1 f3 o3 o4 hz) fun pb hpb=>?_))
    wtm_at "ds"
    have b1:=Y143 hr2 hpb
    have b2:=Y143 hl2 hpb
    have b3:=hf2.fresh hr2 hl2 hpb
    refine XS.asg' 1 nm1 (by left) (by ac_rfl) ?_
    refine XS.done ?_
    refine XS.nil (nx _ _ _ (lt_succ_self _) (eq_27 pb true x _ _ R2 rs2 ⟨rfl,by right,by right,Y56,b3,hf2.upx b3,hrs2,eq_2 g1 f2 hrn f3 (eqG g2),⟨lA3 (eqL g2) o3 (eqG g3),lA2 (eqL g3) o4⟩,lA2 f3 (eqG g2),hres⟩))
  ·have q1:¬ (kk=1∨kk=2):=by simpa using q1
   rw [if_neg q1] at hres
   refine XS.ifP (b:=decide (kk=3) || decide (kk=4)) (by
    refine PT.of (PT.or (by wtm_at "pt") fun _=>PT.or (by wtm_at "pt") fun _=>PT.orN) (by simp)) (fun q2=>?_) (fun q2=>?_)
   ·have q2:kk=3∨kk=4:=by simpa using q2
    rw [if_pos q2] at hres
    refine XS.ifP (PT.not (PT.bool (by left) (by intro _ _; rfl))) (fun q3=>?_) (fun q3=>?_)
    ·have q3:begun=false:=by simpa using q3
     subst q3
     rw [if_neg (by simp)] at hres
     refine XS.R_breaks (by left) (by right) (by left) (IOp.addN) rfl ?_
     have S2:List.length x≤1000000:=eq_1 f3 o3 o4 hz
     refine XS.mexp2 eq_306 (by left) (by right) (by nofun) (eq_406 (R:=breakR R1) (by right) (by right) (eq_7 (eqL hrs') f2 hrn o1 o2 hz)) eq_302 ?_
     refine XS.done (XS.done (XS.done ?_))
     refine XS.nil (nx _ _ _ (lt_succ_self _) (eq_27 pa false parts _ _ (dropR (breakR R1) x.length) _ ⟨rfl,by right,by right,by right,hpa,hf.upr.uprl.upr.upr.uprl,by rw [length_append,hrs']; rfl,(show R1.rn+1≤R1.at by exact lA3 f2 hrn f3),⟨o3,o4⟩,(show parts.length≤R1.at by exact lA2 hpl f3),hres⟩))
    ·have q3:begun=true:=by simpa using q3
     subst q3
     rw [if_pos rfl] at hres
     refine XS.expr (XE.extend' (by left) (by right) (by left) (eq_2 hpl f3 o3 o4 hz) ?_)
     refine XS.ifP (b:=decide (kk=4)) (by refine PT.of (by wtm_at "pt") (by simp)) (fun q4=>?_) (fun q4=>?_)
     ·have q4:kk=4:=of_decide_eq_true q4
      rw [if_pos q4] at hres
      cases hres
      refine XS.set' (by left) (XTg.R_good_length (by left) (by right) ?_)
      refine XS.retP (PE.bytesA (by wtm_at "leaf") (by left) (by right) (by simp only [length_append]; exact eq_2 hpl f3 o3 o4 hz)) (ret _ _ (hret _ _ _ ⟨rfl,by right,⟨rs',hrs',by right⟩,((hf.upr.uprl).upx hpa).upr⟩))
     ·have q4:¬ kk=4:=of_decide_eq_false q4
      rw [if_neg q4] at hres
      refine XS.done (XS.done (XS.done (XS.done ?_)))
      refine XS.nil (nx _ _ _ (lt_succ_self _) (eq_27 pa true (parts++x) _ _ R1 _ ⟨rfl,by right,by right,by right,hpa,(hf.upr.uprl).upx hpa,hrs',lA3 f2 hrn f3,⟨o3,o4⟩,by simp only [length_append]; exact lA2 hpl f3,hres⟩))
   ·have q2:¬ (kk=3∨kk=4):=by simpa using q2
    rw [if_neg q2] at hres
    have q3:kk = -2:=by
     rcases Decidable.em (kk = -2) with z | z
     ·exact z
     ·rw [if_neg z] at hres; cases hres
    rw [if_pos q3] at hres
    refine XS.ifT (b:=decide (kk = -2)) (by refine PT.of (by wtm_at "pt") (by simp)) (by simpa using q3) ?_
    refine XS.ifQ (fun l h=>l=[some (.obj r),some (.bool begun),some (.obj pa),some (.int kk),some (.byt x),none,none,none,none,none,none,none,none,none,none]∧∃ rs,MRd hp r rl d blk chk h (if begun then dropR R1 parts.length else R1) rs) (PT.bool (by left) (by intro _ _; rfl)) (fun q4 Q3 nx3 _=>?_) (fun q4 Q3 nx3 _=>?_) ?_
    ·rw [if_pos q4] at nx3
     have S3:List.length parts≤1000000:=eq_1 hpl o1 o2 hz
     refine XS.mexp2 eq_306 (by left) (by right) (by nofun) (eq_406 (R:=R1) (by right) (by right) (eq_7 (eqL hrs') f2 hrn o1 o2 hz)) eq_302 ?_
     exact XS.nil (nx3 _ _ ⟨rfl,_,by right,by right,by rw [length_append,hrs']; rfl,hf.upr.uprl.upr.uprl⟩)
    ·rw [if_neg (by simp [q4])] at nx3
     exact XS.nil (nx3 _ _ ⟨rfl,_,by right,by right,hrs',hf.upr.uprl⟩)
    have g:(if begun then dropR R1 parts.length else R1).rn≤R1.rn+1∧(if begun then dropR R1 parts.length else R1).at=R1.at∧(if begun then dropR R1 parts.length else R1).be=R1.be:=by
     split
     ·exact ⟨le_refl _,rfl,rfl⟩
     ·exact ⟨le_succ _,rfl,rfl⟩
    generalize (if begun then dropR R1 parts.length else R1)=R2 at *
    exists R2; intro hres g
    refine An3 g fun g1 g2 g3=>?_; clear g
    rintro _ h2 hR0; obtain ⟨rfl,rs2,hr2,hl2,hrs2,hf2⟩:=hR0
    revert h2 rs2; apply s2; generalize T1 _=h2,T2 _=rs2; intro hr2 hl2 hrs2 hf2
    refine XS.done ?_
    refine XS.asgC' 2 nm2 (XE.baNew' (by wtm_at "leaf") fun pb hpb=>?_)
    wtm_at "ds"
    have b1:=Y143 hr2 hpb
    have b2:=Y143 hl2 hpb
    have b3:=hf2.fresh hr2 hl2 hpb
    refine XS.asg' 1 nm1 (by left) (by ac_rfl) ?_
    refine XS.done (XS.done ?_)
    refine XS.nil (nx _ _ _ (lt_succ_self _) (eq_27 pb false [] _ _ R2 rs2 ⟨rfl,by right,by right,Y56,b3,hf2.upx b3,hrs2,eq_2 g1 f2 hrn f3 (eqG g2),⟨lA3 (eqL g2) o3 (eqG g3),lA2 (eqL g3) o4⟩,zero_le _,hres⟩))
end
theorem eq_413 {d:Bs} {blk chk:Nat} {x:Bs} {R':Rd}:∀ {n:Nat} {b:Bool} {p:Bs} {R:Rd},readF d blk chk n b p R=some (some x,R')→RdOk d R→R.rn≤R.at→RdOk d R'∧R'.rn≤R'.at∧R.at<R'.at
 | 0,_,_,_,h,_,_=>by cases h
 | n+1,b,p,R,h,ho,hn=>by
  refine An3 (eq_411 (blk:=blk) (chk:=chk) ho) fun f1 f2 f3=>?_
  rw [readF] at h
  dsimp only at h
  generalize (fragR d blk chk R).1.1=kk at *
  generalize (fragR d blk chk R).1.2=y at *
  generalize (fragR d blk chk R).2=R1 at *
  obtain ⟨o3,o4⟩:=f1
  have fin:∀ {R2:Rd},kk≠-1→R2.rn≤R1.rn+1→R2.at=R1.at→R2.be=R1.be→RdOk d R2∧R2.rn≤R2.at∧R.at<R2.at:=fun q q1 q2 q3=>by
   have f3:=f3 q
   exact ⟨⟨lA3 (eqL q2) o3 (eqG q3),lA2 (eqL q3) o4⟩,eq_2 q1 f2 hn f3 (eqG q2),sA2 f3 (eqG q2)⟩
  have rec_:∀ {b:Bool} {p:Bs} {R2:Rd},kk≠-1→R2.rn≤R1.rn+1→R2.at=R1.at→R2.be=R1.be→readF d blk chk n b p R2=some (some x,R')→RdOk d R'∧R'.rn≤R'.at∧R.at<R'.at:=fun q q1 q2 q3 h=>by
   refine An3 (fin q q1 q2 q3) fun z1 z2 z3=>?_
   refine An3 (eq_413 h z1 z2) fun y1 y2 y3=>?_
   exact ⟨y1,y2,Nat.lt_trans z3 y3⟩
  have hB:∀ {R2:Rd},R2=(if b then (if 0<p.length then dropR (breakR R1) p.length else breakR R1) else R1)→R2.rn≤R1.rn+1∧R2.at=R1.at∧R2.be=R1.be:=fun e=>by
   subst e
   split
   ·split
    ·exact ⟨le_refl _,rfl,rfl⟩
    ·exact ⟨le_succ _,rfl,rfl⟩
   ·exact ⟨le_succ _,rfl,rfl⟩
  split at h
  ·cases h
  ·rename_i q
   split at h
   ·generalize hg:(if b then (if 0<p.length then dropR (breakR R1) p.length else breakR R1) else R1)=R2 at h
    refine An3 (hB hg.symm) fun g1 g2 g3=>?_
    split at h
    ·cases h
     exact fin (R2:={ R2 with good:=R2.at }) q g1 g2 g3
    ·exact rec_ q g1 g2 g3 h
   ·split at h
    ·split at h
     ·split at h
      ·cases h
       exact fin (R2:={ R1 with good:=R1.at }) q (le_succ _) rfl rfl
      ·exact rec_ q (le_succ _) rfl rfl h
     ·exact rec_ (R2:=dropR (breakR R1) y.length) q (le_refl _) rfl rfl h
    ·split at h
     ·refine rec_ (R2:=if b then dropR R1 p.length else R1) q ?_ ?_ ?_ h <;> split <;> first | rfl | exact le_refl _ | exact le_succ _
     ·cases h
set_option tactic.hygienic true in
theorem eq_414 {d:Bs} {blk chk n:Nat} {R R':Rd} {rows:List Bs} (h:allF d blk chk (n+1) R=some (rows,R')) :
  (∃ R1,readF d blk chk (d.length+1) false [] R=some (none,R1)∧rows=[]∧R'=R1)∨∃ x R1 rest,readF d blk chk (d.length+1) false [] R=some (some x,R1)∧allF d blk chk n R1=some (rest,R')∧rows=x :: rest:=by
 revert h; revert d blk chk n R R' rows; apply s7; generalize T1 _=d,T2 _=blk,T3 _=chk,T4 _=n,T5 _=R,T6 _=R',T7 _=rows; intro h
 rw [allF] at h
 split at h
 ·cases h
 ·rename_i R1 e; cases h; exact .inl ⟨_,e,rfl,rfl⟩
 ·rename_i x R1 e
  refine X12 (Option.map_eq_some_iff.mp h) fun Z0 e1 e2=>?_; obtain ⟨l,R2⟩:=Z0
  cases e2
  exact .inr (EI3 x R1 l ⟨e,e1,rfl⟩)
set_option tactic.hygienic true in
theorem eq_415 {d:Bs} {blk chk n good g:Nat} {R:Rd} {rows:List Bs} (h:preF d blk chk (n+1) good R=some (rows,g)) :
  (∃ R1,readF d blk chk (d.length+1) false [] R=some (none,R1)∧rows=[]∧g=good)∨(∃ x R1,readF d blk chk (d.length+1) false [] R=some (some x,R1)∧R1.brk≠0∧rows=[]∧g=good)∨∃ x R1 rest,readF d blk chk (d.length+1) false [] R=some (some x,R1)∧R1.brk=0∧preF d blk chk n R1.good R1=some (rest,g)∧rows=x :: rest:=by
 revert h; revert d blk chk n good g R rows; apply s8; generalize T1 _=d,T2 _=blk,T3 _=chk,T4 _=n,T5 _=good,T6 _=g,T7 _=R,T8 _=rows; intro h
 rw [preF] at h
 split at h
 ·cases h
 ·rename_i R1 e; cases h; exact .inl ⟨_,e,rfl,rfl⟩
 ·rename_i x R1 e
  split at h
  ·rename_i q
   refine X12 (Option.map_eq_some_iff.mp h) fun Z0 e1 e2=>?_; obtain ⟨l,g2⟩:=Z0
   cases e2
   exact .inr (.inr (EI3 x R1 l ⟨e,q,e1,rfl⟩))
  ·rename_i q; cases h; exact .inr (.inl (EI2 x R1 ⟨e,q,rfl,rfl⟩))
noncomputable abbrev BL (l:List Bs):List V:=l.map V.byt
theorem HX.le {hp h h2:HP} {r rl:Addr} (f:HX h h2 r rl) (l:HLe hp h) (h1:hp r=none) (h3:hp rl=none):HLe hp h2:=fun a o q=>f a o (l a o q) (Y143 q h1) (Y143 q h3)
theorem HLe.trans_x {hp h h2:HP} {r rl:Addr} (l:HLe hp h) (f:HX h h2 r rl) (h1:hp r=none) (h3:hp rl=none):HLe hp h2:=f.le l h1 h3
section
variable {Γ:Gam} {n:Nat} {hp:HP}
theorem eq_416 {d:Bs} {blk chk K:Nat} {R':Rd} {rows:List Bs} [F:Facts Γ] (hb:8≤blk) (hb2:blk≤65542) (hc:chk=1∨chk=2) (hz:d.length≤10000) (h:allF d blk chk K rd0=some (rows,R')) :
  FC Γ (n+6) 304 [.byt d,.int blk,.int chk] hp (fun x hp'=>∃ r rl,x=.tup [.lst (BL rows),.obj r]∧hp' r=some (oR d blk chk R' rl)∧hp r=none∧HLe hp hp') noH:=by
 revert F hb hb2 hc hz h; revert Γ n hp d blk chk K R' rows; apply s9; generalize T1 _=Γ,T2 _=n,T3 _=hp,T4 _=d,T5 _=blk,T6 _=chk,T7 _=K,T8 _=R',T9 _=rows; intro F hb hb2 hc hz h
 refine FC.intro (fn:=f_rall) eq_143 rfl dK rfl eq_260 ?_
 have nm0:=nn eq_83 0
 have nm1:=nn eq_83 1
 have nm2:=nn eq_83 2
 have nm3:=nn eq_83 3
 have nm4:=nn eq_83 4
 have nm5:=nn eq_83 5
 have nm6:=nn eq_83 6
 refine XS.asgC' 3 nm3 (XE.cls (n:=n+4) c_R.2 (by wtm_at "leaf") (by nofun) fun r hr=>?_)
 exists r; intro hr
 refine FC.more (k:=n+2) ((eq_405 hr hb hb2 hc).mono ?_ eq_302) (lA0)
 refine eq_355 fun _ Z0=>?_; refine X13 Z0 fun rl hrl hne Z6=>?_; clear Z0; obtain rfl:=Z6
 exists rl; intro hrl hne
 refine ⟨rfl,?_⟩; wtm_at "ds"
 refine XS.asgC' 4 nm4 (XE.list' .nil dD fun ra hra=>?_)
 wtm_at "ds"
 exists ra; intro hra
 simp only [eq_388] at hra
 refine An3 hra fun a1 a2 a3=>?_; clear hra
 obtain ⟨K,rfl⟩:∃ j,K=j+1:=by cases K with | zero=>cases h | succ k=>exact ⟨k,rfl⟩
 have hle0:HLe hp (upd (upd (upd hp r (oR d blk chk rd0 rl)) rl (.list [])) ra (.list [])):=fun a o q=>(Y57 (Y143 q a3)).trans ((Y57 (Y143 q (by simpa [eq_388,hne] using hrl))).trans ((Y57 (Y143 q hr)).trans q))
 have hrl0:hp rl=none:=hrl
 have J0:∀ {k:Nat} {R R1:Rd} {rest:List Bs} {done:List Bs} {res:Option Bs},readF d blk chk (d.length+1) false [] R=some (res,R1)→allF d blk chk (k+1) R=some (rest,R')→rows=done++rest→RdOk d R→R.rn≤R.at→done.length≤R.at →
   (res=none∧rows=done∧R'=R1)∨∃ x rest,res=some x∧rows=done++x :: rest∧allF d blk chk k R1=some (rest,R')∧R1.rn≤R1.at∧RdOk d R1∧done.length+1≤R1.at:=fun e1 e2 e3 o1 o2 o3=>by
  rcases eq_414 e2 with ⟨R2,q1,rfl,rfl⟩ | ⟨x,R2,rest2,q1,q2,rfl⟩
  ·rw [e1] at q1; cases q1; exact .inl ⟨rfl,by rw [e3,append_nil],rfl⟩
  ·rw [e1] at q1; cases q1
   refine An3 (eq_413 e1 o1 o2) fun z1 z2 z3=>?_
   exact .inr (EI2 x rest2 ⟨rfl,e3,q2,z2,z1,lA2 o3 (lsl z3)⟩)
 have some_:∀ {k:Nat} {R:Rd} {y:List Bs × Rd},allF d blk chk (k+1) R=some y→∃ res R1,readF d blk chk (d.length+1) false [] R=some (res,R1):=fun {k R y} e=>by
  obtain ⟨y1,y2⟩:=y
  rcases eq_414 e with ⟨R2,q1,-,-⟩ | ⟨x,R2,rest2,q1,-,-⟩ <;> exact (EI2 _ _ q1)
 refine Ex2 (some_ h) fun res R1 hres=>?_
 revert res R1; apply s2; generalize T1 _=res,T2 _=R1; intro hres
 refine XS.masg 5 nm5 eq_309 (by left) (by right) (by nofun) (eq_412 (rs:=[]) (by right) (by right) rfl (zero_le _) ⟨le_refl _,zero_le _⟩ hb hc hz hres) ?_ eq_302
 refine eq_355 fun h1 Z1=>?_; refine An3 Z1 fun g1 Z2 g4=>?_; clear Z1; refine X12 Z2 fun rs1 g2 g3=>?_; clear Z2
 revert g1 g4 g2 g3; revert h1 rs1; apply s2; generalize T1 _=h1,T2 _=rs1; intro g1 g4 g2 g3
 wtm_at "ds"
 refine XS.whileV (fun k τ=>∃ h res R rs done,τ=⟨[some (.byt d),some (.int blk),some (.int chk),some (.obj r),some (.obj ra),some (opV res),none],h⟩∧h r=some (oR d blk chk R rl)∧h rl=some (.list rs)∧h ra=some (.list (BL done))∧HLe hp h∧rs.length=R.rn ∧
   ((res=none∧rows=done∧R'=R)∨∃ x rest,res=some x∧rows=done++x :: rest∧allF d blk chk k R=some (rest,R')∧R.rn≤R.at∧RdOk d R∧done.length+1≤R.at)) (k₀:=K)
  (EI5 h1 res R1 rs1 [] ⟨rfl,g1,g3,g4 _ _ Y56 a2 a1,hle0.trans_x g4 hr hrl0,g2,J0 hres h rfl ⟨le_refl _,zero_le _⟩ (zero_le _) (zero_le _)⟩) ?_
 clear g1 g2 g3 g4 h1 hres h res R1 rs1
 rintro k _ Q1 hR0 nx1 _; refine Ex5 hR0 fun h res R rs done Z7=>?_; clear hR0; obtain ⟨rfl,Z3⟩:=Z7; refine An6 Z3 fun hr1 hl1 ha1 hle hrs hh=>?_; clear Z3
 refine ⟨_,by wtm_at "pt",fun q=>?_,fun q=>?_⟩
 ·rcases hh with ⟨rfl,-,-⟩ | ⟨x,rest,rfl,e1,e2,e3,e4,e5⟩
  ·cases q
  obtain ⟨k,rfl⟩:∃ j,k=j+1:=by cases k with | zero=>cases e2 | succ k=>exact ⟨k,rfl⟩
  have hln:=e4.2
  have hln2:=e4.1
  refine XS.expr (XE.append' (x:=.byt x) (by left) (by right) (by left) (by simp only [length_map]; exact eq_1 e5 hln2 hln hz) ?_)
  refine Ex2 (some_ e2) fun res R1 hres=>?_
  refine XS.masg 5 nm5 eq_309 (by left) (by right) (by nofun) (eq_412 (R:=R) (by right) (by right) hrs e3 e4 hb hc hz hres) ?_ eq_302
  refine eq_355 fun h1 Z4=>?_; refine An3 Z4 fun g1 Z5 g4=>?_; clear Z4; refine X12 Z5 fun rs1 g2 g3=>?_; clear Z5
  wtm_at "ds"
  refine XS.nil (nx1 k _ (lt_succ_self _) (EI5 h1 res R1 rs1 (done++[x]) ⟨rfl,g1,g3,(g4 _ _ Y56 a2 a1).trans (by rw [BL,BL,map_append]; rfl),HLe.trans_x (fun a o q=>(Y57 (Y143 q a3)).trans (hle a o q)) g4 hr hrl0,g2,J0 hres e2 (by rw [e1,append_assoc]; rfl) e4 e3 (by simp only [length_append,length_cons,length_nil]; exact lA1 e5)⟩))
 ·rcases hh with ⟨rfl,rfl,rfl⟩ | ⟨x,rest,rfl,-⟩
  ·refine XS.freeze' 4 ha1 rfl (by ac_rfl) ?_
   refine XS.retP (by left) (EI2 r rl ⟨rfl,(if_neg (Ne.symm a2)).trans hr1,hr,fun a o q=>(if_neg (Y143 q a3)).trans (hle a o q)⟩)
  ·cases q
theorem eq_417 {d:Bs} {blk chk K g:Nat} {rows:List Bs} [F:Facts Γ] (hb:8≤blk) (hb2:blk≤65542) (hc:chk=1∨chk=2) (hz:d.length≤10000) (h:preF d blk chk K 0 rd0=some (rows,g)) :
  PFC Γ (n+6) 311 [.byt d,.int blk,.int chk] (.tup [.lst (BL rows),.int g]):=by
 revert F hb hb2 hc hz h; revert Γ n d blk chk K g rows; apply s8; generalize T1 _=Γ,T2 _=n,T3 _=d,T4 _=blk,T5 _=chk,T6 _=K,T7 _=g,T8 _=rows; intro F hb hb2 hc hz h
 refine PFC.intro (Γ:=Γ) (n:=n+5) (f:=f_rpre) eq_144 eq_261 dK fun hp=>?_
 exists hp
 have nm0:=nn eq_84 0
 have nm1:=nn eq_84 1
 have nm2:=nn eq_84 2
 have nm3:=nn eq_84 3
 have nm4:=nn eq_84 4
 have nm5:=nn eq_84 5
 have nm6:=nn eq_84 6
 have nm7:=nn eq_84 7
 refine XS.asgC' 3 nm3 (XE.cls (n:=n+4) c_R.2 (by wtm_at "leaf") (by nofun) fun r hr=>?_)
 exists r; intro hr
 refine FC.more (k:=n+2) ((eq_405 hr hb hb2 hc).mono ?_ eq_302) (lA0)
 refine eq_355 fun _ Z0=>?_; refine X13 Z0 fun rl hrl hne Z6=>?_; clear Z0; obtain rfl:=Z6
 exists rl; intro hrl hne
 refine ⟨rfl,?_⟩; wtm_at "ds"
 refine XS.asgC' 4 nm4 (XE.list' .nil dD fun ra hra=>?_)
 exists ra; intro hra
 wtm_at "ds"
 simp only [eq_388] at hra
 refine An3 hra fun a1 a2 a3=>?_; clear hra
 obtain ⟨K,rfl⟩:∃ j,K=j+1:=by cases K with | zero=>cases h | succ k=>exact ⟨k,rfl⟩
 exists K; intro h
 have hle0:HLe hp (upd (upd (upd hp r (oR d blk chk rd0 rl)) rl (.list [])) ra (.list [])):=fun a o q=>(Y57 (Y143 q a3)).trans ((Y57 (Y143 q (by simpa [eq_388,hne] using hrl))).trans ((Y57 (Y143 q hr)).trans q))
 have hrl0:hp rl=none:=hrl
 have J0:∀ {k good:Nat} {R R1:Rd} {rest:List Bs} {done:List Bs} {res:Option Bs},readF d blk chk (d.length+1) false [] R=some (res,R1)→preF d blk chk (k+1) good R=some (rest,g)→rows=done++rest→RdOk d R→R.rn≤R.at→done.length≤R.at →
   ((res=none∨R1.brk≠0)∧rows=done∧g=good)∨∃ x rest,res=some x∧R1.brk=0∧rows=done++x :: rest∧preF d blk chk k R1.good R1=some (rest,g)∧R1.rn≤R1.at∧RdOk d R1∧done.length+1≤R1.at:=fun e1 e2 e3 o1 o2 o3=>by
  rcases eq_415 e2 with ⟨R2,q1,rfl,rfl⟩ | ⟨x,R2,q1,q2,rfl,rfl⟩ | ⟨x,R2,rest2,q1,q2,q3,rfl⟩
  ·rw [e1] at q1; cases q1; exact .inl ⟨.inl rfl,by rw [e3,append_nil],rfl⟩
  ·rw [e1] at q1; cases q1; exact .inl ⟨.inr q2,by rw [e3,append_nil],rfl⟩
  ·rw [e1] at q1; cases q1
   refine An3 (eq_413 e1 o1 o2) fun z1 z2 z3=>?_
   exact .inr (EI2 x rest2 ⟨rfl,q2,e3,q3,z2,z1,lA2 o3 (lsl z3)⟩)
 have some_:∀ {k good:Nat} {R:Rd} {y:List Bs × Nat},preF d blk chk (k+1) good R=some y→∃ res R1,readF d blk chk (d.length+1) false [] R=some (res,R1):=fun {k good R y} e=>by
  obtain ⟨y1,y2⟩:=y
  rcases eq_415 e with ⟨R2,q1,-,-⟩ | ⟨x,R2,q1,-⟩ | ⟨x,R2,rest2,q1,-⟩ <;> exact (EI2 _ _ q1)
 refine Ex2 (some_ h) fun res R1 hres=>?_
 revert res R1; apply s2; generalize T1 _=res,T2 _=R1; intro hres
 refine XS.asg' 5 nm5 (by left) (by ac_rfl) ?_
 refine XS.masg 6 nm6 eq_309 (by left) (by right) (by nofun) (eq_412 (rs:=[]) (by right) (by right) rfl (zero_le _) ⟨le_refl _,zero_le _⟩ hb hc hz hres) ?_ eq_302
 refine eq_355 fun h1 Z1=>?_; refine An3 Z1 fun g1 Z2 g4=>?_; clear Z1; refine X12 Z2 fun rs1 g2 g3=>?_; clear Z2
 revert g1 g4 g2 g3; revert h1 rs1; apply s2; generalize T1 _=h1,T2 _=rs1; intro g1 g4 g2 g3
 wtm_at "ds"
 refine XS.whileV (fun k τ=>∃ h res R rs done good,τ=⟨[some (.byt d),some (.int blk),some (.int chk),some (.obj r),some (.obj ra),some (.int (good:Nat)),some (opV res),none],h⟩∧h r=some (oR d blk chk R rl)∧h rl=some (.list rs)∧h ra=some (.list (BL done))∧HLe hp h∧rs.length=R.rn ∧
   (((res=none∨R.brk≠0)∧rows=done∧g=good)∨∃ x rest,res=some x∧R.brk=0∧rows=done++x :: rest∧preF d blk chk k R.good R=some (rest,g)∧R.rn≤R.at∧RdOk d R∧done.length+1≤R.at)) (k₀:=K)
  (eq_26 h1 res R1 rs1 [] 0 ⟨rfl,g1,g3,g4 _ _ Y56 a2 a1,hle0.trans_x g4 hr hrl0,g2,J0 hres h rfl ⟨le_refl _,zero_le _⟩ (zero_le _) (zero_le _)⟩) ?_
 clear g1 g2 g3 g4 h1 hres h res R1 rs1
 rintro k _ Q1 hR0 nx1 _; refine eq_18 hR0 fun h res R rs done good Z7=>?_; clear hR0; obtain ⟨rfl,Z3⟩:=Z7; refine An6 Z3 fun hr1 hl1 ha1 hle hrs hh=>?_; clear Z3
 revert nx1 a hr1 hl1 ha1 hle hrs hh; revert k Q1 h res R rs done good; apply s8; generalize T1 _=k,T2 _=Q1,T3 _=h,T4 _=res,T5 _=R,T6 _=rs,T7 _=done,T8 _=good; intro nx1 a hr1 hl1 ha1 hle hrs hh
 refine ⟨_,by wtm_at "pt",fun q=>?_,fun q=>?_⟩
 ·rcases hh with ⟨rfl | z,-,-⟩ | ⟨x,rest,rfl,e0,e1,e2,e3,e4,e5⟩
  ·cases q
  ·simp [z] at q
  obtain ⟨k,rfl⟩:∃ j,k=j+1:=by cases k with | zero=>cases e2 | succ k=>exact ⟨k,rfl⟩
  revert q e1 nx1 e2; revert x rest k; apply s3; generalize T1 _=x,T2 _=rest,T3 _=k; intro q e1 nx1 e2
  have hln:=e4.2
  have hln2:=e4.1
  refine XS.expr (XE.append' (x:=.byt x) (by left) (by right) (by left) (by simp only [length_map]; exact eq_1 e5 hln2 hln hz) ?_)
  refine XS.asg' 5 nm5 (by left) (by ac_rfl) ?_
  refine Ex2 (some_ e2) fun res R1 hres=>?_
  refine XS.masg 6 nm6 eq_309 (by left) (by right) (by nofun) (eq_412 (R:=R) (by right) (by right) hrs e3 e4 hb hc hz hres) ?_ eq_302
  refine eq_355 fun h1 Z4=>?_; refine An3 Z4 fun g1 Z5 g4=>?_; clear Z4; refine X12 Z5 fun rs1 g2 g3=>?_; clear Z5
  wtm_at "ds"
  refine XS.nil (nx1 k _ (lt_succ_self _) (eq_26 h1 res R1 rs1 (done++[x]) R.good ⟨rfl,g1,g3,(g4 _ _ Y56 a2 a1).trans (by rw [BL,BL,map_append]; rfl),HLe.trans_x (fun a o q=>(Y57 (Y143 q a3)).trans (hle a o q)) g4 hr hrl0,g2,J0 hres e2 (by rw [e1,append_assoc]; rfl) e4 e3 (by simp only [length_append,length_cons,length_nil]; exact lA1 e5)⟩))
 ·rcases hh with ⟨-,rfl,rfl⟩ | ⟨x,rest,rfl,e0,-⟩
  ·refine XS.freeze' 4 ha1 rfl (by ac_rfl) ?_
   refine XS.less (hp':=hp) (fun a o q=>(if_neg (Y143 q a3)).trans (hle a o q)) ?_
   refine XS.retP (by left) ⟨rfl,rfl⟩
  ·simp [opV,V.isNone,e0] at q
end
noncomputable abbrev oW (f:Addr) (blk chk len:Nat):O:=.inst 244 nsW [.obj f,.int blk,.int chk,.int len]
noncomputable def lefS (left:Int) (k:Nat):Int:=if 0≤left then left - k else left
noncomputable def fitS (left:Int) (k:Nat):Prop:=0≤left→(k:Int)≤left
theorem eq_418 {left:Int} {k w:Nat} (h:fitS left k):(aliN (lefS left k) w=true↔fitS left (k+w)):=by
 unfold aliN lefS fitS at *
 by_cases q:0≤left
 ·have:=h q
  simp [q]; exact ⟨fun g=>g.elim (fun a=>absurd this (Int.not_le.mpr a)) Int.add_le_of_le_sub_left,fun g=>.inr (Int.le_sub_left_of_add_le g)⟩
 ·simp [q]
theorem eq_419 {left:Int} {k w:Nat} (h:fitS left k) (h2:fitS left (k+w)):lefN (lefS left k) w=lefS left (k+w)∧takN (lefS left k) w=w:=by
 unfold lefN takN lefS fitS at *
 by_cases q:0≤left
 ·have h1:=h q
  have:=h2 q
  simp only [q,if_true]
  have z:¬ (0≤left - ↑k∧left - ↑k<↑w):=fun z=>absurd z.2 (Int.not_lt.mpr (Int.le_sub_left_of_add_le (a:=(k:Int)) (b:=w) this))
  rw [if_neg z]
  exact ⟨by rw [if_pos (Int.sub_nonneg_of_le h1)]; exact Int.sub_sub ..,rfl⟩
 ·simp [q]
theorem eq_420 {left:Int} {k w:Nat} (h:fitS left k) (h2:¬ fitS left (k+w)):k+takN (lefS left k) w=left.toNat∧takN (lefS left k) w≤w:=by
 unfold takN lefS fitS at *
 revert left k w; apply s3; generalize T1 _=left,T2 _=k,T3 _=w; intro h h2
 by_cases q:0≤left
 ·have:=h q
  have h2:left<((k+w:Nat):Int):=Int.not_le.mp fun z=>h2 fun _=>z
  simp only [q,if_true]
  rw [if_pos ⟨Int.sub_nonneg_of_le this,Int.sub_left_lt_of_lt_add (b:=(k:Int)) (c:=w) (by rw [← natCast_add]; exact h2)⟩]
  obtain ⟨l,e⟩:=Int.eq_ofNat_of_zero_le q
  rw [e] at this h2 ⊢
  rw [Int.toNat_sub,toNat_natCast]
  exact ⟨Nat.add_sub_of_le (Int.ofNat_le.mp this),lA2 (nsa l k (Int.ofNat_le.mp this)) (Int.ofNat_le.mp (Int.le_of_lt h2))⟩
 ·exact absurd (fun z=>absurd z q) h2
theorem eq_421 {hp:HP} {d ba w:Addr} {a a' b b' c c':O} (h1:d≠ba) (h2:d≠w) (h3:ba≠w):upd (upd (upd (upd (upd (upd hp d a) ba b) w c) d a') ba b') w c'=upd (upd (upd hp d a') ba b') w c':=by
 funext x; unfold upd
 by_cases e1:x=w
 ·simp [e1]
 ·by_cases e2:x=ba
  ·simp [e2,h3]
  ·by_cases e3:x=d
   ·simp [e3,h1,h2]
   ·simp [e1,e2,e3]
theorem eq_422 {hp:HP} {d ba w:Addr} {a a' b b' c:O} (h1:d≠ba) (h2:d≠w) (h3:ba≠w):upd (upd (upd (upd (upd hp d a) ba b) w c) d a') ba b'=upd (upd (upd hp d a') ba b') w c:=by
 funext x; unfold upd
 by_cases e1:x=w
 ·simp [e1,Ne.symm h2,Ne.symm h3]
 ·by_cases e2:x=ba
  ·simp [e2,h3]
  ·by_cases e3:x=d
   ·simp [e3,h1,h2]
   ·simp [e1,e2,e3]
theorem eq_423 {left:Int} {a b:Nat} (h:fitS left b) (q:a≤b):fitS left a:=fun z=>by have:=h z; lia
section
variable {Γ:Gam} {n:Nat} {hp:HP}
theorem eq_424 {w f:Addr} {blk chk len:Nat} [F:Facts Γ] (h1:8≤blk) (h2:blk≤65542) (h3:chk=1∨chk=2):FC Γ (n+2) 220 [.obj w,.obj f,.int blk,.int chk,.int len] (upd hp w (.inst 244 [] [])) (fun x hp'=>x=.none∧hp'=upd hp w (oW f blk chk len)) noH:=by
 refine FC.intro (fn:=f_WI) eq_134 rfl dK rfl eq_251 ?_
 revert F h1 h2 h3; revert Γ n hp w f blk chk len; apply s8; generalize T1 _=Γ,T2 _=n,T3 _=hp,T4 _=w,T5 _=f,T6 _=blk,T7 _=chk,T8 _=len; intro F h1 h2 h3
 have nm0:=nn eq_74 0
 have nm1:=nn eq_74 1
 have nm2:=nn eq_74 2
 have nm3:=nn eq_74 3
 have nm4:=nn eq_74 4
 have nm5:=nn eq_74 5
 have nm6:=nn eq_74 6
 have nm7:=nn eq_74 7
 refine XS.expr (PE.toX (PE.pfn (by wtm_at "leaf") eq_182 (by nofun) (eq_374 (by wtm_at "sc") (by wtm_at "sc"))) ?_)
 refine XS.expr (PE.toX (PE.pfn (by wtm_at "leaf") eq_183 (by nofun) (eq_375 (by wtm_at "sc"))) ?_)
 refine XS.ifF0 (by wtm_at "pt") (by first | (simp; done) | (simp; lia)) ?_
 refine XS.set' (by left) (XTg.attrN' (by left) Y56 dK c_W.1 eq_223.2 dD ?_)
 refine XS.set' (by left) (XTg.attrN' (by left) Y56 dK c_W.1 eq_224.2 dD ?_)
 refine XS.set' (by left) (XTg.attrN' (by left) Y56 dK c_W.1 eq_225.2 dD ?_)
 refine XS.set' (by left) (XTg.attrN' (by left) Y56 dK c_W.1 Y121.2 dD ?_)
 exact XS.nil ⟨rfl,by simp only [eq_39]; rfl⟩
theorem eq_425 {w f d nd ba:Addr} {blk chk len:Nat} {nm:Str} {left:Int} {sp made num kept:Nat} {dn dk dp:Addr} {b:Bs} [F:Facts Γ] (hw:hp w=some (oW f blk chk len)) (hf:hp f=some (oF d nm nd false)) (h:hp d=some (oD left sp true dn made dk dp (.lst []))) (hn:hp nd=some (oN num ba kept)) (hb:hp ba=some (.ba b)) (hs:nm.length≤100) (hz:b.length≤100000) :
  FC Γ (n+5) 241 [.obj w] hp (fun x hp'=>x=.none∧aliN left 1=true∧hp'=upd (upd hp d (oD (lefN left 1) (sp+takN left 1) true dn made dk dp (.lst []))) nd (oN num ba b.length))
   (fun hp'=>aliN left 1=false∧hp'=upd hp d (oD (lefN left 1) (sp+takN left 1) false dn made dk dp (.lst []))):=by
 refine FC.intro (fn:=f_Wsync) eq_137 rfl dK rfl eq_254 ?_
 have nm0:=nn eq_77 0
 refine XS.mexp3 eq_314 (by left) (by right) (by nofun) (eq_398 hf h hn hb hs hz) (fun _ q=>q) fun e=>?_
 exact XS.nil ⟨rfl,e,rfl⟩
theorem eq_426 {w f d nd ba:Addr} {blk chk len:Nat} {nm:Str} {left:Int} {sp made num kept:Nat} {dn dk dp:Addr} {dj:V} {b o:Bs} [F:Facts Γ] (hw:hp w=some (oW f blk chk len)) (hf:hp f=some (oF d nm nd false)) (h:hp d=some (oD left sp true dn made dk dp dj)) (hn:hp nd=some (oN num ba kept)) (hb:hp ba=some (.ba b)) (hs:nm.length≤100) (hz:b.length+o.length≤100000) :
  FC Γ (n+4) 227 [.obj w,.byt o] hp (fun x hp'=>x=.none∧aliN left o.length=true∧hp'=upd (upd (upd hp d (oD (lefN left o.length) (sp+takN left o.length) true dn made dk dp dj)) ba (.ba (b++o))) w (oW f blk chk (len+o.length)))
   (fun hp'=>aliN left o.length=false∧hp'=upd (upd hp d (oD (lefN left o.length) (sp+takN left o.length) false dn made dk dp dj)) ba (.ba (b++o.take (takN left o.length)))):=by
 refine FC.intro (fn:=f_Wput) eq_135 rfl dK rfl eq_252 ?_
 have nm0:=nn eq_75 0
 have nm1:=nn eq_75 1
 have nm2:=nn eq_75 2
 have ne_w_d:w≠d:=Y141 hw h rfl
 have ne_w_ba:w≠ba:=Y141 hw hb rfl
 refine XS.mexp3 eq_313 (by left) (by right) (by nofun) (eq_386 hf h hn hb hs hz) (fun _ q=>q) fun e=>?_
 have S0:List.length o≤1000000:=lA1 hz
 refine XS.W_length (by left) (by right) (by left) (IOp.addN) rfl ?_
 exact XS.nil ⟨rfl,e,rfl⟩
noncomputable abbrev wadH (hp:HP) (d ba w f:Addr) (blk chk len:Nat) (left:Int) (sp made:Nat) (dn dk dp:Addr) (dj:V) (b done:Bs):HP:=upd (upd (upd hp d (oD (lefS left done.length) (sp+done.length) true dn made dk dp dj)) ba (.ba (b++done))) w (oW f blk chk (len+done.length))
theorem eq_427 {w f d nd ba:Addr} {blk chk len:Nat} {nm:Str} {left:Int} {sp made num kept:Nat} {dn dk dp:Addr} {dj:V} {b tot:Bs} [F:Facts Γ] (hw:hp w=some (oW f blk chk len)) (hf:hp f=some (oF d nm nd false)) (h:hp d=some (oD left sp true dn made dk dp dj)) (hn:hp nd=some (oN num ba kept)) (hb:hp ba=some (.ba b)) (hs:nm.length≤100) (hz:b.length+tot.length≤10000) (done o1 rest:Bs) (hfit:fitS left done.length) (ht:tot=done++(o1++rest)) :
  FC Γ (n+4) 227 [.obj w,.byt o1] (wadH hp d ba w f blk chk len left sp made dn dk dp dj b done) (fun x hp'=>x=.none∧fitS left (done++o1).length∧hp'=wadH hp d ba w f blk chk len left sp made dn dk dp dj b (done++o1))
   (fun hp'=>¬ fitS left tot.length∧∃ l s c,hp'=upd (upd (upd hp d (oD l s false dn made dk dp dj)) ba (.ba (b++tot.take left.toNat))) w c):=by
 have ne_d_ba:d≠ba:=Y141 h hb rfl
 have ne_d_w:d≠w:=Y141 h hw rfl
 have ne_ba_w:ba≠w:=Y141 hb hw rfl
 have ne_f_d:f≠d:=Y141 hf h rfl
 have ne_f_ba:f≠ba:=Y141 hf hb rfl
 have ne_f_w:f≠w:=Y141 hf hw rfl
 have ne_nd_d:nd≠d:=Y141 hn h rfl
 have ne_nd_ba:nd≠ba:=Y141 hn hb rfl
 have ne_nd_w:nd≠w:=Y141 hn hw rfl
 have hl:done.length+(o1.length+rest.length)=tot.length:=by rw [ht]; simp
 refine (eq_426 (o:=o1) (b:=b++done) (hp:=wadH hp d ba w f blk chk len left sp made dn dk dp dj b done) (left:=lefS left done.length) (sp:=sp+done.length) (len:=len+done.length) (by right) (by right) (by right) (by right) (by right) hs (by rw [length_append]; exact lA2 hz (eqL hl))).mono ?_ ?_
 ·refine eq_357 fun e=>?_
  have e:=(eq_418 hfit).mp e
  obtain ⟨e1,e2⟩:=eq_419 hfit e
  refine ⟨rfl,by rw [length_append]; exact e,?_⟩
  show upd (upd (upd (upd (upd (upd hp _ _) _ _) _ _) _ _) _ _) _ _=_
  rw [eq_421 ne_d_ba ne_d_w ne_ba_w,e1,e2]
  simp only [wadH,length_append,append_assoc,add_assoc]
 ·refine eq_361 fun e=>?_
  have e3:¬ fitS left (done.length+o1.length):=fun z=>by rw [(eq_418 hfit).mpr z] at e; cases e
  obtain ⟨e1,e2⟩:=eq_420 hfit e3
  refine ⟨fun z=>e3 (eq_423 z (lA1 (eqL hl))),lefN (lefS left done.length) o1.length,sp+done.length+takN (lefS left done.length) o1.length,oW f blk chk (len+done.length),?_⟩
  show upd (upd (upd (upd (upd hp _ _) _ _) _ _) _ _) _ _=_
  rw [eq_422 ne_d_ba ne_d_w ne_ba_w]
  have:b++done++o1.take (takN (lefS left done.length) o1.length)=b++tot.take left.toNat:=by
   rw [append_assoc,ht,← e1,take_append,take_of_length_le (le_add_right ..),Nat.add_sub_cancel_left,List.take_append_of_le_length e2]
  rw [this]
theorem eq_428 {w f d nd ba:Addr} {blk chk len:Nat} {nm:Str} {left:Int} {sp made num kept:Nat} {dn dk dp:Addr} {dj:V} {b o:Bs} [F:Facts Γ] (hw:hp w=some (oW f blk chk len)) (hf:hp f=some (oF d nm nd false)) (h:hp d=some (oD left sp true dn made dk dp dj)) (hn:hp nd=some (oN num ba kept)) (hb:hp ba=some (.ba b)) (hs:nm.length≤100) (hz:b.length+(addN blk chk len o).length≤10000) (hz2:o.length≤1000) (hk:8≤blk) (hk2:blk≤1000) (hc:chk=1∨chk=2) :
  FC Γ (n+5) 234 [.obj w,.byt o] hp (fun x hp'=>x=.none∧fitS left (addN blk chk len o).length∧hp'=upd (upd (upd hp d (oD (lefS left (addN blk chk len o).length) (sp+(addN blk chk len o).length) true dn made dk dp dj)) ba (.ba (b++addN blk chk len o))) w (oW f blk chk (len+(addN blk chk len o).length)))
   (fun hp'=>¬ fitS left (addN blk chk len o).length∧∃ l s c,hp'=upd (upd (upd hp d (oD l s false dn made dk dp dj)) ba (.ba (b++(addN blk chk len o).take left.toNat))) w c):=by
 revert F hw hf h hn hb hs hz hz2 hk hk2 hc; revert Γ n hp w f d nd ba blk chk len nm left sp made num kept dn dk dp dj b o; apply s12; generalize T1 _=Γ,T2 _=n,T3 _=hp,T4 _=w,T5 _=f,T6 _=d,T7 _=nd,T8 _=ba,T9 _=blk,T10 _=chk,T11 _=len,T12 _=nm; apply s11; generalize T1 _=left,T2 _=sp,T3 _=made,T4 _=num,T5 _=kept,T6 _=dn,T7 _=dk,T8 _=dp,T9 _=dj,T10 _=b,T11 _=o; intro F hw hf h hn hb hs hz hz2 hk hk2 hc
 refine FC.intro (fn:=f_Wadd) eq_136 rfl dK rfl eq_253 ?_
 have nm0:=nn eq_76 0
 have nm1:=nn eq_76 1
 have nm2:=nn eq_76 2
 have nm3:=nn eq_76 3
 have nm4:=nn eq_76 4
 have nm5:=nn eq_76 5
 have nm6:=nn eq_76 6
 have nm7:=nn eq_76 7
 have nm8:=nn eq_76 8
 have nm9:=nn eq_76 9
 have nm10:=nn eq_76 10
 have nm11:=nn eq_76 11
 have nm12:=nn eq_76 12
 have nm13:=nn eq_76 13
 have nm14:=nn eq_76 14
 have nm15:=nn eq_76 15
 have nm16:=nn eq_76 16
 have nm17:=nn eq_76 17
 have ne_d_ba:d≠ba:=Y141 h hb rfl
 have ne_d_w:d≠w:=Y141 h hw rfl
 have ne_ba_w:ba≠w:=Y141 hb hw rfl
 have ne_f_d:f≠d:=Y141 hf h rfl
 have ne_f_ba:f≠ba:=Y141 hf hb rfl
 have ne_f_w:f≠w:=Y141 hf hw rfl
 have ne_nd_d:nd≠d:=Y141 hn h rfl
 have ne_nd_ba:nd≠ba:=Y141 hn hb rfl
 have ne_nd_w:nd≠w:=Y141 hn hw rfl
 generalize htot:addN blk chk len o=tot at *
 exists tot; intro htot hz
 refine XS.asg' 2 nm2 (by left) (by ac_rfl) ?_
 refine XS.asg' 3 nm3 (by left) (by ac_rfl) ?_
 refine XS.asg' 4 nm4 (by left) (by ac_rfl) ?_
 refine XS.asg' 5 nm5 (by left) (by ac_rfl) ?_
 refine XS.whileV (fun k τ=>∃ (done:Bs) (i:Nat) (begun ended:Bool) (u1 u2 u3:Option V),τ=⟨[some (.obj w),some (.byt o),some (.int o.length),some (.int (i:Nat)),some (.bool begun),some (.bool ended),u1,u2,u3,none,none,none,none,none,none,none,none,none],wadH hp d ba w f blk chk len left sp made dn dk dp dj b done⟩ ∧
   fitS left done.length∧i≤o.length∧tot=done++(if ended then [] else addF blk chk k (len+done.length) begun (o.drop i))∧(ended=false→EnoughN blk k (len+done.length) (o.drop i).length)) (k₀:=2*o.length+2)
  (eq_27 [] 0 false false none none none ⟨?_,fun q=>q,zero_le _,by simp [← htot,addN],fun _=>by simpa using eq_335⟩) ?_
 ·have:wadH hp d ba w f blk chk len left sp made dn dk dp dj b []=hp:=by
   simp only [wadH,length_nil,append_nil,add_zero]
   rw [show lefS left 0=left by unfold lefS; split <;> simp,eq_294 h,eq_294 hb,eq_294 hw]
  rw [this]
 rintro k _ Q1 hR0 nx1 _; refine eq_19 hR0 fun done i begun ended u1 u2 u3 Z1=>?_; clear hR0; obtain ⟨rfl,Z0⟩:=Z1; refine An4 Z0 fun hfit hi ht hen=>?_; clear Z0
 revert nx1 a hfit hi ht hen; revert k Q1 done i begun ended u1 u2 u3; apply s9; generalize T1 _=k,T2 _=Q1,T3 _=done,T4 _=i,T5 _=begun,T6 _=ended,T7 _=u1,T8 _=u2,T9 _=u3; intro nx1 a hfit hi ht hen
 refine ⟨!ended,by wtm_at "pt",fun q=>?_,fun q=>?_⟩
 ·have q:ended=false:=by simpa using q
  subst q
  replace hen:=hen rfl
  rw [if_neg (by simp)] at ht
  obtain ⟨k,rfl⟩:∃ j,k=j+1:=by
   cases k with
   | zero=>unfold EnoughN at hen; split at hen <;> lia
   | succ k=>exact ⟨k,rfl⟩
  exists k; intro nx1 ht hen
  rw [addF] at ht
  have hst:=eq_334 (chk:=chk) (begun:=begun) hk hen
  have hmod:=mod_lt (len+done.length) (show 0<blk by exact sA1 hk)
  have hrl:(o.drop i).length=o.length - i:=length_drop
  have hroom:roomN blk (len+done.length)≤blk∧7≤roomN blk (len+done.length):=⟨by unfold roomN rm0; split <;> lia,eq_331 hk⟩
  have hm1:addM blk (len+done.length) (o.drop i).length≤o.length - i:=by rw [hrl]; exact min_le_left ..
  have htl:tot.length≤10000:=lA1 hz
  have hbl:b.length≤10000:=lA1 hz
  generalize hout:addO blk chk (len+done.length) begun (o.drop i)=out at *
  exists out; intro hout ht hst
  generalize hrest:(if addM blk (len+done.length) (o.drop i).length=(o.drop i).length then [] else addF blk chk k (len+done.length+out.length) true ((o.drop i).drop (addM blk (len+done.length) (o.drop i).length)))=rest at ht
  exists rest; intro hrest ht
  generalize hfr:frag (kindN begun (decide (addM blk (len+done.length) (o.drop i).length=(o.drop i).length))) ((o.drop i).take (addM blk (len+done.length) (o.drop i).length)) chk=fr at *
  exists fr; intro hfr
  have hout2:out=fillN blk (len+done.length)++fr:=by rw [← hout,← hfr]; rfl
  have S0:blk≠0:=fun q_=>eq_5 (lsl hmod) (eqL q_)
  have S1:(len+List.length done) % blk≤blk:=lA1 (lsl hmod)
  refine XS.asg' 6 nm6 (by left) (by ac_rfl) ?_
  refine XS.ifV (fun τ=>fitS left (done++fillN blk (len+done.length)).length∧τ=⟨[some (.obj w),some (.byt o),some (.int o.length),some (.int (i:Nat)),some (.bool begun),some (.bool false),some (.int (roomN blk (len+done.length):Nat)),u2,u3,none,none,none,none,none,none,none,none,none],wadH hp d ba w f blk chk len left sp made dn dk dp dj b (done++fillN blk (len+done.length))⟩) (by wtm_at "pt") (fun q Q2 nx2=>?_) (fun q Q2 nx2=>?_) ?_
  ·have q:rm0 blk (len+done.length)<7:=by unfold rm0; simpa using q
   have S2:rm0 blk (len+List.length done)≤1000000:=lA1 (lsl q)
   refine XS.mexp3 eq_303 (by left) (by right) (.cons (by left) .nil) (eq_427 hw hf h hn hb hs hz done (List.replicate (rm0 blk (len+done.length)) 0) (fr++rest) hfit (by rw [ht,hout2,fillN,if_pos q,append_assoc])) (fun _ q=>q) fun e1=>?_
   refine XS.asg' 6 nm6 (by left) (by ac_rfl) ?_
   refine XS.nil (nx2 _ ⟨by rw [fillN,if_pos q]; exact e1,?_⟩)
   rw [fillN,if_pos q,roomN,if_pos q]
  ·have q:¬ rm0 blk (len+done.length)<7:=by unfold rm0; simpa using q
   refine XS.nil (nx2 _ ⟨by rw [fillN,if_neg q,append_nil]; exact hfit,?_⟩)
   rw [fillN,if_neg q,append_nil,roomN,if_neg q]; rfl
  refine eq_361 fun hfit2=>?_
  generalize hroomg:roomN blk (len+done.length)=room at *
  exists room; intro hroomg hroom
  have hmm:addM blk (len+done.length) (o.drop i).length=Nat.min (o.length - i) (room - 7):=by rw [addM,hrl,hroomg]
  generalize hmg:addM blk (len+done.length) (o.drop i).length=m at *
  exists m; intro hmg hm1 hst hrest hfr hmm
  have hup:Nat.min o.length (i+room - 7)=i+m:=by
   rw [hmm]
   show min _ _=_+min _ _
   rw [Nat.add_sub_assoc hroom.2,← Nat.add_min_add_left,Nat.add_sub_of_le hi]
  have S3:7≤i+room:=lA1 hroom.2
  refine XS.asg' 7 nm7 (PE.cast (by left) (show _=V.int ((i+m:Nat):Int) by rw [hup])) (by ac_rfl) ?_
  refine XS.asg' 5 nm5 (PE.cast (by left) (show _=V.bool (decide (m=(o.drop i).length)) by rw [hrl]; congr 1; rw [Bool.eq_iff_iff]; simp only [decide_eq_true_eq]; exact ⟨fun q0_=>le_antisymm (lA1 hm1) (lA2 (nsa (List.length o) i (lA1 (eqL q0_))) (eqG q0_)),fun q0_=>le_antisymm (lA2 (nsa (List.length o) i (lA1 hi)) (eqL q0_)) (lA2 (nas (List.length o) i) (eqG q0_))⟩)) (by ac_rfl) ?_
  generalize hed:decide (m=(o.drop i).length)=ed at *
  exists ed; intro hed hfr
  refine XS.ifV (fun τ=>τ=⟨[some (.obj w),some (.byt o),some (.int o.length),some (.int (i:Nat)),some (.bool begun),some (.bool ed),some (.int (room:Nat)),some (.int ((i+m:Nat):Int)),some (.int (kindN begun ed:Nat)),none,none,none,none,none,none,none,none,none],wadH hp d ba w f blk chk len left sp made dn dk dp dj b (done++fillN blk (len+done.length))⟩) (PT.bool (by left) (by intro _ _; rfl)) (fun q Q2 nx2=>?_) (fun q Q2 nx2=>?_) ?_
  ·refine XS.asg' 8 nm8 (PE.ite (u:=.int (kindN begun ed:Nat)) (PT.bool (by left) (by intro _ _; rfl)) (fun z=>PE.cast (by left) (by rw [q,z]; rfl)) (fun z=>PE.cast (by left) (by rw [q,z]; rfl))) (by ac_rfl) ?_
   exact XS.nil (nx2 _ rfl)
  ·refine XS.asg' 8 nm8 (PE.ite (u:=.int (kindN begun ed:Nat)) (PT.bool (by left) (by intro _ _; rfl)) (fun z=>PE.cast (by left) (by rw [q,z]; rfl)) (fun z=>PE.cast (by left) (by rw [q,z]; rfl))) (by ac_rfl) ?_
   exact XS.nil (nx2 _ rfl)
  rintro _ rfl
  have hkn:kindN begun ed<256:=by unfold kindN; split <;> split <;> decide
  have S4:((o.drop i).take (i+m - i)).length≤60000:=by rw [length_take,length_drop]; exact lA3 (min_le_right (i+m - i) (List.length o - i)) (sub_le (List.length o) i) hz2
  refine XS.mexp3 eq_303 (by left) (by right) (.cons (PE.cast (PE.pfn (by wtm_at "leaf") eq_184 (by nofun) (eq_376 (by wtm_at "sc") (by wtm_at "sc") (by wtm_at "sc"))) (show _=V.byt fr by rw [← hfr,Nat.add_sub_cancel_left])) .nil) (eq_427 hw hf h hn hb hs hz (done++fillN blk (len+done.length)) fr rest hfit2 (by rw [ht,hout2]; simp only [append_assoc])) (fun _ q=>q) fun e1=>?_
  refine XS.asg' 3 nm3 (by left) (by ac_rfl) ?_
  refine XS.asg' 4 nm4 (by left) (by ac_rfl) ?_
  refine XS.nil (nx1 k _ (lt_succ_self _) (eq_27 (done++out) (i+m) true ed (some (.int (room:Nat))) (some (.int ((i+m:Nat):Int))) (some (.int (kindN begun ed:Nat))) ⟨?_,?_,lA2 (nsa (List.length o) i (lA1 hi)) hm1,?_,?_⟩))
  ·rw [hout2,← append_assoc]
  ·rw [hout2,← append_assoc]; exact e1
  ·rw [ht,← hrest,← hed,append_assoc,length_append,← add_assoc,← drop_drop]
   congr 2
   by_cases z:m=(o.drop i).length
   ·rw [if_pos z,if_pos (decide_eq_true z)]
   ·rw [if_neg z,if_neg (by simpa using z)]
  ·intro z
   rw [length_append,← add_assoc,← drop_drop]
   exact hst (by rw [← hed] at z; simpa using z)
 ·have q:ended=true:=by simpa using q
  subst q
  rw [if_pos rfl,append_nil] at ht
  subst ht
  exact XS.nil ⟨rfl,hfit,rfl⟩
end
section
variable {Γ:Gam} {n:Nat} {hp:HP}
theorem eq_429 {nums:List Nat} {i:Nat} [F:Facts Γ] (h:0<nums.length) (hz:nums.length≤1000):PFC Γ (n+1) 598 [.lst (NL nums),.int i] (.int (drawN nums i)):=PFC.intro (Γ:=Γ) (n:=n) (f:=f_draw) eq_168 eq_285 dK fun hp=>by
 have nm0:=nn eq_108 0
 have nm1:=nn eq_108 1
 have nm2:=nn eq_108 2
 have hl:(NL nums).length=nums.length:=length_map ..
 have S0:(NL nums).length≤1000000:=lA2 (eqL hl) hz
 refine XS.retP (PE.cast (.bop (.itemLN (by left) (PE.cast (.bop (by left) (by left) (BinK.modN (fun q_=>fA3 (lsl h) (eqG hl) (eqL q_)))) (by rw [hl])) (eq_296 (mod_lt _ h)) (lA2 (eqL hl) hz)) (.bop (by left) (.bop (by left) (by left) (BinK.divN (fun q_=>fA3 (lsl h) (eqG hl) (eqL q_)) (sA2 (eqL hl) hz))) (BinK.mulN (.inl dD))) BinK.addN) (by rw [hl]; rfl)) ⟨rfl,rfl⟩
theorem eq_430 {ends:List Nat} {k:Nat} [F:Facts Γ] (h:k≤ends.length) (hz:ends.length≤1000):PFC Γ (n+1) 619 [.lst (NL ends),.int k] (.int (endN ends k)):=PFC.intro (Γ:=Γ) (n:=n) (f:=f_lend) eq_171 eq_288 dK fun hp=>by
 have nm0:=nn eq_111 0
 have nm1:=nn eq_111 1
 refine XS.ifP (by wtm_at "pt") (fun q=>?_) (fun q=>?_)
 ·have q:k=0:=of_decide_eq_true q
  refine XS.retP (PE.cast (by left) (by rw [endN,if_pos q])) ⟨rfl,rfl⟩
 ·have q:k≠0:=of_decide_eq_false q
  have S0:1≤k:=pos_of_ne_zero q
  refine XS.done (XS.retP (PE.cast (.itemLN (i:=k - 1) (by left) (by left) (eq_296 (lt_of_lt_of_le (Nat.sub_lt (pos_of_ne_zero q) dD) h)) (by simp; exact lA1 hz)) (by rw [endN,if_neg q])) ⟨rfl,rfl⟩)
theorem eq_431 (d:Bs):lcrcW 4294967295 d<2 ^ 32:=by rw [← eq_343]; exact eq_346 dD d
noncomputable def bitI:Nat→Nat→Nat
 | 0,c=>c
 | k+1,c=>bitC (bitI k c)
theorem eq_432 {k:Nat} {d:Bs} [F:Facts Γ] (hk:k=1∨k=2) (hz:d.length≤100000):PFC Γ (n+1) 605 [.int k,.byt d] (.int (csumN k d)):=PFC.intro (Γ:=Γ) (n:=n) (f:=f_lchk) eq_169 eq_286 dK fun hp=>by
 have nm0:=nn eq_109 0
 have nm1:=nn eq_109 1
 have nm2:=nn eq_109 2
 have nm3:=nn eq_109 3
 have nm4:=nn eq_109 4
 have nm5:=nn eq_109 5
 have nm6:=nn eq_109 6
 have nm7:=nn eq_109 7
 rw [← eq_350 hk]
 refine XS.ifP (by wtm_at "pt") (fun q=>?_) (fun q=>?_)
 ·have q:k=2:=of_decide_eq_true q
  refine XS.asg' 2 nm2 (by left) (by ac_rfl) ?_
  refine XS.forV 3 nm3 (fun i τ=>∃ oc,τ=⟨[some (.int (k:Nat)),some (.byt d),some (.int (sumN (d.take i):Nat)),oc,none,none,none,none],hp⟩) (XIt.bytes (by left)) ⟨none,by simp [sumN]⟩ ?_ ?_
  ·rintro i _ x Q1 hx ⟨oc,rfl⟩ nx1 _
   rw [getElem?_map] at hx
   refine X12 (Option.map_eq_some_iff.mp hx) fun b hb Z0=>?_; obtain rfl:=Z0
   dsimp only [set_cons_succ,set_cons_zero,id_eq]
   refine XS.aug' 2 nm2 rfl (by left) (IOp.addN) (by ac_rfl) ?_
   refine XS.nil (nx1 _ ⟨some (.int (b.toNat:Nat)),?_⟩)
   rw [take_add_one,hb]
   simp [sumN]
  ·refine eq_358 fun oc=>?_
   refine XS.retP (PE.cast (by left) (by rw [lchkN,if_pos q,length_map,take_length])) ⟨rfl,rfl⟩
 ·have q:¬ k=2:=of_decide_eq_false q
  refine XS.done ?_
  refine XS.asg' 4 nm4 (by left) (by ac_rfl) ?_
  refine XS.forV 3 nm3 (fun i τ=>∃ oc ot,τ=⟨[some (.int (k:Nat)),some (.byt d),none,oc,some (.int (lcrcW 4294967295 (d.take i):Nat)),ot,none,none],hp⟩) (XIt.bytes (by left)) (EI2 none none (by simp; rfl)) ?_ ?_
  ·rintro i _ x Q1 hx ⟨oc,ot,rfl⟩ nx1 _
   rw [getElem?_map] at hx
   refine X12 (Option.map_eq_some_iff.mp hx) fun b hb Z1=>?_; obtain rfl:=Z1
   dsimp only [set_cons_succ,set_cons_zero,id_eq]
   refine XS.asg' 4 nm4 (by left) (by ac_rfl) ?_
   refine XS.forV 5 nm5 (fun j τ=>∃ ot,τ=⟨[some (.int (k:Nat)),some (.byt d),none,some (.int (b.toNat:Nat)),some (.int (bitI j (lcrcW 4294967295 (d.take i) ^^^ b.toNat):Nat)),ot,none,none],hp⟩) (XIt.range1N (by wtm_at "leaf") (by left) dD) ⟨ot,rfl⟩ ?_ ?_
   ·rintro j _ x Q2 hx ⟨ot,rfl⟩ nx2 _
    obtain ⟨hj,rfl⟩:=eq_63 hx
    dsimp only [set_cons_succ,set_cons_zero,id_eq]
    refine XS.ifP (by wtm_at "pt") (fun q=>?_) (fun q=>?_)
    ·have q:bitI j (lcrcW 4294967295 (d.take i) ^^^ b.toNat) % 2=1:=of_decide_eq_true q
     refine XS.asg' 4 nm4 (by left) (by ac_rfl) ?_
     refine XS.done (XS.nil (nx2 _ ⟨some (.int ((0+j*1:Nat):Int)),?_⟩))
     rw [bitI,bitC,if_pos q]
    ·have q:¬ bitI j (lcrcW 4294967295 (d.take i) ^^^ b.toNat) % 2=1:=of_decide_eq_false q
     refine XS.asg' 4 nm4 (by left) (by ac_rfl) ?_
     refine XS.done (XS.nil (nx2 _ ⟨some (.int ((0+j*1:Nat):Int)),?_⟩))
     rw [bitI,bitC,if_neg q]
   ·refine eq_358 fun ot=>?_
    refine XS.nil (nx1 _ (EI2 (some (.int (b.toNat:Nat))) ot ?_))
    rw [eq_64,take_add_one,hb]
    simp [lcrcW,bitI,bit8,foldl_append]
  ·refine eq_359 fun oc ot=>?_
   rw [length_map,take_length]
   have hlt:=eq_431 d
   have S0:lcrcW 4294967295 d≤4294967295:=lA1 (lsl hlt)
   refine XS.asg' 4 nm4 (by left) (by ac_rfl) ?_
   refine XS.retP (PE.cast (by left) (by rw [lchkN,if_neg q])) ⟨rfl,rfl⟩
theorem eq_433 {α:Type} {l:List α} (h:l.length=7):∃ a b c d e f g,l=[a,b,c,d,e,f,g]:=eq_59 (P:=fun l=>∃ a b c d e f g,l=[a,b,c,d,e,f,g]) h fun a b c d e f g=>(eq_27 a b c d e f g rfl)
theorem eq_434 {α:Type} {l:List α} {n:Nat} (h:l.length=n+1):∃ a t,l=a :: t∧t.length=n:=by
 cases l with
 | nil=>cases h
 | cons a t=>exact (EI2 a t ⟨rfl,Nat.succ.inj h⟩)
theorem eq_435 {α:Type} {l:List α} (h:l.length=11):∃ a b c d e f g i j k m,l=[a,b,c,d,e,f,g,i,j,k,m]:=by
 refine Ex2 (eq_434 h) fun a t1 Z0=>?_; obtain ⟨rfl,h1⟩:=Z0
 refine Ex2 (eq_434 h1) fun b t2 Z1=>?_; obtain ⟨rfl,h2⟩:=Z1
 refine Ex2 (eq_434 h2) fun c t3 Z2=>?_; obtain ⟨rfl,h3⟩:=Z2
 refine Ex2 (eq_434 h3) fun d t4 Z3=>?_; obtain ⟨rfl,h4⟩:=Z3
 refine eq_19 (eq_433 h4) fun e f g i j k m Z4=>?_; obtain rfl:=Z4
 exact (eq_28 a b c d e f g i ⟨j,k,m,rfl⟩)
theorem eq_436 (out:Bs) (k:Nat) (h:k<256):OL out++[V.int (k:Int)]=OL (out++[k.toUInt8]):=by
 rw [OL,OL,map_append]
 simp [mod_eq_of_lt h]
noncomputable abbrev layH (hp:HP) (oa pa ea:Addr) (out:Bs) (pcs:List (Nat × Nat × Nat)) (ends:List Nat):HP:=upd (upd (upd hp oa (.list (OL out))) pa (.list (PL pcs))) ea (.list (NL ends))
noncomputable def tvN (T j:Nat):Nat:=match j with | 0=>T | 1=>T / 256 | 2=>T / 256 / 256 | 3=>T / 256 / 256 / 256 | _=>T / 256 / 256 / 256 / 256
theorem eq_437 {recs:List Bs} {blk chk:Nat} [F:Facts Γ] (hk:8≤blk) (hk2:blk≤1000) (hc:chk=1∨chk=2) (hr:recs.length≤100) (hr2:∀ x∈recs,x.length≤1000) (hz:(layO blk chk 0 recs).length≤10000) :
  PFC Γ (n+2) 612 [.lst (BL recs),.int blk,.int chk] (.tup [.byt (layO blk chk 0 recs),.lst (PL (layP blk chk 0 0 recs)),.lst (NL (layE blk chk 0 recs))]):=by
 revert F hk hk2 hc hr hr2 hz; revert Γ n recs blk chk; apply s5; generalize T1 _=Γ,T2 _=n,T3 _=recs,T4 _=blk,T5 _=chk; intro F hk hk2 hc hr hr2 hz
 refine PFC.intro (Γ:=Γ) (n:=n+1) (f:=f_lay) eq_170 eq_287 dK fun hp=>?_
 exists hp
 have nm0:=nn eq_110 0
 have nm1:=nn eq_110 1
 have nm2:=nn eq_110 2
 have nm3:=nn eq_110 3
 have nm4:=nn eq_110 4
 have nm5:=nn eq_110 5
 have nm6:=nn eq_110 6
 have nm7:=nn eq_110 7
 have nm8:=nn eq_110 8
 have nm9:=nn eq_110 9
 have nm10:=nn eq_110 10
 have nm11:=nn eq_110 11
 have nm12:=nn eq_110 12
 have nm13:=nn eq_110 13
 have nm14:=nn eq_110 14
 have nm15:=nn eq_110 15
 have nm16:=nn eq_110 16
 have nm17:=nn eq_110 17
 have nm18:=nn eq_110 18
 have nm19:=nn eq_110 19
 have nm20:=nn eq_110 20
 refine XS.asgC' 3 nm3 (XE.list' .nil dD fun oa hoa=>?_)
 exists oa; intro hoa
 wtm_at "ds"
 refine XS.asgC' 4 nm4 (XE.list' .nil dD fun pa hpa=>?_)
 exists pa; intro hpa
 wtm_at "ds"
 refine XS.asgC' 5 nm5 (XE.list' .nil dD fun ea hea=>?_)
 exists ea; intro hea
 wtm_at "ds"
 simp only [eq_388] at hpa hea
 obtain ⟨a1,a2⟩:=hpa
 refine An3 hea fun a3 a4 a5=>?_; clear hea
 have hO:∀ {o p e o'},upd (layH hp oa pa ea o p e) oa (.list (OL o'))=layH hp oa pa ea o' p e:=fun {o p e o'}=>eq_353 (Ne.symm a1) (Ne.symm a4) (Ne.symm a3)
 have hP:∀ {o p e p'},upd (layH hp oa pa ea o p e) pa (.list (PL p'))=layH hp oa pa ea o p' e:=fun {o p e p'}=>eq_354 (Ne.symm a3)
 have hE:∀ {o p e e'},upd (layH hp oa pa ea o p e) ea (.list (NL e'))=layH hp oa pa ea o p e':=fun {o p e e'}=>eq_39
 have gO:∀ {o p e},layH hp oa pa ea o p e oa=some (.list (OL o)):=fun {o p e}=>(Y57 (Ne.symm a4)).trans ((Y57 (Ne.symm a1)).trans Y56)
 have gP:∀ {o p e},layH hp oa pa ea o p e pa=some (.list (PL p)):=fun {o p e}=>(Y57 (Ne.symm a3)).trans Y56
 have gE:∀ {o p e},layH hp oa pa ea o p e ea=some (.list (NL e)):=fun {o p e}=>Y56
 have hrl:(BL recs).length=recs.length:=length_map ..
 have S0:(BL recs).length≤1000000:=lA2 (eqL hrl) hr
 refine XS.forV 6 nm6 (fun r τ=>∃ (out:Bs) (pcs:List (Nat × Nat × Nat)) (ends:List Nat) (us:List (Option V)),us.length=11∧τ=⟨[some (.lst (BL recs)),some (.int (blk:Nat)),some (.int (chk:Nat)),some (.obj oa),some (.obj pa),some (.obj ea)]++us++[none,none,none,none],layH hp oa pa ea out pcs ends⟩ ∧
   layO blk chk 0 recs=out++layO blk chk out.length (recs.drop r)∧layP blk chk 0 0 recs=pcs++layP blk chk r out.length (recs.drop r)∧layE blk chk 0 recs=ends++layE blk chk out.length (recs.drop r)∧ends.length=r∧pcs.length≤out.length) (XIt.range1N (b:=recs.length) (by wtm_at "leaf") (PE.cast (by left) (by rw [hrl])) (lA1 hr))
  (EI4 [] [] [] [none,none,none,none,none,none,none,none,none,none,none] ⟨rfl,rfl,rfl,rfl,rfl,rfl,le_refl _⟩) ?_ ?_
 ·rintro r _ x Q1 hx hR0 nx1 _; refine Ex4 hR0 fun out pcs ends us Z0=>?_; clear hR0; refine An2 Z0 fun hus Z8=>?_; clear Z0; obtain ⟨rfl,Z1⟩:=Z8; refine An5 Z1 fun H1 H2 H3 H4 H5=>?_; clear Z1
  revert hx nx1 a hus H1 H2 H3 H4 H5; revert r x Q1 out pcs ends us; apply s7; generalize T1 _=r,T2 _=x,T3 _=Q1,T4 _=out,T5 _=pcs,T6 _=ends,T7 _=us; intro hx nx1 a hus H1 H2 H3 H4 H5
  obtain ⟨hr0,rfl⟩:=eq_63 hx
  refine Ex8 (eq_435 hus) fun u1 u2 u3 u4 u5 u6 u7 u8 Z2=>?_; refine Ex3 Z2 fun u9 u10 u11 Z9=>?_; clear Z2; obtain rfl:=Z9
  revert u1 u2 u3 u4 u5 u6 u7 u8 u9 u10 u11; apply s11; generalize T1 _=u1,T2 _=u2,T3 _=u3,T4 _=u4,T5 _=u5,T6 _=u6,T7 _=u7,T8 _=u8,T9 _=u9,T10 _=u10,T11 _=u11; intro hus
  dsimp only [set_cons_succ,set_cons_zero,id_eq,cons_append,nil_append]
  have hd:=drop_eq_getElem_cons hr0
  have hx0:recs[r]?=some recs[r]:=getElem?_eq_getElem hr0
  have hxm:recs[r]∈recs:=getElem_mem hr0
  generalize recs[r]=rc at *
  exists rc; intro hd hx0 hxm
  rw [hd,layO] at H1
  rw [hd,layP] at H2
  rw [hd,layE] at H3
  have hrc:=hr2 rc hxm
  refine XS.asg' 7 nm7 (.itemLN (i:=r) (by left) (PE.cast (by left) (by simp)) (by rw [getElem?_map,hx0]; rfl) (lA2 (eqL hrl) hr)) (by ac_rfl) ?_
  refine XS.asg' 8 nm8 (by left) (by ac_rfl) ?_
  refine XS.asg' 9 nm9 (by left) (by ac_rfl) ?_
  have htl:out.length+(addN blk chk out.length rc).length≤10000:=by
   have:=congrArg List.length H1
   simp only [length_append] at this; exact lA2 (eqG this) hz
  generalize htot:addN blk chk out.length rc=tot at *
  exists tot; intro htot H3 H2 H1 htl
  generalize hpt:pcsN blk r out.length rc=pt at *
  exists pt; intro hpt H2
  refine XS.whileV (fun k τ=>∃ (done:Bs) (pd:List (Nat × Nat × Nat)) (rest:Bs) (first going:Bool) (us:List (Option V)),us.length=7∧τ=⟨[some (.lst (BL recs)),some (.int (blk:Nat)),some (.int (chk:Nat)),some (.obj oa),some (.obj pa),some (.obj ea),some (.int ((0+r*1:Nat):Int)),some (.byt rest),some (.bool first),some (.bool going)]++us++[none,none,none,none],layH hp oa pa ea (out++done) (pcs++pd) ends⟩ ∧
    tot=done++(if going then addF blk chk k (out.length+done.length) (!first) rest else [])∧pt=pd++(if going then pcsF blk r k (out.length+done.length) rest else [])∧(going=true→EnoughN blk k (out.length+done.length) rest.length)∧pd.length≤done.length∧rest.length≤1000) (k₀:=2*rc.length+2)
   (eq_26 [] [] rc true true [u5,u6,u7,u8,u9,u10,u11] ⟨rfl,by simp only [append_nil]; rfl,by simpa [addN] using htot.symm,by simpa [pcsN] using hpt.symm,fun _=>eq_335,le_refl _,hrc⟩) ?_
  rintro k _ Q2 hR0 nx2 _; refine eq_18 hR0 fun done pd rest first going us Z3=>?_; clear hR0; refine An2 Z3 fun hus Z10=>?_; clear Z3; obtain ⟨rfl,Z4⟩:=Z10; refine An5 Z4 fun h1 h2 hen h6 hrl2=>?_; clear Z4
  revert nx2 a_1 hus h1 h2 hen h6 hrl2; revert k Q2 done pd rest first going us; apply s8; generalize T1 _=k,T2 _=Q2,T3 _=done,T4 _=pd,T5 _=rest,T6 _=first,T7 _=going,T8 _=us; intro nx2 a_1 hus h1 h2 hen h6 hrl2
  refine eq_19 (eq_433 hus) fun u5 u6 u7 u8 u9 u10 u11 Z11=>?_; obtain rfl:=Z11
  revert u5 u6 u7 u8 u9 u10 u11; apply s7; generalize T1 _=u5,T2 _=u6,T3 _=u7,T4 _=u8,T5 _=u9,T6 _=u10,T7 _=u11; intro hus
  dsimp only [cons_append,nil_append]
  refine ⟨going,PT.bool (by left) (by intro _ _; rfl),fun q=>?_,fun q=>?_⟩
  ·subst q
   replace hen:=hen rfl
   rw [if_pos rfl] at h1 h2
   obtain ⟨k,rfl⟩:∃ j,k=j+1:=by
    cases k with
    | zero=>unfold EnoughN at hen; split at hen <;> lia
    | succ k=>exact ⟨k,rfl⟩
   exists k; intro nx2 h1 h2 hen
   rw [addF] at h1
   rw [pcsF] at h2
   have hol:=eq_332 (blk:=blk) (chk:=chk) (len:=out.length+done.length) (begun:=!first) (rest:=rest)
   have hst:=eq_334 (chk:=chk) (begun:=!first) hk hen
   have hlen1:(OL (out++done)).length=out.length+done.length:=by simp
   have hdl:done.length≤tot.length:=by rw [h1]; simp
   have hD:out.length+done.length≤10000:=Nat.le_trans (add_le_add_left hdl _) htl
   have hmod:=mod_lt (out.length+done.length) (show 0<blk by exact sA1 hk)
   have hroom:roomN blk (out.length+done.length)≤blk∧7≤roomN blk (out.length+done.length):=⟨by unfold roomN rm0; split <;> lia,eq_331 hk⟩
   have hm1:addM blk (out.length+done.length) rest.length≤rest.length:=min_le_left ..
   have S1:(OL (out++done)).length≤1000000:=lA2 (eqL hlen1) hD
   have S2:blk≠0:=fun q_=>eq_5 (lsl hmod) (eqL q_)
   have S3:(OL (out++done)).length % blk≤blk:=Nat.le_of_lt (mod_lt _ (sA1 hk))
   refine XS.asg' 10 nm10 (PE.cast (by left) (show _=V.int ((rm0 blk (out.length+done.length):Nat):Int) by rw [hlen1]; rfl)) (by ac_rfl) ?_
   refine XS.ifV (fun τ=>∃ ut,τ=⟨[some (.lst (BL recs)),some (.int (blk:Nat)),some (.int (chk:Nat)),some (.obj oa),some (.obj pa),some (.obj ea),some (.int ((0+r*1:Nat):Int)),some (.byt rest),some (.bool first),some (.bool true),some (.int (roomN blk (out.length+done.length):Nat)),ut,u7,u8,u9,u10,u11,none,none,none,none],layH hp oa pa ea (out++done++fillN blk (out.length+done.length)) (pcs++pd) ends⟩) (by wtm_at "pt") (fun q Q3 nx3=>?_) (fun q Q3 nx3=>?_) ?_
   ·exists Q3; intro nx3
    have q:rm0 blk (out.length+done.length)<7:=of_decide_eq_true q
    refine XS.forV 11 nm11 (fun j τ=>∃ ut,τ=⟨[some (.lst (BL recs)),some (.int (blk:Nat)),some (.int (chk:Nat)),some (.obj oa),some (.obj pa),some (.obj ea),some (.int ((0+r*1:Nat):Int)),some (.byt rest),some (.bool first),some (.bool true),some (.int (rm0 blk (out.length+done.length):Nat)),ut,u7,u8,u9,u10,u11,none,none,none,none],layH hp oa pa ea (out++done++List.replicate j 0) (pcs++pd) ends⟩) (XIt.range1N (by wtm_at "leaf") (by left) (lA1 (lsl q))) ⟨u6,by rw [List.replicate_zero,append_nil]⟩ ?_ ?_
    ·rintro j _ x Q4 hx ⟨ut,rfl⟩ nx4 _
     obtain ⟨hj,rfl⟩:=eq_63 hx
     dsimp only [set_cons_succ,set_cons_zero,id_eq]
     refine XS.app' (by left) gO (by left) (by simp; exact lA3 (lsl hj) (lsl q) hD) ?_
     rw [eq_436 _ _ dD,hO]
     refine XS.nil (nx4 _ ⟨some (.int ((0+j*1:Nat):Int)),?_⟩)
     rw [List.replicate_succ',← append_assoc]; rfl
    ·refine eq_358 fun ut=>?_
     refine XS.asg' 10 nm10 (by left) (by ac_rfl) ?_
     refine XS.nil (nx3 _ ⟨ut,?_⟩)
     rw [eq_64,fillN,if_pos q,roomN,if_pos q]
   ·have q:¬ rm0 blk (out.length+done.length)<7:=of_decide_eq_false q
    refine XS.nil (nx3 _ ⟨u6,?_⟩)
    rw [fillN,if_neg q,append_nil,roomN,if_neg q]
   refine eq_358 fun ut=>?_
   exists ut
   have hfl:(fillN blk (out.length+done.length)).length≤7:=by
    unfold fillN; split
    ·rw [length_replicate]; lia
    ·exact zero_le _
   generalize hout:addO blk chk (out.length+done.length) (!first) rest=o1 at *
   exists o1; intro hout h1 hol hst
   have hout2:o1=fillN blk (out.length+done.length)++frag (kindN (!first) (decide (addM blk (out.length+done.length) rest.length=rest.length))) (rest.take (addM blk (out.length+done.length) rest.length)) chk:=by rw [← hout]; rfl
   have hm2:addM blk (out.length+done.length) rest.length=Nat.min rest.length (roomN blk (out.length+done.length) - 7):=rfl
   generalize addM blk (out.length+done.length) rest.length=m at *
   exists m; intro h2 hm1 h1 hol hst hout2 hm2
   generalize roomN blk (out.length+done.length)=room at *
   exists room; intro hroom hm2
   generalize fillN blk (out.length+done.length)=fill at *
   exists fill; intro hfl h2 hol hout2
   have htk:rest.take (room - 7)=rest.take m:=by
    rw [hm2]; show _=rest.take (min _ _)
    rcases le_total rest.length (room - 7) with z | z
    ·rw [min_eq_left z,take_of_length_le z,take_length]
    ·rw [min_eq_right z]
   have hdr:rest.drop (room - 7)=rest.drop m:=by
    rw [hm2]; show _=rest.drop (min _ _)
    rcases le_total rest.length (room - 7) with z | z
    ·rw [min_eq_left z,drop_of_length_le z,drop_length]
    ·rw [min_eq_right z]
   have S4:7≤room:=lA1 hroom.2
   refine XS.asg' 12 nm12 (PE.cast (.uptoB (by left) (by left) (lA1 hrl2)) (by rw [htk])) (by ac_rfl) ?_
   have S5:7≤room:=lA1 hroom.2
   refine XS.asg' 7 nm7 (PE.cast (.fromB (by left) (by left) (lA1 hrl2)) (by rw [hdr])) (by ac_rfl) ?_
   have hdl2:(rest.drop m).length=rest.length - m:=length_drop
   refine XS.asg' 9 nm9 (PE.cast (.cmp (.lenB (by wtm_at "leaf") (by left) (lA3 (eqL hdl2) (sub_le (List.length rest) m) hrl2)) (by left) CmpOk.gtN) (show _=V.bool (!decide (m=rest.length)) by rw [hdl2]; congr 1; rw [Bool.eq_iff_iff]; simp; exact ⟨fun q0_=>fun q_=>fA3 (nsa (List.length rest) m (lA1 hm1)) (lsl q0_) (eqG q_),fun q0_=>Nat.sub_pos_of_lt (lt_of_le_of_ne (lA1 hm1) q0_)⟩)) (by ac_rfl) ?_
   generalize hed:decide (m=rest.length)=ed at *
   exists ed; intro hed hout2
   generalize hkn:kindN (!first) ed=kd at *
   exists kd; intro hkn hout2
   have hkd:kd<256:=by rw [← hkn]; unfold kindN; split <;> split <;> decide
   refine XS.ifV (fun τ=>τ=⟨[some (.lst (BL recs)),some (.int (blk:Nat)),some (.int (chk:Nat)),some (.obj oa),some (.obj pa),some (.obj ea),some (.int ((0+r*1:Nat):Int)),some (.byt (rest.drop m)),some (.bool first),some (.bool (!ed)),some (.int (room:Nat)),ut,some (.byt (rest.take m)),some (.int (kd:Nat)),u9,u10,u11,none,none,none,none],layH hp oa pa ea (out++done++fill) (pcs++pd) ends⟩) (PT.bool (by left) (by intro _ _; rfl)) (fun q Q3 nx3=>?_) (fun q Q3 nx3=>?_) ?_
   ·refine XS.asg' 13 nm13 (PE.ite (u:=.int (kd:Nat)) (PT.bool (by left) (by intro _ _; rfl)) (fun z=>PE.cast (by left) (by rw [← hkn,q,show ed=false by simpa using z]; rfl)) (fun z=>PE.cast (by left) (by rw [← hkn,q,show ed=true by simpa using z]; rfl))) (by ac_rfl) ?_
    exact XS.nil (nx3 _ rfl)
   ·refine XS.asg' 13 nm13 (PE.ite (u:=.int (kd:Nat)) (PT.bool (by left) (by intro _ _; rfl)) (fun z=>PE.cast (by left) (by rw [← hkn,q,show ed=false by simpa using z]; rfl)) (fun z=>PE.cast (by left) (by rw [← hkn,q,show ed=true by simpa using z]; rfl))) (by ac_rfl) ?_
    exact XS.nil (nx3 _ rfl)
   rintro _ rfl
   refine XS.asg' 8 nm8 (by left) (by ac_rfl) ?_
   have hol2:(OL (out++done++fill)).length=out.length+done.length+fill.length:=by simp; exact eq_11
   refine XS.asg' 14 nm14 (PE.cast (.lenO (by wtm_at "leaf") (by left) gO (lA3 (eqL hol2) hfl hD)) (by rw [hol2])) (by ac_rfl) ?_
   have hb1:∀ j∈[kd],j<256:=by simpa using hkd
   have hpl:(rest.take m).length=m:=by rw [length_take]; exact (le_total m (List.length rest)).elim (fun m0_=>le_antisymm (lA1 (eqL (min_eq_left m0_))) (lA1 (eqG (min_eq_left m0_)))) (fun m0_=>le_antisymm (lA1 (min_le_left m (List.length rest))) (lA2 hm1 (eqG (min_eq_right m0_))))
   have hbl:(nB [kd]++rest.take m).length≤100000:=by rw [length_append,hpl]; simp [nB]; exact lA2 hm1 hrl2
   have hT:=eq_351 chk (nB [kd]++rest.take m)
   generalize hTg:csumN chk (nB [kd]++rest.take m)=T at *
   exists T; intro hTg hT
   refine XS.asg' 15 nm15 (PE.cast (.pfn (by wtm_at "leaf") eq_188 (.cons (by left) (.cons (.bop (.bytesN (l:=[kd]) (by wtm_at "leaf") (PE.cast (by left) (by exact rfl)) hb1 (by simp)) (by left) (PE.addBK (by simp [nB]; exact lA2 (min_le_right m (List.length rest)) hrl2))) .nil)) (eq_432 hc hbl)) (by rw [hTg])) (by ac_rfl) ?_
   have hpt4:put32 T=nB [T % 256,T / 256 % 256,T / 256 / 256 % 256,T / 256 / 256 / 256 % 256]:=eq_352 hT
   refine XS.forV 11 nm11 (fun j τ=>∃ ut,τ=⟨[some (.lst (BL recs)),some (.int (blk:Nat)),some (.int (chk:Nat)),some (.obj oa),some (.obj pa),some (.obj ea),some (.int ((0+r*1:Nat):Int)),some (.byt (rest.drop m)),some (.bool false),some (.bool (!ed)),some (.int (room:Nat)),ut,some (.byt (rest.take m)),some (.int (kd:Nat)),some (.int ((out.length+done.length+fill.length:Nat):Int)),some (.int (tvN T j:Nat)),u11,none,none,none,none],layH hp oa pa ea (out++done++fill++(put32 T).take j) (pcs++pd) ends⟩) (XIt.range1N (by wtm_at "leaf") (by left) dD) ⟨ut,by rw [take_zero,append_nil]; rfl⟩ ?_ ?_
   ·rintro j _ x Q4 hx ⟨ut,rfl⟩ nx4 _
    revert hx nx4 a_2; revert j x Q4 ut; apply s4; generalize T1 _=j,T2 _=x,T3 _=Q4,T4 _=ut; intro hx nx4 a_2
    obtain ⟨hj,rfl⟩:=eq_63 hx
    have hj:j<4:=hj
    dsimp only [set_cons_succ,set_cons_zero,id_eq]
    refine XS.app' (by left) gO (by left) (by simp only [length_map,length_append,length_take]; exact eq_1 (min_le_left j (List.length (put32 T))) (lsl hj) hfl hD) ?_
    rw [eq_436 _ _ (mod_lt _ dD),hO]
    refine XS.asg' 15 nm15 (by left) (by ac_rfl) ?_
    refine XS.nil (nx4 _ ⟨some (.int ((0+j*1:Nat):Int)),?_⟩)
    have e1:(put32 T).take (j+1)=(put32 T).take j++[(tvN T j % 256).toUInt8]:=by
     rw [hpt4]
     match j,hj with
     | 0,_ | 1,_ | 2,_ | 3,_=>rfl
    have e2:tvN T (j+1)=tvN T j / 256:=by
     match j,hj with
     | 0,_ | 1,_ | 2,_ | 3,_=>rfl
    rw [e1,e2,← append_assoc]
   refine eq_358 fun ut2=>?_
   exists ut2
   rw [eq_64,show (put32 T).take 4=put32 T from rfl]
   have S6:(take m rest).length≤1000000:=lA3 (eqL hpl) hm1 hrl2
   refine XS.app' (by left) gO (by left) (by simp only [length_map,length_append,length_cons,length_nil,show (put32 T).length=4 from rfl]; exact lA2 hfl hD) ?_
   rw [eq_436 _ _ (mod_lt _ dD),hO]
   have S7:(take m rest).length≤1000000:=lA3 (eqL hpl) hm1 hrl2
   refine XS.app' (by left) gO (by left) (by simp only [length_map,length_append,length_cons,length_nil,show (put32 T).length=4 from rfl]; exact lA2 hfl hD) ?_
   rw [eq_436 _ _ (div_lt_of_lt_mul (show (rest.take m).length<256*256 by rw [hpl]; exact sA2 hm1 hrl2)),hO]
   refine XS.app' (by left) gO (by left) (by simp only [length_map,length_append,length_cons,length_nil,show (put32 T).length=4 from rfl]; exact lA2 hfl hD) ?_
   rw [eq_436 _ _ hkd,hO]
   generalize hhead:out++done++fill++put32 T++[((rest.take m).length % 256).toUInt8]++[((rest.take m).length / 256).toUInt8]++[kd.toUInt8]=head
   exists head; intro hhead
   have hhl:head.length=out.length+done.length+fill.length+7:=by rw [← hhead]; simp only [length_append,length_cons,length_nil,show (put32 T).length=4 from rfl]
   refine XS.forV 16 nm16 (fun j τ=>∃ uo,τ=⟨[some (.lst (BL recs)),some (.int (blk:Nat)),some (.int (chk:Nat)),some (.obj oa),some (.obj pa),some (.obj ea),some (.int ((0+r*1:Nat):Int)),some (.byt (rest.drop m)),some (.bool false),some (.bool (!ed)),some (.int (room:Nat)),ut2,some (.byt (rest.take m)),some (.int (kd:Nat)),some (.int ((out.length+done.length+fill.length:Nat):Int)),some (.int (tvN T 4:Nat)),uo,none,none,none,none],layH hp oa pa ea (head++(rest.take m).take j) (pcs++pd) ends⟩) (XIt.bytes (by left)) ⟨u11,by rw [take_zero,append_nil]⟩ ?_ ?_
   ·rintro j _ x Q4 hx ⟨uo,rfl⟩ nx4 _
    revert hx nx4 a_2; revert j x Q4 uo; apply s4; generalize T1 _=j,T2 _=x,T3 _=Q4,T4 _=uo; intro hx nx4 a_2
    rw [getElem?_map] at hx
    refine X12 (Option.map_eq_some_iff.mp hx) fun b hb Z12=>?_; obtain rfl:=Z12
    dsimp only [set_cons_succ,set_cons_zero,id_eq]
    refine XS.app' (by left) gO (by left) (by simp only [length_map,length_append,length_take]; exact eq_7 (eqL hhl) (min_le_right j (min m (List.length rest))) (min_le_right m (List.length rest)) hrl2 hfl hD) ?_
    rw [eq_436 _ _ (UInt8.toNat_lt b),hO]
    refine XS.nil (nx4 _ ⟨some (.int (b.toNat:Nat)),?_⟩)
    rw [take_add_one (l:=rest.take m),hb,← append_assoc]
    simp
   refine eq_358 fun uo=>?_
   exists uo
   rw [length_map,take_length]
   have hfin:head++rest.take m=out++(done++o1):=by
    rw [hout2,← hhead,frag,hTg]
    simp [nB,append_assoc]
   have hlen2:(OL (head++rest.take m)).length=out.length+done.length+fill.length+7+m:=by
    rw [length_map,length_append,hhl,hpl]
   refine XS.app' (x:=.tup [.int (r:Nat),.int ((out.length+done.length+fill.length:Nat):Int),.int ((out.length+done.length+fill.length+7+m:Nat):Int)]) (by left) gP (PE.tuple (.cons (PE.cast (by left) (by simp)) (.cons (by left) (.cons (PE.cast (.lenO (by wtm_at "leaf") (by left) gO (eq_2 (eqL hlen2) hfl hD hm1 hrl2)) (by rw [hlen2])) .nil))) (by simp)) (by simp only [length_map,length_append]; exact lA3 H5 h6 hD) ?_
   rw [show PL (pcs++pd)++[V.tup [.int (r:Nat),.int ((out.length+done.length+fill.length:Nat):Int),.int ((out.length+done.length+fill.length+7+m:Nat):Int)]]=PL (pcs++(pd++[(r,out.length+done.length+fill.length,out.length+done.length+fill.length+7+m)])) by simp [PL],hP,hfin]
   refine XS.nil (nx2 k _ (lt_succ_self _) ⟨done++o1,pd++[(r,out.length+done.length+fill.length,out.length+done.length+fill.length+7+m)],rest.drop m,false,!ed,[some (.int (room:Nat)),ut2,some (.byt (rest.take m)),some (.int (kd:Nat)),some (.int ((out.length+done.length+fill.length:Nat):Int)),some (.int (tvN T 4:Nat)),uo],rfl,rfl,?_,?_,?_,?_,?_⟩)
   ·rw [h1,append_assoc,length_append,← add_assoc,← hed]
    congr 2
    by_cases z:m=rest.length
    ·rw [if_pos z,if_neg (by simp [z])]
    ·rw [if_neg z,if_pos (by simp [z])]; rfl
   ·rw [h2,append_assoc,length_append,← add_assoc,← hed,hol]
    congr 1
    show _=[_]++_
    rw [List.singleton_append]
    congr 1
    by_cases z:m=rest.length
    ·rw [if_pos z,if_neg (by simp [z])]
    ·rw [if_neg z,if_pos (by simp [z])]
     congr 1
     exact eq_11
   ·intro z
    rw [length_append,← add_assoc]
    exact hst (by rw [← hed] at z; simpa using z)
   ·simp only [length_append,length_cons,length_nil]; exact lA2 h6 (eqG hol)
   ·rw [hdl2]; exact lA2 (sub_le (List.length rest) m) hrl2
  ·subst q
   rw [if_neg (by simp),append_nil] at h1 h2
   subst h1 h2
   have hlen3:(OL (out++tot)).length=out.length+tot.length:=by simp
   refine XS.app' (x:=.int ((out.length+tot.length:Nat):Int)) (by left) gE (PE.cast (.lenO (by wtm_at "leaf") (by left) gO (lA2 (eqL hlen3) htl)) (by rw [hlen3])) (by simp; exact lA3 (eqL H4) (lsl hr0) hr) ?_
   rw [show NL ends++[V.int ((out.length+tot.length:Nat):Int)]=NL (ends++[out.length+tot.length]) by simp [NL],hE]
   refine XS.nil (nx1 _ (EI4 (out++tot) (pcs++pt) (ends++[out.length+tot.length]) [some (.int ((0+r*1:Nat):Int)),some (.byt rest),some (.bool first),some (.bool false),u5,u6,u7,u8,u9,u10,u11] ⟨rfl,rfl,?_,?_,?_,?_,?_⟩))
   ·rw [H1,append_assoc,length_append]
   ·rw [H2,append_assoc,length_append]
   ·rw [H3,append_assoc,length_append]; rfl
   ·rw [length_append,H4]; rfl
   ·simp only [length_append]; exact lA2 H5 h6
 ·rintro _ hR0; refine Ex4 hR0 fun out pcs ends us Z5=>?_; clear hR0; refine An2 Z5 fun hus Z13=>?_; clear Z5; obtain ⟨rfl,Z6⟩:=Z13; refine An5 Z6 fun H1 H2 H3 H4 H5=>?_; clear Z6
  revert out pcs ends us; apply s4; generalize T1 _=out,T2 _=pcs,T3 _=ends,T4 _=us; intro hus H1 H2 H3 H4 H5
  rw [eq_64] at *
  refine Ex8 (eq_435 hus) fun u1 u2 u3 u4 u5 u6 u7 u8 Z7=>?_; refine Ex3 Z7 fun u9 u10 u11 Z14=>?_; clear Z7; obtain rfl:=Z14
  revert u1 u2 u3 u4 u5 u6 u7 u8 u9 u10 u11; apply s11; generalize T1 _=u1,T2 _=u2,T3 _=u3,T4 _=u4,T5 _=u5,T6 _=u6,T7 _=u7,T8 _=u8,T9 _=u9,T10 _=u10,T11 _=u11; intro hus
  dsimp only [cons_append,nil_append]
  rw [drop_length,layO,append_nil] at H1
  revert u1 u2 u3 u4 u5 u6 u7 u8 u9 u10 u11; apply s11; generalize T1 _=u1,T2 _=u2,T3 _=u3,T4 _=u4,T5 _=u5,T6 _=u6,T7 _=u7,T8 _=u8,T9 _=u9,T10 _=u10,T11 _=u11; intro hus
  rw [drop_length,layP,append_nil] at H2
  revert u1 u2 u3 u4 u5 u6 u7 u8 u9 u10 u11; apply s11; generalize T1 _=u1,T2 _=u2,T3 _=u3,T4 _=u4,T5 _=u5,T6 _=u6,T7 _=u7,T8 _=u8,T9 _=u9,T10 _=u10,T11 _=u11; intro hus
  rw [drop_length,layE,append_nil] at H3
  revert u1 u2 u3 u4 u5 u6 u7 u8 u9 u10 u11; apply s11; generalize T1 _=u1,T2 _=u2,T3 _=u3,T4 _=u4,T5 _=u5,T6 _=u6,T7 _=u7,T8 _=u8,T9 _=u9,T10 _=u10,T11 _=u11; intro hus
  rw [H1,H2,H3]
  have hz':out.length≤10000:=by rw [← H1]; exact hz
  refine XS.freeze' 4 gP rfl (by ac_rfl) ?_
  refine XS.freeze' 5 ((if_neg a3).trans gE) rfl (by ac_rfl) ?_
  refine XS.freeze' 3 ((if_neg (Ne.symm a4)).trans ((if_neg (Ne.symm a1)).trans gO)) rfl (by ac_rfl) ?_
  refine XS.less (hp':=hp) (fun a o q=>(if_neg (Y143 q hoa)).trans ((if_neg (Y143 q a5)).trans ((if_neg (Y143 q a2)).trans ((Y57 (Y143 q a5)).trans ((Y57 (Y143 q a2)).trans ((Y57 (Y143 q hoa)).trans q)))))) ?_
  have e1:nB (out.map fun x=>x.toNat)=out:=by unfold nB; rw [List.map_map]; exact (map_congr_left fun x _=>UInt8.ofNat_toNat).trans (List.map_id _)
  refine XS.retP (PE.tuple (.cons (PE.cast (.bytesN (l:=out.map fun x=>x.toNat) (by wtm_at "leaf") (PE.cast (by left) (by rw [OL,List.map_map]; rfl)) (fun k hk=>by refine X12 (List.mem_map.mp hk) fun x _ Z15=>?_; obtain rfl:=Z15; exact UInt8.toNat_lt x) (by rw [length_map]; exact lA1 hz')) (by rw [e1])) (.cons (by left) (.cons (by left) .nil))) (by simp)) ⟨rfl,rfl⟩
end
theorem eq_438 (w:Nat):aliN (-1) w=true:=by unfold aliN; simp
theorem eq_439 (w:Nat):lefN (-1) w = -1:=by unfold lefN; simp
theorem eq_440 (w:Nat):lefS (-1) w = -1:=by unfold lefS; simp
theorem eq_441 (w:Nat):takN (-1) w=w:=by unfold takN; simp
theorem eq_442 (w:Nat):fitS (-1) w:=fun h=>by lia
section
variable {Γ:Gam} {n:Nat} {hp:HP}
theorem eq_443 {nums ends:List Nat} {recs kept told:List Bs} {data further text:Bs} {pcs:List (Nat × Nat × Nat)} {blk chk r s e K K2 g:Nat} {R':Rd} [F:Facts Γ] (hn0:0<nums.length) (hn1:nums.length≤1000) (hk:8≤blk) (hk2:blk≤1000) (hc:chk=1∨chk=2) (hpz:pcs.length≤1000) (hp0:pcs[drawN nums 3 % pcs.length]?=some (r,s,e)) (hr:r<ends.length) (hrr:ends.length=recs.length) (hrz:recs.length≤100) (he:e≤data.length) (hd:data.length≤2000) (hf:further.length≤1000) (hpc:∀ p∈pcs,p.2.1+7≤p.2.2) (htx:text=data.take e++addN blk chk e further) (htz:text.length≤5000) (ha:allF text blk chk K rd0=some (kept,R')) (hq:preF text blk chk K2 0 rd0=some (told,g)) (hgood:R'.good=text.length) (h1:e=ends.getD r 0→kept=recs.take (r+1)++[further]∧told=kept∧g=text.length∧R'.skip=0) (h2:e≠ends.getD r 0→kept=recs.take r++[further]∧told=recs.take r∧g=endN ends r∧R'.skip=lostN r e pcs) :
  FC Γ (n+7) 633 [.lst (NL nums),.int blk,.int chk,.lst (BL recs),.byt data,.lst (PL pcs),.lst (NL ends),.byt further] hp (fun x _=>x=.bool true) noH:=by
 revert F hn0 hn1 hk hk2 hc hpz hp0 hr hrr hrz he hd hf hpc htx htz ha hq hgood h1 h2; revert Γ n hp nums ends recs kept told data further text pcs blk chk r s e K K2 g R'; apply s12; generalize T1 _=Γ,T2 _=n,T3 _=hp,T4 _=nums,T5 _=ends,T6 _=recs,T7 _=kept,T8 _=told,T9 _=data,T10 _=further,T11 _=text,T12 _=pcs; apply s9; generalize T1 _=blk,T2 _=chk,T3 _=r,T4 _=s,T5 _=e,T6 _=K,T7 _=K2,T8 _=g,T9 _=R'; intro F hn0 hn1 hk hk2 hc hpz hp0 hr hrr hrz he hd hf hpc htx htz ha hq hgood h1 h2
 refine FC.introQ (fn:=f_lgap) eq_173 dK eq_290 fun Q' hret _=>?_
 exists Q'; intro hret _
 exists Q'; intro hret _
 exists Q'; intro hret x
 have nm0:=nn eq_113 0
 have nm1:=nn eq_113 1
 have nm2:=nn eq_113 2
 have nm3:=nn eq_113 3
 have nm4:=nn eq_113 4
 have nm5:=nn eq_113 5
 have nm6:=nn eq_113 6
 have nm7:=nn eq_113 7
 have nm8:=nn eq_113 8
 have nm9:=nn eq_113 9
 have nm10:=nn eq_113 10
 have nm11:=nn eq_113 11
 have nm12:=nn eq_113 12
 have nm13:=nn eq_113 13
 have nm14:=nn eq_113 14
 have nm15:=nn eq_113 15
 have nm16:=nn eq_113 16
 have nm17:=nn eq_113 17
 have nm18:=nn eq_113 18
 have nm19:=nn eq_113 19
 have nm20:=nn eq_113 20
 have nm21:=nn eq_113 21
 have nm22:=nn eq_113 22
 have nm23:=nn eq_113 23
 have nm24:=nn eq_113 24
 have nm25:=nn eq_113 25
 have nm26:=nn eq_113 26
 have nm27:=nn eq_113 27
 have nm28:=nn eq_113 28
 have hpl:(PL pcs).length=pcs.length:=length_map ..
 have hpp:0<pcs.length:=lt_of_le_of_lt (zero_le _) (List.getElem?_eq_some_iff.mp hp0).1
 have S0:(PL pcs).length≤1000000:=lA2 (eqL hpl) hpz
 refine XS.unp (.itemLN (i:=drawN nums 3 % pcs.length) (by left) (PE.cast (.bop (PE.pfn (by wtm_at "leaf") eq_187 (by nofun) (eq_429 (by wtm_at "sc") (by wtm_at "sc"))) (by left) (BinK.modN (fun q_=>fA3 (lsl hpp) (eqG hpl) (eqL q_)))) (by rw [hpl])) (by rw [getElem?_map,hp0]; rfl) (lA2 (eqL hpl) hpz)) (.cons (Tgt.name 8 nm8) (.cons (Tgt.name 9 nm9) (.cons (Tgt.name 10 nm10) .nil))) ?_
 dsimp only [set_cons_succ,set_cons_zero,id_eq]
 refine XS.asgC' 11 nm11 (XE.cls (n:=n+5) c_D.2 (by wtm_at "leaf") (.cons ((PE.neg (by left)).cast (by rfl)) .nil) fun d hd0=>?_)
 exists d; intro hd0
 exists d; intro hd0
 exists d; intro hd0
 refine FC.more (k:=n+1) ((eq_400 (left:=-1) hd0 dD).mono ?_ eq_302) (lA0)
 rintro _ h1' hR0; refine Y2 ?_; rintro G0 hG0; obtain ⟨rfl,dn,dk,dp,dj,e1,e2,e3,e4,e5,e6,-,-⟩:=hR0; refine hG0 ?_; clear hG0
 revert h1' dn dk dp dj; apply s5; generalize T1 _=h1',T2 _=dn,T3 _=dk,T4 _=dp,T5 _=dj; intro e1 e2 e3 e4 e5 e6
 revert h1' dn dk dp dj; apply s5; generalize T1 _=h1',T2 _=dn,T3 _=dk,T4 _=dp,T5 _=dj; intro e1 e2 e3 e4 e5 e6
 revert h1' dn dk dp dj; apply s5; generalize T1 _=h1',T2 _=dn,T3 _=dk,T4 _=dp,T5 _=dj; intro e1 e2 e3 e4 e5 e6
 refine ⟨rfl,?_⟩; wtm_at "ds"
 refine XS.masg 12 nm12 eq_324 (by left) (by right) (by nofun) (FC.more (k:=n+5) (eq_402 e1 e2 e4 e5 dD dD dD dK rfl) (lA0)) ?_ eq_302
 rintro _ h2' hR0; refine Y2 ?_; rintro G0 hG0; obtain ⟨f,nd,ba,s',rfl,f1,f2,f3,f4,f5,f6,f7,f8,-,-⟩:=hR0; refine hG0 ?_; clear hG0
 revert h2' f nd ba s'; apply s5; generalize T1 _=h2',T2 _=f,T3 _=nd,T4 _=ba,T5 _=s'; intro f1 f2 f3 f4 f5 f6 f7 f8
 revert h2' f nd ba s'; apply s5; generalize T1 _=h2',T2 _=f,T3 _=nd,T4 _=ba,T5 _=s'; intro f1 f2 f3 f4 f5 f6 f7 f8
 revert h2' f nd ba s'; apply s5; generalize T1 _=h2',T2 _=f,T3 _=nd,T4 _=ba,T5 _=s'; intro f1 f2 f3 f4 f5 f6 f7 f8
 wtm_at "ds"
 have ne_d_ba:d≠ba:=Y141 f5 f3 rfl
 have ne_dn_d:dn≠d:=Y141 f6 f5 rfl
 have ne_dn_ba:dn≠ba:=Y141 f6 f3 rfl
 have ne_dp_d:dp≠d:=Y141 f7 f5 rfl
 have ne_dp_ba:dp≠ba:=Y141 f7 f3 rfl
 have ne_f_d:f≠d:=Y141 f1 f5 rfl
 have ne_f_ba:f≠ba:=Y141 f1 f3 rfl
 have ne_nd_d:nd≠d:=Y141 f2 f5 rfl
 have ne_nd_ba:nd≠ba:=Y141 f2 f3 rfl
 refine XS.mexp3 eq_313 (by left) (by right) (.cons (PE.cast (.uptoB (by left) (by left) (lA1 hd)) (by rfl)) .nil) (FC.more (k:=n+3) (eq_386 (b:=[]) (o:=data.take e) f1 f5 f2 f3 dK (by simp only [length_nil,length_take]; exact lA2 (min_le_right e (List.length data)) hd)) (lA0)) (fun _ q=>by rw [eq_438] at q; cases q.1) fun _=>?_
 rw [eq_439,eq_441]
 refine XS.asgC' 13 nm13 (XE.cls (n:=n+5) c_W.2 (by wtm_at "leaf") (by nofun) fun w hw=>?_)
 exists w; intro hw
 exists w; intro hw
 exists w; intro hw
 refine FC.more (k:=n+2) ((eq_424 hk (lA1 hk2) hc).mono ?_ eq_302) (lA0)
 refine eq_356 ?_
 simp only [eq_388] at hw
 refine An3 hw fun w1 w2 w3=>?_; clear hw
 have w4:=Y143 f1 w3
 have w5:=Y143 f2 w3
 have w6:=Y143 f6 w3
 have w7:=Y143 f7 w3
 refine ⟨rfl,?_⟩; wtm_at "ds"
 have hlt:(data.take e).length=e:=by rw [length_take]; lia
 refine XS.mexp3 eq_304 (by left) (by right) (by nofun) (FC.more (k:=n+5) (eq_428 (b:=data.take e) Y56 (by right) (by right) (by right) (by right) dK (by rw [htx,length_append] at htz; exact lA1 htz) hf hk hk2 hc) (lA0)) (fun _ q=>absurd (eq_442 _) q.1) fun _=>?_
 rw [eq_440,← htx]
 refine XS.masg2 14 nm14 eq_327 (by left) (by right) (by nofun) (FC.more (k:=n+3) (eq_393 (nd:=nd) (ba:=ba) (b:=text) (num:=1) (by right) (by right) (by right) rfl rfl (by right) (by right) (lA1 htz)) (lA0)) eq_302 (by ac_rfl) ?_
 refine XS.asgX (XE.ufn2 eq_185 (by wtm_at "leaf") (by nofun) (eq_416 hk (lA1 hk2) hc (lA1 htz) ha) ?_ eq_302) Y87
 rintro _ h3 hR0; refine Y2 ?_; rintro G0 hG0; obtain ⟨rd,rl,rfl,g1,-,-⟩:=hR0; refine hG0 ?_; clear hG0
 revert h3 rd rl; apply s3; generalize T1 _=h3,T2 _=rd,T3 _=rl; intro g1
 revert h3 rd rl; apply s3; generalize T1 _=h3,T2 _=rd,T3 _=rl; intro g1
 revert h3 rd rl; apply s3; generalize T1 _=h3,T2 _=rd,T3 _=rl; intro g1
 refine (Tgt.tup (.cons (Tgt.name 15 nm15) (.cons (Tgt.name 16 nm16) .nil))).toX ?_
 dsimp only [set_cons_succ,set_cons_zero,id_eq]
 have hrcl:(BL recs).length=recs.length:=length_map ..
 have tk:∀ j,(BL recs).take j++[V.byt further]=BL (recs.take j++[further]):=fun j=>by simp [BL]
 refine XS.ifQ (fun l h=>∃ pp,l=[some (.lst (NL nums)),some (.int (blk:Nat)),some (.int (chk:Nat)),some (.lst (BL recs)),some (.byt data),some (.lst (PL pcs)),some (.lst (NL ends)),some (.byt further),some (.int (r:Nat)),some (.int (s:Nat)),some (.int (e:Nat)),some (.obj d),some (.obj f),some (.obj w),some (.byt text),some (.lst (BL kept)),some (.obj rd),some (.lst (BL kept)),some (.int (g:Nat)),some (.lst (BL told)),some (.int (R'.skip:Nat)),pp,none,none,none,none,none,none,none]∧h=h3) (.cmp (by left) (.itemLN (i:=r) (by left) (by left) (eq_296 hr) (by simp; exact lA2 (eqL hrr) hrz)) CmpOk.eqN) (fun q Q2 nx _=>?_) (fun q Q2 nx _=>?_) ?_
 ·have q:e=ends.getD r 0:=of_decide_eq_true q
  refine An4 (h1 q) fun q1 q2 q3 q4=>?_
  refine XS.asg' 17 nm17 (PE.cast (.bop (.uptoL (i:=r+1) (by left) (by left) (lA2 (eqL hrcl) hrz)) (by left) (BinK.addL (by simp; exact lA2 (min_le_right (r+1) recs.length) hrz))) (show _=V.lst (BL kept) by rw [tk,q1])) (by ac_rfl) ?_
  refine XS.asg' 18 nm18 (PE.cast (by left) (show _=V.int (g:Nat) by rw [q3])) (by ac_rfl) ?_
  refine XS.asg' 19 nm19 (PE.cast (by left) (show _=V.lst (BL told) by rw [q2])) (by ac_rfl) ?_
  refine XS.asg' 20 nm20 (by left) (by ac_rfl) ?_
  exact XS.nil (nx _ _ ⟨none,by rw [q4],rfl⟩)
 ·exists Q2; intro nx _
  have q:e≠ends.getD r 0:=of_decide_eq_false q
  refine An4 (h2 q) fun q1 q2 q3 q4=>?_
  refine XS.asg' 17 nm17 (PE.cast (.bop (.uptoL (i:=r) (by left) (by left) (lA2 (eqL hrcl) hrz)) (by left) (BinK.addL (by simp; exact lA2 (min_le_right r recs.length) hrz))) (show _=V.lst (BL kept) by rw [tk,q1])) (by ac_rfl) ?_
  refine XS.asg' 18 nm18 (PE.cast (.pfn (by wtm_at "leaf") eq_190 (by nofun) (eq_430 (lA1 (lsl hr)) (lA2 (eqL hrr) hrz))) (show _=V.int (g:Nat) by rw [q3])) (by ac_rfl) ?_
  refine XS.asg' 19 nm19 (PE.cast (.uptoL (i:=r) (by left) (by left) (lA2 (eqL hrcl) hrz)) (show _=V.lst (BL told) by rw [q2,BL,BL,map_take])) (by ac_rfl) ?_
  refine XS.asg' 20 nm20 (by left) (by ac_rfl) ?_
  refine XS.forN 21 nm21 (fun i l h=>∃ pp,l=[some (.lst (NL nums)),some (.int (blk:Nat)),some (.int (chk:Nat)),some (.lst (BL recs)),some (.byt data),some (.lst (PL pcs)),some (.lst (NL ends)),some (.byt further),some (.int (r:Nat)),some (.int (s:Nat)),some (.int (e:Nat)),some (.obj d),some (.obj f),some (.obj w),some (.byt text),some (.lst (BL kept)),some (.obj rd),some (.lst (BL kept)),some (.int (g:Nat)),some (.lst (BL told)),some (.int ((lostN r e (pcs.take i):Nat):Int)),pp,none,none,none,none,none,none,none]∧h=h3) (XIt.list (by left)) ⟨none,rfl,rfl⟩ ?_ ?_
  ·rintro i _ _ x Q3 hx ⟨pp,rfl,rfl⟩ nx3 _
   revert hx g1 nx nx3 a; revert i h x Q3 pp; apply s5; generalize T1 _=i,T2 _=h,T3 _=x,T4 _=Q3,T5 _=pp; intro hx g1 nx nx3 a
   rw [getElem?_map] at hx
   exists pp
   refine X12 (Option.map_eq_some_iff.mp hx) fun Z0 hp1 Z1=>?_; obtain ⟨pr,ps,pe⟩:=Z0; obtain rfl:=Z1
   revert pr ps pe; apply s3; generalize T1 _=pr,T2 _=ps,T3 _=pe; intro hp1 hx
   have hpm:=hpc _ (mem_of_getElem? hp1)
   dsimp only at hpm
   have ht:lostN r e (pcs.take (i+1))=lostN r e (pcs.take i)+(if pr=r∧pe≤e then pe - ps - 7 else 0):=by
    rw [take_add_one,hp1]
    have:∀ (l:List (Nat × Nat × Nat)) (z:Nat × Nat × Nat),lostN r e (l++[z])=lostN r e l+(if z.1=r∧z.2.2≤e then z.2.2 - z.2.1 - 7 else 0):=fun l z=>by
     induction l with
     | nil=>simp [lostN]
     | cons y l ih=>simp only [cons_append,lostN,ih]; exact eq_11
    exact this _ _
   wtm_at "ds"
   refine XS.ifP (b:=decide (pr=r)&&decide (pe≤e)) (by
    refine PT.of (PT.and (.cmp (PE.itemT (i:=(0:Nat)) (x:=.int (pr:Nat)) (by left) (by left) dD rfl (by simp) (by intro _ _; rfl)) (by left) CmpOk.eqN) fun _=>PT.and (.cmp (PE.itemT (i:=(2:Nat)) (x:=.int (pe:Nat)) (by left) (by left) dD rfl (by simp) (by intro _ _; rfl)) (by left) CmpOk.leN) fun _=>PT.andN) (by simp)) (fun z=>?_) (fun z=>?_)
   ·have z:pr=r∧pe≤e:=by simpa using z
    rw [if_pos z] at ht
    refine XS.aug' 20 nm20 rfl (.bop (.bop (PE.itemT (i:=(2:Nat)) (x:=.int (pe:Nat)) (by left) (by left) dD rfl (by simp) (by intro _ _; rfl)) (PE.itemT (i:=(1:Nat)) (x:=.int (ps:Nat)) (by left) (by left) dD rfl (by simp) (by intro _ _; rfl)) (BinK.subN (lA1 hpm))) (by left) (BinK.subN (show (7:Nat)≤pe - ps by exact lA2 hpm (nas pe ps)))) IOp.addN (by ac_rfl) ?_
    exact XS.done (XS.nil (nx3 _ _ ⟨_,by rw [ht],rfl⟩))
   ·have z:¬ (pr=r∧pe≤e):=by simpa using z
    rw [if_neg z] at ht
    exact XS.done (XS.nil (nx3 _ _ ⟨_,by rw [ht]; rfl,rfl⟩))
  ·refine eq_360 fun pp=>?_
   rw [hpl,take_length,← q4]
   exact XS.nil (nx _ _ ⟨pp,rfl,rfl⟩)
 refine eq_360 fun pp=>?_
 refine XS.ifF0 (b:=decide (kept≠kept) || decide (R'.skip≠R'.skip) || decide (R'.good≠text.length)) (by
  refine PT.of (PT.or (.cmp (by left) (by left) CmpOk.neLB) fun _=>PT.or (by wtm_at "pt") fun _=>PT.or (by wtm_at "pt") fun _=>PT.orN) (by simp [Bool.or_assoc])) (by simp [hgood]) ?_
 refine XS.retP (PE.cast (.cmp (.pfn (by wtm_at "leaf") eq_186 (by nofun) (eq_417 hk (lA1 hk2) hc (lA1 htz) hq)) (by left) CmpOk.eqT) (show _=V.bool true by simp)) (hret _ _ _ rfl)
end
noncomputable abbrev QL (l:List (Nat × Nat × Nat × Nat)):List V:=l.map fun p=>V.tup [.int (p.1:Nat),.int (p.2.1:Nat),.int (p.2.2.1:Nat),.int (p.2.2.2:Nat)]
noncomputable def pvL (s lim:Nat):V→Bool
 | .tup [_,.int b,_]=>decide ((s:Int)≤b)&&decide (b<(lim:Int))
 | _=>false
noncomputable def fL:V→V
 | .tup (a :: _)=>a
 | _=>.none
noncomputable def pvI (lost:List Nat):V→Bool
 | .int i=>!decide (i∈lost.map fun k:Nat=>(k:Int))
 | _=>false
noncomputable def fI (recs:List Bs):V→V
 | .int i=>.byt (recs.getD i.toNat [])
 | _=>.none
theorem eq_444 {lost:List Nat} {recs:List Bs}:((rng 0 1 recs.length).filter (pvI lost)).map (fI recs)=BL (((List.range recs.length).filter fun i=>decide (i∉lost)).map fun i=>recs.getD i []):=by
 rw [show rng 0 1 recs.length=rngN 0 1 recs.length from Y118 0 1 _,rngN,BL,List.filter_map,List.map_map,List.map_map]
 have e1:(List.range recs.length).filter (pvI lost ∘ fun i=>V.int ((0+i*1:Nat):Int))=(List.range recs.length).filter fun i=>decide (i∉lost):=by
  refine List.filter_congr fun i _=>?_
  show (!decide _)=_
  rw [Bool.eq_iff_iff]
  simp
  constructor
  ·intro h q; exact h i q (by lia)
  ·intro h j q z; exact h (by rwa [show i=j by lia])
 rw [e1]
 refine map_congr_left fun i _=>?_
 show V.byt (recs.getD (((0+i*1:Nat):Int)).toNat [])=_
 rw [toNat_natCast]; simp
theorem VR.int_eq {G:PH} {v:Value} {a b:Int} (h:VR G v (.int a)) (h':VR G v (.int b)):a=b:=by
 obtain ⟨_,rfl⟩:=h.inv
 obtain ⟨_,e⟩:=h'.inv
 exact (Value.int.inj e).1
theorem VR.tup_eq {G:PH} {v:Value} {xs ys:List V} (h:VR G v (.tup xs)) (h':VR G v (.tup ys)):∃ vs,VRs G vs xs∧VRs G vs ys:=by
 refine Ex4 h.inv fun _ o vs n Z2=>?_; obtain ⟨rfl,Z0⟩:=Z2; refine An4 Z0 fun h hc hd hs=>?_; clear Z0
 refine Ex4 h'.inv fun _ o' vs' n' Z1=>?_; refine An5 Z1 fun e h' hc' hd' hs'=>?_; clear Z1
 obtain rfl:=Value.ref.inj e
 rw [h] at h'
 obtain rfl:=Option.some.inj h'
 rw [hd] at hd'
 have e2:=congrArg Array.toList (Data.seq.inj hd').1
 dsimp only at e2
 subst e2
 exact ⟨_,hs,hs'⟩
theorem eq_445 {l:List (Nat × Nat × Nat)}:Det (PL l):=fun G v x y hx hy h1 h2=>by
 refine X12 (List.mem_map.mp hx) fun Z1 _ Z2=>?_; obtain ⟨a,b,c⟩:=Z1; obtain rfl:=Z2
 rename_i z1_; revert hy h2 z1_ hx h1; revert l G v y a b c; apply s7; generalize T1 _=l,T2 _=G,T3 _=v,T4 _=y,T5 _=a,T6 _=b,T7 _=c; intro hy h2 z1_ hx h1
 refine X12 (List.mem_map.mp hy) fun Z3 _ Z4=>?_; obtain ⟨a',b',c'⟩:=Z3; obtain rfl:=Z4
 revert a' b' c'; apply s3; generalize T1 _=a',T2 _=b',T3 _=c'; intro _ hy h2
 refine X12 (h1.tup_eq h2) fun vs hs hs'=>?_
 refine Ex3 hs.three fun p q r Z5=>?_; obtain ⟨rfl,Z0⟩:=Z5; refine An3 Z0 fun v1 v2 v3=>?_; clear Z0
 refine X34 hs'.three fun p' q' r' e' v1' v2' v3'=>?_
 have e1:=(List.cons.inj e').1
 have e2:=List.cons.inj (List.cons.inj e').2
 have e3:=List.cons.inj e2.2
 rw [← e1] at v1'; rw [← e2.1] at v2'; rw [← e3.1] at v3'
 rw [v1.int_eq v1',v2.int_eq v2',v3.int_eq v3']
section
variable {Γ:Gam} {n:Nat} {hp:HP}
theorem eq_446 {x0 x1 x2 x3 x4 x5 x6:V} [F:Facts Γ]:BindOkC Γ f_lhurt [x0,x1,x2,x3,x4,x5,x6] [some x0,some x1,some x2,some x3,some x4,some x5,some x6,none,none,none,none,none,none,none,none,none,none,none,none,none,none,none,none,none,none,none,none] :=
 BindOkC.plain (ps:=[("nums",.local),("block",.local),("check",.local),("records",.cell),("data",.local),("pieces",.local),("ends",.local)]) (rest:=f_lhurt.names.drop 7) rfl dD (eq_174 (Γ:=Γ)).nd rfl fun vs h=>by apply eq_59 (vs:=vs) h; exact fun _ _ _ _ _ _ _=>rfl
set_option tactic.hygienic true in
theorem eq_447 {nums ends:List Nat} {recs rows:List Bs} {data hurt:Bs} {pcs:List (Nat × Nat × Nat)} {blk chk a r s e new K K2:Nat} {R':Rd} [F:Facts Γ] (hn0:0<nums.length) (hn1:nums.length≤1000) (hk:8≤blk) (hk2:blk≤1000) (hc:chk=1∨chk=2) (hpz:pcs.length≤1000) (hplz:(plcN pcs).length≤10000) (hp0:(plcN pcs)[drawN nums 3 % (plcN pcs).length]?=some (a,r,s,e)) (hr:r≤ends.length) (hez:ends.length≤100) (hrz:recs.length≤100) (had:a<data.length) (hd:data.length≤2000) (hpe:∀ p∈pcs,p.2.1≤5000∧p.2.2≤5000) (hse:s≤5000) (hnew:new=if a=s+5 then 255 else (data.getD a 0).toNat ^^^ (1+drawN nums 4 % 255)) (hnz:new<256) (hh:hurt=data.take a++nB [new]++data.drop (a+1)) (ha:allF hurt blk chk K rd0=some (rows,R')) (hq:preF hurt blk chk K2 0 rd0=some (recs.take r,endN ends r)) (hrl:rows.length≤recs.length) (hrows:rows=((List.range recs.length).filter fun i=>decide (i∉(pcs.filter fun p=>decide (s≤p.2.1)&&decide (p.2.1<(s / blk+1)*blk)).map (·.1))).map fun i=>recs.getD i []) (h1:a=s+5∧data.length<(s / blk+1)*blk→R'.skip=0) (h2:¬ (a=s+5∧data.length<(s / blk+1)*blk)→¬ (a=s+6∧new=0∧e=s+7)→0<R'.skip) :
  FC Γ (n+7) 638 [.lst (NL nums),.int blk,.int chk,.lst (BL recs),.byt data,.lst (PL pcs),.lst (NL ends)] hp (fun x _=>x=.bool true) noH:=by
 revert F hn0 hn1 hk hk2 hc hpz hplz hp0 hr hez hrz had hd hpe hse hnew hnz hh ha hq hrl hrows h1 h2; revert Γ n hp nums ends recs rows data hurt pcs blk chk a r s e new K K2 R'; apply s12; generalize T1 _=Γ,T2 _=n,T3 _=hp,T4 _=nums,T5 _=ends,T6 _=recs,T7 _=rows,T8 _=data,T9 _=hurt,T10 _=pcs,T11 _=blk,T12 _=chk; apply s8; generalize T1 _=a,T2 _=r,T3 _=s,T4 _=e,T5 _=new,T6 _=K,T7 _=K2,T8 _=R'; intro F hn0 hn1 hk hk2 hc hpz hplz hp0 hr hez hrz had hd hpe hse hnew hnz hh ha hq hrl hrows h1 h2
 refine FC.introCQ (fn:=f_lhurt) eq_174 eq_446 fun Q' hret _=>?_
 exists Q'; intro hret _
 exists Q'; intro hret _
 exists Q'; intro hret _
 have nm0:=nn eq_114 0
 have nm1:=nn eq_114 1
 have nm2:=nn eq_114 2
 have nm3:=nn eq_114 3
 have nm4:=nn eq_114 4
 have nm5:=nn eq_114 5
 have nm6:=nn eq_114 6
 have nm7:=nn eq_114 7
 have nm8:=nn eq_114 8
 have nm9:=nn eq_114 9
 have nm10:=nn eq_114 10
 have nm11:=nn eq_114 11
 have nm12:=nn eq_114 12
 have nm13:=nn eq_114 13
 have nm14:=nn eq_114 14
 have nm15:=nn eq_114 15
 have nm16:=nn eq_114 16
 have nm17:=nn eq_114 17
 have nm18:=nn eq_114 18
 have nm19:=nn eq_114 19
 have nm20:=nn eq_114 20
 have nm21:=nn eq_114 21
 have nm22:=nn eq_114 22
 have nm23:=nn eq_114 23
 have nm24:=nn eq_114 24
 have nm25:=nn eq_114 25
 have nm26:=nn eq_114 26
 refine XS.asgC' 7 nm7 (XE.list' .nil dD fun pa hpa=>?_)
 exists pa; intro hpa
 wtm_at "ds"
 exists pa; intro hpa
 exists pa; intro hpa
 have hpl:(PL pcs).length=pcs.length:=length_map ..
 refine XS.forQ (fun i l h=>∃ ur us ue ua,l=[some (.lst (NL nums)),some (.int (blk:Nat)),some (.int (chk:Nat)),some (.lst (BL recs)),some (.byt data),some (.lst (PL pcs)),some (.lst (NL ends)),some (.obj pa),ur,us,ue,ua,none,none,none,none,none,none,none,none,none,none,none,none,none,none,none]∧h=upd hp pa (.list (QL (plcN (pcs.take i))))) (XIt.list (by left)) (EI4 none none none none ⟨rfl,rfl⟩) ?_ ?_
 ·rintro i _ _ x Q2 hx hR0 nx _; refine Ex4 hR0 fun ur us ue ua Z6=>?_; clear hR0; obtain ⟨rfl,rfl⟩:=Z6
  rename_i z1_; revert hx nx z1_; revert i x Q2 ur us ue ua; apply s7; generalize T1 _=i,T2 _=x,T3 _=Q2,T4 _=ur,T5 _=us,T6 _=ue,T7 _=ua; intro hx nx z1_
  rw [getElem?_map] at hx
  revert ur us ue ua; apply s4; generalize T1 _=ur,T2 _=us,T3 _=ue,T4 _=ua
  refine X12 (Option.map_eq_some_iff.mp hx) fun Z7 hp1 Z8=>?_; obtain ⟨pr,ps,pe⟩:=Z7; obtain rfl:=Z8
  revert pr ps pe; apply s3; generalize T1 _=pr,T2 _=ps,T3 _=pe; intro hp1 hx
  obtain ⟨b1,b2⟩:=hpe _ (mem_of_getElem? hp1)
  dsimp only at b1 b2
  have ht:plcN (pcs.take (i+1))=plcN (pcs.take i)++(((List.range (pe - ps)).map fun i=>ps+i).filter fun i=>decide (i≠ps+4)).map (fun i=>(i,pr,ps,pe)):=by
   rw [take_add_one,hp1,eq_336]; simp [plcN]
  refine ⟨_,Tgt.tup (.cons (Tgt.name 8 nm8) (.cons (Tgt.cell 9 rfl nm9) (.cons (Tgt.name 10 nm10) .nil))),?_⟩
  dsimp only [set_cons_succ,set_cons_zero,id_eq]
  refine XS.forN 11 nm11 (fun j l h=>∃ ua,l=[some (.lst (NL nums)),some (.int (blk:Nat)),some (.int (chk:Nat)),some (.lst (BL recs)),some (.byt data),some (.lst (PL pcs)),some (.lst (NL ends)),some (.obj pa),some (.int (pr:Nat)),some (.int (ps:Nat)),some (.int (pe:Nat)),ua,none,none,none,none,none,none,none,none,none,none,none,none,none,none,none]∧h=upd hp pa (.list (QL (plcN (pcs.take i)++(((List.range j).map fun i=>ps+i).filter fun i=>decide (i≠ps+4)).map (fun i=>(i,pr,ps,pe)))))) (XIt.range2N (a:=ps) (b:=pe) (by wtm_at "leaf") (by left) (by left) (lA1 b1) (lA1 b2)) ⟨ua,rfl,by simp⟩ ?_ ?_
  ·rintro j _ _ x Q3 hx ⟨ua,rfl,rfl⟩ nx3 _
   rename_i z1_; revert hx nx3 z1_; revert j x Q3 ua; apply s4; generalize T1 _=j,T2 _=x,T3 _=Q3,T4 _=ua; intro hx nx3 z1_
   obtain ⟨hj,rfl⟩:=eq_63 hx
   have hj:j<pe - ps:=hj
   wtm_at "ds"
   have hst:((List.range (j+1)).map fun i=>ps+i).filter (fun i=>decide (i≠ps+4))=((List.range j).map fun i=>ps+i).filter (fun i=>decide (i≠ps+4))++(if ps+j≠ps+4 then [ps+j] else []):=by
    rw [range_succ,map_append,List.filter_append]
    congr 1
    simp only [map_cons,map_nil,List.filter_cons,List.filter_nil,decide_eq_true_eq]
   have hlen:(QL (plcN (pcs.take i)++(((List.range j).map fun i=>ps+i).filter fun i=>decide (i≠ps+4)).map (fun i=>(i,pr,ps,pe)))).length≤10000:=by
    have hsplit:pcs=pcs.take i++((pr,ps,pe) :: pcs.drop (i+1)):=by
     have:=take_append_drop i pcs
     rw [drop_eq_getElem_cons (List.getElem?_eq_some_iff.mp hp1).1,(List.getElem?_eq_some_iff.mp hp1).2] at this
     exact this.symm
    rw [hsplit,eq_336,plcN] at hplz
    simp only [length_append,length_map] at hplz ⊢
    have:(((List.range j).map fun i=>ps+i).filter fun i=>decide (i≠ps+4)).length≤(((List.range (pe - ps)).map fun i=>ps+i).filter fun i=>decide (i≠ps+4)).length:=by
     refine List.Sublist.length_le (List.Sublist.filter _ (List.Sublist.map _ ?_))
     exact List.range_sublist.mpr (lA1 (lsl hj))
    exact lA2 hplz this
   refine XS.ifP (b:=decide (ps+j≠ps+4)) (by refine PT.of (by wtm_at "pt") (by simp)) (fun z=>?_) (fun z=>?_)
   ·have z:ps+j≠ps+4:=of_decide_eq_true z
    refine XS.app' (x:=.tup [.int ((ps+j:Nat):Int),.int (pr:Nat),.int (ps:Nat),.int (pe:Nat)]) (by left) Y56 (PE.tuple (.cons (PE.cast (by left) (by simp)) (by nofun)) (by simp)) (lA1 hlen) ?_
    refine XS.done (XS.nil (nx3 _ _ ⟨_,rfl,?_⟩))
    rw [eq_39,hst,if_pos z]
    simp [QL]
   ·have z:¬ ps+j≠ps+4:=of_decide_eq_false z
    refine XS.done (XS.nil (nx3 _ _ ⟨_,rfl,?_⟩))
    rw [hst,if_neg z,append_nil]
  ·refine eq_360 fun ua=>?_
   rw [eq_64,← ht]
   exact XS.nil (nx _ _ (EI4 _ _ _ ua ⟨rfl,rfl⟩))
 rintro _ _ hR0; refine Ex4 hR0 fun ur us ue ua Z9=>?_; clear hR0; obtain ⟨rfl,rfl⟩:=Z9
 revert ur us ue ua; apply s4; generalize T1 _=ur,T2 _=us,T3 _=ue,T4 _=ua
 revert ur us ue ua; apply s4; generalize T1 _=ur,T2 _=us,T3 _=ue,T4 _=ua
 revert ur us ue ua; apply s4; generalize T1 _=ur,T2 _=us,T3 _=ue,T4 _=ua
 rw [hpl,take_length]
 refine XS.freeze' 7 Y56 rfl (by ac_rfl) ?_
 rw [eq_295 hpa]
 have hql:(QL (plcN pcs)).length=(plcN pcs).length:=length_map ..
 have hqp:0<(plcN pcs).length:=lt_of_le_of_lt (zero_le _) (List.getElem?_eq_some_iff.mp hp0).1
 have S0:(QL (plcN pcs)).length≤1000000:=lA2 (eqL hql) hplz
 refine XS.unp (.itemLN (i:=drawN nums 3 % (plcN pcs).length) (by left) (PE.cast (.bop (PE.pfn (by wtm_at "leaf") eq_187 (by nofun) (eq_429 (by wtm_at "sc") (by wtm_at "sc"))) (by left) (BinK.modN (fun q_=>fA3 (lsl hqp) (eqG hql) (eqL q_)))) (by rw [hql])) (by rw [getElem?_map,hp0]; rfl) (lA2 (eqL hql) hplz)) (.cons (Tgt.name 11 nm11) (.cons (Tgt.name 8 nm8) (.cons (Tgt.cell 9 rfl nm9) (.cons (Tgt.name 10 nm10) .nil)))) ?_
 dsimp only [set_cons_succ,set_cons_zero,id_eq]
 have hb:=UInt8.toNat_lt (data.getD a 0)
 refine XS.asg' 12 nm12 (.bop (by left) (.bop (by left) (.bop (PE.pfn (by wtm_at "leaf") eq_187 (by nofun) (eq_429 (by wtm_at "sc") (by wtm_at "sc"))) (by left) (BinK.modN dD)) BinK.addN) BinK.bxorN) (by ac_rfl) ?_
 refine XS.ifQ (fun l h=>l=[some (.lst (NL nums)),some (.int (blk:Nat)),some (.int (chk:Nat)),some (.lst (BL recs)),some (.byt data),some (.lst (PL pcs)),some (.lst (NL ends)),some (.lst (QL (plcN pcs))),some (.int (r:Nat)),some (.int (s:Nat)),some (.int (e:Nat)),some (.int (a:Nat)),some (.int (new:Nat)),none,none,none,none,none,none,none,none,none,none,none,none,none,none]∧h=hp) (by wtm_at "pt") (fun q Q2 nx _=>?_) (fun q Q2 nx _=>?_) ?_
 ·have q:a=s+5:=of_decide_eq_true q
  refine XS.asg' 12 nm12 (by left) (by ac_rfl) ?_
  exact XS.nil (nx _ _ ⟨by rw [hnew,if_pos q],rfl⟩)
 ·have q:a≠s+5:=of_decide_eq_false q
  exact XS.nil (nx _ _ ⟨by rw [hnew,if_neg q],rfl⟩)
 rintro _ hp ⟨rfl,rfl⟩
 exists hp; intro hpa
 exists hp; intro hpa
 exists hp; intro hpa
 have hb1:∀ j∈[new],j<256:=by simpa using hnz
 have hhl:hurt.length≤2001:=by rw [hh]; simp [nB]; exact lA3 (min_le_left a (List.length data)) (nsa (List.length data) (a+1) (lA1 (lsl had))) hd
 refine XS.asg' 13 nm13 (PE.cast (.bop (.bop (by left) (.bytesN (l:=[new]) (by wtm_at "leaf") (PE.cast (by left) (by exact rfl)) hb1 (by simp)) (PE.addBK (by simp [nB]; exact lA2 (min_le_right a (List.length data)) hd))) (by left) (PE.addBK (by simp [nB]; exact lA3 (min_le_left a (List.length data)) (nsa (List.length data) (a+1) (lA1 (lsl had))) hd))) (show _=V.byt hurt by rw [hh])) (by ac_rfl) ?_
 refine XS.ifF0 (b:=decide ((recs.take r,((endN ends r:Nat):Int))≠(recs.take r,((endN ends r:Nat):Int)))) (.cmp (.pfn (by wtm_at "leaf") eq_186 (by nofun) (eq_417 hk (lA1 hk2) hc (lA1 hhl) hq)) (PE.tuple (.cons (PE.cast (.uptoL (i:=r) (by left) (by left) (by simp; exact lA1 hrz)) (by rw [← map_take])) (.cons (.pfn (by wtm_at "leaf") eq_190 (by nofun) (eq_430 hr (lA1 hez))) .nil)) (by simp)) CmpOk.neT) (by simp) ?_
 have hdv:s / blk≤s:=Nat.div_le_self ..
 refine XS.asgK 14 nm14 (u:=.int (((s / blk+1)*blk:Nat):Int)) (.bop (.bop (.bop (by left) (by left) (BinK.divN (fun q_=>eq_5 hk (eqL q_)) (sA1 hk2))) (by left) BinK.addN) (by left) (BinK.mulN (.inr (sA1 hk2)))) (by ac_rfl) ?_ (by intro _ _; rfl)
 refine XS.asgK 15 nm15 (u:=.lst (NL ((pcs.filter fun p=>decide (s≤p.2.1)&&decide (p.2.1<(s / blk+1)*blk)).map (·.1)))) (PE.cast (PE.compL (fv:=[("limit",.int (((s / blk+1)*blk:Nat):Int)),("start",.int (s:Nat))]) (pvL s ((s / blk+1)*blk)) fL rfl (by left) (lA2 (eqL hpl) hpz) ?_ eq_445 (.inr ⟨_,rfl,?_⟩) ?_) ?_) (by ac_rfl) ?_ ?_
 ·refine ⟨dK,rfl,dK,rfl,?_,?_,?_⟩
  ·intro p hp
   simp only [mem_cons,not_mem_nil,or_false] at hp
   rcases hp with rfl | rfl
   ·exact ⟨14,nm14,rfl⟩
   ·exact ⟨9,nm9,rfl⟩
  ·intro p hp
   simp only [mem_cons,not_mem_nil,or_false] at hp
   rcases hp with rfl | rfl <;> rfl
  ·intro env henv
   exists env; intro henv
   obtain ⟨a1,e1⟩:=henv _ (.head _)
   exists a1; intro e1
   obtain ⟨a2,e2⟩:=henv _ (.tail _ (.head _))
   exists a2; intro e2
   refine ⟨[("start",a2),("limit",a1)],?_,?_⟩
   ·have c1:cellOf env ("limit" : Str)=pure a1:=by unfold cellOf; rw [e1]
    have c2:cellOf env ("start" : Str)=pure a2:=by unfold cellOf; rw [e2]
    unfold closureFor
    simp only [forIn_cons,forIn_nil,c1,c2]
    rfl
   ·intro p hp
    simp only [mem_cons,not_mem_nil,or_false] at hp
    rcases hp with rfl | rfl
    ·rw [e1]; rfl
    ·rw [e2]; rfl
 ·intro G xv hx
  refine X12 (List.mem_map.mp hx) fun Z10 _ Z11=>?_; obtain ⟨b1,b2,b3⟩:=Z10; obtain rfl:=Z11
  refine TK.and2 (TK.le (PK.free (.tail _ (.head _)) dK) (PK.itemT (i:=(1:Nat)) (PK.loc dK) PK.int dD rfl (by simp))) (TK.lt (PK.itemT (i:=(1:Nat)) (PK.loc dK) PK.int dD rfl (by simp)) (PK.free (.head _) dK))
 ·intro G xv hx _
  refine X12 (List.mem_map.mp hx) fun Z12 _ Z13=>?_; obtain ⟨b1,b2,b3⟩:=Z12; obtain rfl:=Z13
  exact PK.itemT (i:=(0:Nat)) (PK.loc dK) PK.int dD rfl (by simp)
 ·congr 1
  rw [PL,NL,List.filter_map,List.map_map,List.map_map]
  congr 1
  refine List.filter_congr fun p _=>?_
  show (decide _&&decide _)=_
  rw [decide_eq_decide.mpr Int.ofNat_le,decide_eq_decide.mpr Int.ofNat_lt]
 ·refine XS.asgC' 16 nm16 (XE.cls (n:=n+5) c_R.2 (by wtm_at "leaf") (by nofun) fun rd hrd=>?_)
  exists rd; intro hrd
  exists rd; intro hrd
  exists rd; intro hrd
  refine FC.more (k:=n+2) ((eq_405 hrd hk (lA1 hk2) hc).mono ?_ eq_302) (lA0)
  refine eq_355 fun _ Z0=>?_; refine X13 Z0 fun rl hrlx hne Z14=>?_; clear Z0; obtain rfl:=Z14
  exists rl; intro hrlx hne
  exists rl; intro hrlx hne
  exists rl; intro hrlx hne
  refine ⟨rfl,?_⟩; wtm_at "ds"
  refine XS.asgC' 17 nm17 (XE.list' .nil dD fun ra hra=>?_)
  exists ra; intro hra
  wtm_at "ds"
  exists ra; intro hra
  exists ra; intro hra
  simp only [eq_388] at hra
  refine An3 hra fun a1 a2 a3=>?_; clear hra
  generalize hlost:(pcs.filter fun p=>decide (s≤p.2.1)&&decide (p.2.1<(s / blk+1)*blk)).map (·.1)=lost at *
  exists lost; intro hlost hrows
  exists lost; intro hlost hrows
  exists lost; intro hlost hrows
  generalize hlim:(s / blk+1)*blk=lim at *
  exists lim; intro hlim h1 h2 hlost
  exists lim; intro hlim h1 h2 hlost
  exists lim; intro hlim h1 h2 hlost
  have hle0:HLe hp (upd (upd (upd hp rd (oR hurt blk chk rd0 rl)) rl (.list [])) ra (.list [])):=fun a o q=>(Y57 (Y143 q a3)).trans ((Y57 (Y143 q (by simpa [eq_388,hne] using hrlx))).trans ((Y57 (Y143 q hrd)).trans q))
  have J0:∀ {k:Nat} {R R1:Rd} {rest:List Bs} {done:List Bs} {res:Option Bs},readF hurt blk chk (hurt.length+1) false [] R=some (res,R1)→allF hurt blk chk (k+1) R=some (rest,R')→rows=done++rest→RdOk hurt R→R.rn≤R.at →
    (res=none∧rows=done∧R'=R1)∨∃ x rest,res=some x∧rows=done++x :: rest∧allF hurt blk chk k R1=some (rest,R')∧R1.rn≤R1.at∧RdOk hurt R1:=fun e1 e2 e3 o1 o2=>by
   rcases eq_414 e2 with ⟨R2,q1,rfl,rfl⟩ | ⟨x,R2,rest2,q1,q2,rfl⟩
   ·rw [e1] at q1; cases q1; exact .inl ⟨rfl,by rw [e3,append_nil],rfl⟩
   ·rw [e1] at q1; cases q1
    refine An3 (eq_413 e1 o1 o2) fun z1 z2 z3=>?_
    exact .inr (EI2 x rest2 ⟨rfl,e3,q2,z2,z1⟩)
  have some_:∀ {k:Nat} {R:Rd} {y:List Bs × Rd},allF hurt blk chk (k+1) R=some y→∃ res R1,readF hurt blk chk (hurt.length+1) false [] R=some (res,R1):=fun {k R y} e=>by
   obtain ⟨y1,y2⟩:=y
   rcases eq_414 e with ⟨R2,q1,-,-⟩ | ⟨x,R2,rest2,q1,-,-⟩ <;> exact (EI2 _ _ q1)
  obtain ⟨K,rfl⟩:∃ j,K=j+1:=by cases K with | zero=>cases ha | succ k=>exact ⟨k,rfl⟩
  exists K; intro ha
  exists K; intro ha
  exists K; intro ha
  refine Ex2 (some_ ha) fun res R1 hres=>?_
  revert res R1; apply s2; generalize T1 _=res,T2 _=R1; intro hres
  revert res R1; apply s2; generalize T1 _=res,T2 _=R1; intro hres
  revert res R1; apply s2; generalize T1 _=res,T2 _=R1; intro hres
  refine XS.masg 18 nm18 eq_309 (by left) (by right) (by nofun) (FC.more (k:=n+5) (eq_412 (rs:=[]) (by right) (by right) rfl (zero_le _) ⟨le_refl _,zero_le _⟩ hk hc (lA1 hhl) hres) (lA0)) ?_ eq_302
  refine eq_355 fun h1' Z1=>?_; refine An3 Z1 fun g1 Z2 g4=>?_; clear Z1; refine X12 Z2 fun rs1 g2 g3=>?_; clear Z2
  revert g1 g4 g2 g3; revert h1' rs1; apply s2; generalize T1 _=h1',T2 _=rs1; intro g1 g4 g2 g3
  revert g1 g4 g2 g3; revert h1' rs1; apply s2; generalize T1 _=h1',T2 _=rs1; intro g1 g4 g2 g3
  revert h1' rs1; apply s2; generalize T1 _=h1',T2 _=rs1; intro g1 g4 g2 g3
  wtm_at "ds"
  have hrc:(BL recs).length=recs.length:=length_map ..
  refine XS.whileQ (fun k l h=>∃ res R rs done,l=[some (.lst (NL nums)),some (.int (blk:Nat)),some (.int (chk:Nat)),some (.lst (BL recs)),some (.byt data),some (.lst (PL pcs)),some (.lst (NL ends)),some (.lst (QL (plcN pcs))),some (.int (r:Nat)),some (.int (s:Nat)),some (.int (e:Nat)),some (.int (a:Nat)),some (.int (new:Nat)),some (.byt hurt),some (.int (lim:Nat)),some (.lst (NL lost)),some (.obj rd),some (.obj ra),some (opV res),none,none,none,none,none,none,none,none]∧h rd=some (oR hurt blk chk R rl)∧h rl=some (.list rs)∧h ra=some (.list (BL done))∧rs.length=R.rn ∧
    ((res=none∧rows=done∧R'=R)∨∃ x rest,res=some x∧rows=done++x :: rest∧allF hurt blk chk k R=some (rest,R')∧R.rn≤R.at∧RdOk hurt R)) (k₀:=K)
   (EI4 res R1 rs1 [] ⟨rfl,g1,g3,g4 _ _ Y56 a2 a1,g2,J0 hres ha rfl ⟨le_refl _,zero_le _⟩ (zero_le _)⟩) ?_
  clear g1 g2 g3 g4 h1' hres res R1 rs1 ha
  rintro k _ h Q2 hR0 nx _; refine Ex4 hR0 fun res R rs done Z15=>?_; clear hR0; obtain ⟨rfl,Z3⟩:=Z15; refine An5 Z3 fun hr1 hl1 ha1 hrs hh2=>?_; clear Z3
  rename_i z1_; revert nx z1_ hr1 hl1 ha1 hrs hh2; revert k h Q2 res R rs done; apply s7; generalize T1 _=k,T2 _=h,T3 _=Q2,T4 _=res,T5 _=R,T6 _=rs,T7 _=done; intro nx z1_ hr1 hl1 ha1 hrs hh2
  rename_i z1_; revert nx z1_ hr1 hl1 ha1 hrs hh2; revert k h Q2 res R rs done; apply s7; generalize T1 _=k,T2 _=h,T3 _=Q2,T4 _=res,T5 _=R,T6 _=rs,T7 _=done; intro nx z1_ hr1 hl1 ha1 hrs hh2
  revert k h Q2 res R rs done; apply s7; generalize T1 _=k,T2 _=h,T3 _=Q2,T4 _=res,T5 _=R,T6 _=rs,T7 _=done; intro nx z1_ hr1 hl1 ha1 hrs hh2
  have hdl:done.length≤rows.length∧(BL done).length=done.length:=⟨by rcases hh2 with ⟨-,q,-⟩ | ⟨x,rest,-,q,-⟩ <;> simp [q],length_map ..⟩
  refine ⟨!(opV res).isNone&&decide (done.length≤recs.length),by refine PT.of (PT.and (by wtm_at "pt") fun _=>PT.and (.cmp (.lenO (by wtm_at "leaf") (by left) ha1 (eq_1 (eqL hdl.2) hdl.1 hrl hrz)) (.lenL (by wtm_at "leaf") (by left) (lA2 (eqL hrc) hrz)) CmpOk.leN) fun _=>PT.andN) (by rw [hdl.2,hrc,Bool.and_true]),fun q=>?_,fun q=>?_⟩
  ·rcases hh2 with ⟨rfl,-,-⟩ | ⟨x,rest,rfl,e1,e2,e3,e4⟩
   ·cases q
   obtain ⟨k,rfl⟩:∃ j,k=j+1:=by cases k with | zero=>cases e2 | succ k=>exact ⟨k,rfl⟩
   refine XS.app' (x:=.byt x) (by left) ha1 (by left) (eq_1 (eqL hdl.2) hdl.1 hrl hrz) ?_
   refine Ex2 (some_ e2) fun res R1 hres=>?_
   refine XS.masg 18 nm18 eq_309 (by left) (by right) (by nofun) (FC.more (k:=n+5) (eq_412 (R:=R) (by right) (by right) hrs e3 e4 hk hc (lA1 hhl) hres) (lA0)) ?_ eq_302
   refine eq_355 fun h1' Z4=>?_; refine An3 Z4 fun g1 Z5 g4=>?_; clear Z4; refine X12 Z5 fun rs1 g2 g3=>?_; clear Z5
   wtm_at "ds"
   exact XS.nil (nx k _ _ (lt_succ_self _) (EI4 res R1 rs1 (done++[x]) ⟨rfl,g1,g3,(g4 _ _ Y56 a2 a1).trans (by rw [BL,BL,map_append]; rfl),g2,J0 hres e2 (by rw [e1,append_assoc]; rfl) e4 e3⟩))
  ·have hh3:res=none∧rows=done∧R'=R:=by
    rcases hh2 with z | ⟨x,rest,rfl,e1,-⟩
    ·exact z
    ·have:done.length<rows.length:=by rw [e1]; simp
     simp [opV,V.isNone] at q; lia
   obtain ⟨rfl,Z16⟩:=hh3; obtain ⟨rfl,rfl⟩:=Z16
   refine XS.freeze' 17 ha1 rfl (by ac_rfl) ?_
   have hr2:del h ra rd=some (oR hurt blk chk R' rl):=(if_neg (Ne.symm a2)).trans hr1
   have S1:(BL recs).length≤1000000:=lA2 (eqL hrc) hrz
   refine XS.ifF0 (b:=decide (rows≠rows)) (.cmp (by wtm_at "leaf") (PE.cast (PE.compR (k:=((recs.length:Nat):Int)) (fv:=[("lost",.lst (NL lost)),("records",.lst (BL recs))]) (pvI lost) (fI recs) rfl (by wtm_at "leaf") (PE.cast (by left) (by rw [hrc])) (natCast_nonneg _) (Int.ofNat_le.mpr (lA1 hrz)) ?_ (.inr ⟨_,rfl,?_⟩) ?_) (show _=V.lst (BL rows) by rw [toNat_natCast,eq_444,← hrows])) CmpOk.neLB) (by simp) ?_
   ·refine ⟨dK,rfl,dK,rfl,?_,?_,?_⟩
    ·intro p hp
     simp only [mem_cons,not_mem_nil,or_false] at hp
     rcases hp with rfl | rfl
     ·exact ⟨15,nm15,rfl⟩
     ·exact ⟨3,nm3,rfl⟩
    ·intro p hp
     simp only [mem_cons,not_mem_nil,or_false] at hp
     rcases hp with rfl | rfl <;> rfl
    ·intro env henv
     exists env; intro henv
     obtain ⟨a1,e1⟩:=henv _ (.head _)
     exists a1; intro e1
     obtain ⟨a2,e2⟩:=henv _ (.tail _ (.head _))
     exists a2; intro e2
     refine ⟨[("records",a2),("lost",a1)],?_,?_⟩
     ·have c1:cellOf env ("lost" : Str)=pure a1:=by unfold cellOf; rw [e1]
      have c2:cellOf env ("records" : Str)=pure a2:=by unfold cellOf; rw [e2]
      unfold closureFor
      simp only [forIn_cons,forIn_nil,c1,c2]
      rfl
     ·intro p hp
      simp only [mem_cons,not_mem_nil,or_false] at hp
      rcases hp with rfl | rfl
      ·rw [e1]; rfl
      ·rw [e2]; rfl
   ·intro G xv hx
    obtain ⟨i,hi⟩:=getElem?_of_mem hx
    obtain ⟨-,rfl⟩:=Y93 hi
    exact TK.notIn (ks:=lost.map fun k:Nat=>(k:Int)) (PK.loc dK) (by rw [List.map_map]; exact PK.free (.head _) dK)
   ·intro G xv hx _
    obtain ⟨i,hi⟩:=getElem?_of_mem hx
    obtain ⟨hlt,rfl⟩:=Y93 hi
    rw [toNat_natCast] at hlt
    refine PK.itemL (xs:=BL recs) (i:=0+(i:Int)*1) (PK.free (.tail _ (.head _)) dK) (PK.loc dK) (by rw [Int.zero_add,mul_one]; exact natCast_nonneg _) ?_ (lA2 (eqL hrc) hrz)
    rw [show (0+(i:Int)*1).toNat=i by rw [Int.zero_add,mul_one]; rfl,getElem?_map,getElem?_eq_getElem hlt]
    show some (V.byt _)=some (V.byt (recs.getD (0+(i:Int)*1).toNat []))
    rw [show (0+(i:Int)*1).toNat=i by rw [Int.zero_add,mul_one]; rfl,getD_eq_getElem?_getD,getElem?_eq_getElem hlt]; rfl
   refine XS.ifP (b:=decide (a=s+5)&&decide (data.length<lim)) (by refine PT.of (PT.and (by wtm_at "pt") fun _=>PT.and (by wtm_at "pt") fun _=>PT.andN) (by simp)) (fun z=>?_) (fun z=>?_)
   ·have z:a=s+5∧data.length<lim:=by simpa using z
    refine XS.retP (PE.cast (by left) (show _=V.bool true by simp [h1 z])) (hret _ _ _ rfl)
   ·have z:¬ (a=s+5∧data.length<lim):=by simpa using z
    refine XS.done ?_
    refine XS.asg' 19 nm19 (.boolOp (PB.and (by left) fun _=>PB.and (by left) fun _=>PB.last (by left))) (by ac_rfl) ?_
    refine XS.retP (PE.cast (.boolOp (PB.or (by left) fun _=>PB.last (by left))) (show _=V.bool true from ?_)) (hret _ _ _ rfl)
    congr 1
    rcases Decidable.em (a=s+6∧new=0∧e=s+7) with y | y
    ·simp [y.1,y.2.1,y.2.2]
    ·have:=h2 z y
     simp [this]
 ·intro env h
  show (pure (env.blockKind == .function&&env.kindOf _ == some .local&&_&&_):Sem Bool)=_
  rw [h,show (some NameKind.cell == some NameKind.local)=false from rfl,Bool.and_false]; rfl
end
set_option maxHeartbeats 4000000
structure DJ (h:HP) (d dn dk dp nd ba:Addr) (nm:Str) (left:Int) (al:Bool) (b:Bs) (kept:Nat):Prop where
 xd:∃ sp,h d=some (oD left sp al dn 1 dk dp (.lst []))
 xdn:h dn=some (.idd [((1:Nat),.obj nd)])
 xdk:h dk=some (.sd [(nm,.int (1:Nat))])
 xdp:h dp=some (.sd [(nm,.int (1:Nat))])
 xnd:h nd=some (oN 1 ba kept)
 xba:h ba=some (.ba b)
 xne:dk≠dp
theorem DJ.other {h:HP} {d dn dk dp nd ba:Addr} {nm:Str} {left:Int} {al:Bool} {b:Bs} {kept:Nat} {x:Addr} {o:O} (j:DJ h d dn dk dp nd ba nm left al b kept) (h1:x≠d) (h2:x≠dn) (h3:x≠dk) (h4:x≠dp) (h5:x≠nd) (h6:x≠ba):DJ (upd h x o) d dn dk dp nd ba nm left al b kept :=
 ⟨let ⟨sp,q⟩:=j.xd; ⟨sp,(Y57 (Ne.symm h1)).trans q⟩,(Y57 (Ne.symm h2)).trans j.xdn,(Y57 (Ne.symm h3)).trans j.xdk,(Y57 (Ne.symm h4)).trans j.xdp,(Y57 (Ne.symm h5)).trans j.xnd,(Y57 (Ne.symm h6)).trans j.xba,j.xne⟩
theorem DJ.fresh {h:HP} {d dn dk dp nd ba:Addr} {nm:Str} {left:Int} {al:Bool} {b:Bs} {kept:Nat} {x:Addr} {o:O} (j:DJ h d dn dk dp nd ba nm left al b kept) (e:h x=none):DJ (upd h x o) d dn dk dp nd ba nm left al b kept:=by
 obtain ⟨sp,q⟩:=j.xd
 exact j.other (Y142 e q) (Y142 e j.xdn) (Y142 e j.xdk) (Y142 e j.xdp) (Y142 e j.xnd) (Y142 e j.xba)
theorem DJ.tag {h:HP} {d dn dk dp nd ba:Addr} {nm:Str} {left:Int} {al:Bool} {b:Bs} {kept:Nat} {x:Addr} {o o':O} (j:DJ h d dn dk dp nd ba nm left al b kept) (e:h x=some o) (t1:(o.tag == 587)=false:=by rfl) (t2:(o.tag == 3)=false:=by rfl) (t3:(o.tag == 2)=false:=by rfl) (t4:(o.tag == 342)=false:=by rfl) (t5:(o.tag == 1)=false:=by rfl):DJ (upd h x o') d dn dk dp nd ba nm left al b kept:=by
 obtain ⟨sp,q⟩:=j.xd
 exact j.other (Y141 e q t1) (Y141 e j.xdn t2) (Y141 e j.xdk t3) (Y141 e j.xdp t3) (Y141 e j.xnd t4) (Y141 e j.xba t5)
theorem DJ.wr {h:HP} {d dn dk dp nd ba:Addr} {nm:Str} {left left':Int} {al al':Bool} {b b':Bs} {kept sp:Nat} (j:DJ h d dn dk dp nd ba nm left al b kept):DJ (upd (upd h d (oD left' sp al' dn 1 dk dp (.lst []))) ba (.ba b')) d dn dk dp nd ba nm left' al' b' kept:=by
 obtain ⟨sp',q⟩:=j.xd
 have n1:=Y141 q j.xba rfl
 have n2:=Y141 j.xdn q rfl
 have n3:=Y141 j.xdn j.xba rfl
 have n4:=Y141 j.xdk q rfl
 have n5:=Y141 j.xdk j.xba rfl
 have n6:=Y141 j.xdp q rfl
 have n7:=Y141 j.xdp j.xba rfl
 have n8:=Y141 j.xnd q rfl
 have n9:=Y141 j.xnd j.xba rfl
 exact ⟨⟨sp,(Y57 n1).trans Y56⟩,(Y57 n3).trans ((Y57 n2).trans j.xdn),(Y57 n5).trans ((Y57 n4).trans j.xdk),(Y57 n7).trans ((Y57 n6).trans j.xdp),(Y57 n9).trans ((Y57 n8).trans j.xnd),Y56,j.xne⟩
theorem DJ.sy {h:HP} {d dn dk dp nd ba:Addr} {nm:Str} {left left':Int} {al al':Bool} {b:Bs} {kept kept' sp:Nat} (j:DJ h d dn dk dp nd ba nm left al b kept):DJ (upd (upd h d (oD left' sp al' dn 1 dk dp (.lst []))) nd (oN 1 ba kept')) d dn dk dp nd ba nm left' al' b kept':=by
 obtain ⟨sp',q⟩:=j.xd
 have n1:=Y141 q j.xnd rfl
 have n2:=Y141 j.xdn q rfl
 have n3:=Y141 j.xdn j.xnd rfl
 have n4:=Y141 j.xdk q rfl
 have n5:=Y141 j.xdk j.xnd rfl
 have n6:=Y141 j.xdp q rfl
 have n7:=Y141 j.xdp j.xnd rfl
 have n8:=Y141 j.xba q rfl
 have n9:=Y141 j.xba j.xnd rfl
 exact ⟨⟨sp,(Y57 n1).trans Y56⟩,(Y57 n3).trans ((Y57 n2).trans j.xdn),(Y57 n5).trans ((Y57 n4).trans j.xdk),(Y57 n7).trans ((Y57 n6).trans j.xdp),Y56,(Y57 n9).trans ((Y57 n8).trans j.xba),j.xne⟩
theorem DJ.dd {h:HP} {d dn dk dp nd ba:Addr} {nm:Str} {left left':Int} {al al':Bool} {b:Bs} {kept sp:Nat} (j:DJ h d dn dk dp nd ba nm left al b kept):DJ (upd h d (oD left' sp al' dn 1 dk dp (.lst []))) d dn dk dp nd ba nm left' al' b kept:=by
 obtain ⟨sp',q⟩:=j.xd
 exact ⟨⟨sp,Y56⟩,(Y57 (Y141 j.xdn q rfl)).trans j.xdn,(Y57 (Y141 j.xdk q rfl)).trans j.xdk,(Y57 (Y141 j.xdp q rfl)).trans j.xdp,(Y57 (Y141 j.xnd q rfl)).trans j.xnd,(Y57 (Y141 j.xba q rfl)).trans j.xba,j.xne⟩
section
variable {Γ:Gam} {n:Nat} {hp:HP}
theorem eq_448 {nums ends ways:List Nat} {recs:List Bs} {data further b torn text2:Bs} {blk chk kept safe whole K K2 K3:Nat} {dead:Bool} {R1 R2:Rd} [F:Facts Γ] (hn0:0<nums.length) (hn1:nums.length≤1000) (hk:8≤blk) (hk2:blk≤1000) (hc:chk=1∨chk=2) (hrz:recs.length≤100) (hre:ends.length=recs.length) (hrw:ways.length=recs.length) (hrx:∀ x∈recs,x.length≤1000) (hd:data.length≤2000) (hda:data=layO blk chk 0 recs) (hf:further.length≤1000) (hcut:cutF blk chk 0 recs ways [] (drawN nums 1 % (2*data.length+20)) 0 0=(b,kept,safe,dead)) (hkb:kept≤b.length) (hbz:b.length≤2000) (hdead:dead=false→b=data) (hsz:safe≤ends.length) (htorn:torn=b.take (kept+drawN nums 2 % (b.length - kept+1))) (ht1:torn=data.take torn.length) (ht2:endN ends safe≤torn.length) (hwh:whole=whN torn.length ends) (hwz:whole≤ends.length) (hq:preF torn blk chk K 0 rd0=some (recs.take whole,endN ends whole)) (ha:allF torn blk chk K2 rd0=some (recs.take whole,R1)) (hr1:R1.good=endN ends whole) (hr2:R1.skip=0) (hr3:R1.torn=(decide (endN ends whole<torn.length)&&(decide (0<torn.length % blk) || decide (7≤torn.length - endN ends whole)))) (hge:endN ends whole≤torn.length) (htx:text2=torn.take (endN ends whole)++addN blk chk (endN ends whole) further) (hz2:text2.length≤5000) (ha2:allF text2 blk chk K3 rd0=some (recs.take whole++[further],R2)) (hr4:R2.skip=0) :
  FC Γ (n+7) 626 [.lst (NL nums),.int blk,.int chk,.lst (BL recs),.lst (NL ways),.byt data,.lst (NL ends),.byt further] hp (fun x _=>x=.bool true) noH:=by
 revert F hn0 hn1 hk hk2 hc hrz hre hrw hrx hd hda hf hcut hkb hbz hdead hsz htorn ht1 ht2 hwh hwz hq ha hr1 hr2 hr3 hge htx hz2 ha2 hr4; revert Γ n hp nums ends ways recs data further b torn text2 blk chk kept safe whole K K2 K3 dead R1 R2; apply s12; generalize T1 _=Γ,T2 _=n,T3 _=hp,T4 _=nums,T5 _=ends,T6 _=ways,T7 _=recs,T8 _=data,T9 _=further,T10 _=b,T11 _=torn,T12 _=text2; apply s11; generalize T1 _=blk,T2 _=chk,T3 _=kept,T4 _=safe,T5 _=whole,T6 _=K,T7 _=K2,T8 _=K3,T9 _=dead,T10 _=R1,T11 _=R2; intro F hn0 hn1 hk hk2 hc hrz hre hrw hrx hd hda hf hcut hkb hbz hdead hsz htorn ht1 ht2 hwh hwz hq ha hr1 hr2 hr3 hge htx hz2 ha2 hr4
 refine FC.introQ (fn:=f_lcut) eq_172 dK eq_289 fun Q' hret _=>?_
 exists Q'; intro hret _
 have nm0:=nn eq_112 0
 have nm1:=nn eq_112 1
 have nm2:=nn eq_112 2
 have nm3:=nn eq_112 3
 have nm4:=nn eq_112 4
 have nm5:=nn eq_112 5
 have nm6:=nn eq_112 6
 have nm7:=nn eq_112 7
 have nm8:=nn eq_112 8
 have nm9:=nn eq_112 9
 have nm10:=nn eq_112 10
 have nm11:=nn eq_112 11
 have nm12:=nn eq_112 12
 have nm13:=nn eq_112 13
 have nm14:=nn eq_112 14
 have nm15:=nn eq_112 15
 have nm16:=nn eq_112 16
 have nm17:=nn eq_112 17
 have nm18:=nn eq_112 18
 have nm19:=nn eq_112 19
 have nm20:=nn eq_112 20
 have nm21:=nn eq_112 21
 have nm22:=nn eq_112 22
 have nm23:=nn eq_112 23
 have nm24:=nn eq_112 24
 have nm25:=nn eq_112 25
 have nm26:=nn eq_112 26
 have nm27:=nn eq_112 27
 have nm28:=nn eq_112 28
 have nm29:=nn eq_112 29
 have J:(Str.ofString "j").length≤100:=dK
 refine XS.asgC' 8 nm8 (XE.cls (n:=n+5) c_D.2 (by wtm_at "leaf") (.cons ((PE.neg (by left)).cast (by rfl)) .nil) fun d hd0=>?_)
 exists d; intro hd0
 refine FC.more (k:=n+1) ((eq_400 (left:=-1) hd0 dD).mono ?_ eq_302) (lA0)
 refine eq_355 fun h1' Z0=>?_; refine Ex4 Z0 fun dn dk dp dj Z1=>?_; clear Z0; refine eq_21 Z1 fun e1 e2 e3 e4 e5 e6 _ _=>?_; clear Z1
 revert h1' dn dk dp dj; apply s5; generalize T1 _=h1',T2 _=dn,T3 _=dk,T4 _=dp,T5 _=dj; intro e1 e2 e3 e4 e5 e6 _ _
 refine ⟨rfl,?_⟩; wtm_at "ds"
 refine XS.masg 9 nm9 eq_324 (by left) (by right) (by nofun) (FC.more (k:=n+5) (eq_402 e1 e2 e4 e5 dD dD dD J rfl) (lA0)) ?_ eq_302
 rintro _ h2' hR0; refine Ex4 hR0 fun f nd ba s' Z13=>?_; clear hR0; obtain ⟨rfl,Z2⟩:=Z13; refine eq_22 Z2 fun f1 f2 f3 f4 f5 f6 f7 f8 _ f10=>?_; clear Z2
 revert h2' f nd ba s'; apply s5; generalize T1 _=h2',T2 _=f,T3 _=nd,T4 _=ba,T5 _=s'; intro f1 f2 f3 f4 f5 f6 f7 f8 _ f10
 wtm_at "ds"
 have f9:h2' dk=some (.sd []):=f10 _ _ e3 (Y141 e3 e1 rfl) (Y141 e3 e2 rfl) e6 (Y141 e3 e5 rfl)
 refine XS.mexp eq_314 (by left) (by right) (by nofun) (FC.more (k:=n+4) (eq_399 f1 f5 f2 f3 f8 f4 f9 dD J dD) (lA0)) ?_ eq_302
 have ne_f_d:f≠d:=Y141 f1 f5 rfl
 have ne_f_nd:f≠nd:=Y141 f1 f2 rfl
 have ne_f_dk:f≠dk:=Y141 f1 f9 rfl
 have ne_d_nd:d≠nd:=Y141 f5 f2 rfl
 have ne_d_dk:d≠dk:=Y141 f5 f9 rfl
 have ne_d_ba:d≠ba:=Y141 f5 f3 rfl
 have ne_nd_dk:nd≠dk:=Y141 f2 f9 rfl
 have ne_nd_ba:nd≠ba:=Y141 f2 f3 rfl
 have ne_dk_ba:dk≠ba:=Y141 f9 f3 rfl
 have ne_dn_d:dn≠d:=Y141 f6 f5 rfl
 have ne_dn_nd:dn≠nd:=Y141 f6 f2 rfl
 have ne_dn_dk:dn≠dk:=Y141 f6 f9 rfl
 have ne_dp_d:dp≠d:=Y141 f7 f5 rfl
 have ne_dp_nd:dp≠nd:=Y141 f7 f2 rfl
 have e6':=e6
 refine eq_355 fun h3 hh3=>?_
 exists h3; intro hh3
 have j3:DJ h3 d dn dk dp nd ba (Str.ofString "j") (-1) true [] 0:=by
  rw [hh3]
  exact ⟨⟨_,Y56⟩,by right,by right,by right,by right,by right,e6⟩
 have jf:h3 f=some (oF d (Str.ofString "j") nd false):=by rw [hh3]; right
 obtain ⟨sp3,j3d⟩:=j3.xd
 exists sp3; intro j3d
 have hdraw:drawN nums 1 % (2*data.length+20)<2*data.length+20:=mod_lt _ (sA0)
 generalize hbud:drawN nums 1 % (2*data.length+20)=bud at *
 exists bud; intro hbud hcut hdraw
 refine XS.mexp2 eq_317 (by left) (by right) (.cons (PE.cast (.bop (PE.pfn (by wtm_at "leaf") eq_187 (by nofun) (eq_429 (by wtm_at "sc") (by wtm_at "sc"))) (by left) (BinK.modN (succ_ne_zero _))) (show _=V.int (bud:Nat) by rw [← hbud])) .nil) (FC.more (k:=n+2) (eq_391 j3d) (lA0)) eq_302 ?_
 have j4:=j3.dd (left':=(bud:Int)) (al':=true) (sp:=sp3)
 have jf4:upd h3 d (oD (bud:Int) sp3 true dn 1 dk dp (.lst [])) f=some (oF d (Str.ofString "j") nd false):=(Y57 (Y141 jf j3d rfl)).trans jf
 generalize upd h3 d (oD (bud:Int) sp3 true dn 1 dk dp (.lst []))=h4 at *
 exists h4; intro j4 jf4
 refine XS.asg' 10 nm10 (by left) (by ac_rfl) ?_
 refine XS.asg' 11 nm11 (by left) (by ac_rfl) ?_
 obtain ⟨sp4,j4d⟩:=j4.xd
 exists sp4; intro j4d
 refine XS.tryQ 11 (fun dd l h=>dd=dead∧∃ u9 u12 u13 left,l=[some (.lst (NL nums)),some (.int (blk:Nat)),some (.int (chk:Nat)),some (.lst (BL recs)),some (.lst (NL ways)),some (.byt data),some (.lst (NL ends)),some (.byt further),some (.obj d),u9,some (.int (safe:Nat)),some (.bool dead),u12,u13,none,none,none,none,none,none,none,none,none,none,none,none,none,none,none,none]∧DJ h d dn dk dp nd ba (Str.ofString "j") left (!dead) b kept) F.x nm26 (by rw [F.xc]; exact eq_196) nm11 (fun Q1 X1 nx _ ex=>?_) ?_
 ·revert Q1 X1; apply s2; generalize T1 _=Q1,T2 _=X1; intro nx _ ex
  have jnd:=j4.xnd
  refine XS.asgC' 12 nm12 (XE.cls (n:=n+5) c_W.2 (by wtm_at "leaf") (by nofun) fun w hw=>?_)
  exists w; intro hw
  refine FC.more (k:=n+2) ((eq_424 hk (lA1 hk2) hc).mono ?_ eq_302) (lA0)
  refine eq_356 ?_
  refine ⟨rfl,?_⟩; wtm_at "ds"
  have hrcl:(BL recs).length=recs.length:=length_map ..
  have hwl:(NL ways).length=ways.length:=length_map ..
  have S0:(BL recs).length≤1000000:=lA2 (eqL hrcl) hrz
  refine XS.forN 13 nm13 (fun i l h=>∃ (fl w:Addr) (bb:Bs) (left kp sf:Nat) (iV:Option V),l=[some (.lst (NL nums)),some (.int (blk:Nat)),some (.int (chk:Nat)),some (.lst (BL recs)),some (.lst (NL ways)),some (.byt data),some (.lst (NL ends)),some (.byt further),some (.obj d),some (.obj fl),some (.int (sf:Nat)),some (.bool false),some (.obj w),iV,none,none,none,none,none,none,none,none,none,none,none,none,none,none,none,none] ∧
    h fl=some (oF d (Str.ofString "j") nd false)∧h w=some (oW fl blk chk bb.length)∧DJ h d dn dk dp nd ba (Str.ofString "j") (left:Int) true bb kp∧cutF blk chk i (recs.drop i) (ways.drop i) bb left kp sf=(b,kept,safe,dead)∧data=bb++layO blk chk bb.length (recs.drop i))
   ((XIt.range1N (b:=recs.length) (by wtm_at "leaf") (PE.cast (by left) (by rw [hrcl])) (lA1 hrz)))
   (eq_27 f w [] bud 0 0 none ⟨rfl,(Y57 (Y143 jf4 hw)).trans jf4,Y56,j4.fresh hw,hcut,hda⟩) ?_ ?_
  ·rintro i _ h x Q2 hx hR0 nx2 _; refine eq_19 hR0 fun fl w bb left kp sf iV Z14=>?_; clear hR0; obtain ⟨rfl,Z3⟩:=Z14; refine An5 Z3 fun hfl hww j hct hdt=>?_; clear Z3
   revert hx nx2 a hfl hww j hct hdt; revert i h x Q2 fl w bb left kp sf iV; apply s11; generalize T1 _=i,T2 _=h,T3 _=x,T4 _=Q2,T5 _=fl,T6 _=w,T7 _=bb,T8 _=left,T9 _=kp,T10 _=sf,T11 _=iV; intro hx nx2 a hfl hww j hct hdt
   obtain ⟨hi,rfl⟩:=eq_63 hx
   have hi:i<recs.length:=hi
   wtm_at "ds"
   have hiw:i<ways.length:=sA2 (lsl hi) (eqG hrw)
   have hx0:recs[i]?=some recs[i]:=getElem?_eq_getElem hi
   have hxl:=hrx _ (getElem_mem hi)
   have hw0:ways[i]?=some ways[i]:=getElem?_eq_getElem hiw
   rw [drop_eq_getElem_cons hi,drop_eq_getElem_cons hiw,cutF] at hct
   rw [drop_eq_getElem_cons hi,layO] at hdt
   generalize recs[i]=x at *
   exists x; intro hdt hct hx0 hxl
   generalize ways[i]=wy at *
   exists wy; intro hw0 hct
   have htl:bb.length+(addN blk chk bb.length x).length≤2000:=by
    have:=congrArg List.length hdt
    simp only [length_append] at this; exact lA2 (eqG this) hd
   obtain ⟨sp,jd⟩:=j.xd
   exists sp; intro jd
   have n1:=Y141 hww j.xba rfl
   have n2:=Y141 hww jd rfl
   have n3:=Y141 hfl j.xba rfl
   have n4:=Y141 hfl jd rfl
   have n5:=Y141 hfl hww rfl
   refine XS.mexp eq_304 (by left) (by right) (.cons (.itemLN (i:=i) (x:=.byt x) (by left) (PE.cast (by left) (by simp)) (by rw [getElem?_map,hx0]; rfl) (lA2 (eqL hrcl) hrz)) .nil) (FC.more (k:=n+5) (eq_428 hww hfl jd j.xnd j.xba J (lA1 htl) hxl hk hk2 hc) (lA0)) ?_ ?_
   ·refine eq_357 fun hfit=>?_
    have hfit:(addN blk chk bb.length x).length≤left:=by have:=hfit (natCast_nonneg _); lia
    generalize htg:addN blk chk bb.length x=t at *
    rw [if_neg (not_lt_of_le (lA1 hfit))] at hct
    have el:lefS (left:Int) t.length=((left - t.length:Nat):Int):=by unfold lefS; rw [if_pos (natCast_nonneg _)]; exact (ofNat_sub hfit).symm
    rw [el]
    have j2:=(j.wr (left':=((left - t.length:Nat):Int)) (al':=true) (b':=bb++t) (sp:=sp+t.length)).tag (x:=w) (o':=oW fl blk chk (bb.length+t.length)) ((Y57 n1).trans ((Y57 n2).trans hww))
    have hww2:upd (upd (upd h d (oD ((left - t.length:Nat):Int) (sp+t.length) true dn 1 dk dp (.lst []))) ba (.ba (bb++t))) w (oW fl blk chk (bb.length+t.length)) w=some (oW fl blk chk (bb++t).length):=by rw [length_append]; exact Y56
    have hfl2:upd (upd (upd h d (oD ((left - t.length:Nat):Int) (sp+t.length) true dn 1 dk dp (.lst []))) ba (.ba (bb++t))) w (oW fl blk chk (bb.length+t.length)) fl=some (oF d (Str.ofString "j") nd false):=(Y57 n5).trans ((Y57 n3).trans ((Y57 n4).trans hfl))
    generalize upd (upd (upd h d (oD ((left - t.length:Nat):Int) (sp+t.length) true dn 1 dk dp (.lst []))) ba (.ba (bb++t))) w (oW fl blk chk (bb.length+t.length))=h2 at *
    have hbt:(bb++t).length≤2000:=by rw [length_append]; exact htl
    have hdt2:data=(bb++t)++layO blk chk (bb++t).length (recs.drop (i+1)):=by rw [hdt,append_assoc,length_append]
    generalize bb++t=b2 at *
    generalize left - t.length=left2 at *
    obtain ⟨sp2,jd2⟩:=j2.xd
    refine XS.ifQ (fun l h=>∃ (kp sf left:Nat),l=[some (.lst (NL nums)),some (.int (blk:Nat)),some (.int (chk:Nat)),some (.lst (BL recs)),some (.lst (NL ways)),some (.byt data),some (.lst (NL ends)),some (.byt further),some (.obj d),some (.obj fl),some (.int (sf:Nat)),some (.bool false),some (.obj w),some (.int ((0+i*1:Nat):Int)),none,none,none,none,none,none,none,none,none,none,none,none,none,none,none,none] ∧
      h fl=some (oF d (Str.ofString "j") nd false)∧h w=some (oW fl blk chk b2.length)∧DJ h d dn dk dp nd ba (Str.ofString "j") (left:Int) true b2 kp∧cutF blk chk (i+1) (recs.drop (i+1)) (ways.drop (i+1)) b2 left kp sf=(b,kept,safe,dead)) (.cmp (.bop (.itemLN (i:=i) (x:=.int (wy:Nat)) (by left) (PE.cast (by left) (by simp)) (by rw [getElem?_map,hw0]; rfl) (lA3 (eqL hwl) (eqL hrw) hrz)) (by left) (BinK.modN dD)) (by left) CmpOk.eqN) (fun z Q3 nx3 _=>?_) (fun z Q3 nx3 _=>?_) ?_
    ·have z:wy % 2=1:=of_decide_eq_true z
     rw [if_pos z] at hct
     refine XS.mexp eq_305 (by left) (by right) (by nofun) (FC.more (k:=n+5) (eq_425 hww2 hfl2 jd2 j2.xnd j2.xba J (lA1 hbt)) (lA0)) ?_ ?_
     ·refine eq_357 fun e=>?_
      have hl1:¬ left2<1:=fun y=>by unfold aliN at e; simp at e; lia
      rw [if_neg hl1] at hct
      have el2:lefN (left2:Int) 1=((left2 - 1:Nat):Int):=by unfold lefN takN; rw [if_pos (natCast_nonneg _),if_neg (fun z=>hl1 (Int.ofNat_lt.mp z.2))]; exact (ofNat_sub (nlt hl1)).symm
      rw [el2]
      refine XS.asg' 10 nm10 (PE.cast (by left) (show _=V.int ((i+1:Nat):Int) by simp)) (by ac_rfl) ?_
      have m1:=Y141 hww2 jd2 rfl
      have m2:=Y141 hww2 j2.xnd rfl
      have m3:=Y141 hfl2 jd2 rfl
      have m4:=Y141 hfl2 j2.xnd rfl
      exact XS.nil (nx3 _ _ (EI3 b2.length (i+1) (left2 - 1) ⟨rfl,by right,by right,j2.sy,hct⟩))
     ·refine eq_361 fun e=>?_
      have hl1:left2<1:=by unfold aliN at e; simp at e; lia
      rw [if_pos hl1] at hct
      cases hct
      exact ex _ _ ⟨rfl,_,_,_,_,rfl,j2.dd⟩
    ·have z:¬ wy % 2=1:=of_decide_eq_false z
     rw [if_neg z] at hct
     exact XS.nil (nx3 _ _ (EI3 kp sf left2 ⟨rfl,hfl2,hww2,j2,hct⟩))
    clear hct j2 hww2 hfl2 jd2 hww hfl jd j n1 n2 n3 n4 n5 hx hdt
    rintro _ h hR0; refine Ex3 hR0 fun kp sf left Z15=>?_; clear hR0; obtain ⟨rfl,Z4⟩:=Z15; refine An4 Z4 fun hfl hww j hct=>?_; clear Z4
    obtain ⟨sp3,jd⟩:=j.xd
    refine XS.ifP (.cmp (.itemLN (i:=i) (x:=.int (wy:Nat)) (by left) (PE.cast (by left) (by simp)) (by rw [getElem?_map,hw0]; rfl) (lA3 (eqL hwl) (eqL hrw) hrz)) (by left) CmpOk.geN) (fun z=>?_) (fun z=>?_)
    ·refine XS.mexp2 eq_315 (by left) (by right) (by nofun) (FC.more (k:=n+3) (eq_389 hfl jd) (lA0)) eq_302 ?_
     have j2:=j.tag (x:=fl) (o':=oF d (Str.ofString "j") nd true) hfl
     generalize upd h fl (oF d (Str.ofString "j") nd true)=h2 at *
     obtain ⟨sp4,jd2⟩:=j2.xd
     refine XS.masg 9 nm9 eq_326 (by left) (by right) (by nofun) (FC.more (k:=n+3) (eq_394 (nd:=nd) (num:=1) jd2 j2.xdp j2.xdn rfl rfl) (lA0)) ?_ eq_302
     rintro _ _ hR0; refine X12 hR0 fun f' hf' Z16=>?_; clear hR0; obtain ⟨rfl,rfl⟩:=Z16
     wtm_at "ds"
     have j3:=j2.fresh (o:=oF d (Str.ofString "j") nd false) hf'
     have hfl3:upd h2 f' (oF d (Str.ofString "j") nd false) f'=some (oF d (Str.ofString "j") nd false):=Y56
     generalize upd h2 f' (oF d (Str.ofString "j") nd false)=h3 at *
     obtain ⟨sp5,jd3⟩:=j3.xd
     refine XS.asgC' 12 nm12 (XE.cls (n:=n+5) c_W.2 (by wtm_at "leaf") (.cons (by left) (.cons (by left) (.cons (by left) (.cons (PE.mth (u:=.int (b2.length:Nat)) eq_316 (by left) (by right) (by nofun) (FC.more (k:=n+3) (eq_390 hfl3 jd3 j3.xnd j3.xba (lA1 hbt)) (lA0))) .nil)))) fun w2 hw2=>?_)
     refine FC.more (k:=n+2) ((eq_424 hk (lA1 hk2) hc).mono ?_ eq_302) (lA0)
     refine eq_356 ?_
     refine ⟨rfl,?_⟩; wtm_at "ds"
     refine XS.done ?_
     exact XS.nil (nx2 _ _ (eq_27 f' w2 b2 left kp sf _ ⟨rfl,(Y57 (Y143 hfl3 hw2)).trans hfl3,Y56,j3.fresh hw2,hct,hdt2⟩))
    ·refine XS.done ?_
     exact XS.nil (nx2 _ _ (eq_27 fl w b2 left kp sf _ ⟨rfl,hfl,hww,j,hct,hdt2⟩))
   ·rintro _ hR0; refine An2 hR0 fun hnf Z5=>?_; clear hR0; refine Ex3 Z5 fun l' s'' c' Z17=>?_; clear Z5; obtain rfl:=Z17
    have hnf:left<(addN blk chk bb.length x).length:=by
     rcases lt_or_ge left (addN blk chk bb.length x).length with z | z
     ·exact z
     ·exact absurd (fun _=>Int.ofNat_le.mpr (lA1 z)) hnf
    rw [if_pos hnf] at hct
    cases hct
    exact ex _ _ ⟨rfl,_,_,_,l',rfl,(j.wr (left':=l') (al':=false) (sp:=s'') (b':=bb++(addN blk chk bb.length x).take left)).tag (x:=w) ((Y57 n1).trans ((Y57 n2).trans hww))⟩
  ·rintro _ h hR0; refine eq_19 hR0 fun fl w bb left kp sf iV Z18=>?_; clear hR0; obtain ⟨rfl,Z6⟩:=Z18; refine An5 Z6 fun hfl hww j hct hdt=>?_; clear Z6
   rw [eq_64,drop_length,eq_364] at hct
   cases hct
   exact XS.nil (nx _ _ ⟨rfl,_,_,_,_,rfl,j⟩)
 rintro dd _ h hR0; refine An2 hR0 fun hdd Z7=>?_; clear hR0; refine Ex4 Z7 fun u9 u12 u13 left Z19=>?_; clear Z7; obtain ⟨rfl,j⟩:=Z19
 revert hdd j; revert dd h u9 u12 u13 left; apply s6; generalize T1 _=dd,T2 _=h,T3 _=u9,T4 _=u12,T5 _=u13,T6 _=left; intro hdd j
 subst hdd
 obtain ⟨sp5,jd⟩:=j.xd
 exists sp5; intro jd
 refine XS.ifF0 (b:=!dd&&decide (b≠data)) (by
  refine PT.of (PT.and (PT.not (PT.bool (by left) (by intro _ _; rfl))) fun z=>PT.and (.cmp (a:=.byt b) (b:=.byt data) (PE.mth eq_327 (by left) (by right) (by nofun) (FC.more (k:=n+3) (eq_393 (nd:=nd) (ba:=ba) (b:=b) (num:=1) (by
   have z:dd=false:=by simpa using z
   subst z; exact jd) j.xdp j.xdn rfl rfl j.xnd j.xba (lA1 hbz)) (lA0))) (by left) CmpOk.neB) fun _=>PT.andN) (by rw [Bool.and_true])) (by
  cases dd with
  | true=>rfl
  | false=>simp [hdead rfl]) ?_
 refine XS.masg 14 nm14 eq_328 (by left) (by right) (.cons (PE.list (.cons (PE.pfn (by wtm_at "leaf") eq_187 (by nofun) (eq_429 (by wtm_at "sc") (by wtm_at "sc"))) .nil) (by simp)) .nil) (FC.more (k:=n+3) (eq_403 (nd:=nd) (ba:=ba) (b:=b) (num:=1) jd j.xdn j.xdk rfl j.xnd j.xba (lA1 hbz) hkb) (lA0)) ?_ eq_302
 rintro _ h5 hR0; refine eq_19 hR0 fun e en ek ep ej nd2 ba2 Z20=>?_; clear hR0; obtain ⟨rfl,Z8⟩:=Z20; refine eq_21 Z8 fun g1 g2 g3 g4 g5 g6 g7 g8=>?_; clear Z8
 revert h5 e en ek ep ej nd2 ba2; apply s8; generalize T1 _=h5,T2 _=e,T3 _=en,T4 _=ek,T5 _=ep,T6 _=ej,T7 _=nd2,T8 _=ba2; intro g1 g2 g3 g4 g5 g6 g7 g8
 wtm_at "ds"
 rw [← htorn] at g7
 have htz:torn.length≤2000:=by rw [htorn,length_take]; exact lA2 (min_le_right (kept+drawN nums 2 % (List.length b - kept+1)) (List.length b)) hbz
 refine XS.masg 15 nm15 eq_327 (by left) (by right) (by nofun) (FC.more (k:=n+3) (eq_393 (nd:=nd2) (ba:=ba2) (b:=torn) (num:=1) g1 g4 g2 rfl rfl g6 g7 (lA1 htz)) (lA0)) ?_ eq_302
 refine eq_355 fun h6 hq6=>?_
 exists h6; intro hq6
 rw [hq6]
 wtm_at "ds"
 have hez:ends.length≤1000:=lA2 (eqL hre) hrz
 refine XS.ifF0 (b:=decide (torn≠data.take torn.length) || decide (torn.length<endN ends safe)) (by
  refine PT.of (PT.or (by wtm_at "pt") fun _=>PT.or (PT.cmp (by left) (PE.pfn (by wtm_at "leaf") eq_190 (by nofun) (eq_430 (by wtm_at "sc") (by wtm_at "sc"))) CmpOk.ltN) fun _=>PT.orN) (by rw [Bool.or_false])) (by
  rw [decide_eq_false (by rw [← ht1]; simp),decide_eq_false (not_lt_of_le (lA1 ht2))]; rfl) ?_
 refine XS.asg' 16 nm16 (by left) (by ac_rfl) ?_
 have hNE:(NL ends).length=ends.length:=length_map ..
 refine XS.whileQ (fun k l hh=>∃ w,l=[some (.lst (NL nums)),some (.int (blk:Nat)),some (.int (chk:Nat)),some (.lst (BL recs)),some (.lst (NL ways)),some (.byt data),some (.lst (NL ends)),some (.byt further),some (.obj d),u9,some (.int (safe:Nat)),some (.bool dd),u12,u13,some (.obj e),some (.byt torn),some (.int (w:Nat)),none,none,none,none,none,none,none,none,none,none,none,none,none]∧hh=h5∧whole=w+whN torn.length (ends.drop w)∧w+k=ends.length) (k₀:=ends.length) ⟨0,rfl,rfl,by rw [hwh,drop_zero,Nat.zero_add],Nat.zero_add _⟩ ?_
 rintro k _ h5 Q3 hR0 nx3 _; refine Ex1 hR0 fun w Z21=>?_; clear hR0; obtain ⟨rfl,Z22⟩:=Z21; obtain ⟨rfl,Z9⟩:=Z22; refine An2 Z9 fun hw1 hw2=>?_; clear Z9
 revert a g1 g2 g3 g4 g5 g6 g7 g8 hq6 nx3 hw1 hw2; revert k h5 Q3 w; apply s4; generalize T1 _=k,T2 _=h5,T3 _=Q3,T4 _=w; intro a g1 g2 g3 g4 g5 g6 g7 g8 hq6 nx3 hw1 hw2
 refine ⟨decide (w<ends.length)&&decide (ends.getD w 0≤torn.length),by
  refine PT.of (PT.and (.cmp (by left) (.lenL (by wtm_at "leaf") (by left) (lA2 (eqL hNE) hez)) CmpOk.ltN) fun z=>PT.and (.cmp (.itemLN (i:=w) (by left) (by left) (eq_296 (by rw [hNE] at z; simpa using z)) (lA2 (eqL hNE) hez)) (by left) CmpOk.leN) fun _=>PT.andN) (by rw [hNE,Bool.and_true]),fun z=>?_,fun z=>?_⟩
 ·have z:w<ends.length∧ends.getD w 0≤torn.length:=by simpa using z
  refine XS.aug' 16 nm16 rfl (by left) IOp.addN (by ac_rfl) ?_
  refine XS.nil (nx3 (k - 1) _ _ (sA1 (nsa k 1 (lA2 (lsl z.1) (eqG hw2)))) ⟨w+1,rfl,rfl,?_,le_antisymm (lA2 (nsa k 1 (lA2 (lsl z.1) (eqG hw2))) (eqL hw2)) (lA2 (eqG hw2) (nas k 1))⟩)
  rw [drop_eq_getElem_cons z.1,whN,if_pos (by have:=z.2; rwa [getD_eq_getElem?_getD,getElem?_eq_getElem z.1] at this)] at hw1
  exact le_antisymm (lA1 (eqL hw1)) (lA1 (eqG hw1))
 ·have hww:whole=w:=by
   rcases lt_or_ge w ends.length with y | y
   ·have z:¬ ends.getD w 0≤torn.length:=by simpa [y] using z
    rw [drop_eq_getElem_cons y,whN,if_neg (by rwa [getD_eq_getElem?_getD,getElem?_eq_getElem y] at z)] at hw1
    exact le_antisymm (lA1 (eqL hw1)) (lA1 (eqG hw1))
   ·rw [drop_of_length_le y,whN] at hw1; exact le_antisymm (lA1 (eqL hw1)) (lA1 (eqG hw1))
  subst hww
  generalize hgd:endN ends whole=good at *
  exists good; intro hgd hq hr1 hr3 hge htx
  refine XS.asg' 17 nm17 (PE.cast (.pfn (by wtm_at "leaf") eq_190 (by nofun) (eq_430 (lA1 (eqL hw2)) (lA1 hez))) (by rw [hgd])) (by ac_rfl) ?_
  have hrcl:(BL recs).length=recs.length:=length_map ..
  refine XS.ifF0 (b:=decide ((recs.take whole,((good:Nat):Int))≠(recs.take whole,((good:Nat):Int)))) (.cmp (.pfn (by wtm_at "leaf") eq_186 (by nofun) (eq_417 hk (lA1 hk2) hc (lA1 htz) hq)) (PE.tuple (.cons (PE.cast (.uptoL (i:=whole) (by left) (by left) (lA2 (eqL hrcl) hrz)) (by rw [← map_take])) (.cons (by left) .nil)) (by simp)) CmpOk.neT) (by simp) ?_
  refine XS.asgX (XE.ufn2 eq_185 (by wtm_at "leaf") (by nofun) (eq_416 hk (lA1 hk2) hc (lA1 htz) ha) ?_ eq_302) Y87
  rintro _ h6 hR0; refine Ex2 hR0 fun rd rl Z23=>?_; clear hR0; obtain ⟨rfl,Z10⟩:=Z23; refine An3 Z10 fun i1 i2 i3=>?_; clear Z10
  revert h6 rd rl; apply s3; generalize T1 _=h6,T2 _=rd,T3 _=rl; intro i1 i2 i3
  refine (Tgt.tup (.cons (Tgt.name 18 nm18) (.cons (Tgt.name 19 nm19) .nil))).toX ?_
  dsimp only [set_cons_succ,set_cons_zero,id_eq]
  refine XS.ifF0 (b:=decide (recs.take whole≠recs.take whole) || decide (R1.good≠good) || decide (R1.skip≠0)) (by
   refine PT.of (PT.or (.cmp (by left) (PE.cast (.uptoL (i:=whole) (by left) (by left) (lA2 (eqL hrcl) hrz)) (by rw [← map_take])) CmpOk.neLB) fun _=>PT.or (by wtm_at "pt") fun _=>PT.or (by wtm_at "pt") fun _=>PT.orN) (by rw [Bool.or_false,Bool.or_assoc])) (by simp [hr1,hr2]) ?_
  have S1:blk≠0:=fun q_=>eq_5 hk (eqL q_)
  refine XS.asg' 20 nm20 (.boolOp (PB.and (by left) fun _=>PB.last (.boolOp (PB.or (by left) fun _=>PB.last (by left))))) (by ac_rfl) ?_
  have htn:(decide (good<torn.length)&&(decide (0<torn.length % blk) || decide (7≤torn.length - good)))=R1.torn:=hr3.symm
  refine XS.ifF0 (b:=R1.torn != R1.torn) (.cmp (by left) (PE.cast (by wtm_at "leaf") (show _=V.bool R1.torn by rw [← htn])) CmpOk.neBo) (by simp) ?_
  have k1:=i3 _ _ g1
  have k2:=i3 _ _ g2
  have k4:=i3 _ _ g4
  have k5:=i3 _ _ g5
  refine XS.masg 9 nm9 eq_324 (by left) (by right) (by nofun) (FC.more (k:=n+5) (eq_402 k1 k2 k4 k5 (by simp) (by simp) dD dK dK) (lA0)) ?_ eq_302
  rintro _ h7 hR0; refine Ex4 hR0 fun f2' nd3 ba3 s3 Z24=>?_; clear hR0; obtain ⟨rfl,Z11⟩:=Z24; refine eq_22 Z11 fun l1 l2 l3 l4 l5 l6 l7 l8 _ l10=>?_; clear Z11
  revert h7 f2' nd3 ba3 s3; apply s5; generalize T1 _=h7,T2 _=f2',T3 _=nd3,T4 _=ba3,T5 _=s3; intro l1 l2 l3 l4 l5 l6 l7 l8 _ l10
  wtm_at "ds"
  have ne_e_ba3:e≠ba3:=Y141 l5 l3 rfl
  have ne_en_e:en≠e:=Y141 l6 l5 rfl
  have ne_en_ba3:en≠ba3:=Y141 l6 l3 rfl
  have ne_ep_e:ep≠e:=Y141 l7 l5 rfl
  have ne_ep_ba3:ep≠ba3:=Y141 l7 l3 rfl
  have ne_f2'_e:f2'≠e:=Y141 l1 l5 rfl
  have ne_f2'_ba3:f2'≠ba3:=Y141 l1 l3 rfl
  have ne_nd3_e:nd3≠e:=Y141 l2 l5 rfl
  have ne_nd3_ba3:nd3≠ba3:=Y141 l2 l3 rfl
  refine XS.mexp3 eq_313 (by left) (by right) (.cons (PE.cast (.uptoB (by left) (by left) (lA1 htz)) (by rfl)) .nil) (FC.more (k:=n+3) (eq_386 (b:=[]) (o:=torn.take good) l1 l5 l2 l3 dK (by simp only [length_nil,length_take]; exact lA2 (min_le_right good (List.length torn)) htz)) (lA0)) (fun _ q=>by rw [eq_438] at q; cases q.1) fun _=>?_
  rw [eq_439,eq_441]
  refine XS.asgC' 12 nm12 (XE.cls (n:=n+5) c_W.2 (by wtm_at "leaf") (by nofun) fun w hw=>?_)
  exists w; intro hw
  refine FC.more (k:=n+2) ((eq_424 hk (lA1 hk2) hc).mono ?_ eq_302) (lA0)
  refine eq_356 ?_
  simp only [eq_388] at hw
  refine An3 hw fun w1 w2 w3=>?_; clear hw
  have w4:=Y143 l1 w3
  have w5:=Y143 l2 w3
  have w6:=Y143 l6 w3
  have w7:=Y143 l7 w3
  refine ⟨rfl,?_⟩; wtm_at "ds"
  have hlt:(torn.take good).length=good:=by rw [length_take]; lia
  refine XS.mexp3 eq_304 (by left) (by right) (by nofun) (FC.more (k:=n+5) (eq_428 (b:=torn.take good) Y56 (by right) (by right) (by right) (by right) dK (by rw [htx,length_append] at hz2; exact lA1 hz2) hf hk hk2 hc) (lA0)) (fun _ q=>absurd (eq_442 _) q.1) fun _=>?_
  rw [eq_440,← htx]
  refine XS.asgX (XE.ufn2 eq_185 (by wtm_at "leaf") (.cons (PE.mth (u:=.byt text2) eq_327 (by left) (by right) (by nofun) (FC.more (k:=n+3) (eq_393 (nd:=nd3) (ba:=ba3) (b:=text2) (num:=2) (by right) (by right) (by right) (by kernel_rfl) rfl (by right) (by right) (lA1 hz2)) (lA0))) (by nofun)) (eq_416 hk (lA1 hk2) hc (lA1 hz2) ha2) ?_ eq_302) Y87
  rintro _ h8 hR0; refine Ex2 hR0 fun rd2 rl2 Z25=>?_; clear hR0; obtain ⟨rfl,Z12⟩:=Z25; refine An3 Z12 fun m1 _ _=>?_; clear Z12
  refine (Tgt.tup (.cons (Tgt.name 18 nm18) (.cons (Tgt.name 19 nm19) .nil))).toX ?_
  dsimp only [set_cons_succ,set_cons_zero,id_eq]
  have tk:(BL recs).take whole++[V.byt further]=BL (recs.take whole++[further]):=by simp [BL]
  refine XS.retP (PE.cast (.boolOp (PB.and (.cmp (a:=.lst (BL (recs.take whole++[further]))) (b:=.lst (BL (recs.take whole++[further]))) (by wtm_at "leaf") (PE.cast (.bop (.uptoL (i:=whole) (by left) (by left) (lA2 (eqL hrcl) hrz)) (by left) (BinK.addL (by simp; exact lA2 (min_le_right whole recs.length) hrz))) (by rw [tk])) CmpOk.eqLB) fun _=>PB.last (by left))) (show _=V.bool true by simp [hr4])) (hret _ _ _ rfl)
end
noncomputable def fM:V→V
 | .int i=>.int (i.fmod 999983)
 | _=>.none
noncomputable def fY (y:Nat):V→V
 | .int k=>.int (((y:Int)+k*((y:Int).fmod 5)).fmod 256)
 | _=>.none
theorem eq_449 {l:List Int}:Det (l.map V.int):=fun G v x y hx hy h1 h2=>by
 refine X12 (List.mem_map.mp hx) fun a _ Z0=>?_; obtain rfl:=Z0
 refine X12 (List.mem_map.mp hy) fun b _ Z1=>?_; obtain rfl:=Z1
 cases h1
 generalize hz:V.int b=z at h2
 cases h2
 rfl
theorem eq_450 (xs:List Int):((xs.map V.int).filter fun _=>true).map fM=NL (xs.map fun x=>(x.fmod 999983).toNat):=by
 rw [List.filter_eq_self.mpr (fun _ _=>rfl),NL,List.map_map,List.map_map]
 refine map_congr_left fun x _=>?_
 show V.int (x.fmod 999983)=V.int (((x.fmod 999983).toNat:Nat):Int)
 rw [toNat_of_nonneg (Int.fmod_nonneg_of_pos x dD)]
theorem eq_451 (y size:Nat):((rng 0 1 size).filter fun _=>true).map (fY y)=NL ((List.range size).map fun k=>(y+k*(y % 5)) % 256):=by
 rw [List.filter_eq_self.mpr (fun _ _=>rfl),show rng 0 1 size=rngN 0 1 size from Y118 0 1 _,rngN,NL,List.map_map,List.map_map]
 refine map_congr_left fun k _=>?_
 show V.int (((y:Int)+((0+k*1:Nat):Int)*((y:Int).fmod 5)).fmod 256)=V.int (((y+k*(y % 5)) % 256:Nat):Int)
 congr 1
 rw [Int.fmod_eq_emod_of_nonneg _ dD,Int.fmod_eq_emod_of_nonneg _ dD]
 simp
theorem eq_452 (L:Nat):(if (if ((L:Int) - ((5:Nat):Int))<((6:Nat):Int) then ((L:Int) - ((5:Nat):Int)) else ((6:Nat):Int)) > ((1:Nat):Int) then (if ((L:Int) - ((5:Nat):Int))<((6:Nat):Int) then ((L:Int) - ((5:Nat):Int)) else ((6:Nat):Int)) else ((1:Nat):Int))=((Nat.max 1 (Nat.min 6 (L - 5)):Nat):Int):=by
 rcases lt_or_ge L 12 with h | h
 ·revert L; decide
 ·obtain ⟨k,rfl⟩:=Nat.le.dest h
  have e:((12+k:Nat):Int) - ((5:Nat):Int)=((7+k:Nat):Int):=by rw [← ofNat_sub (lA0)]; rw [show 12+k - 5=7+k by rw [show 12+k=7+k+5 from eq_11]; exact Nat.add_sub_cancel ..]
  have w:¬ ((7+k:Nat):Int)<((6:Nat):Int):=fun z=>absurd (Int.ofNat_lt.mp z) (not_lt_of_le lA0)
  rw [e,if_neg w,show Nat.min 6 (12+k - 5)=6 from min_eq_left (lA1 (nas (12+k) 5))]; rfl
section
variable {Γ:Gam} {n:Nat} {hp:HP}
theorem eq_453 {x0:V} [F:Facts Γ]:BindOkC Γ f_law [x0] [some x0,none,none,none,none,none,none,none,none,none,none,none,none,none,none,none,none,none,none,none,none,none,none,none,none,none,none] :=
 BindOkC.plain (ps:=[("script",.local)]) (rest:=f_law.names.drop 1) rfl dD (eq_175 (Γ:=Γ)).nd rfl fun vs h=>by apply eq_54 (vs:=vs) h; exact fun _=>rfl
theorem eq_454 {xs:List Int} {nums:List Nat} {blk chk:Nat} {recs:List Bs} {ways:List Nat} {data further:Bs} {pcs:List (Nat × Nat × Nat)} {ends:List Nat} [F:Facts Γ] (hx:xs.length≤63) (hn:nums=numsN xs) (hb:blk=blkN nums) (hc:chk=chkN nums) (hr:recs=recsN nums (countN nums)) (hw:ways=waysN nums (countN nums)) (hd:data=layO blk chk 0 recs) (hp0:pcs=layP blk chk 0 0 recs) (he:ends=layE blk chk 0 recs) (hf:further=furN nums) (hz:data.length≤10000) (h0:drawN nums 0 / 66 % 3=0→∀ hp,FC Γ (n+7) 638 [.lst (NL nums),.int blk,.int chk,.lst (BL recs),.byt data,.lst (PL pcs),.lst (NL ends)] hp (fun x _=>x=.bool true) noH) (h2:drawN nums 0 / 66 % 3=2→∀ hp,FC Γ (n+7) 633 [.lst (NL nums),.int blk,.int chk,.lst (BL recs),.byt data,.lst (PL pcs),.lst (NL ends),.byt further] hp (fun x _=>x=.bool true) noH) (h1:drawN nums 0 / 66 % 3=1→∀ hp,FC Γ (n+7) 626 [.lst (NL nums),.int blk,.int chk,.lst (BL recs),.lst (NL ways),.byt data,.lst (NL ends),.byt further] hp (fun x _=>x=.bool true) noH) :
  FC Γ (n+8) 643 [.lst (xs.map .int)] hp (fun x _=>x=.bool true) noH:=by
 revert F hx hn hb hc hr hw hd hp0 he hf hz h0 h2 h1; revert Γ n hp xs nums blk chk recs ways data further pcs ends; apply s12; generalize T1 _=Γ,T2 _=n,T3 _=hp,T4 _=xs,T5 _=nums,T6 _=blk,T7 _=chk,T8 _=recs,T9 _=ways,T10 _=data,T11 _=further,T12 _=pcs; apply s1; generalize T1 _=ends; intro F hx hn hb hc hr hw hd hp0 he hf hz h0 h2 h1
 refine FC.introCQ (fn:=f_law) eq_175 eq_453 fun Q' hret _=>?_
 exists Q'; intro hret _
 have nm0:=nn eq_115 0
 have nm1:=nn eq_115 1
 have nm2:=nn eq_115 2
 have nm3:=nn eq_115 3
 have nm4:=nn eq_115 4
 have nm5:=nn eq_115 5
 have nm6:=nn eq_115 6
 have nm7:=nn eq_115 7
 have nm8:=nn eq_115 8
 have nm9:=nn eq_115 9
 have nm10:=nn eq_115 10
 have nm11:=nn eq_115 11
 have nm12:=nn eq_115 12
 have nm13:=nn eq_115 13
 have nm14:=nn eq_115 14
 have nm15:=nn eq_115 15
 have nm16:=nn eq_115 16
 have nm17:=nn eq_115 17
 have nm18:=nn eq_115 18
 have nm19:=nn eq_115 19
 have nm20:=nn eq_115 20
 have nm21:=nn eq_115 21
 have nm22:=nn eq_115 22
 have nm23:=nn eq_115 23
 have nm24:=nn eq_115 24
 have nm25:=nn eq_115 25
 have nm26:=nn eq_115 26
 have hxl:(xs.map V.int).length=xs.length:=length_map ..
 refine XS.asgComp 2 (xs:=(xs.take 40).map V.int) (fv:=[]) (loc':=_) (fun _=>true) fM rfl (PE.cast (.uptoL (i:=40) (by left) (by left) (lA2 (eqL hxl) hx)) (by rw [map_take])) (by simp; exact lA1 (min_le_left 40 xs.length)) ?_ eq_449 (.inl ⟨rfl,fun _ _=>rfl⟩) ?_ nm2 (by ac_rfl) ?_ dK
 ·refine ⟨dK,rfl,dK,rfl,fun p hp=>(nomatch hp),fun p hp=>(nomatch hp),fun env _=>⟨[],?_,fun p hp=>(nomatch hp)⟩⟩
  unfold closureFor
  simp only [forIn_cons,forIn_nil]
  rfl
 ·intro G xv hxm _
  refine X12 (List.mem_map.mp hxm) fun x _ Z0=>?_; obtain rfl:=Z0
  exact PK.mod (PK.loc dK) PK.int dD
 rw [eq_450]
 have hnl:(NL ((xs.take 40).map fun x=>(x.fmod 999983).toNat)).length=(xs.take 40).length:=by simp
 have hnn:nums.length≤40∧0<nums.length:=by
  rw [hn,numsN]; split
  ·exact ⟨dD,dD⟩
  ·rename_i z; rw [length_map]; exact ⟨List.length_take_le ..,by lia⟩
 obtain ⟨hn1,hn2⟩:=hnn
 refine XS.ifQ (fun l h=>l=[some (.lst (xs.map .int)),none,some (.lst (NL nums)),none,none,none,none,none,none,none,none,none,none,none,none,none,none,none,none,none,none,none,none,none,none,none,none]∧h=hp) (.cmp (.lenL (by wtm_at "leaf") (by left) (by rw [hnl]; simp; exact lA1 (min_le_left 40 xs.length))) (by left) CmpOk.eqN) (fun q Q2 nx _=>?_) (fun q Q2 nx _=>?_) ?_
 ·have q:(xs.take 40).length=0:=by rw [hnl] at q; exact of_decide_eq_true q
  refine XS.asg' 2 nm2 (PE.list (by nofun) (by simp)) (by ac_rfl) ?_
  exact XS.nil (nx _ _ ⟨by rw [hn,numsN,if_pos q]; rfl,rfl⟩)
 ·have q:¬ (xs.take 40).length=0:=by rw [hnl] at q; exact of_decide_eq_false q
  exact XS.nil (nx _ _ ⟨by rw [hn,numsN,if_neg q],rfl⟩)
 rintro _ hp ⟨rfl,rfl⟩
 exists hp
 clear hn
 have hb7:8≤blk∧blk≤40:=by
  have:=mod_lt (drawN nums 0) (show 0<33 from dD)
  rw [hb,blkN]; exact ⟨lA0,lA1 (lsl this)⟩
 refine XS.asg' 3 nm3 (PE.cast (.bop (by left) (.bop (PE.pfn (by wtm_at "leaf") eq_187 (by nofun) (eq_429 (by wtm_at "sc") (by wtm_at "sc"))) (by left) (BinK.modN dD)) BinK.addN) (show _=V.int (blk:Nat) by rw [hb]; rfl)) (by ac_rfl) ?_
 refine XS.asg' 4 nm4 (PE.cast (.bop (by left) (.bop (.bop (PE.pfn (by wtm_at "leaf") eq_187 (by nofun) (eq_429 (by wtm_at "sc") (by wtm_at "sc"))) (by left) (BinK.divN dD dD)) (by left) (BinK.modN dD)) BinK.addN) (show _=V.int (chk:Nat) by rw [hc]; rfl)) (by ac_rfl) ?_
 refine XS.asg' 5 nm5 (PE.cast (.minN (by wtm_at "leaf") (by left) (.bop (by left) (.bop (by left) (by left) (BinK.subN (show (7:Nat)≤blk by exact lA1 hb7.1))) (BinK.mulN (.inl dD)))) (show _=V.int (mostN nums:Nat) by rw [mostN,← hb])) (by ac_rfl) ?_
 refine XS.asgC' 6 nm6 (XE.list' .nil dD fun ra hra=>?_)
 exists ra; intro hra
 wtm_at "ds"
 refine XS.asgC' 7 nm7 (XE.list' .nil dD fun wa hwa=>?_)
 exists wa; intro hwa
 wtm_at "ds"
 simp only [eq_388] at hwa
 obtain ⟨a1,a2⟩:=hwa
 refine XS.asg' 8 nm8 (by left) (by ac_rfl) ?_
 have hm30:mostN nums≤30:=min_le_left ..
 have hNLn:(NL nums).length=nums.length:=length_map ..
 have hcnt:countN nums≤6:=by
  have:Nat.min 6 (nums.length - 5)≤6:=min_le_left ..
  exact Nat.max_le.mpr ⟨dD,this⟩
 have S0:(NL nums).length≤1000000:=lA2 (eqL hNLn) hn1
 refine XS.forN 9 nm9 (fun i l h=>∃ (xV yV sV iV:Option V),l=[some (.lst (xs.map .int)),xV,some (.lst (NL nums)),some (.int (blk:Nat)),some (.int (chk:Nat)),some (.int (mostN nums:Nat)),some (.obj ra),some (.obj wa),some (.int (totN nums i:Nat)),iV,yV,sV,none,none,none,none,none,none,none,none,none,none,none,none,none,none,none] ∧
   h=upd (upd hp ra (.list (BL (recsN nums i)))) wa (.list (NL (waysN nums i)))) (XIt.range1N (b:=countN nums) (by wtm_at "leaf") (PE.cast (PE.max (by wtm_at "leaf") (.cons (by left) (.cons (PE.min (by wtm_at "leaf") (.cons (by left) (.cons (.bop (by left) (by left) BinK.subI) .nil))) .nil))) (show _=V.int (countN nums:Nat) by
    rw [hNLn,countN]
    exact congrArg V.int (eq_452 _))) (lA1 hcnt)) (EI4 none none none none ⟨rfl,rfl⟩) ?_ ?_
 ·rintro i _ _ x Q2 hxi hR0 nx _; refine Ex4 hR0 fun xV yV sV iV Z1=>?_; clear hR0; obtain ⟨rfl,rfl⟩:=Z1
  revert hxi nx a; revert i x Q2 xV yV sV iV; apply s7; generalize T1 _=i,T2 _=x,T3 _=Q2,T4 _=xV,T5 _=yV,T6 _=sV,T7 _=iV; intro hxi nx a
  obtain ⟨hi,rfl⟩:=eq_63 hxi
  wtm_at "ds"
  have hsz:=eq_365 nums i (totN nums i)
  have hrl:(recsN nums i).length=i:=by simp [recsN]
  have hwl:(waysN nums i).length=i:=by simp [waysN]
  refine XS.asg' 1 nm1 (PE.cast (.pfn (by wtm_at "leaf") eq_187 (.cons (by left) (.cons (PE.cast (by left) (show _=V.int ((5+i:Nat):Int) by simp)) .nil)) (eq_429 hn2 (lA1 hn1))) rfl) (by ac_rfl) ?_
  generalize hxg:drawN nums (5+i)=x
  exists x; intro hxg
  refine XS.asgK 10 nm10 (u:=.int ((x / 7:Nat):Int)) (.bop (by left) (by left) (BinK.divN dD dD)) (by ac_rfl) ?_ (by intro _ _; rfl)
  refine XS.asg' 11 nm11 (.bop (by left) (by left) (BinK.modN (succ_ne_zero _))) (by ac_rfl) ?_
  refine XS.ifQ (fun l h=>l=[some (.lst (xs.map .int)),some (.int (x:Nat)),some (.lst (NL nums)),some (.int (blk:Nat)),some (.int (chk:Nat)),some (.int (mostN nums:Nat)),some (.obj ra),some (.obj wa),some (.int (totN nums i:Nat)),some (.int ((0+i*1:Nat):Int)),some (.int ((x / 7:Nat):Int)),some (.int (sizeN nums i (totN nums i):Nat)),none,none,none,none,none,none,none,none,none,none,none,none,none,none,none] ∧
   h=upd (upd hp ra (.list (BL (recsN nums i)))) wa (.list (NL (waysN nums i)))) (by wtm_at "pt") (fun q Q3 nx3 _=>?_) (fun q Q3 nx3 _=>?_) ?_
  ·have q:90<totN nums i+x % (mostN nums+1):=of_decide_eq_true q
   refine XS.asg' 11 nm11 (.bop (by left) (by left) (BinK.modN dD)) (by ac_rfl) ?_
   exact XS.nil (nx3 _ _ ⟨by rw [sizeN,hxg,if_pos q],rfl⟩)
  ·have q:¬ 90<totN nums i+x % (mostN nums+1):=of_decide_eq_false q
   exact XS.nil (nx3 _ _ ⟨by rw [sizeN,hxg,if_neg q],rfl⟩)
  refine eq_356 ?_
  generalize hsg:sizeN nums i (totN nums i)=size at *
  exists size; intro hsg hsz
  refine XS.aug' 8 nm8 rfl (by left) (IOp.addN) (by ac_rfl) ?_
  refine XS.app' (x:=.byt (recOf (x / 7) size)) (by left) (by right) (PE.bytesN (l:=(List.range size).map fun k=>(x / 7+k*(x / 7 % 5)) % 256) (by wtm_at "leaf") (PE.cast (PE.compR (k:=((size:Nat):Int)) (fv:=[("y",.int ((x / 7:Nat):Int))]) (fun _=>true) (fY (x / 7)) rfl (by wtm_at "leaf") (by left) (natCast_nonneg _) (Int.ofNat_le.mpr (lA1 hsz)) ?_ (.inl ⟨rfl,fun _ _=>rfl⟩) ?_) (by rw [toNat_natCast,eq_451])) (fun k hk=>by refine X12 (List.mem_map.mp hk) fun j _ Z2=>?_; obtain rfl:=Z2; exact mod_lt _ dD) (by simp; exact lA1 hsz)) (by simp; exact lA3 (eqL hrl) (lsl hi) hcnt) ?_
  ·refine ⟨dK,rfl,dK,rfl,?_,?_,?_⟩
   ·intro p hp
    rcases List.mem_cons.mp hp with rfl | hp
    ·exact ⟨10,nm10,rfl⟩
    ·cases hp
   ·intro p hp
    rcases List.mem_cons.mp hp with rfl | hp
    ·rfl
    ·cases hp
   ·intro env henv
    exists env; intro henv
    obtain ⟨a1,e1⟩:=henv _ (.head _)
    exists a1; intro e1
    refine ⟨[("y",a1)],?_,?_⟩
    ·have c1:cellOf env ("y" : Str)=pure a1:=by unfold cellOf; rw [e1]
     unfold closureFor
     simp only [forIn_cons,forIn_nil,c1]
     rfl
    ·intro p hp
     rcases List.mem_cons.mp hp with rfl | hp
     ·rw [e1]; rfl
     ·cases hp
  ·intro G xv hxv _
   obtain ⟨k,hk⟩:=getElem?_of_mem hxv
   obtain ⟨hkl,rfl⟩:=Y93 hk
   rw [toNat_natCast] at hkl
   exact PK.mod (PK.add (PK.free (.head _) dK) (PK.mul (PK.loc dK) (PK.mod (PK.free (.head _) dK) PK.int dD) (.inl (by lia)))) PK.int dD
  have er:BL (recsN nums i)++[V.byt (recOf (x / 7) size)]=BL (recsN nums (i+1)):=by
   rw [recsN,recsN,range_succ,map_append,BL,BL,map_append,map_cons,map_nil,hxg,hsg]; rfl
  have ew:NL (waysN nums i)++[V.int ((x / 31 % 4:Nat):Int)]=NL (waysN nums (i+1)):=by
   rw [waysN,waysN,range_succ,map_append,NL,NL,map_append,map_cons,map_nil,hxg]; rfl
  rw [er]
  refine XS.app' (x:=.int ((x / 31 % 4:Nat):Int)) (by left) (by right) (.bop (.bop (by left) (by left) (BinK.divN dD dD)) (by left) (BinK.modN dD)) (by simp; exact lA3 (eqL hwl) (lsl hi) hcnt) ?_
  rw [ew]
  refine XS.nil (nx _ _ (EI4 _ _ _ _ ⟨by rw [totN,hsg],?_⟩))
  funext z
  unfold upd
  by_cases z1:z=wa
  ·simp [z1]
  ·by_cases z2:z=ra <;> simp [z1,z2,Ne.symm a1]
 rintro _ _ hR0; refine Ex4 hR0 fun xV yV sV iV Z3=>?_; clear hR0; obtain ⟨rfl,rfl⟩:=Z3
 revert xV yV sV iV; apply s4; generalize T1 _=xV,T2 _=yV,T3 _=sV,T4 _=iV
 rw [eq_64,← hr,← hw]
 refine XS.freeze' 6 (a:=ra) (xs:=BL recs) ((Y57 (Ne.symm a1)).trans Y56) rfl (by ac_rfl) ?_
 refine XS.freeze' 7 (a:=wa) (xs:=NL ways) ((if_neg a1).trans Y56) rfl (by ac_rfl) ?_
 refine XS.less (hp':=hp) (fun a o q=>(if_neg (Y143 q a2)).trans ((if_neg (Y143 q hra)).trans ((Y57 (Y143 q a2)).trans ((Y57 (Y143 q hra)).trans q)))) ?_
 have hrcl:recs.length≤6:=by rw [hr]; simp [recsN]; exact lA1 hcnt
 have hrx:∀ x∈recs,x.length≤1000:=by
  intro x hxm
  rw [hr] at hxm
  refine X12 (List.mem_map.mp hxm) fun i _ Z4=>?_; obtain rfl:=Z4
  rw [eq_366]
  exact Nat.le_trans (eq_365 ..) dD
 have hch:chk=1∨chk=2:=by rw [hc,chkN]; exact (mod_two_eq_zero_or_one (drawN nums 0 / 33)).imp (congrArg (1 + ·)) (congrArg (1 + ·))
 refine XS.unp (PE.cast (.pfn (by wtm_at "leaf") eq_189 (by nofun) (eq_437 (n:=n+5) (lA1 hb7.1) (lA1 hb7.2) hch (lA1 hrcl) hrx (by rw [← hd]; exact hz))) (by rw [← hd,← hp0,← he])) (.cons (Tgt.name 12 nm12) (.cons (Tgt.name 13 nm13) (.cons (Tgt.name 14 nm14) .nil))) ?_
 dsimp only [set_cons_succ,set_cons_zero,id_eq]
 refine XS.asg' 15 nm15 (.bop (.bop (PE.pfn (by wtm_at "leaf") eq_187 (by nofun) (eq_429 (by wtm_at "sc") (by wtm_at "sc"))) (by left) (BinK.divN dD dD)) (by left) (BinK.modN dD)) (by ac_rfl) ?_
 have hway:=mod_lt (drawN nums 0 / 66) (show 0<3 from dD)
 refine XS.ifP (by wtm_at "pt") (fun q=>?_) (fun q=>?_)
 ·have q:drawN nums 0 / 66 % 3=0:=of_decide_eq_true q
  exact XS.retX (XE.ufn2 eq_193 (by wtm_at "leaf") (by nofun) (h0 q hp) (fun x hp' e=>hret _ _ _ e) eq_302)
 ·have q:¬ drawN nums 0 / 66 % 3=0:=of_decide_eq_false q
  refine XS.done ?_
  refine XS.asg' 1 nm1 (PE.pfn (by wtm_at "leaf") eq_187 (by nofun) (eq_429 (by wtm_at "sc") (by wtm_at "sc"))) (by ac_rfl) ?_
  have hkm:=mod_lt (drawN nums 4 / 256) (show 0<mostN nums+1 by exact sA0)
  refine XS.asg' 16 nm16 (PE.cast (.bytesN (l:=List.replicate (drawN nums 4 / 256 % (mostN nums+1)) (drawN nums 4 % 256)) (by wtm_at "leaf") (PE.cast (.mulL1 (.list (.cons (.bop (by left) (by left) (BinK.modN dD)) .nil) (by simp)) (.bop (.bop (by left) (by left) (BinK.divN dD dD)) (by left) (BinK.modN (succ_ne_zero _))) (show drawN nums 4 / 256 % (mostN nums+1)≤1000000 by exact lA2 (lsl hkm) hm30)) (by rw [List.map_replicate])) (fun k hk=>by rw [(List.mem_replicate.mp hk).2]; exact mod_lt _ dD) (by rw [length_replicate]; exact lA2 (lsl hkm) hm30)) (show _=V.byt further by rw [hf]; rfl)) (by ac_rfl) ?_
  refine XS.ifP (by wtm_at "pt") (fun q2=>?_) (fun q2=>?_)
  ·have q2:drawN nums 0 / 66 % 3=2:=of_decide_eq_true q2
   exact XS.retX (XE.ufn2 eq_192 (by wtm_at "leaf") (by nofun) (h2 q2 hp) (fun x hp' e=>hret _ _ _ e) eq_302)
  ·have q2:¬ drawN nums 0 / 66 % 3=2:=of_decide_eq_false q2
   exact XS.done (XS.retX (XE.ufn2 eq_191 (by wtm_at "leaf") (by nofun) (h1 (by lia) hp) (fun x hp' e=>hret _ _ _ e) eq_302))
end
theorem Y146 {l₁ l₂:Bs} {i:Nat}:(l₁++l₂).getD (l₁.length+i) 0=l₂.getD i 0:=by
 rw [getD_eq_getElem?_getD,getD_eq_getElem?_getD,List.getElem?_append_right (le_add_right ..),Nat.add_sub_cancel_left]
theorem eq_455 {a b k:Nat} (h:a<2 ^ k):a ||| b <<< k=a+b*2 ^ k:=by
 have h1:=PyProof.Rows.nat_or_add_and a (b <<< k)
 have z:a &&& b <<< k=0:=by
  apply Nat.eq_of_testBit_eq
  intro i
  rw [Nat.testBit_and,Nat.zero_testBit,Nat.testBit_shiftLeft]
  by_cases hi:i<k
  ·rw [decide_eq_false (Nat.not_le_of_lt (sA1 (lsl hi)))]; simp
  ·rw [Nat.testBit_lt_two_pow (x:=a) (i:=i) (lt_of_lt_of_le h (Nat.pow_le_pow_right dD (lA1 (nlt hi)))),Bool.false_and]
 rw [z,add_zero,shiftLeft_eq] at h1
 rw [shiftLeft_eq]; exact h1
theorem eq_456 {d:Bs} {i:Nat}:rd32 d i=(d.getD i 0).toNat+(d.getD (i+1) 0).toNat*256+(d.getD (i+2) 0).toNat*65536+(d.getD (i+3) 0).toNat*16777216:=by
 have b0:=UInt8.toNat_lt (d.getD i 0)
 have b1:=UInt8.toNat_lt (d.getD (i+1) 0)
 have b2:=UInt8.toNat_lt (d.getD (i+2) 0)
 have c1:(d.getD i 0).toNat+(d.getD (i+1) 0).toNat*2 ^ 8<2 ^ 16:=lt_of_lt_of_le (Nat.add_lt_add_of_lt_of_le b0 (Nat.mul_le_mul_right _ (le_of_lt_succ b1))) dD
 have c2:(d.getD i 0).toNat+(d.getD (i+1) 0).toNat*2 ^ 8+(d.getD (i+2) 0).toNat*2 ^ 16<2 ^ 24:=lt_of_lt_of_le (Nat.add_lt_add_of_lt_of_le c1 (Nat.mul_le_mul_right _ (le_of_lt_succ b2))) dD
 unfold rd32
 rw [eq_455 (k:=8) (sA1 (lsl b0)),eq_455 (k:=16) c1,eq_455 (k:=24) c2]
theorem eq_457 {pre post:Bs} {c:Nat} (h:c<2 ^ 32):rd32 (pre++(put32 c++post)) pre.length=c:=by
 rw [eq_456,eq_352 h]
 have e0:(pre++(nB [c % 256,c / 256 % 256,c / 256 / 256 % 256,c / 256 / 256 / 256 % 256]++post)).getD pre.length 0=(c % 256).toUInt8:=(Y146 (i:=0)).trans rfl
 rw [e0,Y146,Y146,Y146]
 show (c % 256).toUInt8.toNat+(c / 256 % 256).toUInt8.toNat*256+(c / 256 / 256 % 256).toUInt8.toNat*65536+(c / 256 / 256 / 256 % 256).toUInt8.toNat*16777216=c
 simp only [UInt8.toNat_ofNat',Nat.toUInt8]
 have m:∀ x:Nat,x % 256 % 2 ^ 8=x % 256:=fun x=>Nat.mod_mod x 256
 rw [m,m,m,m,mod_eq_of_lt (div_lt_of_lt_mul (div_lt_of_lt_mul (div_lt_of_lt_mul h)))]
 refine (show _=256*(256*(256*(c / 256 / 256 / 256)+c / 256 / 256 % 256)+c / 256 % 256)+c % 256 from eq_11).trans ?_
 rw [div_add_mod,div_add_mod,div_add_mod]
theorem Y147 {d:Bs} {s i:Nat}:d.getD (s+i) 0=(d.drop s).getD i 0:=by
 rw [getD_eq_getElem?_getD,getD_eq_getElem?_getD,List.getElem?_drop]
theorem Y148 {d:Bs} {s:Nat}:rd32 d s=rd32 (d.drop s) 0:=by
 unfold rd32
 rw [← Y147,← Y147,← Y147,← Y147]
 simp only [Nat.zero_add,add_zero]
structure Hd (d:Bs) (s:Nat) (c4:Bs) (z0 z1 kb:UInt8) (x:Bs):Prop where
 c:c4.length=4
 h:∃ t,d.drop s=c4++([z0,z1,kb]++(x++t))
section
variable {d c4 x:Bs} {s:Nat} {z0 z1 kb:UInt8}
theorem Hd.get (h:Hd d s c4 z0 z1 kb x):d.getD (s+4) 0=z0∧d.getD (s+5) 0=z1∧d.getD (s+6) 0=kb:=by
 obtain ⟨t,ht⟩:=h.h
 have e:∀ i,d.getD (s+(4+i)) 0=([z0,z1,kb]++(x++t)).getD i 0:=fun i=>by rw [Y147,ht,← h.c,Y146]
 exact ⟨e 0,e 1,e 2⟩
theorem Hd.rd (h:Hd d s c4 z0 z1 kb x):rd32 d s=rd32 c4 0:=by
 obtain ⟨t,ht⟩:=h.h
 rw [Y148,ht]
 obtain ⟨a,b,c,e,rfl⟩:∃ a b c e,c4=[a,b,c,e]:=by
  match c4,h.c with
  | [a,b,c,e],_=>exact (EI4 a b c e rfl)
 rfl
theorem Hd.body (h:Hd d s c4 z0 z1 kb x):bodyR d s x.length=kb :: x:=by
 obtain ⟨t,ht⟩:=h.h
 have e:s+7 - 1=s+6:=le_antisymm (lA1 (nsa (s+7) 1 (lA0))) (lA1 (nas (s+7) 1))
 have e2:s+7+x.length - (s+6)=x.length+1:=le_antisymm (lA1 (nsa (s+7+List.length x) (s+6) (lA0))) (lA1 (nas (s+7+List.length x) (s+6)))
 rw [bodyR,e,e2,← drop_drop,ht]
 obtain ⟨a,b,c,e,rfl⟩:∃ a b c e,c4=[a,b,c,e]:=by
  match c4,h.c with
  | [a,b,c,e],_=>exact (EI4 a b c e rfl)
 show take (x.length+1) (kb :: (x++t))=_
 rw [List.take_succ_cons,take_left]
theorem Hd.len (h:Hd d s c4 z0 z1 kb x):s+7+x.length≤d.length:=by
 obtain ⟨t,ht⟩:=h.h
 have:=congrArg List.length ht
 rw [length_drop,length_append,length_append,length_append,h.c] at this
 simp only [length_cons,length_nil] at this
 exact lA2 (nsa d.length s (Nat.le_of_lt (Nat.lt_of_sub_pos (by rw [this]; exact sA0)))) (eqG this)
end
theorem eq_458 {n:Nat} (h:n<256):(n.toUInt8).toNat=n:=by
 exact mod_eq_of_lt h
theorem eq_459 {d x:Bs} {s k c:Nat} (h:frag k x c <+: d.drop s):Hd d s (put32 (csumN c (nB [k]++x))) (x.length % 256).toUInt8 (x.length / 256).toUInt8 k.toUInt8 x:=by
 obtain ⟨t,ht⟩:=h
 refine ⟨rfl,t,?_⟩
 rw [← ht,frag,append_assoc,append_assoc,append_assoc]
 rfl
noncomputable def beN (l blk p:Nat):Nat:=if p % blk=0 then p else min l (p+rm0 blk p)
noncomputable def shN (l blk p:Nat):Bool:=if p % blk=0 then false else decide (l<p+rm0 blk p)
noncomputable def stR (l blk p:Nat) (R:Rd):Rd:={ R with «at»:=p,be:=beN l blk p,short:=shN l blk p }
noncomputable def mdR (l blk s:Nat) (R:Rd):Rd:={ R with «at»:=s,be:=min l (s+rm0 blk s),short:=decide (l<s+rm0 blk s) }
noncomputable def gdR (R:Rd) (g:Nat):Rd:={ R with good:=g }
theorem Rd.eq {R:Rd} {a a' b b':Nat} {c c':Bool} (ha:a=a') (hb:b=b') (hc:c=c'):({ R with «at»:=a,be:=b,short:=c }:Rd)={ R with «at»:=a',be:=b',short:=c' }:=by subst ha hb hc; rfl
theorem eq_460 {blk p:Nat} (h:p % blk=0):rm0 blk p=blk:=by unfold rm0; rw [h]; rfl
theorem eq_461 {blk p:Nat} (hb:0<blk):0<rm0 blk p∧rm0 blk p≤blk:=by
 have:=mod_lt p hb
 unfold rm0; exact ⟨sA2 (lsl this) (nas blk (p % blk)),lA1 (sub_le blk (p % blk))⟩
theorem eq_462 {blk s q:Nat} (hb:0<blk) (h1:s≤q) (h2:q<s+rm0 blk s):q % blk=s % blk+(q - s):=by
 have h3:=div_add_mod s blk
 have h4:=mod_lt s hb
 unfold rm0 at h2
 have e:q=blk*(s / blk)+(s % blk+(q - s)):=le_antisymm (lA2 (nas q s) (eqG h3)) (lA2 (eqL h3) (nsa q s (lA1 h1)))
 have h5:s % blk+(q - s)<blk:=sA3 (nsa q s (lA1 h1)) (lsl h2) (nsa blk (s % blk) (lA1 (lsl h4)))
 conv=>lhs; rw [e]
 rw [Nat.mul_add_mod,mod_eq_of_lt h5]
theorem eq_463 {blk s q:Nat} (hb:0<blk) (h1:s≤q) (h2:q<s+rm0 blk s):q+rm0 blk q=s+rm0 blk s:=by
 have h:=eq_462 hb h1 h2
 have h4:=mod_lt q hb
 unfold rm0; exact le_antisymm (eq_1 (nas q s) (nsa blk (q % blk) (lA1 (lsl h4))) (nas blk (s % blk)) (eqG h)) (eq_1 (nsa q s (lA1 h1)) (nsa blk (s % blk) (lA2 (eqG h) (lsl h4))) (nas blk (q % blk)) (eqL h))
theorem eq_464 {blk s q:Nat} (hb:0<blk) (h1:s<q) (h2:q<s+rm0 blk s):0<q % blk:=by
 have h:=eq_462 hb (Nat.le_of_lt h1) h2
 exact sA3 (lsl h1) (nas q s) (eqG h)
theorem eq_465 {blk p:Nat} (h:7≤rm0 blk p):fillN blk p=[]:=by unfold fillN; rw [if_neg (not_lt_of_le (lA1 h))]
theorem eq_466 {blk p:Nat} (h:rm0 blk p<7):(fillN blk p).length=rm0 blk p:=by unfold fillN; rw [if_pos h,length_replicate]
theorem eq_467 {blk p:Nat} (hb:7≤blk) (h:p % blk=0):fillN blk p=[]:=eq_465 (by rw [eq_460 h]; exact hb)
section
variable {d:Bs} {blk chk:Nat}
theorem eq_468 {R:Rd} (h:7≤R.be - R.at):seekR d blk R=(R,false):=by unfold seekR; rw [if_neg (not_lt_of_le (lA1 h))]
theorem eq_469 {R:Rd} (h:R.be - R.at<7) (hs:R.short=false) (h2:7≤(turnR d blk R).be - (turnR d blk R).at):seekR d blk R=(turnR d blk R,false):=by
 unfold seekR; rw [if_pos h,if_neg (by rw [hs]; exact Bool.false_ne_true),if_neg (not_lt_of_le (lA1 h2))]
theorem eq_470 {R:Rd} (h:R.be - R.at<7) (hs:R.short=true):seekR d blk R=(finR R,true):=by unfold seekR; rw [if_pos h,if_pos hs]
theorem eq_471 {R:Rd} (h:R.be - R.at<7) (hs:R.short=false) (h2:(turnR d blk R).be - (turnR d blk R).at<7):seekR d blk R=(finR (turnR d blk R),true):=by
 unfold seekR; rw [if_pos h,if_neg (by rw [hs]; exact Bool.false_ne_true),if_pos h2]
theorem eq_472 {R:Rd} {a p:Nat} {c:Bool} (h:p % blk=0) (hp:p≤d.length):turnR d blk { R with «at»:=a,be:=p,short:=c }=mdR d.length blk p R:=by
 have hm:Nat.min d.length (p+blk)=min d.length (p+rm0 blk p):=by rw [eq_460 h]
 refine Rd.eq rfl hm ?_
 show decide (Nat.min d.length (p+blk) - p<blk)=_
 rw [hm,eq_460 h,Bool.eq_iff_iff,decide_eq_true_eq,decide_eq_true_eq]
 exact (Nat.sub_lt_iff_lt_add' (eq_13 hp (le_add_right ..))).trans ⟨fun g=>(lt_or_ge d.length (p+blk)).resolve_right fun z=>absurd g (by rw [min_eq_right z]; exact lt_irrefl _),fun g=>lt_of_le_of_lt (min_le_left ..) g⟩
theorem eq_473 {l p:Nat} {R:Rd} (h:p % blk=0):stR l blk p R={ R with «at»:=p,be:=p,short:=false }:=Rd.eq rfl (if_pos h) (if_pos h)
theorem eq_474 {l p:Nat} {R:Rd} (h:¬ p % blk=0):stR l blk p R=mdR l blk p R:=Rd.eq rfl (if_neg h) (if_neg h)
theorem eq_475 {l p:Nat} {R:Rd} (h:p+rm0 blk p≤l):mdR l blk p R={ R with «at»:=p,be:=p+rm0 blk p,short:=false }:=Rd.eq rfl (min_eq_right h) (decide_eq_false (Nat.not_lt.mpr h))
theorem eq_476 {l p:Nat} {R:Rd} (h:l<p+rm0 blk p):mdR l blk p R={ R with «at»:=p,be:=l,short:=true }:=Rd.eq rfl (min_eq_left (Nat.le_of_lt h)) (decide_eq_true h)
theorem eq_477 {l s q:Nat} {R:Rd} (hb:0<blk) (h1:s<q) (h2:q≤s+rm0 blk s) (h3:q≤l):({ mdR l blk s R with «at»:=q }:Rd)=stR l blk q R:=by
 rcases lt_or_ge q (s+rm0 blk s) with h | h
 ·rw [eq_474 (ne_of_gt (eq_464 hb h1 h))]
  unfold mdR; rw [eq_463 hb (Nat.le_of_lt h1) h]
 ·obtain rfl:q=s+rm0 blk s:=le_antisymm h2 h
  rw [eq_473 (eq_330 hb),eq_475 h3]
theorem eq_478 {p:Nat} {R:Rd} (hb:8≤blk) (h:p+(fillN blk p).length+7≤d.length):seekR d blk (stR d.length blk p R)=(mdR d.length blk (p+(fillN blk p).length) R,false):=by
 have hp:=@eq_461 blk p (sA1 hb)
 revert d blk p R; apply s4; generalize T1 _=d,T2 _=blk,T3 _=p,T4 _=R; intro hb h hp
 have tb:∀ {q:Nat},q % blk=0→q+7≤d.length→7≤(mdR d.length blk q R).be - (mdR d.length blk q R).at:=fun {q} hq hl=>by
  show 7≤min d.length (q+rm0 blk q) - q
  rw [eq_460 hq]; exact (le_total (List.length d) (q+blk)).elim (fun m0_=>lA3 hl (eqG (min_eq_left m0_)) (nas (min (List.length d) (q+blk)) q)) (fun m0_=>lA3 hb (eqG (min_eq_right m0_)) (nas (min (List.length d) (q+blk)) q))
 by_cases h0:p % blk=0
 ·rw [eq_467 (lA1 hb) h0,length_nil,add_zero] at h ⊢
  have ht:=eq_472 (R:=R) (a:=p) (c:=false) h0 (le_of_add_right_le h)
  rw [eq_473 h0,eq_469 (show p - p<7 by exact sA1 (nsa p p (lA0))) rfl (by rw [ht]; exact tb h0 h),ht]
 ·rw [eq_474 h0]
  rcases lt_or_ge (rm0 blk p) 7 with q | q
  ·rw [eq_466 q] at h ⊢
   have hf:=eq_330 (blk:=blk) (len:=p) (sA1 hb)
   have ht:=eq_472 (R:=R) (a:=p) (c:=false) hf (le_of_add_right_le h)
   rw [eq_475 (le_of_add_right_le h),eq_469 (show p+rm0 blk p - p<7 by exact sA2 (nsa (p+rm0 blk p) p (lA0)) (lsl q)) rfl (by rw [ht]; exact tb hf h),ht]
  ·rw [eq_465 q,length_nil,add_zero] at h ⊢
   exact eq_468 (show 7≤min d.length (p+rm0 blk p) - p by exact (le_total (List.length d) (p+rm0 blk p)).elim (fun m0_=>lA3 h (eqG (min_eq_left m0_)) (nas (min (List.length d) (p+rm0 blk p)) p)) (fun m0_=>lA3 q (eqG (min_eq_right m0_)) (nas (min (List.length d) (p+rm0 blk p)) p)))
noncomputable def tornN (d:Bs) (blk p:Nat):Bool:=decide (p<d.length)&&(decide (0<d.length % blk) || decide (7≤d.length - p))
theorem eq_479 {p:Nat}:tornN d blk p=true↔p<d.length∧(0<d.length % blk∨7≤d.length - p):=by
 unfold tornN; rw [and_eq_true,Bool.or_eq_true,decide_eq_true_eq,decide_eq_true_eq,decide_eq_true_eq]
noncomputable def fnR (R:Rd) (a b:Nat) (c t:Bool):Rd:={ R with «at»:=a,be:=b,short:=c,torn:=R.torn || t }
theorem eq_480 {R:Rd} {p b:Nat} {c t:Bool} (h:decide (p<b)=t):finR { R with «at»:=p,be:=b,short:=c }=fnR R b b c t∨finR { R with «at»:=p,be:=b,short:=c }=fnR R p b c t:=by
 subst h
 unfold finR fnR
 dsimp only
 split
 ·rename_i q; rw [decide_eq_true q,Bool.or_true]; exact .inl rfl
 ·rename_i q; rw [decide_eq_false q,Bool.or_false]; exact .inr rfl
theorem eq_481 {p s:Nat} (hb:0<blk) (hp:p≤s) (h:d.length<s+rm0 blk s) (h1:s<d.length):tornN d blk p=true:=eq_479.mpr ⟨sA2 hp (lsl h1),.inl (eq_464 hb h1 h)⟩
theorem eq_482 {p:Nat} (h:d.length≤p∨(d.length % blk=0∧d.length - p<7)):tornN d blk p=false:=by
 rw [Bool.eq_false_iff,Ne,eq_479]; exact fun a=>h.elim (fun c=>absurd a.1 (not_lt_of_le c)) fun c=>a.2.elim (fun e=>absurd c.1 (ne_of_gt e)) fun e=>absurd c.2 (not_lt_of_le e)
theorem eq_483 {p:Nat} {R:Rd} (hb:8≤blk) (hp:p≤d.length) (h:d.length<p+(fillN blk p).length+7) :
  ∃ a b c,seekR d blk (stR d.length blk p R)=(fnR R a b c (tornN d blk p),true):=by
 revert hb hp h; revert d blk p R; apply s4; generalize T1 _=d,T2 _=blk,T3 _=p,T4 _=R; intro hb hp h
 have beh:∀ {q:Nat},q % blk=0→p≤q→q - p<7→q≤d.length→d.length<q+7→∃ a b c,seekR d blk { R with «at»:=p,be:=q,short:=false }=(fnR R a b c (tornN d blk p),true):=fun {q} hq h1 h2 h3 h4=>by
  have ht:=eq_472 (R:=R) (a:=p) (c:=false) hq h3
  have hr:=eq_460 hq
  have hl:d.length<q+rm0 blk q:=by rw [hr]; exact sA2 (lsl h4) hb
  rw [eq_471 (show q - p<7 from h2) rfl (by rw [ht,eq_476 hl]; show d.length - q<7; exact sA2 (nsa (List.length d) q (lA1 h3)) (lsl h4)),ht,eq_476 hl]
  have e:decide (q<d.length)=tornN d blk p:=by
   rcases lt_or_ge q d.length with z | z
   ·rw [decide_eq_true z,eq_481 (sA1 hb) h1 hl z]
   ·obtain rfl:q=d.length:=le_antisymm h3 z
    rw [decide_eq_false (lt_irrefl _),eq_482 (.inr ⟨hq,h2⟩)]
  rcases eq_480 (R:=R) (c:=true) e with z | z
  ·exact (EI3 _ _ _ (by rw [z]))
  ·exact (EI3 _ _ _ (by rw [z]))
 by_cases h0:p % blk=0
 ·rw [eq_467 (lA1 hb) h0,length_nil,add_zero] at h
  rw [eq_473 h0]
  exact beh h0 (le_refl _) (sA1 (nsa p p (lA0))) hp h
 ·rw [eq_474 h0]
  rcases lt_or_ge d.length (p+rm0 blk p) with q | q
  ·have h7:d.length - p<7:=by
    rcases lt_or_ge (rm0 blk p) 7 with z | z
    ·exact sA3 (nsa (List.length d) p (lA1 hp)) (lsl q) (lsl z)
    ·rw [eq_465 z,length_nil] at h; exact sA2 (nsa (List.length d) p (lA1 hp)) (lsl h)
   rw [eq_476 q,eq_470 (show d.length - p<7 from h7) rfl]
   have e:decide (p<d.length)=tornN d blk p:=by
    rcases lt_or_ge p d.length with z | z
    ·rw [decide_eq_true z,eq_481 (sA1 hb) (le_refl _) q z]
    ·rw [decide_eq_false (Nat.not_lt.mpr z),eq_482 (.inl z)]
   rcases eq_480 (R:=R) (c:=true) e with z | z
   ·exact (EI3 _ _ _ (by rw [z]))
   ·exact (EI3 _ _ _ (by rw [z]))
  ·have h7:rm0 blk p<7:=by
    rcases lt_or_ge (rm0 blk p) 7 with z | z
    ·exact z
    ·rw [eq_465 z,length_nil] at h; exact sA2 q (lsl h)
   rw [eq_466 h7] at h
   rw [eq_475 q]
   exact beh (eq_330 (sA1 hb)) (le_add_right ..) (sA2 (nsa (p+rm0 blk p) p (lA0)) (lsl h7)) q h
end
theorem eq_484 (b e:Bool):kindN b e≠0∧kindN b e<256:=by cases b <;> cases e <;> decide
theorem eq_485 {blk p r:Nat}:addM blk p r≤r∧addM blk p r≤roomN blk p - 7:=⟨min_le_left ..,min_le_right ..⟩
theorem eq_486 {blk p:Nat}:roomN blk p≤blk:=by unfold roomN rm0; split <;> lia
section
variable {d:Bs} {blk chk n:Nat} {parts x:Bs} {R R':Rd}
noncomputable def stepF (f:Bool→Bs→Rd→Option (Option Bs × Rd)) (k:Int) (x:Bs) (R:Rd) (begun:Bool) (parts:Bs):Option (Option Bs × Rd) :=
 if k = -1 then some (none,if begun then { R with torn:=true } else R)
 else if k=1∨k=2 then
  let R:=if begun then (if 0<parts.length then dropR (breakR R) parts.length else breakR R) else R
  if k=1 then some (some x,{ R with good:=R.at }) else f true x R
 else if k=3∨k=4 then
  if begun then (if k=4 then some (some (parts++x),{ R with good:=R.at }) else f true (parts++x) R)
  else f false parts (dropR (breakR R) x.length)
 else if k = -2 then f false [] (if begun then dropR R parts.length else R)
 else none
theorem eq_487 {k:Int} {b:Bool} (h:fragR d blk chk R=((k,x),R')):readF d blk chk (n+1) b parts R=stepF (readF d blk chk n) k x R' b parts:=by
 show stepF (readF d blk chk n) (fragR d blk chk R).1.1 (fragR d blk chk R).1.2 (fragR d blk chk R).2 b parts=_
 rw [h]
theorem eq_488 (h:fragR d blk chk R=((((1:Nat):Int),x),R')):readF d blk chk (n+1) false parts R=some (some x,{ R' with good:=R'.at }):=eq_487 h
theorem eq_489 (h:fragR d blk chk R=((((2:Nat):Int),x),R')):readF d blk chk (n+1) false parts R=readF d blk chk n true x R':=eq_487 h
theorem eq_490 (h:fragR d blk chk R=((((3:Nat):Int),x),R')):readF d blk chk (n+1) true parts R=readF d blk chk n true (parts++x) R':=eq_487 h
theorem eq_491 (h:fragR d blk chk R=((((4:Nat):Int),x),R')):readF d blk chk (n+1) true parts R=some (some (parts++x),{ R' with good:=R'.at }):=eq_487 h
theorem eq_492 {k:Nat} (hk:k=3∨k=4) (h:fragR d blk chk R=(((k:Int),x),R')):readF d blk chk (n+1) false parts R=readF d blk chk n false parts (dropR (breakR R') x.length) :=
 (eq_487 h).trans (by rcases hk with rfl | rfl <;> rfl)
theorem eq_493 {b:Bool} (h:fragR d blk chk R=((-1,x),R')):readF d blk chk (n+1) b parts R=some (none,if b then { R' with torn:=true } else R'):=eq_487 h
theorem eq_494 {b:Bool} (h:fragR d blk chk R=((-2,x),R')):readF d blk chk (n+1) b parts R=readF d blk chk n false [] (if b then dropR R' parts.length else R'):=eq_487 h
noncomputable def overR (R:Rd) (parts:Bs):Rd:=if 0<parts.length then dropR (breakR R) parts.length else breakR R
theorem eq_495 (h:fragR d blk chk R=((((1:Nat):Int),x),R')):readF d blk chk (n+1) true parts R=some (some x,{ overR R' parts with good:=R'.at }) :=
 (eq_487 h).trans (congrArg some (Prod.ext rfl (show ({ overR R' parts with good:=(overR R' parts).at }:Rd)={ overR R' parts with good:=R'.at } by
  have e:(overR R' parts).at=R'.at:=by unfold overR; split <;> rfl
  rw [e])))
theorem eq_496 (h:fragR d blk chk R=((((2:Nat):Int),x),R')):readF d blk chk (n+1) true parts R=readF d blk chk n true x (overR R' parts):=eq_487 h
end
section
variable {d:Bs} {blk chk:Nat}
theorem eq_497 {a b l:Bs} (h:a++b <+: l):a <+: l:=by obtain ⟨t,ht⟩:=h; exact ⟨b++t,by rw [← ht,append_assoc]⟩
theorem eq_498 {a b:Bs} {p:Nat} (h:a++b <+: d.drop p):b <+: d.drop (p+a.length):=by
 obtain ⟨t,ht⟩:=h; exact ⟨t,by rw [← drop_drop,← ht,append_assoc,drop_left]⟩
theorem eq_499 {a:Bs} {p:Nat} (h:a <+: d.drop p) (hp:p≤d.length):p+a.length≤d.length:=by
 have:=h.length_le; rw [length_drop] at this; exact lA2 this (nsa (List.length d) p (lA1 hp))
noncomputable def gB (R:Rd) (size kind r m:Nat) (x:Bs):(Int × Bs) × Rd :=
 if R.be - R.at<7+size then
  if R.short then ((-1,[]),{ R with «at»:=R.be,torn:=true })
  else ((-2,[]),{ R with «at»:=R.be,brk:=R.brk+1,skip:=R.skip+(R.be - R.at),rn:=R.rn+1 })
 else if kind=0∧size=0 then ((-2,[]),{ R with «at»:=R.be,brk:=R.brk+1 })
 else if r≠m then ((-2,[]),{ R with «at»:=R.be,brk:=R.brk+1,skip:=R.skip+(R.be - R.at),rn:=R.rn+1 })
 else (((kind:Nat),x),{ R with «at»:=R.at+7+size })
theorem eq_500 {R:Rd} {s:Nat} {c4 x:Bs} {z0 z1 kb:UInt8} (H:Hd d s c4 z0 z1 kb x) (hs:R.at=s) :
  fragB d chk R=gB R (z0.toNat+z1.toNat*256) kb.toNat (rd32 c4 0) (csumN chk (bodyR d s (z0.toNat+z1.toNat*256))) ((bodyR d s (z0.toNat+z1.toNat*256)).drop 1):=by
 show gB R ((d.getD (R.at+4) 0).toNat+(d.getD (R.at+5) 0).toNat*256) (d.getD (R.at+6) 0).toNat (rd32 d R.at) (csumN chk (bodyR d R.at ((d.getD (R.at+4) 0).toNat+(d.getD (R.at+5) 0).toNat*256))) ((bodyR d R.at ((d.getD (R.at+4) 0).toNat+(d.getD (R.at+5) 0).toNat*256)).drop 1)=_
 rw [hs,H.rd,H.get.1,H.get.2.1,H.get.2.2]
theorem eq_501 {R:Rd} {s:Nat} {c4 x:Bs} {z0 z1 kb:UInt8} (H:Hd d s c4 z0 z1 kb x) (hs:R.at=s) (hz:z0.toNat+z1.toNat*256=x.length) :
  fragB d chk R=gB R x.length kb.toNat (rd32 c4 0) (csumN chk (kb :: x)) x:=by
 rw [eq_500 H hs,hz,H.body]; rfl
theorem eq_502 {R:Rd} {s:Nat} {c4 x:Bs} {z0 z1 kb:UInt8} (H:Hd d s c4 z0 z1 kb x) (hs:R.at=s) (hz:z0.toNat+z1.toNat*256=x.length) (hb:s+7+x.length≤R.be) (hk:kb.toNat≠0) (hc:rd32 c4 0=csumN chk (kb :: x)) :
  fragB d chk R=(((kb.toNat:Int),x),{ R with «at»:=s+7+x.length }):=by
 subst hs
 exact (eq_501 H rfl hz).trans ((if_neg (not_lt_of_le (lA2 hb (nas R.be R.at)))).trans ((if_neg fun q=>hk q.1).trans (if_neg fun q=>q hc)))
theorem eq_503 {R R1:Rd} (h:seekR d blk R=(R1,false)):fragR d blk chk R=fragB d chk R1:=by unfold fragR; rw [h]; rfl
theorem eq_504 {n:Nat} (h:n<65536):((n % 256).toUInt8).toNat+((n / 256).toUInt8).toNat*256=n:=by
 rw [eq_458 (mod_lt _ dD),eq_458 (div_lt_of_lt_mul h)]; exact le_antisymm (lA1 (eqL (div_add_mod n 256))) (lA1 (eqG (div_add_mod n 256)))
theorem eq_505 {blk p r:Nat} (h:blk≤1000):addM blk p r<65536:=by
 have h1:=(@eq_485 blk p r).2
 have h2:=@eq_486 blk p
 exact sA4 h1 (sub_le (roomN blk p) 7) h2 h
theorem eq_506 {p:Nat} (h:7≤blk):rm0 blk (p+(fillN blk p).length)=roomN blk p:=by
 unfold roomN
 split
 ·rename_i q; rw [eq_466 q]; exact eq_460 (eq_330 (sA1 h))
 ·rename_i q; rw [eq_465 (lA1 (nlt q))]; rfl
theorem eq_507 {p r:Nat} (h:8≤blk):7+addM blk p r≤rm0 blk (p+(fillN blk p).length):=by
 rw [eq_506 (lA1 h)]
 have h1:=(@eq_485 blk p r).2
 have h2:=eq_331 (len:=p) h
 exact lA2 h1 (nsa (roomN blk p) 7 (lA1 h2))
theorem eq_508 {p:Nat} {rest:Bs}:(rest.take (addM blk p rest.length)).length=addM blk p rest.length:=by
 rw [length_take]; exact min_eq_left eq_485.1
theorem eq_509 {x:Bs}:rd32 (put32 (csumN chk x)) 0=csumN chk x:=by
 have:=eq_457 (pre:=[]) (post:=[]) (eq_351 chk x)
 rwa [append_nil,nil_append] at this
theorem eq_510 {rest:Bs} {p:Nat} {begun:Bool} {R:Rd} (hb:8≤blk) (hb2:blk≤1000) (hp:p≤d.length) (h:addO blk chk p begun rest <+: d.drop p) :
  fragR d blk chk (stR d.length blk p R)=((((kindN begun (decide (addM blk p rest.length=rest.length)):Nat):Int),rest.take (addM blk p rest.length)),stR d.length blk (p+(addO blk chk p begun rest).length) R)∧p+(addO blk chk p begun rest).length≤d.length:=by
 have hf:=eq_498 h
 revert d blk chk rest p begun R; apply s7; generalize T1 _=d,T2 _=blk,T3 _=chk,T4 _=rest,T5 _=p,T6 _=begun,T7 _=R; intro hb hb2 hp h hf
 have hk:=eq_484 begun (decide (addM blk p rest.length=rest.length))
 have hH:=eq_459 hf
 have hl:=hH.len
 have hr:=@eq_507 blk p rest.length hb
 rw [eq_508] at hH hl
 rw [eq_332,add_assoc (fillN blk p).length,← add_assoc p]
 generalize hs:p+(fillN blk p).length=s at *
 rw [add_assoc] at hl
 refine ⟨?_,hl⟩
 have e1:=eq_478 (R:=R) hb (p:=p) (d:=d) (by rw [hs]; exact Nat.le_trans (add_le_add_left (le_add_right ..) _) hl)
 rw [hs] at e1
 rw [eq_503 e1,eq_502 hH rfl (by rw [eq_504 (eq_505 hb2),eq_508]) (by rw [eq_508]; show _≤min d.length (s+rm0 blk s); exact (le_total (List.length d) (s+rm0 blk s)).elim (fun m0_=>lA2 hl (eqG (min_eq_left m0_))) (fun m0_=>lA2 hr (eqG (min_eq_right m0_)))) (by rw [eq_458 hk.2]; exact hk.1) eq_509,eq_458 hk.2,eq_508]
 rw [add_assoc]
 exact congrArg (Prod.mk _) (eq_477 (l:=d.length) (blk:=blk) (s:=s) (q:=s+(7+addM blk p rest.length)) (sA1 hb) (sA0) (lA1 hr) hl)
theorem eq_511 (hb:8≤blk) (hb2:blk≤1000):∀ {k p:Nat} {begun:Bool} {rest parts:Bs} {n:Nat} {R:Rd},EnoughN blk k p rest.length→p≤d.length→(begun=false→parts=[])→addF blk chk k p begun rest <+: d.drop p→d.length - p<n →
  readF d blk chk n begun parts (stR d.length blk p R)=some (some (parts++rest),stR d.length blk (p+(addF blk chk k p begun rest).length) (gdR R (p+(addF blk chk k p begun rest).length)))
 | 0,p,_,rest,_,_,_,he,_,_,_,_=>by exfalso; unfold EnoughN at he; split at he <;> exact eq_4 he
 | k+1,p,begun,rest,parts,n,R,he,hp0,hp,h,hn=>by
  rw [addF] at h ⊢
  obtain ⟨n,rfl⟩:∃ j,n=j+1:=⟨n - 1,le_antisymm (lA1 (nas n 1)) (lA1 (nsa n 1 (lA1 (lsl hn))))⟩
  obtain ⟨e1,e2⟩:=eq_510 (R:=R) hb hb2 hp0 (eq_497 h)
  by_cases q:addM blk p rest.length=rest.length
  ·rw [if_pos q,append_nil] at h ⊢
   rw [decide_eq_true q,q,take_length] at e1
   cases begun with
   | false=>rw [hp rfl]; exact eq_488 e1
   | true=>exact eq_491 e1
  ·rw [if_neg q] at h ⊢
   rw [decide_eq_false q] at e1
   have hlt:d.length - (p+(addO blk chk p begun rest).length)<n:=by rw [eq_332] at e2 ⊢; exact sA3 (nsa (List.length d) (p+(List.length (fillN blk p)+7+addM blk p (List.length rest))) (lA1 e2)) (nas (List.length d) p) (lsl hn)
   rw [length_append,← add_assoc]
   have key:=fun ps:Bs=>eq_511 hb hb2 (parts:=ps) (R:=R) (eq_334 (chk:=chk) (begun:=begun) hb he q) e2 (fun q=>by cases q) (eq_498 h) hlt
   cases begun with
   | false=>rw [eq_489 e1,key,take_append_drop,hp rfl,nil_append]
   | true=>rw [eq_490 e1,key,append_assoc,take_append_drop]
theorem eq_512 {p:Nat} {x:Bs} {R:Rd} {n:Nat} (hb:8≤blk) (hb2:blk≤1000) (hp:p≤d.length) (h:addN blk chk p x <+: d.drop p) (hn:d.length - p<n) :
  readF d blk chk n false [] (stR d.length blk p R)=some (some x,stR d.length blk (p+(addN blk chk p x).length) (gdR R (p+(addN blk chk p x).length))) :=
 eq_511 hb hb2 eq_335 hp (fun _=>rfl) h hn
theorem eq_513 {p:Nat}:d.length - p<d.length+1:=Nat.lt_succ_of_le (sub_le ..)
theorem eq_514 {α β:Type} {o:Option (List α × β)}:o.map (fun y=>([]++y.1,y.2))=o:=by cases o <;> rfl
theorem eq_515 (hb:8≤blk) (hb2:blk≤1000):∀ {xs:List Bs} {p:Nat} {R:Rd},p≤d.length→layO blk chk p xs <+: d.drop p→∃ g,(xs=[]→g=R.good)∧(xs≠[]→g=p+(layO blk chk p xs).length)∧p+(layO blk chk p xs).length≤d.length ∧
   (∀ n,allF d blk chk (n+xs.length) (stR d.length blk p R)=(allF d blk chk n (stR d.length blk (p+(layO blk chk p xs).length) (gdR R g))).map (fun y=>(xs++y.1,y.2))) ∧
   (R.brk=0→∀ n,preF d blk chk (n+xs.length) R.good (stR d.length blk p R)=(preF d blk chk n g (stR d.length blk (p+(layO blk chk p xs).length) (gdR R g))).map (fun y=>(xs++y.1,y.2)))
 | [],p,R,hp,h=>⟨R.good,fun _=>rfl,fun q=>absurd rfl q,hp,fun n=>eq_514.symm,fun _ n=>eq_514.symm⟩
 | x :: xs,p,R,hp,h=>by
  rw [layO] at h ⊢
  have e1:=eq_512 (R:=R) hb hb2 hp (eq_497 h) eq_513
  have e2:=eq_499 (eq_497 h) hp
  refine eq_25 (eq_515 hb hb2 (R:=(gdR R (p+(addN blk chk p x).length))) e2 (eq_498 h)) fun g g1 g2 g3 g4 g5=>?_
  rw [length_append,← add_assoc,length_cons]
  refine ⟨g,fun q=>absurd q (List.cons_ne_nil _ _),fun _=>?_,g3,fun n=>?_,fun h0 n=>?_⟩
  ·by_cases q:xs=[]
   ·subst q; exact g1 rfl
   ·exact g2 q
  ·rw [← add_assoc,allF]
   simp only [e1,g4,Option.map_map]
   rfl
  ·rw [← add_assoc,preF]
   simp only [e1]
   rw [if_pos (show (stR d.length blk (p+(addN blk chk p x).length) (gdR R (p+(addN blk chk p x).length))).brk=0 from h0)]
   exact (congrArg (map _) (g5 h0 n)).trans (by rw [Option.map_map]; rfl)
end
section
variable {d:Bs} {blk chk:Nat}
theorem eq_516 {k i c:Nat} {x:Bs}:(frag k x c).take (7+i)=put32 (csumN c (nB [k]++x))++([(x.length % 256).toUInt8,(x.length / 256).toUInt8,k.toUInt8]++(x.take i++[])):=by
 have e:frag k x c=(put32 (csumN c (nB [k]++x))++[(x.length % 256).toUInt8,(x.length / 256).toUInt8,k.toUInt8])++x:=by
  rw [frag,append_assoc,append_assoc]; rfl
 rw [e,take_append,take_of_length_le (by show 7≤7+i; exact lA0),show 7+i - (put32 (csumN c (nB [k]++x))++[(x.length % 256).toUInt8,(x.length / 256).toUInt8,k.toUInt8]).length=i from Nat.add_sub_cancel_left 7 i,append_nil,append_assoc]
theorem eq_517 {R:Rd} {s:Nat} {c4 x:Bs} {z0 z1 kb:UInt8} (H:Hd d s c4 z0 z1 kb x) (hs:R.at=s) (hz:R.be - s<7+(z0.toNat+z1.toNat*256)) (hb:R.short=true):fragB d chk R=((-1,[]),{ R with «at»:=R.be,torn:=true }):=by
 subst hs
 exact (eq_500 H rfl).trans ((if_pos hz).trans (if_pos hb))
theorem eq_518 {rest:Bs} {p j:Nat} {begun:Bool} {R:Rd} (hb:8≤blk) (hb2:blk≤1000) (hp:p≤d.length) (hj:j<(addO blk chk p begun rest).length) (h:d.drop p=(addO blk chk p begun rest).take j) :
  ∃ a b c,fragR d blk chk (stR d.length blk p R)=((-1,[]),fnR R a b c (tornN d blk p)):=by
 have hl:d.length=p+j:=by
  have:=congrArg List.length h
  rw [length_drop,length_take,min_eq_left (Nat.le_of_lt hj)] at this; exact le_antisymm (lA2 (nas (List.length d) p) (eqL this)) (lA2 (nsa (List.length d) p (lA1 hp)) (eqG this))
 revert d blk chk rest p j begun R; apply s8; generalize T1 _=d,T2 _=blk,T3 _=chk,T4 _=rest,T5 _=p,T6 _=j,T7 _=begun,T8 _=R; intro hb hb2 hp hj h hl
 rw [eq_332] at hj
 rcases lt_or_ge j ((fillN blk p).length+7) with q | q
 ·refine Ex3 (eq_483 (R:=R) hb hp (by rw [hl,add_assoc]; exact Nat.add_lt_add_left q p)) fun a b c e=>?_
  exact (EI3 a b c (by unfold fragR; rw [e]; rfl))
 ·have hs7:p+(fillN blk p).length+7≤d.length:=by rw [hl,add_assoc]; exact add_le_add_left q p
  have hr:=@eq_507 blk p rest.length hb
  have hH:Hd d (p+(fillN blk p).length) _ _ _ _ _:=⟨rfl,[],by
   rw [← drop_drop,h,addO,take_append,List.drop_append,take_of_length_le (i:=j) (l:=fillN blk p) (lA1 q),drop_length,nil_append,Nat.sub_self,drop_zero,show j - (fillN blk p).length=7+(j - (fillN blk p).length - 7) by exact (le_total (j - List.length (fillN blk p)) 7).elim (fun m0_=>le_antisymm (lA1 m0_) (lA3 (eqL (sub_eq_zero_of_le m0_)) q (nas j (List.length (fillN blk p))))) (fun m0_=>le_antisymm (lA1 (nas (j - List.length (fillN blk p)) 7)) (lA1 (nsa (j - List.length (fillN blk p)) 7 (lA1 m0_)))),eq_516]⟩
  rw [eq_508] at hH
  have hsh:d.length<p+(fillN blk p).length+rm0 blk (p+(fillN blk p).length):=sA3 (eqL hl) (lsl hj) hr
  refine (EI3 d.length d.length true ?_)
  ·rw [eq_503 (eq_478 hb hs7),eq_476 hsh,eq_517 hH rfl (by rw [eq_504 (eq_505 hb2)]; show d.length - _<_; exact sA3 (nsa (List.length d) (p+List.length (fillN blk p)) (lA1 hs7)) (eqL hl) (lsl hj)) rfl]
   rw [eq_479.mpr ⟨sA1 hs7,.inr (lA2 hs7 (nas (List.length d) p))⟩]
   unfold fnR
   rw [Bool.or_true]
theorem eq_519 (hb:8≤blk) (hb2:blk≤1000):∀ {k p:Nat} {begun:Bool} {rest parts:Bs} {n j:Nat} {R:Rd},EnoughN blk k p rest.length→p≤d.length→j<(addF blk chk k p begun rest).length→d.drop p=(addF blk chk k p begun rest).take j→d.length - p<n →
  ∃ a b c,readF d blk chk n begun parts (stR d.length blk p R)=some (none,fnR R a b c (begun || tornN d blk p))
 | 0,p,_,rest,_,_,_,_,he,_,_,_,_=>by exfalso; unfold EnoughN at he; split at he <;> exact eq_4 he
 | k+1,p,begun,rest,parts,n,j,R,he,hp,hj,h,hn=>by
  rw [addF] at h hj
  obtain ⟨n,rfl⟩:∃ j,n=j+1:=⟨n - 1,le_antisymm (lA1 (nas n 1)) (lA1 (nsa n 1 (lA1 (lsl hn))))⟩
  rw [take_append] at h
  rcases lt_or_ge j (addO blk chk p begun rest).length with q | q
  ·rw [sub_eq_zero_of_le (Nat.le_of_lt q),take_zero,append_nil] at h
   refine Ex3 (eq_518 (R:=R) hb hb2 hp q h) fun a b c e1=>?_
   refine (EI3 a b c ((eq_493 e1).trans ?_))
   cases begun with
   | false=>rfl
   | true=>unfold fnR; rw [if_pos rfl,Bool.true_or,Bool.or_true]
  ·rw [take_of_length_le q] at h
   by_cases z:addM blk p rest.length=rest.length
   ·rw [if_pos z,append_nil] at hj; exact absurd hj (Nat.not_lt.mpr q)
   ·rw [if_neg z] at h hj
    obtain ⟨e1,e2⟩:=eq_510 (R:=R) (begun:=begun) hb hb2 hp ⟨_,h.symm⟩
    rw [decide_eq_false z] at e1
    rw [length_append] at hj
    have hd:d.drop (p+(addO blk chk p begun rest).length)=(addF blk chk k (p+(addO blk chk p begun rest).length) true (rest.drop (addM blk p rest.length))).take (j - (addO blk chk p begun rest).length):=by rw [← drop_drop,h,drop_left]
    have h7:p+7≤p+(addO blk chk p begun rest).length:=by rw [eq_332]; exact lA0
    have ht:tornN d blk p=true:=eq_479.mpr (⟨sA2 e2 h7,.inr (Nat.le_sub_of_add_le (lA2 e2 h7))⟩)
    have key:=fun ps:Bs=>eq_519 hb hb2 (parts:=ps) (n:=n) (R:=R) (eq_334 (chk:=chk) (begun:=begun) hb he z) e2 (sA2 (nsa j (List.length (addO blk chk p begun rest)) (lA1 q)) (lsl hj)) hd (sA4 (nsa (List.length d) (p+List.length (addO blk chk p begun rest)) (lA1 e2)) (nas (List.length d) p) (lsl hn) h7)
    rw [ht,Bool.or_true]
    cases begun with
    | false=>rw [eq_489 e1]; simpa only [Bool.true_or] using key (rest.take (addM blk p rest.length))
    | true=>rw [eq_490 e1]; simpa only [Bool.true_or] using key (parts++rest.take (addM blk p rest.length))
theorem eq_520 {n:Nat} {parts:Bs} {begun:Bool} {R:Rd} (hb:8≤blk) (hb2:blk≤1000) (hn:0<n) :
  ∃ a b c,readF d blk chk n begun parts (stR d.length blk d.length R)=some (none,fnR R a b c (begun || tornN d blk d.length)) :=
 eq_519 hb hb2 (k:=2) (rest:=[]) (j:=0) (by unfold EnoughN; split <;> simp) (le_refl _) (by rw [addF,length_append,eq_332]; exact sA0) (by rw [take_zero,drop_length]) (sA2 (nsa (List.length d) (List.length d) (lA0)) (lsl hn))
end
theorem eq_521 {blk chk:Nat}:∀ {xs ys:List Bs} {p:Nat},layO blk chk p (xs++ys)=layO blk chk p xs++layO blk chk (p+(layO blk chk p xs).length) ys
 | [],ys,p=>rfl
 | x :: xs,ys,p=>by rw [cons_append,layO,layO,eq_521,append_assoc,length_append,add_assoc]
theorem eq_522 {blk chk:Nat}:∀ {xs ys:List Bs} {i p:Nat},layP blk chk i p (xs++ys)=layP blk chk i p xs++layP blk chk (i+xs.length) (p+(layO blk chk p xs).length) ys
 | [],ys,i,p=>rfl
 | x :: xs,ys,i,p=>by rw [cons_append,layP,layP,eq_522,layO,append_assoc,length_append,length_cons,add_assoc,add_assoc,add_comm 1]
theorem eq_523 {blk chk:Nat}:∀ {xs ys:List Bs} {p:Nat},layE blk chk p (xs++ys)=layE blk chk p xs++layE blk chk (p+(layO blk chk p xs).length) ys
 | [],ys,p=>rfl
 | x :: xs,ys,p=>by rw [cons_append,layE,layE,eq_523,layO,cons_append,length_append,add_assoc]
theorem eq_524 {blk chk:Nat}:∀ {xs:List Bs} {p:Nat},(layE blk chk p xs).length=xs.length
 | [],_=>rfl
 | x :: xs,p=>by rw [layE,length_cons,length_cons,eq_524]
theorem eq_525 {blk chk:Nat} {x:Bs}:∀ {xs:List Bs} {p:Nat},(layE blk chk p (xs++[x])).getD xs.length 0=p+(layO blk chk p (xs++[x])).length
 | [],p=>by simp [layE,layO]
 | y :: xs,p=>by rw [cons_append,layE,length_cons,List.getD_cons_succ,eq_525,layO,length_append,add_assoc]
theorem eq_526 {blk chk:Nat} {x:Bs} {xs ys:List Bs} {p:Nat}:(layE blk chk p (xs++x :: ys)).getD xs.length 0=p+(layO blk chk p xs).length+(addN blk chk (p+(layO blk chk p xs).length) x).length:=by
 rw [show xs++x :: ys=(xs++[x])++ys by simp,eq_523,getD_eq_getElem?_getD,getElem?_append_left (by rw [eq_524]; simp),← getD_eq_getElem?_getD,eq_525,eq_521,length_append]
 simp [layO,add_assoc]
theorem eq_527 {blk chk:Nat} {xs ys:List Bs}:endN (layE blk chk 0 (xs++ys)) xs.length=(layO blk chk 0 xs).length:=by
 rcases List.eq_nil_or_concat xs with rfl | ⟨l,x,rfl⟩
 ·rfl
 ·rw [List.concat_eq_append,endN,if_neg (by simp),append_assoc,List.singleton_append,show (l++[x]).length - 1=l.length by simp,eq_526,eq_521,length_append,Nat.zero_add]
  simp [layO]
theorem eq_528 {blk r:Nat}:∀ {k p:Nat} {rest:Bs} {q:Nat × Nat × Nat},q∈pcsF blk r k p rest→q.1=r∧p+(fillN blk p).length≤q.2.1∧q.2.1+7≤q.2.2
 | 0,_,_,_,h=>nomatch h
 | k+1,p,rest,q,h=>by
  rw [pcsF] at h
  rcases List.mem_cons.mp h with rfl | h
  ·exact ⟨rfl,le_refl _,by dsimp only; exact lA0⟩
  ·split at h
   ·nomatch h
   ·have:=eq_528 h; exact ⟨this.1,lA1 this.2.1,this.2.2⟩
theorem eq_529 {blk chk:Nat}:∀ {xs:List Bs} {i p:Nat} {q:Nat × Nat × Nat},q∈layP blk chk i p xs→i≤q.1∧q.1<i+xs.length∧p≤q.2.1∧q.2.1+7≤q.2.2
 | [],_,_,_,h=>nomatch h
 | x :: xs,i,p,q,h=>by
  rw [layP] at h
  rw [length_cons]
  rcases List.mem_append.mp h with h | h
  ·have:=eq_528 h; exact ⟨lA1 (eqG this.1),⟨sA1 (eqL this.1),⟨lA1 this.2.1,lA1 this.2.2⟩⟩⟩
  ·have:=eq_529 h; exact ⟨lA1 this.1,⟨sA1 (lsl this.2.1),⟨lA1 this.2.2.1,lA1 this.2.2.2⟩⟩⟩
theorem eq_530 {blk chk:Nat}:∀ {xs:List Bs} {i p:Nat} {q:Nat × Nat × Nat},q∈layP blk chk i p xs→∃ xs1 x xs2,xs=xs1++x :: xs2∧q.1=i+xs1.length∧q∈pcsN blk (i+xs1.length) (p+(layO blk chk p xs1).length) x
 | [],_,_,_,h=>nomatch h
 | x :: xs,i,p,q,h=>by
  rw [layP] at h
  rcases List.mem_append.mp h with h | h
  ·exact (EI3 [] x xs ⟨rfl,(eq_528 h).1,h⟩)
  ·refine Ex3 (eq_530 h) fun xs1 y xs2 Z1=>?_; obtain ⟨rfl,Z0⟩:=Z1; refine An2 Z0 fun e1 e2=>?_; clear Z0
   refine (EI3 (x :: xs1) y xs2 ⟨rfl,by rw [e1,length_cons]; exact eq_11,?_⟩)
   rw [layO,length_append,length_cons]
   rwa [show i+(xs1.length+1)=i+1+xs1.length by exact eq_11,← add_assoc]
theorem eq_531 {blk chk r:Nat}:∀ {k p:Nat} {begun:Bool} {rest:Bs} {q:Nat × Nat × Nat},q∈pcsF blk r k p rest→q.2.2≤p+(addF blk chk k p begun rest).length
 | 0,_,_,_,_,h=>nomatch h
 | k+1,p,begun,rest,q,h=>by
  have e:=@eq_332 blk chk p begun rest
  rw [pcsF] at h
  rw [addF,length_append]
  rcases List.mem_cons.mp h with rfl | h
  ·show p+_+7+_≤_; exact lA1 (eqG e)
  ·split at h
   ·nomatch h
   ·rename_i z
    rw [if_neg z]
    have:=eq_531 (chk:=chk) (begun:=true) h
    rw [show p+(fillN blk p).length+7+addM blk p rest.length=p+(addO blk chk p begun rest).length by exact le_antisymm (lA1 (eqG e)) (lA1 (eqL e))] at this
    exact lA1 this
theorem eq_532 {r e:Nat}:∀ {a b:List (Nat × Nat × Nat)},lostN r e (a++b)=lostN r e a+lostN r e b
 | [],b=>by simp [lostN]
 | p :: a,b=>by rw [cons_append,lostN,lostN,eq_532,add_assoc]
theorem eq_533 {r e:Nat}:∀ {a:List (Nat × Nat × Nat)},(∀ p∈a,¬ (p.1=r∧p.2.2≤e))→lostN r e a=0
 | [],_=>rfl
 | p :: a,h=>by rw [lostN,if_neg (h p (.head _)),eq_533 fun q hq=>h q (.tail _ hq)]
section
variable {d:Bs} {blk chk:Nat}
theorem eq_534 {l p:Nat} {R:Rd} {ps:Bs}:overR (stR l blk p R) ps=stR l blk p (overR R ps):=by unfold overR; split <;> rfl
theorem eq_535 {R:Rd} {ps:Bs}:(overR R ps).skip=R.skip+ps.length∧(overR R ps).brk=R.brk+1:=by
 unfold overR; split
 ·exact ⟨rfl,rfl⟩
 ·rename_i q; rw [Nat.eq_zero_of_not_pos q]; exact ⟨rfl,rfl⟩
theorem eq_536 {p:Nat} {x parts:Bs} {R:Rd} {n:Nat} (hb:8≤blk) (hb2:blk≤1000) (hp:p≤d.length) (h:addN blk chk p x <+: d.drop p) (hn:d.length - p<n) :
  readF d blk chk n true parts (stR d.length blk p R)=some (some x,stR d.length blk (p+(addN blk chk p x).length) (gdR (overR R parts) (p+(addN blk chk p x).length))):=by
 have he:=@eq_335 blk p x
 revert hb hb2 hp h hn he; revert d blk chk p x parts R n; apply s8; generalize T1 _=d,T2 _=blk,T3 _=chk,T4 _=p,T5 _=x,T6 _=parts,T7 _=R,T8 _=n; intro hb hb2 hp h hn he
 unfold addN at h ⊢
 rw [show 2*x.length+2=(2*x.length+1)+1 from rfl] at he h ⊢
 exists n; intro hn
 rw [addF] at h ⊢
 exists n; intro hn
 obtain ⟨n,rfl⟩:∃ j,n=j+1:=⟨n - 1,le_antisymm (lA1 (nas n 1)) (lA1 (nsa n 1 (lA1 (lsl hn))))⟩
 exists n; intro hn
 obtain ⟨e1,e2⟩:=eq_510 (R:=R) hb hb2 hp (eq_497 h)
 by_cases q:addM blk p x.length=x.length
 ·rw [if_pos q,append_nil] at h ⊢
  rw [decide_eq_true q,q,take_length] at e1
  rw [eq_495 e1,eq_534]; rfl
 ·rw [if_neg q] at h ⊢
  rw [decide_eq_false q] at e1
  rw [length_append,← add_assoc,eq_496 e1,eq_534,eq_511 hb hb2 (eq_334 (chk:=chk) (begun:=false) hb he q) e2 (fun q=>by cases q) (eq_498 h) (by rw [eq_332] at e2 ⊢; exact sA3 (nsa (List.length d) (p+(List.length (fillN blk p)+7+addM blk p (List.length x))) (lA1 e2)) (nas (List.length d) p) (lsl hn)),take_append_drop]
theorem eq_537 {r s e:Nat} {further:Bs} (hb:8≤blk) (hb2:blk≤1000):∀ {k p:Nat} {begun:Bool} {rest parts:Bs} {n:Nat} {R:Rd},EnoughN blk k p rest.length→p≤d.length→(begun=false→parts=[])→(r,s,e)∈pcsF blk r k p rest→e≠p+(addF blk chk k p begun rest).length →
  (addF blk chk k p begun rest).take (e - p)++addN blk chk e further <+: d.drop p→d.length - p<n →
  ∃ R',readF d blk chk n begun parts (stR d.length blk p R)=some (some further,stR d.length blk (e+(addN blk chk e further).length) R')∧e+(addN blk chk e further).length≤d.length∧R'.skip=R.skip+parts.length+lostN r e (pcsF blk r k p rest)∧R'.brk=R.brk+1∧R'.good=e+(addN blk chk e further).length
 | 0,_,_,_,_,_,_,_,_,_,h,_,_,_=>nomatch h
 | k+1,p,begun,rest,parts,n,R,he,hp0,hp,hm,hne,h,hn=>by
  have hal:=@eq_332 blk chk p begun rest
  obtain ⟨n,rfl⟩:∃ j,n=j+1:=⟨n - 1,le_antisymm (lA1 (nas n 1)) (lA1 (nsa n 1 (lA1 (lsl hn))))⟩
  have hE:p+(fillN blk p).length+7+addM blk p rest.length=p+(addO blk chk p begun rest).length:=by rw [hal,add_assoc,add_assoc,add_assoc]
  rw [pcsF,hE] at hm
  rw [pcsF,hE]
  have hle:p+(addO blk chk p begun rest).length≤e:=by
   rcases List.mem_cons.mp hm with q | q
   ·injection q with _ q; injection q with _ q; exact le_of_eq q.symm
   ·split at q
    ·nomatch q
    ·have:=eq_528 q; have h1:=this.2.1; have h2:=this.2.2; dsimp only at h1 h2; exact lA2 h1 h2
  rw [addF] at h hne
  rw [take_append,take_of_length_le (l:=addO blk chk p begun rest) (lA2 hle (nas e p)),append_assoc] at h
  obtain ⟨e1,e2⟩:=eq_510 (R:=R) hb hb2 hp0 (eq_497 h)
  have hd:=eq_498 h
  have hn':d.length - (p+(addO blk chk p begun rest).length)<n:=sA4 (nsa (List.length d) (p+List.length (addO blk chk p begun rest)) (lA1 e2)) (nas (List.length d) p) (lsl hn) (eqL hE)
  by_cases z:addM blk p rest.length=rest.length
  ·exfalso
   rw [if_pos z,append_nil] at hne
   rw [if_pos z] at hm
   rcases List.mem_cons.mp hm with q | q
   ·injection q with _ q; injection q with _ q; exact hne q
   ·nomatch q
  ·rw [if_neg z] at hd hne hm ⊢
   rw [decide_eq_false z] at e1
   have hlost:lostN r e ((r,p+(fillN blk p).length,p+(addO blk chk p begun rest).length) :: pcsF blk r k (p+(addO blk chk p begun rest).length) (rest.drop (addM blk p rest.length)))=addM blk p rest.length+lostN r e (pcsF blk r k (p+(addO blk chk p begun rest).length) (rest.drop (addM blk p rest.length))):=by
    rw [lostN,if_pos (show r=r∧p+(addO blk chk p begun rest).length≤e from ⟨rfl,hle⟩)]
    congr 1
    dsimp only
    exact le_antisymm (lA3 (nsa (p+List.length (addO blk chk p begun rest) - (p+List.length (fillN blk p))) 7 (lA2 (eqL hE) (nas (p+List.length (addO blk chk p begun rest)) (p+List.length (fillN blk p))))) (nsa (p+List.length (addO blk chk p begun rest)) (p+List.length (fillN blk p)) (lA1 (eqL hE))) (eqG hE)) (lA3 (eqL hE) (nas (p+List.length (addO blk chk p begun rest)) (p+List.length (fillN blk p))) (nas (p+List.length (addO blk chk p begun rest) - (p+List.length (fillN blk p))) 7))
   rw [hlost]
   have hs:∀ ps:Bs,∃ R',readF d blk chk n true ps (stR d.length blk (p+(addO blk chk p begun rest).length) R)=some (some further,stR d.length blk (e+(addN blk chk e further).length) R')∧e+(addN blk chk e further).length≤d.length∧R'.skip=R.skip+ps.length+lostN r e (pcsF blk r k (p+(addO blk chk p begun rest).length) (rest.drop (addM blk p rest.length)))∧R'.brk=R.brk+1∧R'.good=e+(addN blk chk e further).length:=by
    intro ps
    have he2:=eq_334 (chk:=chk) (begun:=begun) hb he z
    rw [← Nat.sub_add_eq] at hd
    rw [length_append,← add_assoc] at hne
    generalize p+(addO blk chk p begun rest).length=p1 at *
    rcases lt_or_ge p1 e with q | q
    ·refine eq_537 hb hb2 (s:=s) (begun:=true) he2 e2 (fun q=>by cases q) ?_ hne hd hn'
     rcases List.mem_cons.mp hm with q2 | q2
     ·injection q2 with _ q2; injection q2 with _ q2; exact absurd q2 (ne_of_gt q)
     ·exact q2
    ·obtain rfl:p1=e:=le_antisymm hle q
     rewrite [eq_533 fun y hy=>?_] at ⊢
     ·rw [Nat.sub_self,take_zero,nil_append] at hd
      exact ⟨_,eq_536 hb hb2 e2 hd hn',eq_499 hd e2,eq_535.1,eq_535.2,rfl⟩
     ·have:=eq_528 hy; exact fun q0_=>fA3 this.2.2 q0_.2 this.2.1
   cases begun with
   | false =>
    refine X14 (hs (rest.take (addM blk p rest.length))) fun R' f1 f2 f3 f4=>?_
    exact ⟨R',by rw [eq_489 e1,f1],f2,by rw [f3,eq_508,hp rfl,length_nil]; exact eq_11,f4⟩
   | true =>
    refine X14 (hs (parts++rest.take (addM blk p rest.length))) fun R' f1 f2 f3 f4=>?_
    exact ⟨R',by rw [eq_490 e1,f1],f2,by rw [f3,length_append,eq_508]; exact eq_11,f4⟩
theorem eq_538 {R:Rd} {n g:Nat} (hb:8≤blk) (hb2:blk≤1000):∃ R',allF d blk chk (n+1) (stR d.length blk d.length R)=some ([],R')∧preF d blk chk (n+1) g (stR d.length blk d.length R)=some ([],g)∧R'.skip=R.skip∧R'.good=R.good:=by
 refine Ex3 (eq_520 (d:=d) (chk:=chk) (begun:=false) (parts:=[]) (R:=R) (n:=d.length+1) hb hb2 (succ_pos _)) fun a b c e1=>?_
 exact ⟨fnR R a b c (false || tornN d blk d.length),by rw [allF]; simp only [e1],by rw [preF]; simp only [e1],rfl,rfl⟩
end
theorem eq_539 {l blk:Nat}:stR l blk 0 rd0=rd0:=eq_473 (Nat.zero_mod _)
theorem eq_540 {blk chk:Nat} {xs:List Bs} (hb:8≤blk) (hb2:blk≤1000) (hx:xs≠[]):∃ K R',allF (layO blk chk 0 xs) blk chk K rd0=some (xs,R')∧preF (layO blk chk 0 xs) blk chk K 0 rd0=some (xs,(layO blk chk 0 xs).length)∧R'.good=(layO blk chk 0 xs).length∧R'.skip=0:=by
 revert hb hb2 hx; revert blk chk xs; apply s3; generalize T1 _=blk,T2 _=chk,T3 _=xs; intro hb hb2 hx
 refine eq_25 (eq_515 (d:=layO blk chk 0 xs) (chk:=chk) (R:=rd0) hb hb2 (xs:=xs) (zero_le _) (prefix_refl _)) fun g _ e2 e3 e4 e5=>?_
 have e2:=e2 hx
 subst e2
 simp only [eq_539,Nat.zero_add] at e4 e5
 refine X14 (eq_538 (d:=layO blk chk 0 xs) (chk:=chk) (R:=gdR rd0 (layO blk chk 0 xs).length) (n:=0) (g:=(layO blk chk 0 xs).length) hb hb2) fun R2 f1 f2 f3 f4=>?_
 exact (EI2 (1+xs.length) R2 ⟨by rw [e4,f1]; simp,(e5 rfl 1).trans (by rw [f2]; simp),f4,f3⟩)
theorem eq_541 {blk chk r s e:Nat} {recs:List Bs} {further text:Bs} (hb:8≤blk) (hb2:blk≤1000) (hm:(r,s,e)∈layP blk chk 0 0 recs) (htx:text=(layO blk chk 0 recs).take e++addN blk chk e further) :
  ∃ kept told g K R',allF text blk chk K rd0=some (kept,R')∧preF text blk chk K 0 rd0=some (told,g)∧R'.good=text.length ∧
   (e=(layE blk chk 0 recs).getD r 0→kept=recs.take (r+1)++[further]∧told=kept∧g=text.length∧R'.skip=0)∧(e≠(layE blk chk 0 recs).getD r 0→kept=recs.take r++[further]∧told=recs.take r∧g=endN (layE blk chk 0 recs) r∧R'.skip=lostN r e (layP blk chk 0 0 recs)):=by
 revert hb hb2 hm htx; revert blk chk r s e recs further text; apply s8; generalize T1 _=blk,T2 _=chk,T3 _=r,T4 _=s,T5 _=e,T6 _=recs,T7 _=further,T8 _=text; intro hb hb2 hm htx
 refine Ex3 (eq_530 hm) fun xs1 x xs2 Z2=>?_; obtain ⟨rfl,Z0⟩:=Z2; refine An2 Z0 fun hr hq=>?_; clear Z0
 revert xs1 x xs2; apply s3; generalize T1 _=xs1,T2 _=x,T3 _=xs2; intro hm htx hr hq
 clear hm
 simp only [Nat.zero_add] at hr hq
 subst hr
 have hE:=@eq_526 blk chk x xs1 xs2 0
 rw [Nat.zero_add] at hE
 have h2:=eq_531 (chk:=chk) (begun:=false) hq
 have h1:(layO blk chk 0 xs1).length≤e:=by have:=eq_528 hq; dsimp only at this; exact lA2 this.2.1 this.2.2
 rw [eq_527,hE]
 have hlost:lostN xs1.length e (layP blk chk 0 0 (xs1++x :: xs2))=lostN xs1.length e (pcsF blk xs1.length (2*x.length+2) (layO blk chk 0 xs1).length x):=by
  rewrite [eq_522,eq_532,layP,eq_532,eq_533 (a:=layP blk chk 0 0 xs1) fun q hq=>?_,eq_533 (a:=layP _ _ _ _ xs2) fun q hq=>?_]
  ·simp only [Nat.zero_add,add_zero]; rfl
  ·have:=eq_529 hq; exact fun q0_=>eq_5 this.1 (eqL q0_.1)
  ·have:=eq_529 hq; exact fun q0_=>eq_5 (lsl this.2.1) (eqG q0_.1)
 rw [hlost]
 have hlay:layO blk chk 0 (xs1++x :: xs2)=layO blk chk 0 xs1++(addN blk chk (layO blk chk 0 xs1).length x++layO blk chk ((layO blk chk 0 xs1).length+(addN blk chk (layO blk chk 0 xs1).length x).length) xs2):=by rw [eq_521,layO,Nat.zero_add]
 rw [hlay] at htx
 by_cases z:e=(layO blk chk 0 xs1).length+(addN blk chk (layO blk chk 0 xs1).length x).length
 ·clear hlost hE
  have ht:text=layO blk chk 0 ((xs1++[x])++[further]):=by
   have e2:layO blk chk 0 (xs1++[x])=layO blk chk 0 xs1++addN blk chk (layO blk chk 0 xs1).length x:=by rw [eq_521,layO,layO,append_nil,Nat.zero_add]
   have e3:(layO blk chk 0 (xs1++[x])).length=e:=by rw [e2,length_append,z]
   rw [eq_521,e3,Nat.zero_add,layO,layO,append_nil,htx,← append_assoc,← e2,← e3,take_left]
  refine X24 (eq_540 (chk:=chk) (xs:=(xs1++[x])++[further]) hb hb2 (by simp)) fun K R' f1 f2 f3 f4=>?_
  rw [← ht] at f1 f2 f3
  exact (EI5 _ _ _ K R' ⟨f1,f2,f3,fun _=>⟨by rw [show xs1++x :: xs2=(xs1++[x])++xs2 by simp,List.take_left' (by simp)],rfl,rfl,f4⟩,fun q=>absurd z q⟩)
 ·rw [take_append,take_of_length_le h1,append_assoc,take_append,sub_eq_zero_of_le (m:=(addN blk chk (layO blk chk 0 xs1).length x).length) (Nat.sub_le_of_le_add (add_comm _ _▸h2)),take_zero,append_nil] at htx
  have hpre:layO blk chk 0 xs1 <+: text.drop 0:=⟨_,htx.symm⟩
  refine eq_25 (eq_515 (chk:=chk) (R:=rd0) hb hb2 (zero_le _) hpre) fun g g1 g2 g3 g4 g5=>?_
  exists g; intro g1 g2 g4 g5
  rw [Nat.zero_add] at g2 g3
  simp only [eq_539,Nat.zero_add] at g4 g5
  have hg:g=(layO blk chk 0 xs1).length:=by
   by_cases q:xs1=[]
   ·rw [g1 q,q]; rfl
   ·exact g2 q
  subst hg
  have hdr:text.drop (layO blk chk 0 xs1).length=(addF blk chk (2*x.length+2) (layO blk chk 0 xs1).length false x).take (e - (layO blk chk 0 xs1).length)++addN blk chk e further:=by rw [htx,drop_left]; rfl
  have htl:text.length=e+(addN blk chk e further).length:=by
   have:=congrArg List.length hdr
   rw [length_drop,length_append,length_take,min_eq_left (Nat.sub_le_of_le_add (add_comm _ _▸h2))] at this
   clear hlost hE g4 g5 hdr htx; exact le_antisymm (lA3 (nas (List.length text) (List.length (layO blk chk 0 xs1))) (eqL this) (nsa e (List.length (layO blk chk 0 xs1)) (lA1 h1))) (lA3 (eqG this) (nas e (List.length (layO blk chk 0 xs1))) (nsa (List.length text) (List.length (layO blk chk 0 xs1)) (lA1 g3)))
  refine Ex1 (eq_537 (d:=text) (chk:=chk) (begun:=false) (n:=text.length+1) (parts:=[]) (R:=gdR rd0 (layO blk chk 0 xs1).length) hb hb2 eq_335 g3 (fun _=>rfl) hq z (by rw [hdr]; exact prefix_refl _) eq_513) fun R2 Z1=>?_; refine An5 Z1 fun f1 f2 f3 f4 f5=>?_; clear Z1
  exists R2; intro f1 f3 f4 f5
  rw [← htl] at f1 f5
  refine X14 (eq_538 (d:=text) (chk:=chk) (R:=R2) (n:=0) (g:=R2.good) hb hb2) fun R3 k1 k2 k3 k4=>?_
  have hb1:(stR text.length blk text.length R2).brk≠0:=by show R2.brk≠0; rw [f4]; exact succ_ne_zero _
  refine (EI5 (xs1++[further]) xs1 ((layO blk chk 0 xs1).length) (2+xs1.length) R3 ⟨?_,?_,k4.trans f5,fun q=>absurd q z,fun _=>⟨by rw [take_left],by rw [take_left],rfl,?_⟩⟩)
  ·rw [g4,allF]; simp only [f1,k1]; rfl
  ·refine (g5 rfl 2).trans ?_
   rw [preF]; simp only [f1,hb1,if_false]; simp
  ·rw [k3,f3]; exact Nat.zero_add _
theorem eq_542:∀ i j:Fin 16,crcT.getD i.val 0 >>> 28=crcT.getD j.val 0 >>> 28→i=j:=dK
theorem eq_543 {a b c:Nat} (h:a ^^^ c=b ^^^ c):a=b:=by
 have:=congrArg (· ^^^ c) h
 simpa [xor_assoc] using this
theorem eq_544 {c c':Nat} (h:c<2 ^ 32) (h':c'<2 ^ 32) (e:nib c=nib c'):c=c':=by
 have a15:∀ x:Nat,x &&& 15=x % 16:=fun x=>Nat.and_two_pow_sub_one_eq_mod x 4
 have s4:∀ x:Nat,x >>> 4=x / 16:=fun x=>shiftRight_eq_div_pow x 4
 unfold nib at e
 rw [a15,a15,s4,s4] at e
 have e2:=congrArg (· >>> 28) e
 simp only [Nat.shiftRight_xor_distrib] at e2
 have z:∀ x:Nat,x<2 ^ 32→(x / 16) >>> 28=0:=fun x hx=>by rw [shiftRight_eq_div_pow,Nat.div_div_eq_div_mul]; exact Nat.div_eq_of_lt hx
 rw [z c h,z c' h',zero_xor,zero_xor] at e2
 have e3:=eq_542 ⟨c % 16,mod_lt c dD⟩ ⟨c' % 16,mod_lt c' dD⟩ e2
 have e4:c % 16=c' % 16:=congrArg Fin.val e3
 rw [e4] at e
 have:=eq_543 e
 rw [← div_add_mod c 16,this,e4,div_add_mod]
theorem eq_545 {c:Nat} (h:c<2 ^ 32) (o:UInt8):c ^^^ o.toNat<2 ^ 32:=xor_lt_two_pow h (by have:=UInt8.toNat_lt o; exact sA1 (lsl this))
theorem eq_546:∀ {d:Bs} {c c':Nat},c<2 ^ 32→c'<2 ^ 32→crcW c d=crcW c' d→c=c'
 | [],_,_,_,_,e=>e
 | o :: d,c,c',h,h',e=>eq_543 (eq_544 (eq_545 h o) (eq_545 h' o) (eq_544 (eq_345 (eq_545 h o)) (eq_345 (eq_545 h' o)) (eq_546 (d:=d) (eq_345 (eq_345 (eq_545 h o))) (eq_345 (eq_345 (eq_545 h' o))) e)))
theorem eq_547 {u w:Bs} {o o':UInt8} {c:Nat} (h:c<2 ^ 32) (hn:o≠o'):crcW c (u++o :: w)≠crcW c (u++o' :: w):=fun e=>by
 have f:∀ o:UInt8,crcW c (u++o :: w)=crcW (nib (nib (crcW c u ^^^ o.toNat))) w:=fun o=>by unfold crcW; rw [foldl_append]; rfl
 rw [f,f] at e
 have hu:=eq_346 h u
 have e2:=eq_544 (eq_545 hu o) (eq_545 hu o') (eq_544 (eq_345 (eq_545 hu o)) (eq_345 (eq_545 hu o')) (eq_546 (eq_345 (eq_345 (eq_545 hu o))) (eq_345 (eq_345 (eq_545 hu o'))) e))
 rw [xor_comm,xor_comm (crcW c u)] at e2
 exact hn (UInt8.toNat_inj.mp (eq_543 e2))
theorem eq_548 {a b:Nat} (ha:a<4294967296) (hb:b<4294967296) (h:(a+2726488792) % 4294967296=(b+2726488792) % 4294967296):a=b:=by
 have f:∀ a,a<4294967296→((a+2726488792) % 4294967296+1568478504) % 4294967296=a:=fun a ha=>by
  rw [Nat.mod_add_mod,add_assoc]; exact (Nat.add_mod_right a 4294967296).trans (mod_eq_of_lt ha)
 exact (f a ha).symm.trans ((congrArg (fun z=>(z+1568478504) % 4294967296) h).trans (f b hb))
theorem eq_549 {x y:Nat} (ha:x<4294967296) (hb:y<4294967296) (h:(x / 32768+x % 32768*131072+2726488792) % 4294967296=(y / 32768+y % 32768*131072+2726488792) % 4294967296):x=y:=by
 have q1:x / 32768<131072:=div_lt_of_lt_mul (show x<32768*131072 from ha)
 have q2:y / 32768<131072:=div_lt_of_lt_mul (show y<32768*131072 from hb)
 have r1:=mod_lt x (show 0<32768 from dD)
 have r2:=mod_lt y (show 0<32768 from dD)
 have e1:=div_add_mod x 32768
 have e2:=div_add_mod y 32768
 generalize x / 32768=a at *
 generalize x % 32768=b at *
 generalize y / 32768=c at *
 generalize y % 32768=e at *
 have l:∀ a b:Nat,a<131072→b<32768→a+b*131072<4294967296:=fun a b h k=>lt_of_le_of_lt (add_le_add (le_of_lt_succ h) (Nat.mul_le_mul_right 131072 (le_of_lt_succ k))) dD
 have:=eq_548 (l _ _ q1 r1) (l _ _ q2 r2) h
 have k:∀ a b:Nat,a<131072→(a+b*131072) % 131072=a:=fun a b h=>(Nat.add_mul_mod_self_right a b 131072).trans (mod_eq_of_lt h)
 have ac:a=c:=(k a b q1).symm.trans ((congrArg (· % 131072) this).trans (k c e q2))
 rw [ac] at this
 have be:b=e:=Nat.eq_of_mul_eq_mul_right (show 0<131072 from dD) (add_left_cancel this)
 exact e1.symm.trans (by rw [ac,be]; exact e2)
theorem eq_550 {s o o' b:Nat} (h1:o<256) (h2:o'<256) (e:((s+o)*251+b) % 4294967296=((s+o')*251+b) % 4294967296):o=o':=by
 have f:∀ o o':Nat,o<256→((s+o)*251+b) % 4294967296=((s+o')*251+b) % 4294967296→(s+o)*251+b≤(s+o')*251+b:=fun o o' h e =>
  Nat.le_of_sub_eq_zero ((mod_eq_of_lt (lt_of_le_of_lt (Nat.sub_le_of_le_add (show _≤64005+_ from lA1 (mul_le_mul_left 251 (le_of_lt_succ h)))) dD)).symm.trans (Nat.sub_mod_eq_zero_of_mod_eq e))
 exact add_left_cancel (Nat.eq_of_mul_eq_mul_right (show 0<251 from dD) (add_right_cancel (le_antisymm (f _ _ h1 e) (f _ _ h2 e.symm))))
theorem eq_551 {x y:Nat} (hx:x<2 ^ 32) (hy:y<2 ^ 32) (e:maskN (x ^^^ 4294967295)=maskN (y ^^^ 4294967295)):x=y:=by
 have a1:4294967295 - x<2 ^ 32:=by clear e; exact sA1 (sub_le 4294967295 x)
 have a2:4294967295 - y<2 ^ 32:=by clear e; exact sA1 (sub_le 4294967295 y)
 rw [eq_347 hx,eq_347 hy,eq_349 a1,eq_349 a2] at e
 have q:=eq_549 a1 a2 e
 clear e
 exact le_antisymm (lA3 (nsa 4294967295 x (lA1 (lsl hx))) (nas 4294967295 y) (eqG q)) (lA3 (nsa 4294967295 y (lA1 (lsl hy))) (nas 4294967295 x) (eqL q))
theorem eq_552 {u w:Bs} {o:UInt8}:sumN (u++o :: w)=sumN u+sumN w+o.toNat:=by unfold sumN; rw [map_append,List.sum_append,map_cons,List.sum_cons,add_comm o.toNat,add_assoc]
theorem eq_553 {d:Bs}:csumN 1 d=maskN (crcW 4294967295 d ^^^ 4294967295):=by unfold csumN crcN; rw [if_pos rfl]
theorem eq_554 {k:Nat} {d:Bs} (hk:k≠1):csumN k d=(sumN d*251+(d.length*65537+7)) % 4294967296:=by
 unfold csumN; rewrite [if_neg hk,eq_348,add_assoc]; with_reducible rfl
theorem eq_555 {k:Nat} {u w:Bs} {o o':UInt8} (hn:o≠o'):csumN k (u++o :: w)≠csumN k (u++o' :: w):=fun e=>by
 by_cases hk:k=1
 ·subst hk
  rw [eq_553,eq_553] at e
  exact eq_547 dD hn (eq_551 (eq_346 dD _) (eq_346 dD _) e)
 ·have hL:(u++o :: w).length=(u++o' :: w).length:=by rw [length_append,length_append,length_cons,length_cons]
  rw [eq_554 hk,eq_554 hk,eq_552,eq_552,hL] at e
  exact hn (UInt8.toNat_inj.mp (eq_550 (s:=sumN u+sumN w) (b:=(u++o' :: w).length*65537+7) (UInt8.toNat_lt o) (UInt8.toNat_lt o') e))
theorem eq_556 {k i:Nat} {x:Bs} {v:UInt8} (hi:i<x.length) (hv:x.getD i 0≠v):csumN k x≠csumN k (x.set i v):=by
 have e1:x=x.take i++x.getD i 0 :: x.drop (i+1):=by
  rw [getD_eq_getElem?_getD,getElem?_eq_getElem hi,Option.getD_some,← drop_eq_getElem_cons hi,take_append_drop]
 have e2:x.set i v=x.take i++v :: x.drop (i+1):=List.set_eq_take_append_cons_drop.trans (if_pos hi)
 rw [e2]
 conv=>lhs; rw [e1]
 exact eq_555 hv
theorem eq_557 {i:Nat} {c:Bs} {v:UInt8} (hc:c.length=4) (hi:i<4) (hv:c.getD i 0≠v):rd32 (c.set i v) 0≠rd32 c 0:=by
 match c,hc with
 | [a,b,e,f],_ =>
  rw [eq_456,eq_456]
  have ha:=UInt8.toNat_lt a
  have hb:=UInt8.toNat_lt b
  have he:=UInt8.toNat_lt e
  have hf:=UInt8.toNat_lt f
  have hv2:=UInt8.toNat_lt v
  have hq:([a,b,e,f].getD i 0).toNat≠v.toNat:=fun q=>hv (UInt8.toNat_inj.mp q)
  match i,hi with
  | 0,_=>show v.toNat+b.toNat*256+e.toNat*65536+f.toNat*16777216≠a.toNat+b.toNat*256+e.toNat*65536+f.toNat*16777216; have hq:a.toNat≠v.toNat:=hq; exact fun q=>hq (add_right_cancel (add_right_cancel (add_right_cancel q))).symm
  | 1,_=>show a.toNat+v.toNat*256+e.toNat*65536+f.toNat*16777216≠a.toNat+b.toNat*256+e.toNat*65536+f.toNat*16777216; have hq:b.toNat≠v.toNat:=hq; exact fun q=>hq (Nat.eq_of_mul_eq_mul_right (show 0<256 from dD) (add_left_cancel (add_right_cancel (add_right_cancel q)))).symm
  | 2,_=>show a.toNat+b.toNat*256+v.toNat*65536+f.toNat*16777216≠a.toNat+b.toNat*256+e.toNat*65536+f.toNat*16777216; have hq:e.toNat≠v.toNat:=hq; exact fun q=>hq (Nat.eq_of_mul_eq_mul_right (show 0<65536 from dD) (add_left_cancel (add_right_cancel q))).symm
  | 3,_=>show a.toNat+b.toNat*256+e.toNat*65536+v.toNat*16777216≠a.toNat+b.toNat*256+e.toNat*65536+f.toNat*16777216; have hq:f.toNat≠v.toNat:=hq; exact fun q=>hq (Nat.eq_of_mul_eq_mul_right (show 0<16777216 from dD) (add_left_cancel q)).symm
theorem eq_558 {l x:Bs} {p a:Nat} {v:UInt8} (h:x <+: l.drop p) (ha:p+x.length≤a):x <+: (l.set a v).drop p:=by
 obtain ⟨t,ht⟩:=h
 rw [drop_set,if_neg (not_lt_of_le (lA1 ha)),← ht,set_append_right _ _ (lA2 ha (nas a p))]
 exact List.prefix_append ..
theorem eq_559 {l:Bs} {p a:Nat} {v:UInt8} (ha:a<p):(l.set a v).drop p=l.drop p:=by rw [drop_set,if_pos ha]
section
variable {l c4 x:Bs} {s a:Nat} {z0 z1 kb v:UInt8}
theorem Hd.old (h:Hd l s c4 z0 z1 kb x):(∀ i,i<4→l.getD (s+i) 0=c4.getD i 0)∧∀ i,i<x.length→l.getD (s+7+i) 0=x.getD i 0:=by
 obtain ⟨t,ht⟩:=h.h
 refine ⟨fun i hi=>?_,fun i hi=>?_⟩
 ·rw [Y147,ht,getD_eq_getElem?_getD,getElem?_append_left (by rw [h.c]; exact hi),← getD_eq_getElem?_getD]
 ·have e:c4++([z0,z1,kb]++(x++t))=(c4++[z0,z1,kb])++(x++t):=by rw [append_assoc]
  have hl:(c4++[z0,z1,kb]).length=7:=by rw [length_append,h.c]; rfl
  rw [add_assoc,Y147,ht,e,← hl,Y146,getD_eq_getElem?_getD,getElem?_append_left hi,← getD_eq_getElem?_getD]
theorem Hd.set1 (h:Hd l s c4 z0 z1 kb x) (h1:s≤a) (h2:a<s+4):Hd (l.set a v) s (c4.set (a - s) v) z0 z1 kb x:=by
 obtain ⟨t,ht⟩:=h.h
 have hc:=h.c
 exact ⟨by rw [length_set,hc],t,by rw [drop_set,if_neg (not_lt_of_le (lA1 h1)),ht,List.set_append_left _ _ (sA3 (nsa a s (lA1 h1)) (lsl h2) (eqG hc))]⟩
theorem Hd.set5 (h:Hd l s c4 z0 z1 kb x):Hd (l.set (s+5) v) s c4 z0 v kb x:=by
 obtain ⟨t,ht⟩:=h.h
 have hc:=h.c
 exact ⟨hc,t,by rw [drop_set,if_neg (not_lt_of_le (lA0)),ht,set_append_right _ _ (lA2 (eqL hc) (nas (s+5) s)),hc,show s+5 - s - 4=1 by exact le_antisymm (lA2 (nsa (s+5 - s) 4 (lA1 (nas (s+5) s))) (nsa (s+5) s (lA0))) (lA2 (nas (s+5) s) (nas (s+5 - s) 4))]; rfl⟩
theorem Hd.set6 (h:Hd l s c4 z0 z1 kb x):Hd (l.set (s+6) v) s c4 z0 z1 v x:=by
 obtain ⟨t,ht⟩:=h.h
 have hc:=h.c
 exact ⟨hc,t,by rw [drop_set,if_neg (not_lt_of_le (lA0)),ht,set_append_right _ _ (lA2 (eqL hc) (nas (s+6) s)),hc,show s+6 - s - 4=2 by exact le_antisymm (lA2 (nsa (s+6 - s) 4 (lA1 (nas (s+6) s))) (nsa (s+6) s (lA0))) (lA2 (nas (s+6) s) (nas (s+6 - s) 4))]; rfl⟩
theorem Hd.set7 (h:Hd l s c4 z0 z1 kb x) (h1:s+7≤a) (h2:a<s+7+x.length):Hd (l.set a v) s c4 z0 z1 kb (x.set (a - s - 7) v):=by
 obtain ⟨t,ht⟩:=h.h
 have hc:=h.c
 exact ⟨hc,t,by rw [drop_set,if_neg (not_lt_of_le (lA1 h1)),ht,set_append_right _ _ (lA3 (eqL hc) h1 (nas a s)),hc,set_append_right _ _ (by show 3≤_; exact lA3 h1 (nas a s) (nas (a - s) 4)),List.set_append_left _ _ (by show a - s - 4 - 3<_; exact sA4 (nsa (a - s - 4) 3 (lA3 h1 (nas a s) (nas (a - s) 4))) (nsa (a - s) 4 (lA2 h1 (nas a s))) (nsa a s (lA1 h1)) (lsl h2)),show a - s - 4 - [z0,z1,kb].length=a - s - 7 from by show a - s - 4 - 3=_; lia]⟩
end
theorem eq_560 {l x:Bs} {s a k c:Nat} {v:UInt8} (h:frag k x c <+: l.drop s) (hk:k≠0∧k<256) (ha:s≤a) (hb:a<s+7+x.length) (h4:a≠s+4) (hv:a≠s+5→l.getD a 0≠v) :
  ∃ c4 z1 kb x',Hd (l.set a v) s c4 (x.length % 256).toUInt8 z1 kb x'∧x'.length=x.length ∧
   ((a=s+5∧z1=v)∨(a≠s+5∧z1=(x.length / 256).toUInt8∧rd32 c4 0≠csumN c (kb :: x')∧(kb=0→a=s+6∧v=0))):=by
 revert h hk ha hb h4 hv; revert l x s a k c v; apply s7; generalize T1 _=l,T2 _=x,T3 _=s,T4 _=a,T5 _=k,T6 _=c,T7 _=v; intro h hk ha hb h4 hv
 have H:=eq_459 h
 have hrd:rd32 (put32 (csumN c (nB [k]++x))) 0=csumN c (nB [k]++x):=by
  have:=eq_457 (pre:=[]) (post:=[]) (eq_351 c (nB [k]++x))
  rwa [append_nil,nil_append] at this
 have hb2:nB [k]++x=k.toUInt8 :: x:=rfl
 have hk0:k.toUInt8≠0:=fun q=>by
  have:=congrArg UInt8.toNat q
  rw [eq_458 hk.2] at this
  exact hk.1 this
 rcases lt_or_ge a (s+4) with q | q
 ·have ho:=H.old.1 (a - s) (sA2 (nsa a s (lA1 ha)) (lsl q))
  rw [show s+(a - s)=a by exact le_antisymm (lA1 (nsa a s (lA1 ha))) (lA1 (nas a s))] at ho
  refine (EI4 _ _ _ _ ⟨H.set1 ha q,rfl,.inr ⟨fun q_=>eq_5 (lsl q) (eqG q_),rfl,?_,fun e=>absurd e hk0⟩⟩)
  rw [← hb2,← hrd]
  intro e
  rw [hrd] at e
  exact eq_557 H.c (sA2 (nsa a s (lA1 ha)) (lsl q)) (by rw [← ho]; exact hv (fun q_=>eq_5 (lsl q) (eqG q_))) (e.trans hrd.symm)
 ·rcases lt_or_ge a (s+6) with q2 | q2
  ·obtain rfl:a=s+5:=le_antisymm (le_of_lt_succ q2) (lt_of_le_of_ne q (Ne.symm h4))
   exact (EI4 _ _ _ _ ⟨H.set5,rfl,.inl ⟨rfl,rfl⟩⟩)
  ·rcases lt_or_ge a (s+7) with q3 | q3
   ·obtain rfl:a=s+6:=le_antisymm (lA1 (lsl q3)) (lA1 q2)
    refine (EI4 _ _ _ _ ⟨H.set6,rfl,.inr ⟨fun q_=>eq_4 (eqL q_),rfl,?_,fun e=>⟨rfl,e⟩⟩⟩)
    rw [hrd,hb2]
    have:=H.get.2.2
    exact eq_555 (u:=[]) (by rw [← this]; exact hv (fun q_=>eq_4 (eqL q_)))
   ·have ho:=H.old.2 (a - s - 7) (sA3 (nsa (a - s) 7 (lA2 q3 (nas a s))) (nsa a s (lA1 q3)) (lsl hb))
    rw [show s+7+(a - s - 7)=a by exact le_antisymm (lA2 (nsa (a - s) 7 (lA2 q3 (nas a s))) (nsa a s (lA1 q3))) (lA2 (nas a s) (nas (a - s) 7))] at ho
    refine (EI4 _ _ _ _ ⟨H.set7 q3 hb,length_set ..,.inr ⟨fun q_=>eq_5 q3 (eqL q_),rfl,?_,fun e=>absurd e hk0⟩⟩)
    rw [hrd,hb2]
    exact eq_556 (x:=k.toUInt8 :: x) (i:=a - s - 7+1) (by rw [length_cons]; exact sA3 (nsa (a - s) 7 (lA2 q3 (nas a s))) (nsa a s (lA1 q3)) (lsl hb)) (by rw [List.getD_cons_succ,← ho]; exact hv (fun q_=>eq_5 q3 (eqL q_)))
section
variable {d:Bs} {blk chk:Nat}
theorem eq_561 {R:Rd} {s:Nat} {c4 x:Bs} {z0 z1 kb:UInt8} (h:Hd d s c4 z0 z1 kb x) (hs:R.at=s) (hz:R.be - s<7+(z0.toNat+z1.toNat*256)) :
  fragB d chk R=if R.short then ((-1,[]),{ R with «at»:=R.be,torn:=true }) else ((-2,[]),{ R with «at»:=R.be,brk:=R.brk+1,skip:=R.skip+(R.be - R.at),rn:=R.rn+1 }):=by
 subst hs
 exact (eq_500 h rfl).trans (if_pos hz)
noncomputable def badR (R:Rd) (n r:Nat):Rd:={ R with brk:=R.brk+1,skip:=R.skip+n,rn:=R.rn+r }
theorem eq_562 {R:Rd} {s:Nat} {c4 x:Bs} {z0 z1 kb:UInt8} (h:Hd d s c4 z0 z1 kb x) (hs:R.at=s) (hz:z0.toNat+z1.toNat*256=x.length) (hb:s+7+x.length≤R.be) (hc:rd32 c4 0≠csumN chk (kb :: x)) :
  ∃ n r,fragB d chk R=((-2,[]),{ badR R n r with «at»:=R.be })∧(¬ (kb=0∧x.length=0)→0<n):=by
 subst hs
 have e:=(eq_501 (chk:=chk) h rfl hz).trans (if_neg (not_lt_of_le (lA2 hb (nas R.be R.at))))
 by_cases q:kb.toNat=0∧x.length=0
 ·exact (EI2 0 0 ⟨e.trans (if_pos q),fun z=>absurd ⟨UInt8.toNat_inj.mp q.1,q.2⟩ z⟩)
 ·exact (EI2 (R.be - R.at) 1 ⟨e.trans ((if_neg q).trans (if_pos hc)),fun _=>sA2 hb (nas R.be R.at)⟩)
noncomputable def limN (blk s:Nat):Nat:=(s / blk+1)*blk
theorem eq_563 {s:Nat} (hb:0<blk):limN blk s=s+rm0 blk s:=by
 have h3:=div_add_mod s blk
 have:=mod_lt s hb
 rw [mul_comm] at h3
 unfold limN rm0
 rw [Nat.add_mul,Nat.one_mul]; exact le_antisymm (lA2 (eqL h3) (nas blk (s % blk))) (lA2 (eqG h3) (nsa blk (s % blk) (lA1 (lsl this))))
theorem eq_564 {s:Nat}:limN blk s % blk=0:=Nat.mul_mod_left ..
theorem eq_565 {l rest:Bs} {p a s:Nat} {begun:Bool} {v:UInt8} {R:Rd} (hb:8≤blk) (hb2:blk≤1000) (hd:d=l.set a v) (hp:p≤l.length) (h:addO blk chk p begun rest <+: l.drop p) (hs:s=p+(fillN blk p).length) (ha:s≤a) (hae:a<p+(addO blk chk p begun rest).length) (h4:a≠s+4) (hv:a≠s+5→l.getD a 0≠v) (h5:a=s+5→v=255) :
  ∃ R',((a=s+5∧d.length<limN blk s)∧fragR d blk chk (stR d.length blk p R)=((-1,[]),R')∧R'.skip=R.skip) ∨
   (¬ (a=s+5∧d.length<limN blk s)∧fragR d blk chk (stR d.length blk p R)=((-2,[]),stR d.length blk (min d.length (limN blk s)) R')∧R'.brk=R.brk+1∧(¬ (a=s+6∧v=0∧p+(addO blk chk p begun rest).length=s+7)→R.skip<R'.skip)):=by
 revert hb hb2 hd hp h hs ha hae h4 hv h5; revert d blk chk l rest p a s begun v R; apply s11; generalize T1 _=d,T2 _=blk,T3 _=chk,T4 _=l,T5 _=rest,T6 _=p,T7 _=a,T8 _=s,T9 _=begun,T10 _=v,T11 _=R; intro hb hb2 hd hp h hs ha hae h4 hv h5
 have hf:frag (kindN begun (decide (addM blk p rest.length=rest.length))) (rest.take (addM blk p rest.length)) chk <+: l.drop s:=by
  rw [hs]; exact eq_498 h
 have hr:=@eq_507 blk p rest.length hb
 have hll:d.length=l.length:=by rw [hd,length_set]
 have hpl:=eq_499 h hp
 have hM:=@eq_505 blk p rest.length hb2
 have hrb:=(@eq_461 blk s (sA1 hb)).2
 rw [eq_332,add_assoc (fillN blk p).length,← add_assoc p,← hs] at hpl hae
 rw [eq_332,add_assoc (fillN blk p).length,← add_assoc p,← hs]
 rw [← hs] at hr
 refine Ex4 (eq_560 hf (eq_484 ..) ha (by rw [eq_508,add_assoc]; exact hae) h4 hv) fun c4 z1 kb x' Z0=>?_; refine An3 Z0 fun hH hx' hcase=>?_; clear Z0
 rw [eq_508] at hH hx' hcase
 have e1:=eq_478 (R:=R) (d:=d) (p:=p) hb (by rw [← hs,hll]; exact lA1 hpl)
 rw [← hs] at e1
 rw [← hd] at hH
 rw [eq_503 e1,eq_563 (sA1 hb)]
 clear e1 hf h
 generalize addM blk p rest.length=M at *
 have hst:∀ R:Rd,({ mdR d.length blk s R with «at»:=min d.length (s+rm0 blk s) }:Rd)=stR d.length blk (min d.length (s+rm0 blk s)) R:=fun R=>eq_477 (sA1 hb) ((le_total (List.length d) (s+rm0 blk s)).elim (fun m0_=>sA3 hpl (eqG hll) (eqG (min_eq_left m0_))) (fun m0_=>sA2 (eqG (min_eq_right m0_)) hr)) (min_le_right ..) (min_le_left ..)
 rcases hcase with ⟨ha5,rfl⟩ | ⟨c1,rfl,c3,c5⟩
 ·have hv5:=h5 ha5
  subst hv5
  have hbig:=eq_561 (chk:=chk) (R:=mdR d.length blk s R) hH rfl (by show min d.length (s+rm0 blk s) - s<7+(_+255*256); exact (le_total (min (List.length d) (s+rm0 blk s)) s).elim (fun m0_=>sA1 (eqL (sub_eq_zero_of_le m0_))) (fun m0_=>sA4 (nsa (min (List.length d) (s+rm0 blk s)) s (lA1 m0_)) (min_le_right (List.length d) (s+rm0 blk s)) hrb hb2))
  by_cases q:d.length<s+rm0 blk s
  ·rw [if_pos (show (mdR d.length blk s R).short=true from decide_eq_true q)] at hbig
   exact ⟨_,.inl ⟨⟨ha5,q⟩,hbig,rfl⟩⟩
  ·rw [if_neg (show ¬ (mdR d.length blk s R).short=true by show ¬ decide _=true; rw [decide_eq_true_eq]; exact q)] at hbig
   refine ⟨badR R (min d.length (s+rm0 blk s) - s) 1,.inr ⟨fun z=>q z.2,?_,rfl,fun _=>?_⟩⟩
   ·rw [hbig,← hst]; rfl
   ·show R.skip<R.skip+(min d.length (s+rm0 blk s) - s); exact (le_total (List.length d) (s+rm0 blk s)).elim (fun m0_=>sA4 hpl (eqG hll) (eqG (min_eq_left m0_)) (nas (min (List.length d) (s+rm0 blk s)) s)) (fun m0_=>sA3 hr (eqG (min_eq_right m0_)) (nas (min (List.length d) (s+rm0 blk s)) s))
 ·refine Ex2 (eq_562 (chk:=chk) (R:=mdR d.length blk s R) hH rfl (by rw [eq_504 hM,hx']) (by rw [hx']; show _≤min d.length (s+rm0 blk s); exact (le_total (List.length d) (s+rm0 blk s)).elim (fun m0_=>lA3 hpl (eqG hll) (eqG (min_eq_left m0_))) (fun m0_=>lA2 hr (eqG (min_eq_right m0_)))) c3) fun n r Z1=>?_; refine An2 Z1 fun f1 f2=>?_; clear Z1
  refine ⟨badR R n r,.inr ⟨fun z=>c1 z.1,?_,rfl,fun z=>Nat.lt_add_of_pos_right (f2 fun w=>z ⟨(c5 w.1).1,(c5 w.1).2,by rw [← hx',w.2]⟩)⟩⟩
  rw [f1,← hst]; rfl
theorem eq_566 {l:Bs} {a r s e:Nat} {v:UInt8} (hb:8≤blk) (hb2:blk≤1000) (hd:d=l.set a v) (ha:s≤a) (hae:a<e) (h4:a≠s+4) (hv:a≠s+5→l.getD a 0≠v) (h5:a=s+5→v=255):∀ {k p:Nat} {begun:Bool} {rest parts:Bs} {n:Nat} {R:Rd},EnoughN blk k p rest.length→p≤l.length →
  (r,s,e)∈pcsF blk r k p rest→addF blk chk k p begun rest <+: l.drop p→d.length - p<n →
  ∃ R',((a=s+5∧d.length<limN blk s)∧readF d blk chk n begun parts (stR d.length blk p R)=some (none,R')∧R'.skip=R.skip) ∨
   (¬ (a=s+5∧d.length<limN blk s)∧∃ n',readF d blk chk n begun parts (stR d.length blk p R)=readF d blk chk n' false [] (stR d.length blk (min d.length (limN blk s)) R')∧d.length - min d.length (limN blk s)<n'∧0<R'.brk∧(¬ (a=s+6∧v=0∧e=s+7)→0<R'.skip))
 | 0,_,_,_,_,_,_,_,_,h,_,_=>nomatch h
 | k+1,p,begun,rest,parts,n,R,he,hp,hm,h,hn=>by
  have hal:=@eq_332 blk chk p begun rest
  obtain ⟨n,rfl⟩:∃ j,n=j+1:=⟨n - 1,le_antisymm (lA1 (nas n 1)) (lA1 (nsa n 1 (lA1 (lsl hn))))⟩
  rw [addF] at h
  rw [pcsF,show p+(fillN blk p).length+7+addM blk p rest.length=p+(addO blk chk p begun rest).length by rw [hal,add_assoc,add_assoc,add_assoc]] at hm
  have hll:d.length=l.length:=by rw [hd,length_set]
  have hpl:=eq_499 (eq_497 h) hp
  rcases List.mem_cons.mp hm with q | q
  ·injection q with _ q
   injection q with q1 q2
   obtain ⟨R',⟨f1,f2,f3⟩ | ⟨f1,f2,f3,f4⟩⟩:=eq_565 (R:=R) hb hb2 hd hp (eq_497 h) q1 ha (by rw [← q2]; exact hae) h4 hv h5
   ·refine ⟨_,.inl ⟨f1,eq_493 f2,?_⟩⟩
    cases begun with
    | false=>exact f3
    | true=>exact f3
   ·rw [eq_494 f2]
    have hn2:d.length - min d.length (limN blk s)<n:=by
     have:=(@eq_461 blk s (sA1 hb)).1
     rw [eq_563 (sA1 hb)]; exact (le_total (List.length d) (s+rm0 blk s)).elim (fun m0_=>eq_9 (nsa (List.length d) (min (List.length d) (s+rm0 blk s)) (lA1 (eqL (min_eq_left m0_)))) (eqG (min_eq_left m0_)) (eqG hal) hpl (eqG hll) (nas (List.length d) p) (lsl hn)) (fun m0_=>eq_8 (nsa (List.length d) (min (List.length d) (s+rm0 blk s)) (lA1 (min_le_left (List.length d) (s+rm0 blk s)))) (nas (List.length d) p) (lsl hn) (eqG q1) (eqG (min_eq_right m0_)) (lsl this))
    have hsk:¬ (a=s+6∧v=0∧e=s+7)→0<R'.skip:=fun z=>lt_of_le_of_lt (zero_le _) (f4 fun w=>z ⟨w.1,w.2.1,q2.trans w.2.2⟩)
    cases begun with
    | false=>exact ⟨R',.inr ⟨f1,n,rfl,hn2,by rw [f3]; exact succ_pos _,hsk⟩⟩
    | true=>exact ⟨dropR R' parts.length,.inr ⟨f1,n,rfl,hn2,by show 0<R'.brk; rw [f3]; exact succ_pos _,fun z=>lt_of_lt_of_le (hsk z) (le_add_right ..)⟩⟩
  ·split at q
   ·nomatch q
   ·rename_i z
    rw [if_neg z] at h
    have hm1:=(eq_528 q).2.1
    dsimp only at hm1
    obtain ⟨e1,e2⟩:=eq_510 (R:=R) hb hb2 (by rw [hll]; exact hp) (hd▸eq_558 (eq_497 h) (Nat.le_trans (le_of_add_right_le hm1) ha))
    rw [decide_eq_false z] at e1
    have key:=fun ps:Bs=>eq_566 hb hb2 hd ha hae h4 hv h5 (parts:=ps) (n:=n) (R:=R) (begun:=true) (eq_334 (chk:=chk) (begun:=begun) hb he z) hpl q (eq_498 h) (by rw [eq_332] at e2 ⊢; exact sA3 (nsa (List.length d) (p+(List.length (fillN blk p)+7+addM blk p (List.length rest))) (lA1 e2)) (nas (List.length d) p) (lsl hn))
    cases begun with
    | false=>rw [eq_489 e1]; exact key _
    | true=>rw [eq_490 e1]; exact key _
end
section
variable {d:Bs} {blk chk:Nat}
theorem eq_567 {R:Rd}:R.skip≤(finR R).skip∧R.brk≤(finR R).brk:=by unfold finR; split <;> exact ⟨le_refl _,le_refl _⟩
theorem eq_568 {R:Rd}:R.skip≤(seekR d blk R).1.skip∧R.brk≤(seekR d blk R).1.brk:=by
 unfold seekR
 split
 ·split
  ·exact eq_567
  ·split
   ·exact @eq_567 (turnR d blk R)
   ·exact ⟨le_refl _,le_refl _⟩
 ·exact ⟨le_refl _,le_refl _⟩
theorem eq_569 {R:Rd}:R.skip≤(fragB d chk R).2.skip∧R.brk≤(fragB d chk R).2.brk:=by
 unfold fragB
 dsimp only
 split
 ·split
  ·exact ⟨le_refl _,le_refl _⟩
  ·exact ⟨le_add_right ..,le_add_right ..⟩
 ·split
  ·exact ⟨le_refl _,le_add_right ..⟩
  ·split
   ·exact ⟨le_add_right ..,le_add_right ..⟩
   ·exact ⟨le_refl _,le_refl _⟩
theorem eq_570 {R:Rd}:R.skip≤(fragR d blk chk R).2.skip∧R.brk≤(fragR d blk chk R).2.brk:=by
 have h1:=@eq_568 d blk R
 have h2:=@eq_569 d chk (seekR d blk R).1
 unfold fragR
 split
 ·exact h1
 ·exact ⟨lA2 h1.1 h2.1,lA2 h1.2 h2.2⟩
theorem eq_571 {o:Option Bs} {R':Rd}:∀ {n:Nat} {b:Bool} {p:Bs} {R:Rd},readF d blk chk n b p R=some (o,R')→R.skip≤R'.skip∧R.brk≤R'.brk
 | 0,_,_,_,h=>nomatch h
 | n+1,b,p,R,h=>by
  have h1:=@eq_570 d blk chk R
  rw [readF] at h
  dsimp only at h
  generalize (fragR d blk chk R).2=R1 at *
  generalize (fragR d blk chk R).1=y at *
  have ov:R1.skip≤(if b=true then if 0<p.length then dropR (breakR R1) p.length else breakR R1 else R1).skip∧R1.brk≤(if b=true then if 0<p.length then dropR (breakR R1) p.length else breakR R1 else R1).brk:=by
   split
   ·split
    ·exact ⟨le_add_right ..,le_add_right ..⟩
    ·exact ⟨le_refl _,le_add_right ..⟩
   ·exact ⟨le_refl _,le_refl _⟩
  generalize (if b=true then if 0<p.length then dropR (breakR R1) p.length else breakR R1 else R1)=R2 at *
  split at h
  ·cases h; split <;> exact h1
  ·split at h
   ·split at h
    ·cases h; show R.skip≤R2.skip∧R.brk≤R2.brk; exact ⟨lA2 h1.1 ov.1,lA2 h1.2 ov.2⟩
    ·have:=eq_571 h; exact ⟨lA3 h1.1 ov.1 this.1,lA3 h1.2 ov.2 this.2⟩
   ·split at h
    ·split at h
     ·split at h
      ·cases h; exact h1
      ·have:=eq_571 h; exact ⟨lA2 h1.1 this.1,lA2 h1.2 this.2⟩
     ·have:=eq_571 h
      have h2:R.skip≤(dropR (breakR R1) y.2.length).skip∧R.brk≤(dropR (breakR R1) y.2.length).brk:=⟨Nat.le_trans h1.1 (le_add_right ..),Nat.le_trans h1.2 (le_add_right ..)⟩
      exact ⟨lA2 h2.1 this.1,lA2 h2.2 this.2⟩
    ·split at h
     ·have:=eq_571 h
      have h2:R1.skip≤(if b=true then dropR R1 p.length else R1).skip∧R1.brk≤(if b=true then dropR R1 p.length else R1).brk:=by
       split
       ·exact ⟨le_add_right ..,le_refl _⟩
       ·exact ⟨le_refl _,le_refl _⟩
      exact ⟨lA3 h1.1 h2.1 this.1,lA3 h1.2 h2.2 this.2⟩
     ·nomatch h
theorem eq_572 (hb:8≤blk) (hb2:blk≤1000):∀ {k p:Nat} {rest:Bs} {n:Nat} {R:Rd},EnoughN blk k p rest.length→p≤d.length→addF blk chk k p true rest <+: d.drop p→d.length - p<n →
  ∃ n' R',readF d blk chk n false [] (stR d.length blk p R)=readF d blk chk n' false [] (stR d.length blk (p+(addF blk chk k p true rest).length) R')∧d.length - (p+(addF blk chk k p true rest).length)<n'
 | 0,p,rest,_,_,he,_,_,_=>by exfalso; unfold EnoughN at he; split at he <;> exact eq_4 he
 | k+1,p,rest,n,R,he,hp,h,hn=>by
  rw [addF] at h ⊢
  obtain ⟨n,rfl⟩:∃ j,n=j+1:=⟨n - 1,le_antisymm (lA1 (nas n 1)) (lA1 (nsa n 1 (lA1 (lsl hn))))⟩
  obtain ⟨e1,e2⟩:=eq_510 (R:=R) hb hb2 hp (eq_497 h)
  have hn2:d.length - (p+(addO blk chk p true rest).length)<n:=by rw [eq_332] at e2 ⊢; exact sA3 (nsa (List.length d) (p+(List.length (fillN blk p)+7+addM blk p (List.length rest))) (lA1 e2)) (nas (List.length d) p) (lsl hn)
  have hkk:kindN true (decide (addM blk p rest.length=rest.length))=3∨kindN true (decide (addM blk p rest.length=rest.length))=4:=by
   unfold kindN; rw [if_pos rfl]; split <;> simp
  rw [eq_492 hkk e1]
  by_cases z:addM blk p rest.length=rest.length
  ·rw [if_pos z,append_nil]
   exact (EI2 n (dropR (breakR R) (rest.take (addM blk p rest.length)).length) ⟨rfl,hn2⟩)
  ·rw [if_neg z] at h ⊢
   rw [length_append,← add_assoc]
   exact eq_572 hb hb2 (R:=dropR (breakR R) (rest.take (addM blk p rest.length)).length) (eq_334 (chk:=chk) (begun:=true) hb he z) e2 (eq_498 h) hn2
theorem eq_573 {s L:Nat} (hb:0<blk) (h:s<L) (hL:L % blk=0):s+rm0 blk s≤L:=by
 rcases lt_or_ge L (s+rm0 blk s) with q | q
 ·have:=eq_464 hb h q; lia
 ·exact q
theorem eq_574 {p L:Nat} {begun:Bool} {rest:Bs} (hb:8≤blk) (h:p+(fillN blk p).length<L) (hL:L % blk=0):p+(addO blk chk p begun rest).length≤L:=by
 have h1:=eq_573 (sA1 hb) h hL
 have h2:=@eq_507 blk p rest.length hb
 rw [eq_332]; exact lA2 h2 h1
theorem eq_575 {l:Bs} {L:Nat} (hb:8≤blk) (hb2:blk≤1000) (hL:L % blk=0) (hd:d.drop L=l.drop L) (hl:L≤d.length):∀ {k p:Nat} {begun:Bool} {rest:Bs} {n:Nat} {R:Rd},EnoughN blk k p rest.length→addF blk chk k p begun rest <+: l.drop p→p+(fillN blk p).length<L→L<p+(addF blk chk k p begun rest).length→d.length - L<n →
  ∃ n' R',readF d blk chk n false [] (stR d.length blk L R)=readF d blk chk n' false [] (stR d.length blk (p+(addF blk chk k p begun rest).length) R')∧d.length - (p+(addF blk chk k p begun rest).length)<n'
 | 0,p,_,rest,_,_,he,_,_,_,_=>by exfalso; unfold EnoughN at he; split at he <;> exact eq_4 he
 | k+1,p,begun,rest,n,R,he,h,h1,h2,hn=>by
  rw [addF] at h h2 ⊢
  have hin:=eq_574 (chk:=chk) (begun:=begun) (rest:=rest) hb h1 hL
  by_cases z:addM blk p rest.length=rest.length
  ·rw [if_pos z,append_nil] at h2; exact absurd h2 (Nat.not_lt.mpr hin)
  ·rw [if_neg z] at h h2 ⊢
   have hfull:=eq_333 (chk:=chk) (begun:=begun) hb z
   have he2:=eq_334 (chk:=chk) (begun:=begun) hb he z
   have hp:=eq_498 h
   rw [length_append,← add_assoc] at h2 ⊢
   generalize p+(addO blk chk p begun rest).length=p1 at *
   rcases lt_or_ge p1 L with q | q
   ·exact eq_575 hb hb2 hL hd hl he2 hp (by rw [eq_467 (lA1 hb) hfull]; exact q) h2 hn
   ·obtain rfl:p1=L:=le_antisymm hin q
    exact eq_572 hb hb2 he2 hl (by rw [hd]; exact hp) hn
theorem eq_576 {k p:Nat} {begun:Bool} {rest:Bs} (hb:8≤blk):addF blk chk (k+1) p begun rest=fillN blk p++addF blk chk (k+1) (p+(fillN blk p).length) begun rest:=by
 have hr:=eq_506 (blk:=blk) (p:=p) (lA1 hb)
 have hge:=eq_331 (len:=p) hb
 have e1:fillN blk (p+(fillN blk p).length)=[]:=eq_465 (by rw [hr]; exact hge)
 have e2:roomN blk (p+(fillN blk p).length)=roomN blk p:=by rw [← hr]; exact if_neg (by rw [hr]; exact Nat.not_lt.mpr hge)
 have e3:addM blk (p+(fillN blk p).length) rest.length=addM blk p rest.length:=by unfold addM; rw [e2]
 have e4:addO blk chk p begun rest=fillN blk p++addO blk chk (p+(fillN blk p).length) begun rest:=by unfold addO; rw [e1,e3,nil_append]
 rw [addF,addF,e3,e4,append_assoc,length_append,← add_assoc]
noncomputable def rowsL (blk chk L:Nat):Nat→List Bs→List Bs
 | _,[]=>[]
 | p,x :: xs=>if p+(fillN blk p).length<L then rowsL blk chk L (p+(addN blk chk p x).length) xs else x :: xs
noncomputable def nextP (d:Bs) (blk chk:Nat) (n:Nat) (R:Rd) (ys:List Bs):Prop :=
 ∃ R',(ys=[]∧readF d blk chk n false [] R=some (none,R'))∨∃ x xs q,ys=x :: xs∧readF d blk chk n false [] R=some (some x,stR d.length blk q R')∧q≤d.length∧layO blk chk q xs <+: d.drop q∧d.length=q+(layO blk chk q xs).length
theorem eq_577 (hb:8≤blk) (hb2:blk≤1000):∀ {xs:List Bs} {p n:Nat} {R:Rd},layO blk chk p xs <+: d.drop p→d.length=p+(layO blk chk p xs).length→d.length - p<n→nextP d blk chk n (stR d.length blk p R) xs
 | [],p,n,R,h,hl,hn=>by
  rw [layO,length_nil,add_zero] at hl
  subst hl
  refine Ex3 (eq_520 (d:=d) (chk:=chk) (begun:=false) (parts:=[]) (R:=R) hb hb2 (n:=n) (sA1 (lsl hn))) fun a b c e=>?_
  exact ⟨_,.inl ⟨rfl,e⟩⟩
 | x :: xs,p,n,R,h,hl,hn=>by
  rw [layO] at h hl
  rw [length_append,← add_assoc] at hl
  have hp:p+(addN blk chk p x).length≤d.length:=by rw [hl]; exact le_add_right ..
  exact ⟨_,.inr (EI3 x xs _ ⟨rfl,eq_512 hb hb2 (le_of_add_right_le hp) (eq_497 h) hn,hp,eq_498 h,hl⟩)⟩
theorem eq_578 {p:Nat} {x:Bs}:addN blk chk p x=addF blk chk (2*x.length+2) p false x:=rfl
theorem eq_579 {L p:Nat} {xs:List Bs} (h:L≤p):rowsL blk chk L p xs=xs:=by
 cases xs with
 | nil=>rfl
 | cons x xs=>rw [rowsL,if_neg (Nat.not_lt.mpr (Nat.le_trans h (le_add_right ..)))]
theorem eq_580 {l:Bs} {L p n:Nat} {x:Bs} {xs:List Bs} {R:Rd} (hb:8≤blk) (hb2:blk≤1000) (hL:L % blk=0) (hd:∀ j,L≤j→d.drop j=l.drop j) (h:addN blk chk p x++layO blk chk (p+(addN blk chk p x).length) xs <+: l.drop p) (hl:d.length=p+(addN blk chk p x).length+(layO blk chk (p+(addN blk chk p x).length) xs).length)
  (q:p+(fillN blk p).length<L) (q2:L<p+(addN blk chk p x).length) (hn:d.length - min d.length L<n):nextP d blk chk n (stR d.length blk (min d.length L) R) xs:=by
 have hLd:L≤d.length:=by rw [hl]; exact Nat.le_trans (Nat.le_of_lt q2) (le_add_right ..)
 rw [min_eq_right hLd] at hn ⊢
 refine X22 (eq_575 (R:=R) hb hb2 hL (hd L (le_refl _)) hLd eq_335 (eq_497 h) q q2 hn) fun n' R1 f1 f2=>?_
 have h2:=eq_498 h
 rw [← hd _ (Nat.le_of_lt q2)] at h2
 unfold nextP
 rw [f1]
 exact eq_577 hb hb2 h2 hl f2
theorem eq_581 {l:Bs} {L:Nat} (hb:8≤blk) (hb2:blk≤1000) (hL:L % blk=0) (hd:∀ j,L≤j→d.drop j=l.drop j):∀ {xs:List Bs} {p n:Nat} {R:Rd},layO blk chk p xs <+: l.drop p→d.length=p+(layO blk chk p xs).length→p≤L→d.length - min d.length L<n→nextP d blk chk n (stR d.length blk (min d.length L) R) (rowsL blk chk L p xs)
 | [],p,n,R,h,hl,hp,hn=>by
  rw [layO,length_nil,add_zero] at hl
  rw [min_eq_left (by rw [hl]; exact hp)] at hn ⊢
  exact eq_577 (xs:=[]) hb hb2 (List.nil_prefix) rfl hn
 | x :: xs,p,n,R,h,hl,hp,hn=>by
  rw [layO] at h hl
  rw [length_append,← add_assoc] at hl
  rw [rowsL]
  by_cases q:p+(fillN blk p).length<L
  ·rw [if_pos q]
   rcases lt_or_ge L (p+(addN blk chk p x).length) with q2 | q2
   ·rw [eq_579 (Nat.le_of_lt q2)]
    exact eq_580 hb hb2 hL hd h hl q q2 hn
   ·exact eq_581 hb hb2 hL hd (eq_498 h) hl q2 hn
  ·rw [if_neg q]
   have hpL:p+(fillN blk p).length=L:=by
    refine le_antisymm ?_ (Nat.not_lt.mp q)
    rcases lt_or_ge p L with w | w
    ·have:=eq_573 (blk:=blk) (sA1 hb) w hL
     have hfl:(fillN blk p).length≤rm0 blk p:=by unfold fillN; split <;> simp
     exact Nat.le_trans (add_le_add_left hfl p) this
    ·rw [le_antisymm hp w,eq_467 (lA1 hb) hL]; exact le_refl _
   have e:addN blk chk p x=fillN blk p++addN blk chk L x:=by rw [eq_578,eq_576 hb,hpL]; rfl
   rw [e] at h hl
   rw [length_append,← add_assoc,hpL] at h hl
   rw [append_assoc] at h
   have h2:=eq_498 h
   rw [hpL,← hd L (le_refl _)] at h2
   have hLd:L≤d.length:=by rw [hl,add_assoc]; exact le_add_right ..
   rw [min_eq_right hLd] at hn ⊢
   exact eq_577 (xs:=x :: xs) hb hb2 h2 (by rw [layO,length_append,← add_assoc]; exact hl) hn
end
noncomputable def fIdx (P:Nat→Bool):Nat→List Bs→List Bs
 | _,[]=>[]
 | i,x :: xs=>if P i then x :: fIdx P (i+1) xs else fIdx P (i+1) xs
theorem eq_582 {P:Nat→Bool}:∀ {xs pre:List Bs},((List.range' pre.length xs.length).filter P).map (fun i=>(pre++xs).getD i [])=fIdx P pre.length xs
 | [],pre=>rfl
 | x :: xs,pre=>by
  have ih:=@eq_582 P xs (pre++[x])
  rw [append_assoc,List.singleton_append,length_append] at ih
  rw [length_cons,List.range'_succ,List.filter_cons,fIdx]
  split
  ·rw [map_cons]
   congr 1
   simp [getD_eq_getElem?_getD]
  ·exact ih
theorem eq_583 {P:Nat→Bool}:∀ {xs ys:List Bs} {i:Nat},fIdx P i (xs++ys)=fIdx P i xs++fIdx P (i+xs.length) ys
 | [],ys,i=>rfl
 | x :: xs,ys,i=>by
  rw [cons_append,fIdx,fIdx,eq_583,length_cons,show i+1+xs.length=i+(xs.length+1) by exact eq_11]
  split <;> rfl
theorem eq_584 {P:Nat→Bool}:∀ {xs:List Bs} {i:Nat},(∀ j,i≤j→j<i+xs.length→P j=true)→fIdx P i xs=xs
 | [],_,_=>rfl
 | x :: xs,i,h=>by
  rw [length_cons] at h
  rw [fIdx,if_pos (h i (lA0) (sA0)),eq_584 fun j h1 h2=>h j (lA1 h1) (sA1 (lsl h2))]
theorem eq_585 {blk chk p:Nat} {x:Bs}:(fillN blk p).length+7≤(addN blk chk p x).length:=by
 rw [addN,addF,length_append,eq_332]; exact lA0
theorem eq_586 {blk r p:Nat} {x:Bs}:∃ e,(r,p+(fillN blk p).length,e)∈pcsN blk r p x:=⟨_,by rw [pcsN,pcsF]; exact .head _⟩
theorem eq_587 {P:Nat→Bool} {blk chk L:Nat}:∀ {xs:List Bs} {i p:Nat},(∀ j,i≤j→(P j=true↔∀ q∈layP blk chk i p xs,q.1=j→L≤q.2.1))→fIdx P i xs=rowsL blk chk L p xs
 | [],_,_,_=>rfl
 | x :: xs,i,p,h=>by
  rw [fIdx,rowsL]
  have hal:=@eq_585 blk chk p x
  have hin:∀ q∈layP blk chk (i+1) (p+(addN blk chk p x).length) xs,q∈layP blk chk i p (x :: xs):=fun q hq=>by rw [layP]; exact mem_append_right _ hq
  have hsp:∀ q∈layP blk chk i p (x :: xs),q∈pcsN blk i p x∨q∈layP blk chk (i+1) (p+(addN blk chk p x).length) xs:=fun q hq=>by rw [layP] at hq; exact List.mem_append.mp hq
  by_cases q:p+(fillN blk p).length<L
  ·have hP:¬ P i=true:=fun hp=>by
    obtain ⟨e,he⟩:=@eq_586 blk i p x
    have:=(h i (le_refl _)).mp hp (i,p+(fillN blk p).length,e) (by rw [layP]; exact mem_append_left _ he) rfl
    dsimp only at this
    exact eq_5 (lsl q) this
   rw [if_neg hP,if_pos q]
   refine eq_587 fun j hj=>(h j (lA1 hj)).trans ⟨fun w y hy e=>w y (hin y hy) e,fun w y hy e=>?_⟩
   rcases hsp y hy with z | z
   ·have:=eq_528 z; lia
   ·exact w y z e
  ·have hall:∀ j,i≤j→P j=true:=fun j hj=>(h j hj).mpr fun y hy e=>by
    rcases hsp y hy with z | z
    ·have:=eq_528 z; exact lA2 (nlt q) this.2.1
    ·have:=eq_529 z; exact lA3 (nlt q) this.2.2.1 hal
   rw [if_pos (hall i (le_refl _)),if_neg q,eq_584 fun j hj _=>hall j (lA1 hj)]
theorem eq_588 {a r s e:Nat}:∀ {l:List (Nat × Nat × Nat)},(a,r,s,e)∈plcN l→(r,s,e)∈l∧s≤a∧a<e∧a≠s+4
 | [],h=>nomatch h
 | p :: l,h=>by
  rw [plcN] at h
  rcases List.mem_append.mp h with h | h
  ·refine X12 (List.mem_map.mp h) fun i h1 h2=>?_
   obtain ⟨h3,h4⟩:=List.mem_filter.mp h1
   refine X12 (List.mem_map.mp h3) fun j h5 h6=>?_
   have h7:=List.mem_range.mp h5
   have h8:=of_decide_eq_true h4
   injection h2 with e1 h2
   injection h2 with e2 h2
   injection h2 with e3 e4
   subst e1 e2 e3 e4
   exact ⟨.head _,lA1 (eqL h6),sA3 (eqG h6) (lsl h7) (nsa p.2.2 p.2.1 (Nat.le_of_lt (Nat.lt_of_sub_pos (lt_of_le_of_lt (zero_le _) h7)))),h8⟩
  ·have:=eq_588 h; exact ⟨.tail _ this.1,this.2⟩
theorem eq_589 {blk chk L:Nat}:∀ {ys:List Bs} {p:Nat},(rowsL blk chk L p ys).length≤ys.length
 | [],_=>le_refl _
 | y :: ys,p=>by
  rw [rowsL]
  split
  ·exact Nat.le_trans eq_589 (le_succ _)
  ·exact le_refl _
theorem eq_590 {blk chk L:Nat}:∀ {ys:List Bs} {p:Nat},p+(layO blk chk p ys).length≤L→rowsL blk chk L p ys=[]
 | [],_,_=>rfl
 | y :: ys,p,h=>by
  rw [layO,length_append,← add_assoc] at h
  have:=@eq_585 blk chk p y
  rw [rowsL,if_pos (sA2 h this)]
  exact eq_590 h
theorem eq_591 {blk L r s e:Nat} (hb:8≤blk) (h:s<L) (hL:L % blk=0):∀ {k p:Nat} {rest:Bs},(r,s,e)∈pcsF blk r k p rest→e≤L
 | 0,_,_,q=>nomatch q
 | k+1,p,rest,q=>by
  rw [pcsF] at q
  rcases List.mem_cons.mp q with q | q
  ·injection q with _ q
   injection q with q1 q2
   have:=eq_574 (chk:=1) (begun:=false) (rest:=rest) (p:=p) hb (by rw [← q1]; exact h) hL
   rw [eq_332] at this
   exact lA2 (eqL q2) this
  ·split at q
   ·nomatch q
   ·exact eq_591 hb h hL q
theorem eq_592 {blk chk a r s e new:Nat} {recs:List Bs} {data hurt:Bs} (hb:8≤blk) (hb2:blk≤1000) (hda:data=layO blk chk 0 recs) (hp:(a,r,s,e)∈plcN (layP blk chk 0 0 recs)) (hnz:new<256) (hnew:a≠s+5→new≠(data.getD a 0).toNat) (h5:a=s+5→new=255) (hh:hurt=data.take a++nB [new]++data.drop (a+1)) :
  ∃ K rows R',allF hurt blk chk K rd0=some (rows,R')∧preF hurt blk chk K 0 rd0=some (recs.take r,endN (layE blk chk 0 recs) r)∧rows.length≤recs.length∧a<data.length∧r≤recs.length ∧
   rows=((List.range recs.length).filter fun i=>decide (i∉((layP blk chk 0 0 recs).filter fun p=>decide (s≤p.2.1)&&decide (p.2.1<(s / blk+1)*blk)).map (·.1))).map (fun i=>recs.getD i []) ∧
   (a=s+5∧data.length<(s / blk+1)*blk→R'.skip=0)∧(¬ (a=s+5∧data.length<(s / blk+1)*blk)→¬ (a=s+6∧new=0∧e=s+7)→0<R'.skip):=by
 revert hb hb2 hda hp hnz hnew h5 hh; revert blk chk a r s e new recs data hurt; apply eq_17; generalize T1 _=blk,T2 _=chk,T3 _=a,T4 _=r,T5 _=s,T6 _=e,T7 _=new,T8 _=recs,T9 _=data,T10 _=hurt; intro hb hb2 hda hp hnz hnew h5 hh
 refine An4 (eq_588 hp) fun hm has hae h4=>?_
 refine Ex3 (eq_530 hm) fun xs1 x xs2 Z1=>?_; obtain ⟨rfl,Z0⟩:=Z1; refine An2 Z0 fun hr hq=>?_; clear Z0
 revert xs1 x xs2; apply s3; generalize T1 _=xs1,T2 _=x,T3 _=xs2; intro hda hp hm hr hq
 simp only [Nat.zero_add] at hr hq
 subst hr
 have h1:=eq_528 hq
 have h2:=eq_531 (chk:=chk) (begun:=false) hq
 have h1b:=h1.2.1
 have h1c:=h1.2.2
 generalize hP:(layO blk chk 0 xs1).length=P at *
 exists P; intro hP hq h1 h2 h1b
 dsimp only at h1b h1c h2
 have hlay:data=layO blk chk 0 xs1++(addN blk chk P x++layO blk chk (P+(addN blk chk P x).length) xs2):=by rw [hda,eq_521,layO,Nat.zero_add,hP]
 have hal:(addN blk chk P x).length=(addF blk chk (2*x.length+2) P false x).length:=rfl
 have hdl:data.length=P+(addN blk chk P x).length+(layO blk chk (P+(addN blk chk P x).length) xs2).length:=by
  rw [hlay,length_append,length_append,hP,add_assoc]
 have hset:hurt=data.set a new.toUInt8:=by
  rw [List.set_eq_take_append_cons_drop,if_pos (sA4 (lsl hae) h2 (eqG hal) (eqG hdl)),hh,append_assoc]; rfl
 have hlen:hurt.length=data.length:=by rw [hset,length_set]
 have hvn:a≠s+5→data.getD a 0≠new.toUInt8:=fun z q=>hnew z (by rw [q,eq_458 hnz])
 have pre1:layO blk chk 0 xs1 <+: hurt.drop 0:=by
  rw [hset]; exact eq_558 ⟨_,hlay.symm⟩ (by rw [hP]; exact lA2 h1b has)
 have drP:addN blk chk P x++layO blk chk (P+(addN blk chk P x).length) xs2 <+: data.drop P:=by rw [hlay,← hP,drop_left]; exact prefix_refl _
 have hLs:s<limN blk s:=by rw [eq_563 (sA1 hb)]; exact Nat.lt_add_of_pos_right (eq_461 (sA1 hb)).1
 have hL:limN blk s % blk=0:=eq_564
 have hafter:∀ j,a<j→hurt.drop j=data.drop j:=fun j hj=>by rw [hset]; exact eq_559 hj
 let Pf:Nat→Bool:=fun i=>decide (i∉((layP blk chk 0 0 (xs1++x :: xs2)).filter fun p=>decide (s≤p.2.1)&&decide (p.2.1<(s / blk+1)*blk)).map (·.1))
 have hPf:∀ i,Pf i=true↔∀ q∈layP blk chk 0 0 (xs1++x :: xs2),q.1=i→s≤q.2.1→limN blk s≤q.2.1:=fun i=>by
  show decide _=true↔_
  rw [decide_eq_true_eq]
  constructor
  ·intro w q hq e1 e2
   rcases lt_or_ge q.2.1 (limN blk s) with z | z
   ·exact absurd (List.mem_map.mpr ⟨q,List.mem_filter.mpr ⟨hq,by rw [decide_eq_true e2,decide_eq_true (show q.2.1<(s / blk+1)*blk from z)]; rfl⟩,e1⟩) w
   ·exact z
  ·intro w hw
   refine X12 (List.mem_map.mp hw) fun q h1 h2=>?_
   obtain ⟨h3,h4⟩:=List.mem_filter.mp h1
   rw [and_eq_true,decide_eq_true_eq,decide_eq_true_eq] at h4
   have:=w q h3 h2 h4.1
   unfold limN at this
   exact eq_5 (lsl h4.2) this
 have hsplit:layP blk chk 0 0 (xs1++x :: xs2)=layP blk chk 0 0 xs1++(pcsN blk xs1.length P x++layP blk chk (xs1.length+1) (P+(addN blk chk P x).length) xs2):=by
  rw [eq_522,layP]; simp only [Nat.zero_add,hP]
 have hrows:((List.range (xs1++x :: xs2).length).filter Pf).map (fun i=>(xs1++x :: xs2).getD i [])=xs1++rowsL blk chk (limN blk s) (P+(addN blk chk P x).length) xs2:=by
  have:=@eq_582 Pf (xs1++x :: xs2) []
  rw [length_nil,nil_append,← List.range_eq_range'] at this
  rewrite [this,eq_583,fIdx,Nat.zero_add,eq_584 fun j _ hj=>?_,if_neg ?_]
  ·congr 1
   refine eq_587 fun j hj=>(hPf j).trans ⟨fun w y hy e=>?_,fun w y hy e1 e2=>?_⟩
   ·have:=eq_529 hy
    exact w y (by rw [hsplit]; exact mem_append_right _ (mem_append_right _ hy)) e (by have t:=@eq_531 blk chk xs1.length (2*x.length+2) P false x _ hq; dsimp only at t; exact eq_1 h1.2.2 t (eqG hal) this.2.2.1)
   ·rw [hsplit] at hy
    rcases List.mem_append.mp hy with z | z
    ·have:=eq_529 z; lia
    ·rcases List.mem_append.mp z with z | z
     ·have:=eq_528 z; lia
     ·exact w y z e1
  ·intro w
   have:=(hPf _).mp w (xs1.length,s,e) hm rfl (le_refl _)
   dsimp only at this
   exact eq_5 (lsl hLs) this
  ·refine (hPf j).mpr fun y hy e1 e2=>?_
   exfalso
   rw [hsplit] at hy
   rcases List.mem_append.mp hy with z | z
   ·refine X33 (eq_530 z) fun ys1 y1 ys2 g1 g2 g3=>?_
    have g4:=eq_531 (chk:=chk) (begun:=false) g3
    have g5:=eq_528 g3
    have g6:(layO blk chk 0 xs1).length=(layO blk chk 0 ys1).length+(addN blk chk (layO blk chk 0 ys1).length y1).length+(layO blk chk ((layO blk chk 0 ys1).length+(addN blk chk (layO blk chk 0 ys1).length y1).length) ys2).length:=by
     rw [g1,eq_521,layO,Nat.zero_add,length_append,length_append,add_assoc]
    have g7:(addN blk chk (layO blk chk 0 ys1).length y1).length=(addF blk chk (2*y1.length+2) (0+(layO blk chk 0 ys1).length) false y1).length:=by rw [Nat.zero_add]; rfl
    rw [hP] at g6
    exact eq_10 g5.2.2 g4 (eqG g7) (eqG g6) h1b e2
   ·rcases List.mem_append.mp z with z | z
    ·have:=eq_528 z; exact fA3 (lsl hj) (eqG this.1) (eqL e1)
    ·have:=eq_529 z; exact fA3 this.1 (eqL e1) (lsl hj)
 rw [eq_527,hP,take_left]
 show ∃ K rows R',_∧_∧_∧_∧_∧rows=((List.range (xs1++x :: xs2).length).filter Pf).map (fun i=>(xs1++x :: xs2).getD i [])∧(_∧data.length<limN blk s→_)∧(¬ (_∧data.length<limN blk s)→_→_)
 rw [hrows,← hlen]
 clear hrows hsplit hPf Pf hh hnew hm
 have hrl2:(xs1++rowsL blk chk (limN blk s) (P+(addN blk chk P x).length) xs2).length≤(xs1++x :: xs2).length:=by
  rw [length_append,length_append,length_cons]
  exact add_le_add_left (Nat.le_trans eq_589 (le_succ _)) _
 have hxl:xs1.length≤(xs1++x :: xs2).length:=by rw [length_append]; exact le_add_right ..
 have hal2:a<hurt.length:=eq_3 (lsl hae) h2 (eqG hal) (eqG hdl) (eqG hlen)
 have hPh:P≤hurt.length:=lA2 (eqG hdl) (eqG hlen)
 refine eq_25 (eq_515 (chk:=chk) (R:=rd0) hb hb2 (zero_le _) pre1) fun g g1 g2 g3 b1 b2=>?_
 exists g; intro g1 g2 b1 b2
 simp only [eq_539,Nat.zero_add,hP] at g2 b1 b2
 have hg:g=P:=by
  by_cases q:xs1=[]
  ·rw [g1 q,← hP,q]; rfl
  ·exact g2 q
 subst hg
 have b2:=b2 rfl
 have pf:∀ n,preF hurt blk chk n g (stR hurt.length blk g (gdR rd0 g))=some ([],g)→preF hurt blk chk (n+xs1.length) 0 rd0=some (xs1,g):=fun n e=>(b2 n).trans (by rw [e]; simp)
 obtain ⟨R2,⟨f1,f2,f3⟩ | ⟨f1,n',f2,f3,f4,f5⟩⟩:=eq_566 (chk:=chk) (n:=hurt.length+1) (parts:=[]) (R:=gdR rd0 g) hb hb2 hset has hae h4 hvn (fun q=>by rw [h5 q]; rfl) eq_335 (by rw [← hlen]; exact hPh) hq (eq_497 drP) eq_513
 ·-- a length too great in a block that is not full
  have hrn:rowsL blk chk (limN blk s) (g+(addN blk chk g x).length) xs2=[]:=eq_590 (by rw [← hdl,← hlen]; exact Nat.le_of_lt f1.2)
  rw [hrn]
  refine (EI3 (1+xs1.length) _ R2 ⟨?_,pf 1 ?_,by rw [append_nil]; exact hxl,hal2,hxl,rfl,fun _=>f3,fun q=>absurd f1 q⟩)
  ·rw [b1,allF]; simp only [f2,map_some,append_nil]
  ·rw [preF]; simp only [f2]
 ·revert R2 n'; apply s2; generalize T1 _=R2,T2 _=n'; intro f2 f3 f4 f5
  have hvq:¬ (a=s+6∧new=0∧e=s+7)→0<R2.skip:=fun z=>f5 fun w=>z ⟨w.1,by have:=congrArg UInt8.toNat w.2.1; rw [eq_458 hnz] at this; exact this,w.2.2⟩
  have hseL:e≤limN blk s:=eq_591 hb hLs hL hq
  have hd2:∀ j,limN blk s≤j→hurt.drop j=data.drop j:=fun j hj=>hafter j (sA3 (lsl hae) hseL hj)
  have hdl2:=hlen.trans hdl
  have fin:nextP hurt blk chk n' (stR hurt.length blk (min hurt.length (limN blk s)) R2) (rowsL blk chk (limN blk s) (g+(addN blk chk g x).length) xs2):=by
   rcases lt_or_ge (limN blk s) (g+(addN blk chk g x).length) with z | z
   ·rw [eq_579 (Nat.le_of_lt z)]
    exact eq_580 hb hb2 hL hd2 drP hdl2 (sA2 h1b (lsl hLs)) z f3
   ·exact eq_581 hb hb2 hL hd2 (eq_498 drP) hdl2 z f3
  have hpos:∀ {R':Rd},R2.skip≤R'.skip→(hurt.length<limN blk s→True)→¬ (a=s+6∧new=0∧e=s+7)→0<R'.skip:=fun h _ z=>lt_of_lt_of_le (hvq z) h
  unfold nextP at fin
  rw [← f2] at fin
  obtain ⟨R3,⟨r1,r2⟩ | ⟨y,ys,q,r1,r2,r3,r4,r5⟩⟩:=fin
  ·have hmono:=eq_571 (f2.symm.trans r2)
   rw [r1]
   refine (EI3 (1+xs1.length) _ R3 ⟨?_,pf 1 ?_,by rw [append_nil]; exact hxl,hal2,hxl,rfl,fun q=>absurd q f1,fun _ z=>hpos hmono.1 (fun _=>trivial) z⟩)
   ·rw [b1,allF]; simp only [r2,map_some,append_nil]
   ·rw [preF]; simp only [r2]
  ·revert R3 y ys q; apply s4; generalize T1 _=R3,T2 _=y,T3 _=ys,T4 _=q; intro r1 r2 r3 r4 r5
   have hmono:=eq_571 (f2.symm.trans r2)
   obtain ⟨g',-,-,-,c1,-⟩:=eq_515 (chk:=chk) (R:=R3) hb hb2 r3 r4
   exists g'; intro c1
   rw [← r5] at c1
   refine X14 (eq_538 (d:=hurt) (chk:=chk) (R:=gdR R3 g') (n:=0) (g:=0) hb hb2) fun R5 d1 _ d3 _=>?_
   have hys:=c1 (0+1)
   rw [d1] at hys
   have hbk:(stR hurt.length blk q R3).brk≠0:=ne_of_gt (lt_of_lt_of_le f4 hmono.2)
   rw [r1] at hrl2 ⊢
   refine (EI3 (0+1+ys.length+1+xs1.length) _ R5 ⟨?_,pf _ ?_,hrl2,hal2,hxl,rfl,fun q=>absurd q f1,fun _ z=>hpos (by rw [d3]; exact hmono.1) (fun _=>trivial) z⟩)
   ·rw [b1,allF]; simp only [r2,hys,map_some,append_nil]
   ·rw [preF]; simp only [r2,if_neg hbk]
theorem eq_593 {blk chk:Nat} {xs:List Bs} {x:Bs}:layO blk chk 0 (xs++[x])=layO blk chk 0 xs++addN blk chk (layO blk chk 0 xs).length x:=by
 rw [eq_521,layO,layO,append_nil,Nat.zero_add]
theorem eq_594 {xs ys:List Bs} {k:Nat} (h:k≤xs.length):(xs++ys).take k=xs.take k:=by
 rw [take_append,show k - xs.length=0 by exact (le_total k xs.length).elim (fun m0_=>le_antisymm (lA1 (eqL (sub_eq_zero_of_le m0_))) (lA0)) (fun m0_=>le_antisymm (lA2 (nsa k xs.length (lA1 m0_)) h) (lA0)),take_zero,append_nil]
theorem eq_595 {blk chk:Nat}:∀ {xs:List Bs} {ws:List Nat} {done:List Bs} {left kept safe:Nat} {b:Bs} {k s:Nat} {dd:Bool},ws.length=xs.length→kept≤(layO blk chk 0 done).length→safe≤done.length→(layO blk chk 0 (done.take safe)).length≤kept →
  cutF blk chk done.length xs ws (layO blk chk 0 done) left kept safe=(b,k,s,dd)→b <+: layO blk chk 0 (done++xs)∧k≤b.length∧s≤(done++xs).length∧(layO blk chk 0 ((done++xs).take s)).length≤k∧(dd=false→b=layO blk chk 0 (done++xs))
 | [],ws,done,left,kept,safe,b,k,s,dd,hw,h1,h2,h3,h=>by
  rw [eq_364] at h
  injection h with e1 h
  injection h with e2 h
  injection h with e3 e4
  subst e1 e2 e3 e4
  rw [append_nil]
  exact ⟨prefix_refl _,h1,h2,h3,fun _=>rfl⟩
 | x :: xs,[],_,_,_,_,_,_,_,_,hw,_,_,_,_=>nomatch hw
 | x :: xs,w :: ws,done,left,kept,safe,b,k,s,dd,hw,h1,h2,h3,h=>by
  have hall:done++x :: xs=(done++[x])++xs:=by simp
  have hpre:layO blk chk 0 (done++[x]) <+: layO blk chk 0 (done++x :: xs):=by rw [hall,eq_521 (xs:=done++[x])]; exact List.prefix_append ..
  have hl1:(done++[x]).length=done.length+1:=by simp
  have hdl:(done++x :: xs).length=done.length+(xs.length+1):=by simp
  have hol:=congrArg List.length (@eq_593 blk chk done x)
  rw [length_append] at hol
  have hsafe:(layO blk chk 0 ((done++x :: xs).take safe)).length≤kept:=by rw [eq_594 h2]; exact h3
  rw [cutF] at h
  rw [← eq_593] at h
  split at h
  ·rename_i q
   injection h with e1 h
   injection h with e2 h
   injection h with e3 e4
   subst e1 e2 e3 e4
   refine ⟨?_,by rw [length_append]; exact lA1 h1,lA2 h2 (eqG hdl),hsafe,fun q=>by cases q⟩
   refine List.IsPrefix.trans ?_ hpre
   rw [eq_593]
   exact (List.prefix_append_right_inj _).mpr (List.take_prefix ..)
  ·split at h
   ·split at h
    ·injection h with e1 h
     injection h with e2 h
     injection h with e3 e4
     subst e1 e2 e3 e4
     exact ⟨hpre,lA2 h1 (eqG hol),lA2 h2 (eqG hdl),hsafe,fun q=>by cases q⟩
    ·rw [← hl1] at h
     rw [hall]
     exact eq_595 (done:=done++[x]) (by simpa using hw) (le_refl _) (le_refl _) (by rw [take_length]; exact le_refl _) h
   ·rw [← hl1] at h
    rw [hall]
    exact eq_595 (done:=done++[x]) (by simpa using hw) (lA2 h1 (eqG hol)) (lA2 h2 (eqG hl1)) (by rw [eq_594 h2]; exact h3) h
theorem eq_596 {blk chk j:Nat}:∀ {xs:List Bs} {p:Nat},p≤j→∃ xs1 xs2,xs=xs1++xs2∧whN j (layE blk chk p xs)=xs1.length∧p+(layO blk chk p xs1).length≤j∧(xs2=[]∨∃ x ys,xs2=x :: ys∧j<p+(layO blk chk p xs1).length+(addN blk chk (p+(layO blk chk p xs1).length) x).length)
 | [],p,h=>(EI2 [] [] ⟨rfl,rfl,by rw [layO]; exact h,.inl rfl⟩)
 | x :: xs,p,h=>by
  rw [layE,whN]
  split
  ·rename_i q
   refine X24 (@eq_596 blk chk j xs _ q) fun xs1 xs2 e1 e2 e3 e4=>?_
   refine (EI2 (x :: xs1) xs2 ⟨by rw [e1]; rfl,by rw [e2]; rfl,?_,?_⟩)
   ·rw [layO,length_append,← add_assoc]; exact e3
   ·rw [layO,length_append,← add_assoc]; exact e4
  ·rename_i q
   exact (EI2 [] (x :: xs) ⟨rfl,rfl,by rw [layO]; exact h,.inr ⟨x,xs,rfl,by rw [layO,length_nil,add_zero]; exact sA1 (eq_15 q)⟩⟩)
theorem eq_597 {blk chk whole:Nat} {recs:List Bs} {further torn:Bs} (hb:8≤blk) (hb2:blk≤1000) (ht:torn=(layO blk chk 0 recs).take torn.length) (hw:whole=whN torn.length (layE blk chk 0 recs)) :
  whole≤recs.length∧endN (layE blk chk 0 recs) whole≤torn.length∧∃ K R1 R2,preF torn blk chk K 0 rd0=some (recs.take whole,endN (layE blk chk 0 recs) whole)∧allF torn blk chk K rd0=some (recs.take whole,R1)∧R1.good=endN (layE blk chk 0 recs) whole∧R1.skip=0 ∧
   R1.torn=(decide (endN (layE blk chk 0 recs) whole<torn.length)&&(decide (0<torn.length % blk) || decide (7≤torn.length - endN (layE blk chk 0 recs) whole))) ∧
   ∃ K3,allF (torn.take (endN (layE blk chk 0 recs) whole)++addN blk chk (endN (layE blk chk 0 recs) whole) further) blk chk K3 rd0=some (recs.take whole++[further],R2)∧R2.skip=0:=by
 revert hb hb2 ht hw; revert blk chk whole recs further torn; apply s6; generalize T1 _=blk,T2 _=chk,T3 _=whole,T4 _=recs,T5 _=further,T6 _=torn; intro hb hb2 ht hw
 refine Ex2 (@eq_596 blk chk torn.length recs 0 (zero_le _)) fun xs1 xs2 Z1=>?_; obtain ⟨rfl,Z0⟩:=Z1; refine An3 Z0 fun e2 e3 e4=>?_; clear Z0
 revert xs1 xs2; apply s2; generalize T1 _=xs1,T2 _=xs2; intro ht hw e2 e3 e4
 rw [e2] at hw
 subst hw
 simp only [Nat.zero_add] at e3 e4
 rw [eq_527,take_left]
 refine ⟨by simp,e3,?_⟩
 have hlay:layO blk chk 0 (xs1++xs2)=layO blk chk 0 xs1++layO blk chk (layO blk chk 0 xs1).length xs2:=by rw [eq_521,Nat.zero_add]
 rw [hlay] at ht
 have htake:torn.take (layO blk chk 0 xs1).length=layO blk chk 0 xs1:=by rw [ht,List.take_take,min_eq_left e3,take_left]
 have hdrop:torn.drop (layO blk chk 0 xs1).length=(layO blk chk (layO blk chk 0 xs1).length xs2).take (torn.length - (layO blk chk 0 xs1).length):=by
  conv=>lhs; rw [ht]
  rw [List.drop_take,drop_left]
 have hpre:layO blk chk 0 xs1 <+: torn.drop 0:=⟨torn.drop (layO blk chk 0 xs1).length,by
  rw [drop_zero]
  conv=>lhs; lhs; rw [← htake]
  exact take_append_drop ..⟩
 refine eq_25 (eq_515 (chk:=chk) (R:=rd0) hb hb2 (zero_le _) hpre) fun g g1 g2 g3 b1 b2=>?_
 exists g; intro g1 g2 b1 b2
 obtain ⟨K3,R3,w1,-,-,w4⟩:=eq_540 (chk:=chk) (xs:=xs1++[further]) hb hb2 (by simp)
 revert K3 R3; apply s2; generalize T1 _=K3,T2 _=R3; intro w1 w4
 rw [eq_593] at w1
 rw [htake]
 simp only [eq_539,Nat.zero_add] at g2 g3 b1 b2
 have hg:g=(layO blk chk 0 xs1).length:=by
  by_cases q:xs1=[]
  ·rw [g1 q,q]; rfl
  ·exact g2 q
 clear g1 g2 hlay hpre htake
 generalize hP:(layO blk chk 0 xs1).length=P at *
 subst hg
 have rd:∃ a b c,readF torn blk chk (torn.length+1) false [] (stR torn.length blk g (gdR rd0 g))=some (none,fnR (gdR rd0 g) a b c (false || tornN torn blk g)):=by
  rcases e4 with rfl | ⟨x,ys,rfl,e4⟩
  ·have hl:torn.length=g:=by
    refine le_antisymm ?_ e3
    have:=congrArg List.length hdrop
    rw [layO,take_nil,length_drop,length_nil] at this
    exact Nat.le_of_sub_eq_zero this
   rw [← hl]
   exact eq_520 hb hb2 (succ_pos _)
  ·rw [layO,take_append,sub_eq_zero_of_le (m:=(addN blk chk g x).length) (Nat.sub_le_of_le_add (lA1 (lsl e4))),take_zero,append_nil] at hdrop
   exact eq_519 hb hb2 (k:=2*x.length+2) (rest:=x) (j:=torn.length - g) eq_335 e3 (Nat.sub_lt_left_of_lt_add e3 e4) hdrop eq_513
 obtain ⟨a,b,c,f1⟩:=rd
 refine (EI3 (1+xs1.length) (fnR (gdR rd0 g) a b c (false || tornN torn blk g)) R3 ⟨(b2 rfl 1).trans ?_,(b1 1).trans ?_,rfl,rfl,rfl,K3,w1,w4⟩)
 ·rw [preF]; simp only [f1]; simp
 ·rw [allF]; simp only [f1]; simp
theorem eq_598 {blk p:Nat}:(fillN blk p).length≤6:=by unfold fillN; split <;> simp; lia
theorem eq_599 {blk chk:Nat} (hb:8≤blk):∀ {k p:Nat} {begun:Bool} {rest:Bs},(addF blk chk k p begun rest).length≤14*rest.length+13∧(rest.length≠0→roomN blk p≠7→(addF blk chk k p begun rest).length≤14*rest.length)
 | 0,_,_,_=>by rw [addF]; simp
 | k+1,p,begun,rest=>by
  have h1:=@eq_332 blk chk p begun rest
  have h2:=@eq_598 blk p
  have h3:=eq_331 (len:=p) hb
  rw [addF,length_append]
  by_cases z:addM blk p rest.length=rest.length
  ·rw [if_pos z,length_nil]; exact ⟨lA3 (eqL h1) (eqL z) h2,fun q0_=>fun q1_=>eq_1 (eqL h1) (eqL z) h2 (mul_le_mul_left 13 (show 1≤rest.length from pos_of_ne_zero q0_))⟩
  ·rw [if_neg z]
   have hfull:=eq_333 (chk:=chk) (begun:=begun) hb z
   have hM:addM blk p rest.length=roomN blk p - 7∧roomN blk p - 7<rest.length:=by
    unfold addM at z ⊢
    rcases le_total rest.length (roomN blk p - 7) with q | q
    ·exact absurd (min_eq_left q) z
    ·refine ⟨min_eq_right q,?_⟩
     rcases lt_or_ge (roomN blk p - 7) rest.length with w | w
     ·exact w
     ·exact absurd (min_eq_left w) z
   have hroom:roomN blk (p+(addO blk chk p begun rest).length)≠7:=by unfold roomN rm0; rw [hfull,if_neg (by lia)]; lia
   have ih:=(@eq_599 blk chk hb k (p+(addO blk chk p begun rest).length) true (rest.drop (addM blk p rest.length))).2 (by rw [length_drop]; exact fun q_=>eq_6 (lsl hM.2) (nas (List.length rest) (addM blk p (List.length rest))) (eqL hM.1) (eqL q_)) hroom
   rw [length_drop] at ih
   have hs:=mul_le_mul_left 14 (nsa rest.length (addM blk p rest.length) (lA2 (eqL hM.1) (lsl hM.2)))
   exact ⟨eq_1 ih h2 (eqL h1) hs,fun _ q=>eq_2 ih h2 (eqL h1) hs (mul_le_mul_left 13 (show 1≤addM blk p rest.length from lA3 (lsl (lt_of_le_of_ne h3 (Ne.symm q))) (nas (roomN blk p) 7) (eqG hM.1)))⟩
theorem eq_600 {blk chk p:Nat} {x:Bs} (hb:8≤blk):(addN blk chk p x).length≤14*x.length+13:=(eq_599 hb).1
theorem eq_601 {nums:List Nat} {k:Nat}:recsN nums (k+1)=recsN nums k++[recOf (drawN nums (5+k) / 7) (sizeN nums k (totN nums k))]:=by
 rw [recsN,recsN,range_succ,map_append]; rfl
theorem eq_602 {nums:List Nat}:∀ {k:Nat},totN nums k≤90+7*k
 | 0=>by rw [totN]; exact lA0
 | k+1=>by
  have:=@eq_602 nums k
  rw [totN]
  unfold sizeN
  split
  ·exact lA2 (eq_12 (drawN nums (5+k) % (mostN nums+1)) 8 (succ_pos _)) this
  ·rename_i z; exact lA1 (nlt z)
theorem eq_603 {blk chk:Nat} {nums:List Nat} (hb:8≤blk):∀ {k:Nat},(layO blk chk 0 (recsN nums k)).length≤14*totN nums k+13*k
 | 0=>by rw [show recsN nums 0=[] from rfl,layO]; simp
 | k+1=>by
  have:=@eq_603 blk chk nums hb k
  have h:=@eq_600 blk chk (layO blk chk 0 (recsN nums k)).length (recOf (drawN nums (5+k) / 7) (sizeN nums k (totN nums k))) hb
  rw [eq_601,eq_593,length_append,totN]
  rw [eq_366] at h
  exact lA2 this h
theorem eq_604 {blk chk r:Nat}:∀ {k p:Nat} {begun:Bool} {rest:Bs},(plcN (pcsF blk r k p rest)).length≤(addF blk chk k p begun rest).length∧7*(pcsF blk r k p rest).length≤(addF blk chk k p begun rest).length
 | 0,_,_,_=>by rw [pcsF,addF,plcN]; simp
 | k+1,p,begun,rest=>by
  have h1:=@eq_332 blk chk p begun rest
  rw [addF,length_append,pcsF,plcN,length_append,length_map]
  have h2:∀ s e:Nat,(((List.range (e - s)).map fun i=>s+i).filter fun i=>decide (i≠s+4)).length≤e - s:=fun s e=>by
   refine Nat.le_trans (List.length_filter_le ..) ?_
   rw [length_map,List.length_range]; exact le_refl _
  have h3:=h2 (p+(fillN blk p).length) (p+(fillN blk p).length+7+addM blk p rest.length)
  dsimp only
  rw [length_cons]
  split
  ·rw [plcN]; simp only [length_nil]; exact ⟨lA3 h3 (nsa (p+List.length (fillN blk p)+7+addM blk p (List.length rest)) (p+List.length (fillN blk p)) (lA0)) (eqG h1),lA1 (eqG h1)⟩
  ·have ih:=@eq_604 blk chk r k (p+(addO blk chk p begun rest).length) true (rest.drop (addM blk p rest.length))
   rw [show p+(fillN blk p).length+7+addM blk p rest.length=p+(addO blk chk p begun rest).length by exact le_antisymm (lA1 (eqG h1)) (lA1 (eqL h1))] at h3 ⊢
   exact ⟨lA3 ih.1 h3 (nsa (p+List.length (addO blk chk p begun rest)) (p+List.length (fillN blk p)) (lA1 (eqG h1))),lA2 ih.2 (eqG h1)⟩
theorem eq_605 {blk chk:Nat}:∀ {xs:List Bs} {i p:Nat},(plcN (layP blk chk i p xs)).length≤(layO blk chk p xs).length∧7*(layP blk chk i p xs).length≤(layO blk chk p xs).length
 | [],_,_=>by rw [layP,layO,plcN]; simp
 | x :: xs,i,p=>by
  have h:=@eq_604 blk chk i (2*x.length+2) p false x
  have ih:=@eq_605 blk chk xs (i+1) (p+(addN blk chk p x).length)
  rw [layP,layO,eq_336,length_append,length_append,length_append]
  have:(addF blk chk (2*x.length+2) p false x).length=(addN blk chk p x).length:=rfl
  have e:pcsN blk i p x=pcsF blk i (2*x.length+2) p x:=rfl
  rw [e]
  exact ⟨lA3 ih.1 h.1 (eqL this),lA3 ih.2 h.2 (eqL this)⟩
theorem eq_606 {blk chk:Nat} {recs:List Bs} {q:Nat × Nat × Nat} (h:q∈layP blk chk 0 0 recs):q.2.2≤(layO blk chk 0 recs).length∧q.2.1+7≤q.2.2:=by
 refine Ex3 (eq_530 h) fun xs1 x xs2 Z1=>?_; obtain ⟨rfl,Z0⟩:=Z1; refine An2 Z0 fun h1 h2=>?_; clear Z0
 have h3:=eq_531 (chk:=chk) (begun:=false) h2
 have h4:=eq_528 h2
 rw [eq_521,layO,length_append,length_append,Nat.zero_add]
 rw [Nat.zero_add] at h3
 have:(addF blk chk (2*x.length+2) (layO blk chk 0 xs1).length false x).length=(addN blk chk (layO blk chk 0 xs1).length x).length:=rfl
 exact ⟨lA2 h3 (eqL this),lA1 h4.2.2⟩
theorem eq_607 {r s e:Nat}:∀ {l:List (Nat × Nat × Nat)},(r,s,e)∈l→s+7≤e→(s,r,s,e)∈plcN l
 | p :: l,h,he=>by
  rw [plcN]
  rcases List.mem_cons.mp h with rfl | h
  ·refine mem_append_left _ (List.mem_map.mpr ⟨s,List.mem_filter.mpr ⟨List.mem_map.mpr ⟨0,List.mem_range.mpr (by dsimp only; exact sA2 he (nas e s)),rfl⟩,decide_eq_true (by dsimp only; exact fun q_=>eq_4 (eqG q_))⟩,rfl⟩)
  ·exact mem_append_right _ (eq_607 h he)
section
variable {Γ:Gam} [F:Facts Γ] {n:Nat} {hp:HP}
theorem fc_all {xs:List Int} (hx:xs.length≤63):FC Γ (n+8) 643 [.lst (xs.map .int)] hp (fun x _=>x=.bool true) noH:=by
 revert F hx; revert Γ n hp xs; apply s4; generalize T1 _=Γ,T2 _=n,T3 _=hp,T4 _=xs; intro F hx
 generalize hn:numsN xs=nums
 exists nums; intro hn
 have hn0:0<nums.length:=by
  rw [← hn]; unfold numsN; split
  ·exact Nat.zero_lt_one
  ·rw [length_map]; lia
 have hn1:nums.length≤1000:=by
  rw [← hn]; unfold numsN; split
  ·decide
  ·rw [length_map,length_take]; exact lA1 (min_le_left 40 xs.length)
 have hb:8≤blkN nums∧blkN nums≤40:=by have:=mod_lt (drawN nums 0) (show 0<33 from dD); unfold blkN; exact ⟨lA0,lA1 (lsl this)⟩
 have hc:chkN nums=1∨chkN nums=2:=by unfold chkN; exact (mod_two_eq_zero_or_one (drawN nums 0 / 33)).imp (congrArg (1 + ·)) (congrArg (1 + ·))
 have hcnt:1≤countN nums∧countN nums≤6:=by
  have:Nat.min 6 (nums.length - 5)≤6:=min_le_left ..
  exact ⟨Nat.le_max_left ..,Nat.max_le.mpr ⟨dD,this⟩⟩
 generalize hblk:blkN nums=blk at hb
 exists blk; intro hblk hb
 generalize hchk:chkN nums=chk at hc
 exists chk; intro hchk hc
 generalize hrec:recsN nums (countN nums)=recs
 exists recs; intro hrec
 generalize hway:waysN nums (countN nums)=ways
 exists ways; intro hway
 generalize hfur:furN nums=further
 exists further; intro hfur
 have hb2:blk≤1000:=lA1 hb.2
 have hrl:recs.length=countN nums:=by rw [← hrec]; simp [recsN]
 have hwl:ways.length=recs.length:=by rw [hrl,← hway]; simp [waysN]
 have hrx:∀ x∈recs,x.length≤1000:=fun x hxm=>by
  rw [← hrec] at hxm
  refine X12 (List.mem_map.mp hxm) fun i _ Z3=>?_; obtain rfl:=Z3
  rw [eq_366]
  exact Nat.le_trans (eq_365 ..) dD
 have hfl:further.length≤30:=by
  have:mostN nums≤30:=min_le_left ..
  have h2:=mod_lt (drawN nums 4 / 256) (show 0<mostN nums+1 by exact sA0)
  rw [← hfur,furN,eq_293,length_replicate]; exact lA2 (lsl h2) this
 have hdz:(layO blk chk 0 recs).length≤1926:=by
  have h1:=@eq_603 blk chk nums hb.1 (countN nums)
  have h2:=@eq_602 nums (countN nums)
  rw [hrec] at h1; exact lA3 h1 (mul_le_mul_left 14 h2) (mul_le_mul_left 111 hcnt.2)
 have hez:(layE blk chk 0 recs).length=recs.length:=eq_524
 have hpl:=@eq_605 blk chk recs 0 0
 have hrne:recs≠[]:=fun q=>by rw [q] at hrl; simp at hrl; exact eq_5 hcnt.1 (eqG hrl)
 have hpne:∃ r s e,(r,s,e)∈layP blk chk 0 0 recs:=by
  refine Ex2 (List.exists_cons_of_ne_nil hrne) fun x xs Z4=>?_; obtain rfl:=Z4
  obtain ⟨e,he⟩:=@eq_586 blk 0 0 x
  exact (EI3 _ _ e (by rw [layP]; exact mem_append_left _ he))
 have hfn:∀ p,(addN blk chk p further).length≤14*30+13:=fun p=>by have:=@eq_600 blk chk p further hb.1; lia
 refine eq_454 (n:=n) (hp:=hp) hx hn.symm hblk.symm hchk.symm hrec.symm hway.symm (data:=layO blk chk 0 recs) rfl rfl rfl hfur.symm (lA1 hdz) (fun _ hp=>?_) (fun _ hp=>?_) (fun _ hp=>?_)
 ·exists hp
  have hpos:0<(plcN (layP blk chk 0 0 recs)).length:=by
   refine Ex3 hpne fun r s e h=>?_; clear hpne
   exact List.length_pos_of_mem (eq_607 h (eq_606 h).2)
  have hlt:=mod_lt (drawN nums 3) hpos
  obtain ⟨⟨a,r,s,e⟩,hp0⟩:∃ q,(plcN (layP blk chk 0 0 recs))[drawN nums 3 % (plcN (layP blk chk 0 0 recs)).length]?=some q:=⟨_,getElem?_eq_getElem hlt⟩
  revert a r s e; apply s4; generalize T1 _=a,T2 _=r,T3 _=s,T4 _=e; intro hp0
  have hmem:=mem_of_getElem? hp0
  have hm:=eq_588 hmem
  have hle:=eq_606 hm.1
  dsimp only at hle
  have ht:=mod_lt (drawN nums 4) (show 0<255 from dD)
  have ho:=UInt8.toNat_lt ((layO blk chk 0 recs).getD a 0)
  generalize hnew:(if a=s+5 then 255 else ((layO blk chk 0 recs).getD a 0).toNat ^^^ (1+drawN nums 4 % 255))=new
  exists new; intro hnew
  have hnz:new<256:=by
   rw [← hnew]; split
   ·decide
   ·exact xor_lt_two_pow (n:=8) (sA1 (lsl ho)) (sA1 (lsl ht))
  have hne:a≠s+5→new≠((layO blk chk 0 recs).getD a 0).toNat:=fun z q=>by
   rw [if_neg z] at hnew
   rw [← hnew,xor_comm] at q
   have:=eq_543 (q.trans (zero_xor _).symm)
   exact eq_4 (eqL this)
  obtain ⟨K,rows,R',h1,h2,h3,h4,h5,h6,h7,h8⟩:=eq_592 hb.1 hb2 rfl hmem hnz hne (fun z=>by rw [← hnew,if_pos z]) rfl
  exact eq_447 hn0 hn1 hb.1 hb2 hc (by lia) (lA2 hpl.1 hdz) hp0 (lA2 h5 (eqG hez)) (lA3 (eqL hez) (eqL hrl) hcnt.2) (lA2 (eqL hrl) hcnt.2) h4 (lA1 hdz) (fun p hp=>by have:=eq_606 hp; exact ⟨lA3 this.2 this.1 hdz,lA2 this.1 hdz⟩) (lA3 hle.2 hle.1 hdz) hnew.symm hnz rfl h1 h2 h3 h6 h7 h8
 ·exists hp
  have hpos:0<(layP blk chk 0 0 recs).length:=by
   refine Ex3 hpne fun r s e h=>?_; clear hpne
   exact List.length_pos_of_mem h
  have hlt:=mod_lt (drawN nums 3) hpos
  obtain ⟨⟨r,s,e⟩,hp0⟩:∃ q,(layP blk chk 0 0 recs)[drawN nums 3 % (layP blk chk 0 0 recs).length]?=some q:=⟨_,getElem?_eq_getElem hlt⟩
  have hmem:=mem_of_getElem? hp0
  have hle:=eq_606 hmem
  have hmm:=eq_529 hmem
  dsimp only at hle hmm
  refine Ex5 (eq_541 (further:=further) hb.1 hb2 hmem rfl) fun kept told g K R' Z0=>?_; refine An5 Z0 fun h1 h2 h3 h4 h5=>?_; clear Z0
  have:=hfn e
  exact eq_443 hn0 hn1 hb.1 hb2 hc (by lia) hp0 (sA2 (lsl hmm.2.1) (eqG hez)) hez (lA2 (eqL hrl) hcnt.2) hle.1 (lA1 hdz) (lA1 hfl) (fun p hp=>(eq_606 hp).2) rfl (by rw [length_append,length_take]; exact lA3 this (min_le_right e (List.length (layO blk chk 0 recs))) hdz) h1 h2 h3 h4 h5
 ·exists hp
  obtain ⟨⟨b,kept,safe,dead⟩,hcut⟩:∃ q,cutF blk chk 0 recs ways [] (drawN nums 1 % (2*(layO blk chk 0 recs).length+20)) 0 0=q:=⟨_,rfl⟩
  revert b kept safe dead; apply s4; generalize T1 _=b,T2 _=kept,T3 _=safe,T4 _=dead; intro hcut
  refine An5 (eq_595 (done:=[]) hwl (le_refl _) (le_refl _) (le_refl _) hcut) fun i1 i2 i3 i4 i5=>?_
  rw [nil_append] at i1 i3 i4 i5
  have hbl:=i1.length_le
  have hm:=mod_lt (drawN nums 2) (show 0<b.length - kept+1 by exact sA0)
  have hkb2:kept+drawN nums 2 % (b.length - kept+1)≤b.length:=by clear hcut i1 i4 i5; exact lA2 (nsa (List.length b) kept (lA1 i2)) (lsl hm)
  generalize htorn:b.take (kept+drawN nums 2 % (b.length - kept+1))=torn
  exists torn; intro htorn
  have htl:torn.length=kept+drawN nums 2 % (b.length - kept+1):=by rw [← htorn,length_take]; exact min_eq_left hkb2
  have ht1:torn=(layO blk chk 0 recs).take torn.length:=by
   rw [htl,← htorn]
   obtain ⟨t,ht⟩:=i1
   rw [← ht,take_append,sub_eq_zero_of_le hkb2,take_zero,append_nil]
  have ht2:endN (layE blk chk 0 recs) safe≤torn.length:=by
   have:=@eq_527 blk chk (recs.take safe) (recs.drop safe)
   rw [take_append_drop,length_take,min_eq_left i3] at this
   rw [this,htl]; exact Nat.le_trans i4 (le_add_right ..)
  refine An3 (eq_597 (further:=further) (whole:=whN torn.length (layE blk chk 0 recs)) hb.1 hb2 ht1 rfl) fun h1 h2 Z1=>?_; refine X36 Z1 fun K R1 R2 h3 h4 h5 h6 h7 Z2=>?_; clear Z1; refine X12 Z2 fun K3 h8 h9=>?_; clear Z2
  have:=hfn (endN (layE blk chk 0 recs) (whN torn.length (layE blk chk 0 recs)))
  exact eq_448 hn0 hn1 hb.1 hb2 hc (lA2 (eqL hrl) hcnt.2) hez hwl hrx (lA1 hdz) rfl (lA1 hfl) hcut i2 (lA2 hbl hdz) i5 (lA2 i3 (eqG hez)) htorn.symm ht1 ht2 rfl (lA2 h1 (eqG hez)) h3 h4 h5 h6 h7 h2 rfl (by rw [length_append,length_take]; exact eq_7 this (min_le_right (endN (layE blk chk 0 recs) (whN torn.length (layE blk chk 0 recs))) torn.length) (eqL htl) hkb2 hbl hdz) h8 h9
end
end N0
namespace N0.top
theorem tw14183565791140610842:True:=⟨⟩
theorem tw16389640016769040112:True:=⟨⟩
theorem tw2610801350383673210:True:=⟨⟩
theorem tw14364773822302527988:True:=⟨⟩
theorem tw9824969281004534074:True:=⟨⟩
theorem tw11741433862032702640:True:=⟨⟩
theorem tw3267570117435058087:True:=⟨⟩
theorem tw5934969285280509697:True:=⟨⟩
theorem tw8859244860337594247:True:=⟨⟩
theorem tw16447185823850840276:True:=⟨⟩
theorem tw14042428762527654893:True:=⟨⟩
theorem tw18070473631121260955:True:=⟨⟩
theorem tw7882937426689430332:True:=⟨⟩
theorem tw9173611570932692726:True:=⟨⟩
theorem tw12889316351893968551:True:=⟨⟩
theorem tw268961603338152767:True:=⟨⟩
theorem tw6339163288147581244:True:=⟨⟩
theorem tw3518690114944757983:True:=⟨⟩
theorem tw4310389794793212233:True:=⟨⟩
theorem tw10795829067416139629:True:=⟨⟩
theorem tw4795585359860001570:True:=⟨⟩
theorem tw10561815334150366737:True:=⟨⟩
theorem tw4297140979245770189:True:=⟨⟩
theorem tw4365125266741611179:True:=⟨⟩
theorem tw194666290132644855:True:=⟨⟩
theorem tw18282714317255676752:True:=⟨⟩
theorem tw11173949557129463673:True:=⟨⟩
theorem tw16072783064970501776:True:=⟨⟩
theorem tw7408014184706334932:True:=⟨⟩
theorem tw5489249403659528339:True:=⟨⟩
theorem tw9028014169423851305:True:=⟨⟩
theorem tw5869939304098055272:True:=⟨⟩
theorem tw1737077912373024455:True:=⟨⟩
theorem tw5187269427223023646:True:=⟨⟩
theorem tw14703194307988069077:True:=⟨⟩
theorem tw13377542159073637566:True:=⟨⟩
theorem tw4409136628155816454:True:=⟨⟩
theorem tw5384387716010633129:True:=⟨⟩
theorem tw7763853371838960271:True:=⟨⟩
theorem tw5263108728461077990:True:=⟨⟩
theorem tw13859770714223974416:True:=⟨⟩
theorem tw6987635610005076909:True:=⟨⟩
theorem tw2275579414222524203:True:=⟨⟩
theorem tw10452888475319699479:True:=⟨⟩
theorem tw4663747668396291011:True:=⟨⟩
theorem tw13119513888943631171:True:=⟨⟩
theorem tw17583901474147536764:True:=⟨⟩
theorem tw16254496022740761008:True:=⟨⟩
theorem tw18103974125803539458:True:=⟨⟩
theorem tw1723367566877739384:True:=⟨⟩
theorem tw13325341882164202983:True:=⟨⟩
theorem tw8471419620693715612:True:=⟨⟩
theorem tw2165910510054633862:True:=⟨⟩
theorem tw4350139123950873474:True:=⟨⟩
theorem tw8587503310048472427:True:=⟨⟩
theorem tw8936512020825306941:True:=⟨⟩
theorem tw5302660889328386089:True:=⟨⟩
theorem tw1504151595933806766:True:=⟨⟩
theorem tw11188695007500349214:True:=⟨⟩
theorem tw7137406030367942911:True:=⟨⟩
theorem tw9546557572148498001:True:=⟨⟩
theorem tw12887467791207865155:True:=⟨⟩
theorem tw428025622411671902:True:=⟨⟩
theorem tw3906532483788931643:True:=⟨⟩
theorem tw11725766407497509924:True:=⟨⟩
theorem tw8001070999185856987:True:=⟨⟩
theorem tw15213392952810975231:True:=⟨⟩
theorem tw11231672755322089651:True:=⟨⟩
theorem tw9424863616929098866:True:=⟨⟩
theorem tw10239432580987146379:True:=⟨⟩
theorem tw6233854646741900562:True:=⟨⟩
theorem tw78280330638145340:True:=⟨⟩
theorem tw14545375900309510225:True:=⟨⟩
theorem tw17691243106545806099:True:=⟨⟩
theorem tw12127519649783907398:True:=⟨⟩
theorem tw15950919561708051537:True:=⟨⟩
theorem tw3451406924178319364:True:=⟨⟩
theorem tw5167883047256804310:True:=⟨⟩
theorem tw6511534892501140914:True:=⟨⟩
theorem tw12255744913921241892:True:=⟨⟩
theorem tw15520868974439696499:True:=⟨⟩
theorem tw2280822689730901308:True:=⟨⟩
theorem tw10746433319430599082:True:=⟨⟩
theorem tw16812804357748160655:True:=⟨⟩
theorem tw11543017332813110925:True:=⟨⟩
theorem tw9041579342490254796:True:=⟨⟩
theorem tw17069073976326967969:True:=⟨⟩
theorem tw4243240331898717360:True:=⟨⟩
theorem tw8518552611321839942:True:=⟨⟩
theorem tw1996627217181296639:True:=⟨⟩
theorem tw10383887116358847324:True:=⟨⟩
theorem tw2097459182269971242:True:=⟨⟩
theorem tw381755494268617131:True:=⟨⟩
theorem tw15578692069172507078:True:=⟨⟩
theorem tw3897115353490726231:True:=⟨⟩
theorem tw475201938916536293:True:=⟨⟩
theorem tw12079802318042161975:True:=⟨⟩
theorem tw820774083993566352:True:=⟨⟩
theorem tw2558795598104988101:True:=⟨⟩
theorem tw6232474182700942985:True:=⟨⟩
theorem tw772128288091065144:True:=⟨⟩
theorem tw2409343789522722175:True:=⟨⟩
theorem tw17944990408273188052:True:=⟨⟩
theorem tw14874348114064238944:True:=⟨⟩
theorem tw16635251764688825156:True:=⟨⟩
theorem tw13319196342318907710:True:=⟨⟩
theorem tw7471503621627950575:True:=⟨⟩
theorem tw3078606365534584933:True:=⟨⟩
theorem tw7752548426584656207:True:=⟨⟩
theorem tw8911213636990030386:True:=⟨⟩
theorem tw3025424922772171333:True:=⟨⟩
theorem tw4580837054972956402:True:=⟨⟩
theorem tw12157391528029610151:True:=⟨⟩
theorem tw5864422437140740483:True:=⟨⟩
theorem tw6727309489445547032:True:=⟨⟩
theorem tw11910886926117145789:True:=⟨⟩
theorem tw10888893776856294440:True:=⟨⟩
theorem tw16489880963582043494:True:=⟨⟩
theorem tw18045558844448542351:True:=⟨⟩
theorem tw12210022422290489448:True:=⟨⟩
theorem tw11736513660417666330:True:=⟨⟩
theorem tw3646183503542052782:True:=⟨⟩
theorem tw15912736938655477125:True:=⟨⟩
theorem tw11764708328017797774:True:=⟨⟩
theorem tw5848368696908055605:True:=⟨⟩
theorem tw1459040232507309945:True:=⟨⟩
theorem tw3018219253380966408:True:=⟨⟩
theorem tw18049363074569273294:True:=⟨⟩
theorem tw3740874503264025247:True:=⟨⟩
theorem tw14704073326757366850:True:=⟨⟩
theorem tw5924551186561114809:True:=⟨⟩
theorem tw17032261623682731308:True:=⟨⟩
theorem tw1391868961452108747:True:=⟨⟩
theorem tw13248682319560152214:True:=⟨⟩
theorem tw2790789360993493289:True:=⟨⟩
theorem tw8906069774613080607:True:=⟨⟩
theorem tw1865487777814350092:True:=⟨⟩
theorem tw3923439117734545214:True:=⟨⟩
theorem tw13828506889349949741:True:=⟨⟩
theorem tw10674961232470776909:True:=⟨⟩
theorem tw3324590398786077809:True:=⟨⟩
theorem tw16787488487017829827:True:=⟨⟩
theorem tw11228357782528139620:True:=⟨⟩
theorem tw1976867192780083984:True:=⟨⟩
theorem tw12314067647635121563:True:=⟨⟩
theorem tw14297800154917377569:True:=⟨⟩
theorem tw8281512019262137770:True:=⟨⟩
theorem tw17059047386771670902:True:=⟨⟩
theorem tw5169842619630796350:True:=⟨⟩
theorem tw1306748761418835002:True:=⟨⟩
theorem tw6080996572904805729:True:=⟨⟩
theorem tw10492567500731497375:True:=⟨⟩
theorem tw3465223066635021777:True:=⟨⟩
theorem tw17960131991984635826:True:=⟨⟩
theorem tw18387076574908150420:True:=⟨⟩
theorem tw16872333514552103496:True:=⟨⟩
theorem tw2214326425550774397:True:=⟨⟩
theorem tw13905992378178852971:True:=⟨⟩
theorem tw10359871401167704506:True:=⟨⟩
theorem tw2196160085248969448:True:=⟨⟩
theorem tw7567374301855087434:True:=⟨⟩
theorem tw5978462485281856366:True:=⟨⟩
theorem tw15335232832632332919:True:=⟨⟩
theorem tw7106619956724499592:True:=⟨⟩
theorem tw8390248949260626681:True:=⟨⟩
theorem tw6052810086358485213:True:=⟨⟩
theorem tw4331719605799548634:True:=⟨⟩
theorem tw1253879491928690028:True:=⟨⟩
theorem tw2910920257149041714:True:=⟨⟩
theorem tw3446005629747988471:True:=⟨⟩
theorem tw6758828394781363240:True:=⟨⟩
theorem tw12003157510731102125:True:=⟨⟩
theorem tw14652956699903533422:True:=⟨⟩
theorem tw16305687101388937838:True:=⟨⟩
theorem tw17312336080308483697:True:=⟨⟩
theorem tw10333059371200881354:True:=⟨⟩
theorem tw13336159844687991662:True:=⟨⟩
theorem tw16159167730848514734:True:=⟨⟩
theorem tw18081861315614664698:True:=⟨⟩
theorem tw14527347668276334636:True:=⟨⟩
theorem tw16575224007939352128:True:=⟨⟩
theorem tw3166249766866236580:True:=⟨⟩
theorem tw14826796502057341633:True:=⟨⟩
theorem tw7566544664486008730:True:=⟨⟩
theorem tw1565201943722065243:True:=⟨⟩
theorem tw6115888078737895923:True:=⟨⟩
theorem tw12551388339723454064:True:=⟨⟩
theorem tw11165555017114342752:True:=⟨⟩
theorem tw17950083054414244510:True:=⟨⟩
theorem tw7903809417013900850:True:=⟨⟩
theorem tw941238949694131209:True:=⟨⟩
theorem tw380989401260351479:True:=⟨⟩
theorem tw2885902104935457655:True:=⟨⟩
theorem tw11035503581973037503:True:=⟨⟩
theorem tw5275046749525515453:True:=⟨⟩
theorem tw6693667891306283427:True:=⟨⟩
theorem tw14231132565289612921:True:=⟨⟩
theorem tw17970244847552709100:True:=⟨⟩
theorem tw10441451834391531294:True:=⟨⟩
theorem tw15704279822128162216:True:=⟨⟩
theorem tw3077649955151611940:True:=⟨⟩
theorem tw16642514892411818651:True:=⟨⟩
theorem tw12147553056840888661:True:=⟨⟩
theorem tw7060933599375925180:True:=⟨⟩
theorem tw5600193698021271268:True:=⟨⟩
theorem tw11397556671859104197:True:=⟨⟩
theorem tw3772856196659061220:True:=⟨⟩
theorem tw12763601342057304923:True:=⟨⟩
theorem tw4393816183825280435:True:=⟨⟩
theorem tw4268586239745304572:True:=⟨⟩
theorem tw2515461867729689024:True:=⟨⟩
theorem tw13044135193774500548:True:=⟨⟩
theorem tw6560489897742407009:True:=⟨⟩
theorem tw8247623195111838727:True:=⟨⟩
theorem tw4661604664353243315:True:=⟨⟩
theorem tw15843512837255365938:True:=⟨⟩
theorem tw3831223513874368407:True:=⟨⟩
theorem tw17943837122803525617:True:=⟨⟩
theorem tw10337265780028622131:True:=⟨⟩
theorem tw2442050768537552647:True:=⟨⟩
theorem tw636728445408918061:True:=⟨⟩
theorem tw16314302282135792700:True:=⟨⟩
theorem tw4106693461890949201:True:=⟨⟩
theorem tw11929858903845758159:True:=⟨⟩
theorem tw4886462740043150780:True:=⟨⟩
theorem tw3106269782889332268:True:=⟨⟩
theorem tw14989070439727334007:True:=⟨⟩
theorem tw10355768075621491572:True:=⟨⟩
theorem tw13006780015998749750:True:=⟨⟩
theorem tw846787576206613403:True:=⟨⟩
theorem tw11589574988068679656:True:=⟨⟩
theorem tw9632660968436897391:True:=⟨⟩
theorem tw9592000902388875468:True:=⟨⟩
theorem tw13269025403761814339:True:=⟨⟩
theorem tw12074927793084854463:True:=⟨⟩
theorem tw10356818938088220684:True:=⟨⟩
theorem tw6346234276846552235:True:=⟨⟩
theorem tw50012317962299835:True:=⟨⟩
theorem tw11196624655504324288:True:=⟨⟩
theorem tw12544191722503289624:True:=⟨⟩
theorem tw7203762071947407415:True:=⟨⟩
theorem tw12668174015680605194:True:=⟨⟩
theorem tw2392994641380752770:True:=⟨⟩
theorem tw9476386989705224370:True:=⟨⟩
theorem tw13066478358798045606:True:=⟨⟩
theorem tw5300369977617249828:True:=⟨⟩
theorem tw5747722622683274273:True:=⟨⟩
theorem tw1026718320943679589:True:=⟨⟩
theorem tw8065011850532511031:True:=⟨⟩
theorem tw2247871084764848463:True:=⟨⟩
theorem tw15568338629587001508:True:=⟨⟩
theorem tw15348073637306606997:True:=⟨⟩
theorem tw1106569491608609478:True:=⟨⟩
theorem tw14435637220382675264:True:=⟨⟩
theorem tw4474136231758324643:True:=⟨⟩
theorem tw11184340363695751023:True:=⟨⟩
theorem tw870098301094173496:True:=⟨⟩
theorem tw16880755275427322741:True:=⟨⟩
theorem tw2743495377204924196:True:=⟨⟩
theorem tw16345194925912052120:True:=⟨⟩
theorem tw11721522536721394245:True:=⟨⟩
theorem tw3990437823893229224:True:=⟨⟩
theorem tw3141490131049724319:True:=⟨⟩
theorem tw18207429944135870614:True:=⟨⟩
theorem tw7972575995887003873:True:=⟨⟩
theorem tw6160704293317980873:True:=⟨⟩
theorem tw12290205989054136242:True:=⟨⟩
theorem tw3341138499360033919:True:=⟨⟩
theorem tw10777927268205767341:True:=⟨⟩
theorem tw4271402764965738117:True:=⟨⟩
theorem tw1548392203932312882:True:=⟨⟩
theorem tw5013885517637700155:True:=⟨⟩
theorem tw11418825222036068751:True:=⟨⟩
theorem tw9717890406957646051:True:=⟨⟩
theorem tw216235395712968352:True:=⟨⟩
theorem tw8169229584661178933:True:=⟨⟩
theorem tw5972370214181528850:True:=⟨⟩
theorem tw6046184197854612805:True:=⟨⟩
theorem tw2883115649140218538:True:=⟨⟩
theorem tw123907592243404548:True:=⟨⟩
theorem tw11106716729235211447:True:=⟨⟩
theorem tw6095358810806477667:True:=⟨⟩
theorem tw5767470698903509191:True:=⟨⟩
theorem tw15023780119277106162:True:=⟨⟩
theorem tw9045407910353791606:True:=⟨⟩
theorem tw10179781369054763674:True:=⟨⟩
theorem tw14020779386523869477:True:=⟨⟩
theorem tw15781149601884186612:True:=⟨⟩
theorem tw8370272262913551433:True:=⟨⟩
theorem tw9284662864673705479:True:=⟨⟩
theorem tw883159157214714143:True:=⟨⟩
theorem tw4300766576736042619:True:=⟨⟩
theorem tw14187513549933280933:True:=⟨⟩
theorem tw7930365015127877192:True:=⟨⟩
theorem tw17838905475741595379:True:=⟨⟩
theorem tw13850326509252446051:True:=⟨⟩
theorem tw3946897073464044062:True:=⟨⟩
theorem tw5347555225064445165:True:=⟨⟩
theorem tw12160829778071465612:True:=⟨⟩
theorem tw4008590225511456488:True:=⟨⟩
theorem tw4782504048593941886:True:=⟨⟩
theorem tw12150076838329430492:True:=⟨⟩
theorem tw17621233451964815262:True:=⟨⟩
theorem tw9572260598962784169:True:=⟨⟩
theorem tw11057646538293575529:True:=⟨⟩
theorem tw4292452481280351139:True:=⟨⟩
theorem tw17097466404676296907:True:=⟨⟩
theorem tw18255149962329030302:True:=⟨⟩
theorem tw10790726509530337045:True:=⟨⟩
theorem tw17924710974552551951:True:=⟨⟩
theorem tw11199391630087372569:True:=⟨⟩
theorem tw12939981255442786092:True:=⟨⟩
theorem tw17489260144684857416:True:=⟨⟩
theorem tw12063588089232915273:True:=⟨⟩
theorem tw1873984187001982865:True:=⟨⟩
theorem tw11097239951792167622:True:=⟨⟩
theorem tw16355248791728744015:True:=⟨⟩
theorem tw14672549298909352502:True:=⟨⟩
theorem tw9059644404879168145:True:=⟨⟩
theorem tw6585421626367537555:True:=⟨⟩
theorem tw11793167877513442903:True:=⟨⟩
theorem tw8307090668822669924:True:=⟨⟩
theorem tw13374772903856307200:True:=⟨⟩
theorem tw8682706780019033548:True:=⟨⟩
theorem tw9838622075021877273:True:=⟨⟩
theorem tw1044422489949808387:True:=⟨⟩
theorem tw3751715939212899649:True:=⟨⟩
theorem tw17933622680856093772:True:=⟨⟩
theorem tw60546662628283137:True:=⟨⟩
theorem tw14110549069709369187:True:=⟨⟩
theorem tw6111343712570059650:True:=⟨⟩
theorem tw10576168651832095625:True:=⟨⟩
theorem tw9907971597702086178:True:=⟨⟩
theorem tw15008361825518514722:True:=⟨⟩
theorem tw8787940902820314743:True:=⟨⟩
theorem tw7636514869575102705:True:=⟨⟩
theorem tw1565861684218149427:True:=⟨⟩
theorem tw12394272386129002685:True:=⟨⟩
theorem tw6446850186433199419:True:=⟨⟩
theorem tw11553918573951678518:True:=⟨⟩
theorem tw13691537256307387191:True:=⟨⟩
theorem tw10689189848510995489:True:=⟨⟩
theorem tw10638778795241806201:True:=⟨⟩
theorem tw12574947187617491648:True:=⟨⟩
theorem tw12731655567008645578:True:=⟨⟩
theorem tw14101691339738616592:True:=⟨⟩
theorem tw9924296680370613789:True:=⟨⟩
theorem tw13836943850109643369:True:=⟨⟩
theorem tw17995171773311062818:True:=⟨⟩
theorem tw16563912174057116937:True:=⟨⟩
theorem tw11475262382060409859:True:=⟨⟩
theorem tw14617675582145698559:True:=⟨⟩
theorem tw921714458684229403:True:=⟨⟩
theorem tw33499531940397135:True:=⟨⟩
theorem tw7853162096648028830:True:=⟨⟩
theorem tw12799442539288118420:True:=⟨⟩
theorem tw3099546233685622190:True:=⟨⟩
theorem tw691764717486613788:True:=⟨⟩
theorem tw6597090209984792124:True:=⟨⟩
theorem tw8504595524168576623:True:=⟨⟩
theorem tw6668035780577725197:True:=⟨⟩
theorem tw2494649374459345318:True:=⟨⟩
theorem tw15815875466565062757:True:=⟨⟩
theorem tw5934323150531701398:True:=⟨⟩
theorem tw8078469063566743482:True:=⟨⟩
theorem tw425652900063250624:True:=⟨⟩
theorem tw16712227081863953764:True:=⟨⟩
theorem tw3658230232085737878:True:=⟨⟩
theorem tw12849388959663433686:True:=⟨⟩
theorem tw8198547767247325966:True:=⟨⟩
theorem tw996600793498576478:True:=⟨⟩
theorem tw4923698101313073166:True:=⟨⟩
theorem tw9106422899962872030:True:=⟨⟩
theorem tw10229738612706520672:True:=⟨⟩
theorem tw253009646653545753:True:=⟨⟩
theorem tw12994173222882290143:True:=⟨⟩
theorem tw18434306409632300754:True:=⟨⟩
theorem tw1885127027153176632:True:=⟨⟩
theorem tw7438023000637403522:True:=⟨⟩
theorem tw11868051121034087971:True:=⟨⟩
theorem tw5445038716953492715:True:=⟨⟩
theorem tw15131087306134196520:True:=⟨⟩
theorem tw10529628298625128007:True:=⟨⟩
theorem tw1700290812327620364:True:=⟨⟩
theorem tw15830351662677713302:True:=⟨⟩
theorem tw13166736145467490075:True:=⟨⟩
theorem tw11892734055876413651:True:=⟨⟩
theorem tw2038764564289668310:True:=⟨⟩
theorem tw11174887165240765412:True:=⟨⟩
theorem tw8668710540662283428:True:=⟨⟩
theorem tw15934059082377509359:True:=⟨⟩
theorem tw15896036961790503352:True:=⟨⟩
theorem tw8436722967999933691:True:=⟨⟩
theorem tw1083485734010698034:True:=⟨⟩
theorem tw13432748019178586957:True:=⟨⟩
theorem tw10783567368022981158:True:=⟨⟩
theorem tw15442252679971700346:True:=⟨⟩
theorem tw6275493654912832974:True:=⟨⟩
theorem tw11053643327113338482:True:=⟨⟩
theorem tw10646058414850570816:True:=⟨⟩
theorem tw1886337129486618026:True:=⟨⟩
theorem tw7669180664559540893:True:=⟨⟩
theorem tw9047272418668976682:True:=⟨⟩
theorem tw5354472296520234067:True:=⟨⟩
theorem tw17897497555348746950:True:=⟨⟩
theorem tw8173097711472694110:True:=⟨⟩
theorem tw3846411085175276892:True:=⟨⟩
theorem tw10398513999846924433:True:=⟨⟩
theorem tw8051186843400572670:True:=⟨⟩
theorem tw5309037420135394564:True:=⟨⟩
theorem tw16960561794013393811:True:=⟨⟩
theorem tw16251438541714916805:True:=⟨⟩
theorem tw15240586371297600549:True:=⟨⟩
theorem tw17098974630088094539:True:=⟨⟩
theorem tw4186544166201556650:True:=⟨⟩
theorem tw15852786985326715339:True:=⟨⟩
theorem tw9115310057887675064:True:=⟨⟩
theorem tw15416501038234874564:True:=⟨⟩
theorem tw14438241870806723073:True:=⟨⟩
theorem tw10525726945511519437:True:=⟨⟩
theorem tw10679325088378562868:True:=⟨⟩
theorem tw15689380796554980213:True:=⟨⟩
theorem tw11129832757961496329:True:=⟨⟩
theorem tw1756185414451044581:True:=⟨⟩
theorem tw14570863303805449478:True:=⟨⟩
theorem tw8782529476846418549:True:=⟨⟩
theorem tw16888847069298822966:True:=⟨⟩
theorem tw4126874186040847256:True:=⟨⟩
theorem tw13422110256715068404:True:=⟨⟩
theorem tw6715142116895208568:True:=⟨⟩
theorem tw11735556713167952872:True:=⟨⟩
theorem tw8971308341941427243:True:=⟨⟩
theorem tw11379863551325605763:True:=⟨⟩
theorem tw8106369158587346910:True:=⟨⟩
theorem tw2664541908593610742:True:=⟨⟩
theorem tw6054163028194841662:True:=⟨⟩
theorem tw2708974308994054188:True:=⟨⟩
theorem tw11039452677562348510:True:=⟨⟩
theorem tw13562649149054410589:True:=⟨⟩
theorem tw14633646276666418554:True:=⟨⟩
theorem tw14503292705799775933:True:=⟨⟩
theorem tw8402927727058728486:True:=⟨⟩
theorem tw10257219703913258687:True:=⟨⟩
theorem tw15383292049269506779:True:=⟨⟩
theorem tw2545987399136762166:True:=⟨⟩
theorem tw6174834849197113286:True:=⟨⟩
theorem tw1050745375095621758:True:=⟨⟩
theorem tw14927705177674056863:True:=⟨⟩
theorem tw14899569731335000594:True:=⟨⟩
theorem tw7457917073110495572:True:=⟨⟩
theorem tw12677755502874796557:True:=⟨⟩
theorem tw16885805860741429872:True:=⟨⟩
theorem tw399889170456440820:True:=⟨⟩
theorem tw10813744895456657059:True:=⟨⟩
theorem tw17348082982988056622:True:=⟨⟩
theorem tw8312621837461853348:True:=⟨⟩
theorem tw997536952074251073:True:=⟨⟩
theorem tw11857287760162628221:True:=⟨⟩
theorem tw3300270071787601893:True:=⟨⟩
theorem tw10787410744240919893:True:=⟨⟩
theorem tw10853087845760998318:True:=⟨⟩
theorem tw6439846050524121053:True:=⟨⟩
theorem tw9838180213790579431:True:=⟨⟩
theorem tw3136429738835828408:True:=⟨⟩
theorem tw15436369971326164454:True:=⟨⟩
theorem tw8232800977167741654:True:=⟨⟩
theorem tw8795743298702466511:True:=⟨⟩
theorem tw13856349573162455405:True:=⟨⟩
theorem tw11468300059885853703:True:=⟨⟩
theorem tw12409458639476254087:True:=⟨⟩
theorem tw6673594627780900760:True:=⟨⟩
theorem tw10612300663053605577:True:=⟨⟩
theorem tw16942682970956561034:True:=⟨⟩
theorem tw1168635485829175197:True:=⟨⟩
theorem tw12337540159314286857:True:=⟨⟩
theorem tw14887806661473423123:True:=⟨⟩
theorem tw13493588935631280160:True:=⟨⟩
theorem tw2054103745624474663:True:=⟨⟩
theorem tw18350866649421632137:True:=⟨⟩
theorem tw12245884640150379078:True:=⟨⟩
theorem tw9732416656833669776:True:=⟨⟩
theorem tw36551748727403038:True:=⟨⟩
theorem tw5646230293310328290:True:=⟨⟩
theorem tw18073346655863569563:True:=⟨⟩
theorem tw2861215456709089585:True:=⟨⟩
theorem tw13375523278360765195:True:=⟨⟩
theorem tw7304899958795029570:True:=⟨⟩
theorem tw12504584614956201621:True:=⟨⟩
theorem tw332233149571864452:True:=⟨⟩
theorem tw15161649752019863804:True:=⟨⟩
theorem tw18138002137431811734:True:=⟨⟩
theorem tw16461894546249626616:True:=⟨⟩
theorem tw737489478101072198:True:=⟨⟩
theorem tw3881983055402713470:True:=⟨⟩
theorem tw16487644579036083963:True:=⟨⟩
theorem tw15177962733487803545:True:=⟨⟩
theorem tw1016997138530130931:True:=⟨⟩
theorem tw9335880656773352279:True:=⟨⟩
theorem tw5762896217274224666:True:=⟨⟩
theorem tw16722832852731684827:True:=⟨⟩
theorem tw4165551352823018926:True:=⟨⟩
theorem tw4013130565404505462:True:=⟨⟩
theorem tw16015923704717826403:True:=⟨⟩
theorem tw9138543784298441488:True:=⟨⟩
theorem tw14877343653265931145:True:=⟨⟩
theorem tw15062860688627576801:True:=⟨⟩
theorem tw4645059388858880466:True:=⟨⟩
theorem tw13235742350800283675:True:=⟨⟩
theorem tw10645725122613958675:True:=⟨⟩
theorem tw4997254849861900894:True:=⟨⟩
theorem tw17070894069807014652:True:=⟨⟩
theorem tw6348565787751479248:True:=⟨⟩
theorem tw13478478099010809004:True:=⟨⟩
theorem tw6970432326605834973:True:=⟨⟩
theorem tw285167607945622649:True:=⟨⟩
theorem tw2369508241303184738:True:=⟨⟩
theorem tw17096469475636447842:True:=⟨⟩
theorem tw4740377523410250049:True:=⟨⟩
theorem tw15731096273192257225:True:=⟨⟩
theorem tw8768932865339200666:True:=⟨⟩
theorem tw12614568704852856507:True:=⟨⟩
theorem tw2744224529770121729:True:=⟨⟩
theorem tw12073244092801656426:True:=⟨⟩
theorem tw9765732970199208706:True:=⟨⟩
theorem tw6492908721881073064:True:=⟨⟩
theorem tw7771963621592270132:True:=⟨⟩
theorem tw9481699113335496279:True:=⟨⟩
theorem tw8600829243589898026:True:=⟨⟩
theorem tw9890965487451428044:True:=⟨⟩
theorem tw6698024031615380178:True:=⟨⟩
theorem tw4225040432759806566:True:=⟨⟩
theorem tw4227698093530294527:True:=⟨⟩
theorem tw9647668836913345684:True:=⟨⟩
theorem tw15095234516975461245:True:=⟨⟩
theorem tw15714575842025376396:True:=⟨⟩
theorem tw9763900319625643611:True:=⟨⟩
theorem tw1654092510967675208:True:=⟨⟩
theorem tw16791247422408751048:True:=⟨⟩
theorem tw14281669354133110350:True:=⟨⟩
theorem tw5784758186909653393:True:=⟨⟩
theorem tw571159977021491772:True:=⟨⟩
theorem tw545482094487979212:True:=⟨⟩
theorem tw6673280710297822903:True:=⟨⟩
theorem tw4938963644829270892:True:=⟨⟩
theorem tw15633497147351447216:True:=⟨⟩
theorem tw17722662536726109872:True:=⟨⟩
theorem tw3143721634309099038:True:=⟨⟩
theorem tw14121430741221433308:True:=⟨⟩
theorem tw7204332236931440675:True:=⟨⟩
theorem tw1933468375237366130:True:=⟨⟩
theorem tw12608235620166343609:True:=⟨⟩
theorem tw6989059296158093384:True:=⟨⟩
theorem tw5974416559987130410:True:=⟨⟩
theorem tw9338162887298346293:True:=⟨⟩
theorem tw1818806305351859027:True:=⟨⟩
theorem tw16806489577015761337:True:=⟨⟩
theorem tw7479837201932345807:True:=⟨⟩
theorem tw9642732812773411023:True:=⟨⟩
theorem tw5412179622053100944:True:=⟨⟩
theorem tw194767078346097905:True:=⟨⟩
theorem tw586330371349882549:True:=⟨⟩
theorem tw5236067995242781420:True:=⟨⟩
theorem tw7425348343899419576:True:=⟨⟩
theorem tw9173379610875365121:True:=⟨⟩
theorem tw14249897421750212690:True:=⟨⟩
theorem tw11871202603779667601:True:=⟨⟩
theorem tw12825266778375926941:True:=⟨⟩
theorem tw15081352732323469250:True:=⟨⟩
theorem tw467930788649193992:True:=⟨⟩
theorem tw55850729704176199:True:=⟨⟩
theorem tw8838809069973583706:True:=⟨⟩
theorem tw9675530216895668876:True:=⟨⟩
theorem tw6540093063941117767:True:=⟨⟩
theorem tw6366333496148782859:True:=⟨⟩
theorem tw3440004109687043755:True:=⟨⟩
theorem tw14962100695787830326:True:=⟨⟩
theorem tw14948958759131196938:True:=⟨⟩
theorem tw1392832381777172902:True:=⟨⟩
theorem tw16792511367691968929:True:=⟨⟩
theorem tw12187434168829540652:True:=⟨⟩
theorem tw11272939540312322178:True:=⟨⟩
theorem tw5337749075971774588:True:=⟨⟩
theorem tw4856769128202511874:True:=⟨⟩
theorem tw5363830479256199898:True:=⟨⟩
theorem tw3859505350260388325:True:=⟨⟩
theorem tw6115925811490365328:True:=⟨⟩
theorem tw16051847073864344447:True:=⟨⟩
theorem tw11302710110174689467:True:=⟨⟩
theorem tw174589034672135937:True:=⟨⟩
theorem tw11521823606592938480:True:=⟨⟩
theorem tw8361211670686506608:True:=⟨⟩
theorem tw4552885273734505995:True:=⟨⟩
theorem tw5357022653575139924:True:=⟨⟩
theorem tw16492877935891745871:True:=⟨⟩
theorem tw6130929624882633808:True:=⟨⟩
theorem tw7300018980154709460:True:=⟨⟩
theorem tw9683814923623997442:True:=⟨⟩
theorem tw12152783839489201040:True:=⟨⟩
theorem tw6520791286551848129:True:=⟨⟩
theorem tw7971578249100654493:True:=⟨⟩
theorem tw418521127409733919:True:=⟨⟩
theorem tw2762713179420167906:True:=⟨⟩
theorem tw16569266564654524201:True:=⟨⟩
theorem tw1441434435258542281:True:=⟨⟩
theorem tw4166182036316968116:True:=⟨⟩
theorem tw9616259850412688013:True:=⟨⟩
theorem tw8690837469000712940:True:=⟨⟩
theorem tw11567524012847440441:True:=⟨⟩
theorem tw14732281121583733818:True:=⟨⟩
theorem tw15355249758264588503:True:=⟨⟩
theorem tw9148102025761376754:True:=⟨⟩
theorem tw2357018649914201804:True:=⟨⟩
theorem tw16761103508100041358:True:=⟨⟩
theorem tw13781675790446681807:True:=⟨⟩
theorem tw2990588328642530753:True:=⟨⟩
theorem tw2827689099215863315:True:=⟨⟩
theorem tw15753136800408364639:True:=⟨⟩
theorem tw18348784477693038653:True:=⟨⟩
theorem tw16051489601258722987:True:=⟨⟩
theorem tw12261513454393506652:True:=⟨⟩
theorem tw50650457557350670:True:=⟨⟩
theorem tw15269260626295998515:True:=⟨⟩
theorem tw13232720906441360391:True:=⟨⟩
theorem tw8850399052523529289:True:=⟨⟩
theorem tw9499419766067224893:True:=⟨⟩
theorem tw17989188760582617161:True:=⟨⟩
theorem tw3319788529843139402:True:=⟨⟩
theorem tw323806381556423566:True:=⟨⟩
theorem tw15237516397759578593:True:=⟨⟩
theorem tw9569028361490742213:True:=⟨⟩
theorem tw14483509238583755035:True:=⟨⟩
theorem tw13599029383513873947:True:=⟨⟩
theorem tw1613256355214438504:True:=⟨⟩
theorem tw9335427402561508675:True:=⟨⟩
theorem tw12143944242827953566:True:=⟨⟩
theorem tw14995849349713403162:True:=⟨⟩
theorem tw5453263113218409965:True:=⟨⟩
theorem tw697033724392518025:True:=⟨⟩
theorem tw3191815090007948364:True:=⟨⟩
theorem tw9485995961558362914:True:=⟨⟩
theorem tw5872260368431328883:True:=⟨⟩
theorem tw2140422014968333340:True:=⟨⟩
theorem tw1979925358575719946:True:=⟨⟩
theorem tw1803114944740563780:True:=⟨⟩
theorem tw232251755038166060:True:=⟨⟩
theorem tw9000370076154673427:True:=⟨⟩
theorem tw1954631424635587711:True:=⟨⟩
theorem tw3834412764936380234:True:=⟨⟩
theorem tw10600968540855322682:True:=⟨⟩
theorem tw8893608231535981632:True:=⟨⟩
theorem tw10002939700691620919:True:=⟨⟩
theorem tw14213492588515467564:True:=⟨⟩
theorem tw8490187560513937124:True:=⟨⟩
theorem tw7376499132708422037:True:=⟨⟩
theorem tw3173944702979945933:True:=⟨⟩
theorem tw12231434979877030632:True:=⟨⟩
theorem tw8101923137598390960:True:=⟨⟩
theorem tw7712238827044595971:True:=⟨⟩
theorem tw11190943282384377579:True:=⟨⟩
theorem tw17909299886841425453:True:=⟨⟩
theorem tw15967285345352061492:True:=⟨⟩
theorem tw1177506634818702284:True:=⟨⟩
theorem tw6769169628252777660:True:=⟨⟩
theorem tw1131981447846537785:True:=⟨⟩
theorem tw17573290975880593570:True:=⟨⟩
theorem tw2385700717221877279:True:=⟨⟩
theorem tw7982737644570987354:True:=⟨⟩
theorem tw16505708495245043084:True:=⟨⟩
theorem tw17259879868486121373:True:=⟨⟩
theorem tw9948537772120585341:True:=⟨⟩
theorem tw7951515860308109028:True:=⟨⟩
theorem tw18163360564077461465:True:=⟨⟩
theorem tw2826268385713512297:True:=⟨⟩
theorem tw12643250748721659645:True:=⟨⟩
theorem tw4312270802571406163:True:=⟨⟩
theorem tw4412075602164474138:True:=⟨⟩
theorem tw1697786170644730271:True:=⟨⟩
theorem tw8156970160454042555:True:=⟨⟩
theorem tw954332156725037726:True:=⟨⟩
theorem tw2098416620944661591:True:=⟨⟩
theorem tw4232172208959027732:True:=⟨⟩
theorem tw1662358110537593484:True:=⟨⟩
theorem tw17728250926583094745:True:=⟨⟩
theorem tw9396328737993093065:True:=⟨⟩
theorem tw2224890413990008272:True:=⟨⟩
theorem tw2850519050625236988:True:=⟨⟩
theorem tw15381967452573334368:True:=⟨⟩
theorem tw14278706587963903454:True:=⟨⟩
theorem tw14882934309944051948:True:=⟨⟩
theorem tw548439747474113016:True:=⟨⟩
theorem tw16893925344703212129:True:=⟨⟩
theorem tw18064050967348261694:True:=⟨⟩
theorem tw6585600790543663151:True:=⟨⟩
theorem tw8877648672433841324:True:=⟨⟩
theorem tw16917983834809552925:True:=⟨⟩
theorem tw16554191074780560619:True:=⟨⟩
theorem tw11281553573889269684:True:=⟨⟩
theorem tw3185770355643763312:True:=⟨⟩
theorem tw15797493820840792677:True:=⟨⟩
theorem tw17905603139458435505:True:=⟨⟩
end N0.top
set_option Elab.async true
set_option maxRecDepth 100000
set_option maxHeartbeats 8000000
namespace N0
theorem law_main (K:PySem.Params→Frag) (hK:∀ P,FactsK (K P)) (w:World) (Γ:Gam) (e1:Γ.prog=PySem.Challenge.pw_no0417_01) (e2:Γ.w=w) (e3:Γ.K=K w.params) (e4:Γ.xc=128) (xs:List Int) (hx:xs.length≤63):FC Γ 40 643 [.lst (xs.map .int)] (fun _=>none) (fun x _=>x=.bool true) noH:=by
  haveI:Facts Γ:=FactsK.facts (by rw [e3]; exact hK _) e4
  exact fc_all (n:=32) hx
theorem top:PySem.Challenge.rw_no0417_01.Holds:=by
  w_on; o_law; k_head; (case hw=>w_witness2)
  refine finish (K:=top.heap_1_39) rfl (fun P=>by kernel_rfl) (law_main _ fun P=>⟨?_,by kernel_rfl,by kernel_rfl,by kernel_rfl,by kernel_rfl,by kernel_rfl,by kernel_rfl,by kernel_rfl⟩)
  refine List.forall_mem_cons.mpr ⟨⟨by kernel_rfl,by kernel_rfl⟩,?_⟩
  iterate 50 (refine List.forall_mem_cons.mpr ⟨⟨by kernel_rfl,by kernel_rfl⟩,?_⟩)
  exact fun _ h=>nomatch h
end N0
theorem PySem.Challenge.cw_no0417_01_holds : PySem.Challenge.rw_no0417_01.Holds :=
 N0.top
