import PyProof.Rows.All
import Wide.All
import OpenK.AllK
import KE.KLam
import Wide.FinOn
import PySem.Challenge.RW_pb0587_01
set_option autoImplicit false
set_option Elab.async false
set_option tactic.hygienic false
set_option bootstrap.genMatcherCode false
set_option compiler.extract_closed false
set_option genInjectivity false
set_option genSizeOf false
set_option genSizeOfSpec false
set_option maxRecDepth 1000000
set_option maxHeartbeats 8000000
set_option linter.all false
set_option backward.match.sparseCases false
set_option genCtorIdx false
section
namespace Mine
theorem o01 {a b G:Prop} (h:a∧b) (k:a→b→G):G:=k h.1 h.2
theorem o02 {a b c G:Prop} (h:a∧b∧c) (k:a→b→c→G):G:=k h.1 h.2.1 h.2.2
theorem o03 {a b c d G:Prop} (h:a∧b∧c∧d) (k:a→b→c→d→G):G:=k h.1 h.2.1 h.2.2.1 h.2.2.2
theorem o04 {a b c d e G:Prop} (h:a∧b∧c∧d∧e) (k:a→b→c→d→e→G):G:=k h.1 h.2.1 h.2.2.1 h.2.2.2.1 h.2.2.2.2
theorem o10 {α:Sort _} {a:α→Prop} {G:Prop} (h:∃ x,a x) (k:∀ x,a x→G):G:=h.elim fun x h=>k x h
theorem o11 {α:Sort _} {a b:α→Prop} {G:Prop} (h:∃ x,a x∧b x) (k:∀ x,a x→b x→G):G:=h.elim fun x h=>k x h.1 h.2
theorem o12 {α:Sort _} {a b c:α→Prop} {G:Prop} (h:∃ x,a x∧b x∧c x) (k:∀ x,a x→b x→c x→G):G:=h.elim fun x h=>k x h.1 h.2.1 h.2.2
theorem o13 {α:Sort _} {a b c d:α→Prop} {G:Prop} (h:∃ x,a x∧b x∧c x∧d x) (k:∀ x,a x→b x→c x→d x→G):G:=h.elim fun x h=>k x h.1 h.2.1 h.2.2.1 h.2.2.2
theorem o20 {α:Sort _} {β:Sort _} {a:α→β→Prop} {G:Prop} (h:∃ x,∃ y,a x y) (k:∀ x y,a x y→G):G:=h.elim fun x h=>h.elim fun y h=>k x y h
theorem o21 {α:Sort _} {β:Sort _} {a b:α→β→Prop} {G:Prop} (h:∃ x,∃ y,a x y∧b x y) (k:∀ x y,a x y→b x y→G):G:=h.elim fun x h=>h.elim fun y h=>k x y h.1 h.2
theorem o22 {α:Sort _} {β:Sort _} {a b c:α→β→Prop} {G:Prop} (h:∃ x,∃ y,a x y∧b x y∧c x y) (k:∀ x y,a x y→b x y→c x y→G):G:=h.elim fun x h=>h.elim fun y h=>k x y h.1 h.2.1 h.2.2
theorem o23 {α:Sort _} {β:Sort _} {a b c d:α→β→Prop} {G:Prop} (h:∃ x,∃ y,a x y∧b x y∧c x y∧d x y) (k:∀ x y,a x y→b x y→c x y→d x y→G):G:=h.elim fun x h=>h.elim fun y h=>k x y h.1 h.2.1 h.2.2.1 h.2.2.2
theorem o25 {α:Sort _} {β:Sort _} {a b c d e f:α→β→Prop} {G:Prop} (h:∃ x,∃ y,a x y∧b x y∧c x y∧d x y∧e x y∧f x y) (k:∀ x y,a x y→b x y→c x y→d x y→e x y→f x y→G):G:=h.elim fun x h=>h.elim fun y h=>k x y h.1 h.2.1 h.2.2.1 h.2.2.2.1 h.2.2.2.2.1 h.2.2.2.2.2
theorem o30 {α:Sort _} {β:Sort _} {γ:Sort _} {a:α→β→γ→Prop} {G:Prop} (h:∃ x,∃ y,∃ z,a x y z) (k:∀ x y z,a x y z→G):G:=h.elim fun x h=>h.elim fun y h=>h.elim fun z h=>k x y z h
theorem o31 {α:Sort _} {β:Sort _} {γ:Sort _} {a b:α→β→γ→Prop} {G:Prop} (h:∃ x,∃ y,∃ z,a x y z∧b x y z) (k:∀ x y z,a x y z→b x y z→G):G:=h.elim fun x h=>h.elim fun y h=>h.elim fun z h=>k x y z h.1 h.2
theorem o32 {α:Sort _} {β:Sort _} {γ:Sort _} {a b c:α→β→γ→Prop} {G:Prop} (h:∃ x,∃ y,∃ z,a x y z∧b x y z∧c x y z) (k:∀ x y z,a x y z→b x y z→c x y z→G):G:=h.elim fun x h=>h.elim fun y h=>h.elim fun z h=>k x y z h.1 h.2.1 h.2.2
theorem o33 {α:Sort _} {β:Sort _} {γ:Sort _} {a b c d:α→β→γ→Prop} {G:Prop} (h:∃ x,∃ y,∃ z,a x y z∧b x y z∧c x y z∧d x y z) (k:∀ x y z,a x y z→b x y z→c x y z→d x y z→G):G:=h.elim fun x h=>h.elim fun y h=>h.elim fun z h=>k x y z h.1 h.2.1 h.2.2.1 h.2.2.2
theorem o34 {α:Sort _} {β:Sort _} {γ:Sort _} {a b c d e:α→β→γ→Prop} {G:Prop} (h:∃ x,∃ y,∃ z,a x y z∧b x y z∧c x y z∧d x y z∧e x y z) (k:∀ x y z,a x y z→b x y z→c x y z→d x y z→e x y z→G):G:=h.elim fun x h=>h.elim fun y h=>h.elim fun z h=>k x y z h.1 h.2.1 h.2.2.1 h.2.2.2.1 h.2.2.2.2
theorem o40 {α:Sort _} {β:Sort _} {γ:Sort _} {δ:Sort _} {a:α→β→γ→δ→Prop} {G:Prop} (h:∃ x,∃ y,∃ z,∃ w,a x y z w) (k:∀ x y z w,a x y z w→G):G:=h.elim fun x h=>h.elim fun y h=>h.elim fun z h=>h.elim fun w h=>k x y z w h
theorem o42 {α:Sort _} {β:Sort _} {γ:Sort _} {δ:Sort _} {a b c:α→β→γ→δ→Prop} {G:Prop} (h:∃ x,∃ y,∃ z,∃ w,a x y z w∧b x y z w∧c x y z w) (k:∀ x y z w,a x y z w→b x y z w→c x y z w→G):G:=h.elim fun x h=>h.elim fun y h=>h.elim fun z h=>h.elim fun w h=>k x y z w h.1 h.2.1 h.2.2
theorem o43 {α:Sort _} {β:Sort _} {γ:Sort _} {δ:Sort _} {a b c d:α→β→γ→δ→Prop} {G:Prop} (h:∃ x,∃ y,∃ z,∃ w,a x y z w∧b x y z w∧c x y z w∧d x y z w) (k:∀ x y z w,a x y z w→b x y z w→c x y z w→d x y z w→G):G:=h.elim fun x h=>h.elim fun y h=>h.elim fun z h=>h.elim fun w h=>k x y z w h.1 h.2.1 h.2.2.1 h.2.2.2
theorem szl {a b c:Nat} (h:a≤b) (k:Nat.ble b c=true):a≤c:=Nat.le_trans h (Nat.le_of_ble_eq_true k)
theorem szt {a b c:Nat} (h:a≤b) (k:Nat.ble (b + 1) c=true):a < c:=Nat.le_trans (Nat.succ_le_succ h) (Nat.le_of_ble_eq_true k)
theorem QB {a b c:Nat} (h:a=b) (k:Nat.beq b c=false):a≠c:=fun e=>Nat.ne_of_beq_eq_false k (h.symm.trans e)
theorem eql {a b c:Nat} (h:a=b) (k:b≤c):a≤c:=h▸k
theorem eqr {a b c:Nat} (h:a=b) (k:a≤c):b≤c:=h▸k
theorem zJ {a b c:Nat} (h:a=b) (k:b < c):a < c:=h▸k
theorem QV {a b c:Nat} (h:a=b) (k:a < c):b < c:=h▸k
theorem za {a b:Nat} (h:a≤b):0 + a≤b:=(Nat.zero_add a).symm▸h
theorem ile {a b:Nat} (h:a≤b):(a:Int)≤(b:Int):=Int.ofNat_le.mpr h
theorem ilt {a b:Nat} (h:a < b):(a:Int) < (b:Int):=Int.ofNat_lt.mpr h
theorem inl {a b:Nat} (h:a≤b):¬ (b:Int) < (a:Int):=Int.not_lt.mpr (ile h)
theorem inz {a:Nat} (h:0 < a):(a:Int)≠0:=fun e=>Nat.ne_of_gt h (Int.ofNat.inj e)
theorem rm {a x k c k' c':Nat} (h:a + x + k≤c) (q:Nat.ble (k' + c) (c' + k)=true):a + k' + x≤c':=by
 have:=Nat.le_of_ble_eq_true q
 omega
theorem rm0 {a x c k' c':Nat} (h:a + x≤c) (q:Nat.ble (k' + c) c'=true):a + k' + x≤c':=rm (k:=0) h q
theorem rm1 {a x c k' k c':Nat} (h:a + x≤c) (q:Nat.ble (k' + k + c) c'=true):a + k' + x + k≤c':=by
 have:=Nat.le_of_ble_eq_true q
 omega
theorem rma {a x y c c':Nat} (h:a + x + y≤c) (q:Nat.ble (c + 1) c'=true):a < c':=szt (Nat.le_trans (Nat.le_add_right a (x + y)) (Nat.add_assoc a x y▸h)) q
theorem cf2 {a f np:Nat} (h1:a≤np) (h2:np≤a + f):a + (f - (a + f - np))=np:=by
 obtain ⟨k,rfl⟩:=Nat.exists_eq_add_of_le h1
 rw [Nat.add_sub_add_left,Nat.sub_sub_self (Nat.le_of_add_le_add_left h2)]
theorem cf1 {a np f sl v d:Nat} (hv:v=a) (hd:d=f) (h1:a≤np) (h2:np≤a + f):min np sl≤v + (d - (v + f - np)):=by
 cases hv;cases hd
 exact Nat.le_trans (Nat.min_le_left _ _) (Nat.le_of_eq (cf2 h1 h2).symm)
theorem fl1 {p j m r:Nat} (h2:p≤2) (hb:r + 1≤m) (h:j≤p + 2 * (m - (r + 1))):j≤2 * (m - r):=by
 obtain ⟨k,rfl⟩:=Nat.exists_eq_add_of_le hb
 rw [Nat.add_sub_cancel_left] at h
 rw [Nat.add_assoc,Nat.add_sub_cancel_left,Nat.mul_add]
 exact Nat.le_trans h (Nat.add_le_add_right h2 _)
theorem fl2 {l p j m r:Nat} (h2:p≤2) (hb:r + 1≤m) (h:j≤p + 2 * (m - (r + 1))):j + 1≤l + 1 + 2 * (m - r):=by
 rw [Nat.add_right_comm]
 exact Nat.succ_le_succ (Nat.le_trans (fl1 h2 hb h) (Nat.le_add_left _ _))
theorem fl3 {l p j j1 m r x:Nat} (h2:p≤2) (hb:r + 1≤m) (h:j1≤p + 2 * (m - (r + 1))) (hx:m≤x) (g:j≤l + 2 * (x - m)):j + j1 + 1≤l + 1 + 2 * (x - r):=by
 rw [Nat.add_right_comm l 1]
 obtain ⟨k,rfl⟩:=Nat.exists_eq_add_of_le hx
 rw [Nat.add_sub_cancel_left] at g
 rw [Nat.sub_add_comm (Nat.le_of_succ_le hb),Nat.mul_add,Nat.add_comm (2 * _),← Nat.add_assoc]
 exact Nat.succ_le_succ (Nat.add_le_add g (fl1 h2 hb h))
theorem ra1 {n i:Nat} (h:i≤n):n - i + 1 + i=n + 1:=by rw [Nat.add_right_comm,Nat.sub_add_cancel h]
theorem Jq {a n:Nat} (h:a≤n):(max (0:Int) (min (a:Int) (n:Int))).toNat=a:=by
 rw [Int.min_eq_left (ile h),Int.max_eq_right (Int.natCast_nonneg a)];rfl
theorem Pr {a n:Nat} (h:n≤a):(max (0:Int) (min (a:Int) (n:Int))).toNat=n:=by
 rw [Int.min_eq_right (ile h),Int.max_eq_right (Int.natCast_nonneg n)];rfl
theorem Gs {n:Nat} (h:0 < n):-1 + (n:Int)=((n - 1:Nat):Int):=by
 cases n with
 | zero=>cases h
 | succ n=>rw [Int.natCast_succ,Int.add_comm (n:Int),← Int.add_assoc];exact Int.zero_add _
theorem Pu {n:Nat} (h:0 < n):(max (0:Int) (min (-1 + (n:Int)) (n:Int))).toNat=n - 1:=by rw [Gs h];exact Jq (Nat.sub_le n 1)
theorem isub {a b:Nat} (h:a≤b):(b:Int) - (a:Int)=((b - a:Nat):Int):=(Int.ofNat_sub h).symm
theorem Jr {a b:Nat} {c:Int} (h:a≤b) (k:(b:Int)≤c):0≤(b:Int) - (a:Int)∧(b:Int) - (a:Int)≤c:=by
 rw [isub h]
 exact ⟨Int.natCast_nonneg _,Int.le_trans (ile (Nat.sub_le b a)) k⟩
theorem Js {a b:Nat} (h:a≤b):((b:Int) - (a:Int)).toNat=b - a:=by rw [isub h];rfl
theorem Px {n:Int} {j:Nat} (h:(j:Int) < n):j < n.toNat:=by
 cases n with
 | ofNat n=>exact Int.ofNat_lt.mp h
 | negSucc n=>exact absurd h (Int.not_lt.mpr (Int.le_trans (Int.le_of_lt (Int.negSucc_lt_zero n)) (Int.natCast_nonneg j)))
theorem Py {n:Int} {j:Nat} (h:¬ (j:Int) < n):n.toNat≤j:=Int.toNat_le.mpr (Int.not_lt.mp h)
theorem wl1 {p r m:Nat} (c:¬ 8≤m) (k:p≤2) (h:r + 1 + 2 * (8 - m)≤60):p + r + 2 * (8 - (m + 1))≤60:=by
 rw [← show 8 - (m + 1) + 1=8 - m from Nat.sub_add_cancel (n:=8 - m) (Nat.sub_pos_of_lt (Nat.lt_of_not_le c)),Nat.mul_add] at h
 refine Nat.le_trans ?_ h
 rw [Nat.add_right_comm r 1,Nat.add_assoc r,Nat.add_comm p r,Nat.add_assoc,Nat.add_assoc,Nat.add_comm p]
 exact Nat.add_le_add_left (Nat.le_succ_of_le (Nat.add_le_add_left k _)) _
theorem QC {n:Nat} (h:n≤3) (k:¬ n < 2):n=2∨n=3:=(Nat.lt_or_eq_of_le h).elim (fun h=>.inl (Nat.le_antisymm (Nat.le_of_lt_succ h) (Nat.not_lt.mp k))) .inr
theorem dv4 {k s:Nat} (h:s≤2):((4 * k + s:Nat):Int) / 4=(k:Int):=congrArg Nat.cast (show (4 * k + s) / 4=k by rw [Nat.mul_add_div (by decide),Nat.div_eq_of_lt (szt h rfl)];rfl)
theorem md4 {k s:Nat} (h:s≤2):((4 * k + s:Nat):Int) % 4=(s:Int):=congrArg Nat.cast (show (4 * k + s) % 4=s by rw [Nat.mul_add_mod,Nat.mod_eq_of_lt (szt h rfl)])
theorem QD {n:Nat} (h0:0 < n) (h:n≤128):((n:Int) + 128 - 1) / 128=1:=by
 cases n with
 | zero=>cases h0
 | succ n =>
   rw [show ((n + 1:Nat):Int) + 128 - 1=((128 * 1 + n:Nat):Int) by omega]
   exact congrArg Nat.cast (show (128 * 1 + n) / 128=1 by rw [Nat.mul_add_div (by decide),Nat.div_eq_of_lt h])
theorem fa1 {m j n:Nat} (e:m + 1 + j=n):j < n:=e▸Nat.lt_add_of_pos_left (Nat.succ_pos m)
theorem fa2 {m j n:Nat} (e:m + 1 + j=n):m + (j + 1)=n:=(Nat.add_right_comm m 1 j).symm.trans e
theorem nab {x:Int} {n:Nat} (h:x.natAbs < n):-(n:Int) < x∧x < (n:Int):=by
 cases x with
 | ofNat a=>exact ⟨Int.lt_of_lt_of_le (Int.neg_neg_of_pos (ilt (Nat.zero_lt_of_lt h))) (Int.natCast_nonneg a),ilt h⟩
 | negSucc a=>exact ⟨Int.neg_lt_neg (ilt h),Int.lt_of_lt_of_le (Int.negSucc_lt_zero a) (Int.natCast_nonneg n)⟩
@[elab_as_elim] theorem re {α:Sort _} {a b:α} {motive:α→Prop} (h:a=b) (x:motive b):motive a:=h▸x
@[elab_as_elim] theorem rf {α:Sort _} {a b:α} {motive:α→Prop} (h:b=a) (x:motive b):motive a:=h▸x
end Mine
end
namespace Mine
open PySem PySem.W PyProof.Rows PySem.Calls
section
set_option backward.match.sparseCases true
open Sem (wp)
theorem ffE {P:Prop} (h:false=true):P:=absurd h Bool.false_ne_true
theorem aG {a b:Bool} (h:(a && b)=true):a=true∧b=true:=Bool.and_eq_true_iff.mp h
theorem bK {a b:Bool} {G:Prop} (h:(a && b)=true) (H:a=true→b=true→G):G:=H (aG h).1 (aG h).2
theorem cZ {a b c:Bool} {G:Prop} (h:(a && b && c)=true) (H:a=true→b=true→c=true→G):G:=bK h fun h=>bK h H
theorem gC {a b c d:Bool} {G:Prop} (h:(a && b && c && d)=true) (H:a=true→b=true→c=true→d=true→G):G:=bK h fun h=>cZ h H
theorem il {a b c d e:Bool} {G:Prop} (h:(a && b && c && d && e)=true) (H:a=true→b=true→c=true→d=true→e=true→G):G:=bK h fun h=>gC h H
theorem sZ {a b c d e f:Bool} {G:Prop} (h:(a && b && c && d && e && f)=true) (H:a=true→b=true→c=true→d=true→e=true→f=true→G):G:=bK h fun h=>il h H
theorem s7 {a b c d e f g:Bool} {G:Prop} (h:(a && b && c && d && e && f && g)=true) (H:a=true→b=true→c=true→d=true→e=true→f=true→g=true→G):G:=bK h fun h=>sZ h H
theorem jK {a b c d e f g i:Bool} {G:Prop} (h:(a && b && c && d && e && f && g && i)=true) (H:a=true→b=true→c=true→d=true→e=true→f=true→g=true→i=true→G):G:=bK h fun h=>s7 h H
@[elab_as_elim] theorem gH {α:Type} [BEq α] [LawfulBEq α] {a b:α} {M:α→Prop} (h:(a == b)=true) (H:M b):M a:=eq_of_beq h▸H
@[elab_as_elim] theorem cB {α:Type} {l:List α} {M:List α→Prop} (h:l.isEmpty=true) (H:M []):M l:=by
 cases l with
 | nil=>exact H
 | cons _ _=>cases h
noncomputable def isDec:Code→Bool
 | .builtin id _=>Builtin.Bytes.decodersThatHold.contains id
 | _=>false
noncomputable def vz (l:List (Code×Pos)):Prop:=∀ x∈l,isDec x.1=false
noncomputable def NoD (Γ:Ctx):Prop:=isDec Γ.code=false∧vz Γ.below
noncomputable def wpD {α:Type} (M:Model) (A:Around) (t:Sem α) (Q:α→Shared→Prop) (E:Value→Shared→Prop) (s:Shared):Prop :=
 ∀ Γ p,Γ.In A→NoD Γ→wp M Γ t (fun a _ s'=>Q a s') (fun e _ s'=>E e s') p s
noncomputable def bj (M:Model) (A:Around) (c:Code) (R:Result→Shared→Prop) (s:Shared):Prop :=
 ∀ Γ p,Γ.code=c→Γ.Below A→vz Γ.below→wpCode M Γ R p s
section
variable {α β:Type} {M:Model} {A:Around} {E:Value→Shared→Prop} {s:Shared}
theorem D {t:Sem α} {Q:α→Shared→Prop} (h:wpAny M A t Q E s):wpD M A t Q E s:=fun Γ p hΓ _=>h Γ p hΓ
theorem cD {c:Code} {R:Result→Shared→Prop} (h:codeAny M A c R s):bj M A c R s:=fun Γ p hc hΓ _=>h Γ p hc hΓ
theorem aj {a:α} {Q:α→Shared→Prop} (h:Q a s):wpD M A (pure a) Q E s:=fun _ _ _ _=>h
theorem Qz {e:Value} {Q:α→Shared→Prop} (h:E e s):wpD M A (throw e:Sem α) Q E s:=fun _ _ _ _=>h
theorem aV {t:Sem α} {Q Q':α→Shared→Prop} {E':Value→Shared→Prop} (h:wpD M A t Q E s) (hQ:∀ a s,Q a s→Q' a s) (hE:∀ e s,E e s→E' e s):wpD M A t Q' E' s :=
 fun Γ p hΓ hn=>Sem.wp_mono M Γ t (fun a _ s=>hQ a s) (fun e _ s=>hE e s) p s (h Γ p hΓ hn)
theorem aa {m:Sem α} {f:α→Sem β} {Q:β→Shared→Prop} (h:wpD M A m (fun a s'=>wpD M A (f a) Q E s') E s):wpD M A (m >>= f) Q E s:=fun Γ p hΓ hn=>by
 refine re (Sem.wp_bind' ..) ?_
 exact Sem.wp_mono M Γ m (fun a p' s' h'=>h' Γ p' hΓ hn) (fun _ _ _ h'=>h') p s (h Γ p hΓ hn)
theorem az {m:Sem α} {f:α→Sem β} {Q:β→Shared→Prop} (h:wpAny M A m (fun a s'=>wpD M A (f a) Q E s') E s):wpD M A (m >>= f) Q E s:=aa (D h)
theorem M7 {m:Sem α} {k:Value→Sem α} {Q:α→Shared→Prop} (h:wpD M A m Q (fun e s'=>wpD M A (k e) Q E s') s):wpD M A (tryCatch m k) Q E s:=fun Γ p hΓ hn=>by
 refine re (Sem.wp_tryCatch' ..) ?_
 exact Sem.wp_mono M Γ m (fun _ _ _ h'=>h') (fun e p' s' h'=>h' Γ p' hΓ hn) p s (h Γ p hΓ hn)
theorem cA {m:Sem α} {k:Value→Sem Unit} {Q:α→Shared→Prop} (h:wpD M A m Q (fun e s'=>wpD M A (k e) (fun _ s''=>E e s'') E s') s):wpD M A (m.onRaise k) Q E s:=fun Γ p hΓ hn=>by
 refine re (Sem.wp_onRaise ..) ?_
 exact Sem.wp_mono M Γ m (fun _ _ _ h'=>h') (fun e p' s' h'=>h' Γ p' hΓ hn) p s (h Γ p hΓ hn)
theorem pM {m:Sem α} {Q:Except Value α→Shared→Prop} (h:wpD M A m (fun a=>Q (.ok a)) (fun e=>Q (.error e)) s):wpD M A m.attempt Q E s:=fun Γ p hΓ hn=>by
 rw [Sem.wp_attempt];exact h Γ p hΓ hn
theorem ao {vs:List Value} {m:Sem α} {Q:α→Shared→Prop} (h:wpD M A m Q E s):wpD M A (holding vs m) Q E s:=fun Γ p hΓ hn=>by
 rw [Sem.wp_holding];exact h Γ p hΓ hn
theorem Gu {vs:List Value} {m:Sem α} {Q:α→Shared→Prop} (h:wpD M A m Q E s):wpD M A (m.keep vs) Q E s:=by
 intro Γ p hΓ hn
 have:=h Γ p hΓ hn
 have e:∀ Q':α→Pos→Shared→Prop,wp M Γ (m.keep vs) Q' (fun e _ s'=>E e s') p s=wp M Γ m Q' (fun e _ s'=>E e s') p s:=fun Q'=>by
   first
     | exact Sem.wp_keep ..
     | simp only [Sem.wp_keep]
 refine re (e ..) ?_;exact this
theorem aq {pos:Pos} {Q:Unit→Shared→Prop} (h:Q () s):wpD M A (standAt pos) Q E s:=fun _ _ _ _=>h
theorem vI {tag:String} {Q:Unit→Shared→Prop} (h:Q () s):wpD M A (rule tag) Q E s:=fun _ _ _ _=>h
theorem lD {vs:List Value} {m:Sem Value} {Q:Value→Shared→Prop} (h:wpD M A m Q E s):wpD M A (operate vs m) Q E s:=fun Γ p hΓ hn=>by
 rw [Sem.wp_operate];exact h Γ p hΓ hn
theorem gf {vs keep:List Value} {Q:Unit→Shared→Prop} (h:Q () s):wpD M A (release vs keep) Q E s:=fun Γ p hΓ hn=>by
 rw [Sem.wp_release];exact h
theorem ut {t:Sem α} {a:α} {Q:α→Shared→Prop} (e:t=pure a) (h:Q a s):wpD M A t Q E s:=by refine re e ?_;exact aj h
theorem fU {c:Code} {R R':Result→Shared→Prop} (h:bj M A c R s) (hR:∀ r s,R r s→R' r s):bj M A c R' s :=
 fun Γ p hc hΓ hn=>wpCode_mono hR (h Γ p hc hΓ hn)
theorem nU {Γ:Ctx} {p:Pos} (h:NoD Γ):vz ((Γ.code,p) :: Γ.below):=fun x hx=>by
 rcases List.mem_cons.mp hx with rfl | hx
 · exact h.1
 · exact h.2 x hx
theorem s8 {c:Code} {h:Option Value} {Q:Flow→Shared→Prop} (hc:bj M (A.mark h) c (fun r s'=>match r with | .ok f=>Q f s' | .error e=>E e s') s) (hnb:h≠some byPass) :
   wpD M A (run c h) Q E s :=
 fun Γ p hΓ hn=>by rw [Sem.wp_run];exact hc _ p rfl (hΓ.enter c h p hnb) (nU hn)
theorem vJ {c:Code} {Q:Value→Shared→Prop} (hc:bj M A c (fun r s'=>match r with | .ok (.ret v)=>Q v s' | .ok _=>False | .error e=>E e s') s):wpD M A (runValue c) Q E s :=
 fun Γ p hΓ hn=>by rw [Sem.wp_runValue];exact hc _ p rfl (hΓ.enter c none p (by intro x;cases x)) (nU hn)
theorem cH {f:Value} {pos:List Value} {kw:List (Str×Value)} {Q:Value→Shared→Prop}
   (hc:bj M A (.call f ⟨pos,kw⟩) (fun r s'=>match r with | .ok (.ret v)=>Q v s' | .ok _=>False | .error e=>E e s') s):wpD M A (call f pos kw) Q E s:=vJ hc
theorem bQ {c:Code} {R:Result→Shared→Prop}
   (h:wpD M (A.under c) (M.den c) (fun fin s'=>match fin with | .done f=>R (.ok f) s' | .again c'=>c'.quiet=true∧bj M A c' R s') (fun e s'=>R (.error e) s') s) (hd:isDec c=false:=by rfl):bj M A c R s :=
 fun Γ p hc hΓ hn=>by
   rewrite [wpCode_iff_wp];refine re hc ?_
   refine Sem.wp_mono M Γ _ (fun fin p' s' h'=>?_) (fun _ _ _ h'=>h') p s (h Γ p (hc▸hΓ.in) ⟨hc▸hd,hn⟩)
   cases fin with
   | done f=>exact h'
   | again c'=>exact ⟨h'.1,h'.2 (Γ.goto c') p' rfl (hΓ.goto c') hn⟩
theorem zK {c:Code} {R:Result→Shared→Prop} (hq:c.quiet=true) (I:Nat→Shared→Prop)
   (turn:∀ n s,I n s→wpD M (A.under c) (M.den c) (fun fin s'=>match fin with | .done f=>R (.ok f) s' | .again c'=>c'=c∧∃ m,m < n∧I m s') (fun e s'=>R (.error e) s') s)
   (n:Nat) (h:I n s) (hd:isDec c=false:=by rfl):bj M A c R s:=by
 induction n using Nat.strongRecOn generalizing s with
 | ind n ih =>
   refine bQ (aV (turn n s h) (fun fin s' hf=>?_) fun _ _ h'=>h') hd
   cases fin with
   | done f=>exact hf
   | again c'=>obtain ⟨rfl,m,hm,hI⟩:=hf;exact ⟨hq,ih m hm hI⟩
theorem vK {v:Value} {Q:Bool→Shared→Prop} (hg:A.guards=some []) (h:Q false s):wpD M A (Builtin.Bytes.exported v) Q E s:=by
 intro Γ p hΓ hn
 show Q _ s
 have key:∀ (f:Code×Pos→Bool) (st:List (Code×Pos)),guardsOf st=[]→vz st→(∀ c q,c.isGuard=false→isDec c=false→f (c,q)=false)→st.any f=false:=by
   intro f st hgs hnd hf
   rw [List.any_eq_false]
   rintro ⟨c,q⟩ hc
   rw [Bool.not_eq_true]
   refine hf c q ?_ (hnd _ hc)
   cases e:c.isGuard with
   | false=>rfl
   | true =>
     have:c∈guardsOf st:=List.mem_filter.mpr ⟨List.mem_map_of_mem hc,e⟩
     rw [hgs] at this;cases this
 rw [key _ ((Γ.code,p) :: Γ.below) (by rw [guardsOf_cons];exact hΓ.2.2.2.1 _ hg) (nU hn)]
 · exact h
 · intro c q hgd hdc
   cases c with
   | builtin id a =>
     have n:∀ k,guardIds.contains k=true→id≠k:=fun k hk e=>by
       subst e
       rw [show guardIds.contains id=false from hgd] at hk
       cases hk
     have hd:Builtin.Bytes.decodersThatHold.contains id=false:=hdc
     have n1:=n "bytearray.__contains__" (by decide +kernel)
     have n2:=n "bytearray.__mod__" (by decide +kernel)
     have n3:=n "bytearray.__rmod__" (by decide +kernel)
     have n4:=n "_struct.pack_into.held" (by decide +kernel)
     have n5:=n "bytearray.find.held" (by decide +kernel)
     clear n hdc hgd
     obtain ⟨pos,kw⟩:=a
     cases pos with
     | nil =>
       delta Builtin.Bytes.exported.match_1
       dsimp only
       refine (dif_neg n1).trans ?_
       refine (dif_neg n2).trans ?_
       refine (dif_neg n3).trans ?_
       refine (dif_neg n4).trans ?_
       exact dif_neg n5
     | cons v' r =>
       delta Builtin.Bytes.exported.match_1
       dsimp only
       refine (dif_neg n1).trans ?_
       refine (dif_neg n2).trans ?_
       refine (dif_neg n3).trans ?_
       refine (dif_neg n4).trans ?_
       refine (dif_neg n5).trans ?_
       exact (congrArg (Builtin.Bytes.sameRef v' v && ·) hd).trans (Bool.and_false _)
   | _=>rfl
end
end
end Mine
section
open PySem
namespace Mine
set_option genCtorIdx true in
inductive AV where
 | none
 | bool (b:Bool)
 | int (i:Int)
 | str (s:List Nat)
 | bytes (b:List Nat)
 | tuple (xs:List AV)
 | list (xs:List AV)
 | inst (C:Nat) (fs:List (Nat×AV))
 | dict (es:List (Int×AV))
 | loc (i:Nat)
 deriving Inhabited
set_option genCtorIdx true in
inductive MO where
 | list (xs:List AV)
 | barr (b:List Nat)
 | inst (C:Nat) (fs:List (Nat×AV))
 | dict (n:Nat) (es:List (Int×AV))
 | tab
 deriving Inhabited
set_option genCtorIdx true in
inductive R (α:Type) where
 | ok (a:α) (σ:List MO)
 | err (c:Nat) (σ:List MO)
 | stuck
 deriving Inhabited
noncomputable def R.bind {α β:Type}:R α→(α→List MO→R β)→R β
 | .ok a σ,f=>f a σ
 | .err c σ,_=>.err c σ
 | .stuck,_=>.stuck
noncomputable def R.of {α:Type} (o:Option α) (σ:List MO):R α:=match o with
 | some a=>.ok a σ
 | none=>.stuck
set_option genCtorIdx true in
inductive Op where
 | add | sub | mul | fdiv | mod | lsh | rsh | band | pow
 deriving DecidableEq
set_option genCtorIdx true in
inductive COp where
 | eq | ne | lt | le | gt | ge | is | isnot | isin | notin
 deriving DecidableEq
set_option genCtorIdx true in
inductive BI where
 | len | sum | all | bytes | bytearray | ord | chr | sorted | max | isstr
 deriving DecidableEq
set_option genCtorIdx true in
inductive BM where
 | split | join | append | extend
 deriving DecidableEq
set_option genCtorIdx true in
inductive IK where
 | of | enum | rng
 deriving DecidableEq
inductive T where
 | n (x:Nat)
 | tu (xs:List Nat)
inductive E where
 | k (c:AV)
 | g (x:Str) (i:Int)
 | v (x:Nat)
 | neg (i:Int)
 | bin (o:Op) (a b:E)
 | not (a:E)
 | bo (isAnd:Bool) (es:List E)
 | cmp (a:E) (os:List COp) (bs:List E)
 | ife (t a b:E)
 | sub (a i:E)
 | slc (a lo hi:E)
 | tup (es:List E)
 | lst (m:Bool) (es:List E)
 | emptyd
 | attr (o:E) (f:Nat)
 | comp (own:List Str) (caps:List Nat) (tgt:T) (elt:E) (ik:IK) (it:E) (ifs:List E)
 | call (f:Nat) (es:List E)
 | calls (f:Nat) (es:List E)
 | new (fz:Bool) (C:Nat) (es:List E)
 | meth (mt:Bool) (o:E) (nm:Nat) (es:List E)
 | bi (b:BI) (es:List E)
 | bm (b:BM) (o:E) (es:List E)
 | tried (caps:List Nat) (body:E)
 | hole
 deriving Inhabited
inductive C where
 | asg (x:Nat) (e:E)
 | asgt (xs:List Nat) (e:E)
 | seta (o:E) (f:Nat) (e:E)
 | seti (o i e:E)
 | ex (e:E)
 | ret (e:E)
 | iff (t:E) (a b:List C)
 | whl (t:E) (b:List C)
 | fr (tgt:T) (ik:IK) (it:E) (b:List C)
 | rse (c:Nat) (msg:E)
 | cont
 | hole
 deriving Inhabited
structure Fn where
 nparams:Nat
 defaults:List AV
 slots:List Str
 body:List C
 deriving Inhabited
noncomputable abbrev Env:=List (Option AV)
noncomputable abbrev Sig:=List MO
noncomputable def small (i:Int):Bool:=i.natAbs < 2 ^ 64
noncomputable def sizeOk (n:Nat):Bool:=n≤2 ^ 20
noncomputable def truthy:AV→Option Bool
 | .none=>some false
 | .bool b=>some b
 | .int i=>some (i != 0)
 | _=>none
noncomputable def items (σ:Sig):AV→Option (List AV)
 | .list xs=>some xs
 | .tuple xs=>some xs
 | .str s=>some (s.map fun c=>.str [c])
 | .bytes b=>some (b.map fun (n:Nat)=>AV.int (n:Int))
 | .loc i=>match σ[i]? with
   | some (.list xs)=>some xs
   | _=>none
 | _=>none
noncomputable def listItems (σ:Sig):AV→Option (List AV)
 | .list xs=>some xs
 | .loc i=>match σ[i]? with
   | some (.list xs)=>some xs
   | _=>none
 | _=>none
noncomputable def intOp (o:Op) (x y:Int):Option AV:=match o with
 | .add=>if small x && small y then some (.int (x + y)) else none
 | .sub=>if small x && small y then some (.int (x - y)) else none
 | .mul=>if small x && small y then some (.int (x * y)) else none
 | .fdiv=>if y=0 || 1000000000 < y.natAbs then none else some (.int (x.fdiv y))
 | .mod=>if y=0 || 1000000000 < y.natAbs then none else some (.int (x.fmod y))
 | .lsh=>if 0≤x && x < 256 && 0≤y && y≤64 then some (.int (x * 2 ^ y.toNat)) else none
 | .rsh=>if 0≤x && small x && 0≤y && y≤64 then some (.int (x.fdiv (2 ^ y.toNat))) else none
 | .band=>if 0≤x && small x && y=255 then some (.int (x.fmod 256)) else none
 | .pow=>if x=256 && 0≤y && y≤16 then some (.int (256 ^ y.toNat)) else none
noncomputable def qP {α:Type} (o:Op) (mk:List α→AV) (x y:List α):Option AV:=if o=.add then (if sizeOk (x.length + y.length) then some (mk (x++y)) else none) else none
noncomputable def binop (o:Op) (a b:AV):Option AV:=match a with
 | .int x=>match b with
   | .int y=>intOp o x y
   | _=>none
 | .str x=>match b with
   | .str y=>qP o .str x y
   | _=>none
 | .bytes x=>match b with
   | .bytes y=>qP o .bytes x y
   | _=>none
 | .list x=>match b with
   | .list y=>qP o .list x y
   | _=>none
 | _=>none
mutual
noncomputable def eE:AV→Bool
 | .none | .bool _ | .int _ | .str _=>true
 | .tuple xs=>gJ xs
 | .list xs=>gJ xs
 | _=>false
noncomputable def gJ:List AV→Bool
 | []=>true
 | x :: xs=>eE x && gJ xs
end
noncomputable def nB:AV→Bool
 | .none=>true
 | _=>false
noncomputable def bB (a:Bool):AV→Bool
 | .bool b=>a == b
 | .int j=>(if a then 1 else 0) == j
 | _=>false
noncomputable def iB (i:Int):AV→Bool
 | .bool b=>i == (if b then 1 else 0)
 | .int j=>i == j
 | _=>false
noncomputable def sB (a:List Nat):AV→Bool
 | .str b=>a == b
 | _=>false
mutual
noncomputable def eqB (x y:AV):Bool:=match x with
 | .none=>nB y
 | .bool a=>bB a y
 | .int a=>iB a y
 | .str a=>sB a y
 | .list xs=>(match y with
   | .list ys=>tB xs ys
   | _=>false)
 | .tuple xs=>(match y with
   | .tuple ys=>tB xs ys
   | _=>false)
 | _=>false
termination_by structural x
noncomputable def tB (xs ys:List AV):Bool:=match xs with
 | []=>ys.isEmpty
 | x :: xs=>(match ys with
   | []=>false
   | y :: ys=>eqB x y && tB xs ys)
termination_by structural xs
end
noncomputable def isScalar:AV→Bool
 | .none | .bool _ | .int _ | .str _ | .bytes _=>true
 | _=>false
noncomputable def dI:AV→Bool
 | .tuple xs=>xs.all isScalar
 | .list xs=>xs.all isScalar
 | _=>true
noncomputable def eF (x y:AV):Option Bool:=if (dI y || dI x) && (eE x && eE y) then some (eqB x y) else none
noncomputable def qQ (x:AV) (ys:List AV):Option Bool:=if eE x && gJ ys then some (ys.any fun y=>eqB y x) else none
noncomputable def vL (f:Int→Int→Bool) (a b:AV):Option Bool:=match a with
 | .int x=>match b with
   | .int y=>some (f x y)
   | _=>none
 | _=>none
noncomputable def Gv (x:Int):MO→Option Bool
 | .dict _ es=>some (es.any (·.1 == x))
 | .list ys=>qQ (.int x) ys
 | _=>none
noncomputable def Gw (σ:Sig) (a b:AV):Option Bool:=match a with
 | .str x=>match b with
   | .tuple ys=>qQ (.str x) ys
   | _=>none
 | .int x=>match b with
   | .tuple ys=>qQ (.int x) ys
   | .dict es=>some (es.any (·.1 == x))
   | .loc i=>σ[i]?.bind (Gv x)
   | _=>none
 | _=>none
noncomputable def cmpop (σ:Sig) (o:COp) (a b:AV):Option Bool:=match o with
 | .eq=>eF a b
 | .ne=>(eF a b).map (!·)
 | .lt=>vL (fun x y=>x < y) a b
 | .le=>vL (fun x y=>x≤y) a b
 | .gt=>vL (fun x y=>y < x) a b
 | .ge=>vL (fun x y=>y≤x) a b
 | .is=>if nB b then some (nB a) else none
 | .isnot=>if nB b then some (!nB a) else none
 | .isin=>Gw σ a b
 | .notin=>(Gw σ a b).map (!·)
noncomputable def nth (xs:List AV) (i:Int):Option AV:=if 0≤i then xs[i.toNat]? else if 0≤i + xs.length then xs[(i + xs.length).toNat]? else none
noncomputable def dictGet (es:List (Int×AV)) (k:Int):Option AV:=(es.find? (·.1 == k)).map (·.2)
noncomputable def dictPut (es:List (Int×AV)) (k:Int) (v:AV):List (Int×AV):=match es with
 | []=>[(k,v)]
 | e :: r=>if e.1 == k then (e.1,v) :: r else e :: dictPut r k v
noncomputable def gK (xs:List AV) (n:Int):Option AV:=if sizeOk xs.length then nth xs n else none
noncomputable def Pz (n:Int):MO→Option AV
 | .list xs=>gK xs n
 | .dict _ es=>dictGet es n
 | _=>none
noncomputable def J3 (σ:Sig) (n:Int):AV→Option AV
 | .list xs=>gK xs n
 | .tuple xs=>gK xs n
 | .bytes b=>if 0≤n && sizeOk b.length then (b[n.toNat]?).map fun (c:Nat)=>AV.int (c:Int) else none
 | .dict es=>dictGet es n
 | .loc l=>σ[l]?.bind (Pz n)
 | _=>none
noncomputable def dJ (σ:Sig) (a i:AV):Option AV:=match i with
 | .int n=>J3 σ n a
 | _=>none
noncomputable def clip (n:Nat) (i:Int):Nat:=(max 0 (min (if i < 0 then i + n else i) n)).toNat
noncomputable def cut {α:Type} (xs:List α) (lo hi:Option Int):List α :=
 (xs.drop (lo.elim 0 (clip xs.length))).take (hi.elim xs.length (clip xs.length) - lo.elim 0 (clip xs.length))
noncomputable def bound?:AV→Option (Option Int)
 | .none=>some none
 | .int i=>if small i then some (some i) else none
 | _=>none
noncomputable def sliceOf (l h:Option Int):AV→Option AV
 | .str s=>if l=none && h=some 1 then some (.str (s.take 1)) else none
 | .bytes s=>if sizeOk s.length then some (.bytes (cut s l h)) else none
 | .list s=>if sizeOk s.length then some (.list (cut s l h)) else none
 | _=>none
noncomputable def slice (a lo hi:AV):Option AV:=(bound? lo).bind fun l=>(bound? hi).bind fun h=>sliceOf l h a
noncomputable def splitOn (sep:Nat):List Nat→List (List Nat)
 | []=>[[]]
 | c :: r=>if c=sep then [] :: splitOn sep r else match splitOn sep r with
   | w :: ws=>(c :: w) :: ws
   | []=>[[c]]
noncomputable def aW (sep:List Nat):List (List Nat)→List Nat
 | []=>[]
 | [x]=>x
 | x :: y :: r=>x++sep++aW sep (y :: r)
noncomputable def mz {α:Type} (f:AV→Option α):List AV→Option (List α)
 | []=>some []
 | a :: r=>(f a).bind fun x=>(mz f r).map (x :: ·)
noncomputable def str?:AV→Option (List Nat)
 | .str s=>some s
 | _=>none
noncomputable def int?:AV→Option Int
 | .int n=>some n
 | _=>none
noncomputable def bool?:AV→Option Bool
 | .bool n=>some n
 | _=>none
noncomputable def oct? (a:AV):Option Nat:=(int? a).bind fun n=>if 0≤n && n < 256 then some n.toNat else none
noncomputable def strs? (xs:List AV):Option (List (List Nat)):=mz str? xs
noncomputable def ints? (xs:List AV):Option (List Int):=mz int? xs
noncomputable def bools? (xs:List AV):Option (List Bool):=mz bool? xs
noncomputable def octets? (xs:List AV):Option (List Nat):=mz oct? xs
noncomputable def pair? (a:AV):Option (List Nat×Int):=match a with
 | .tuple xs=>match xs with
   | []=>none
   | x :: xs=>match x with
     | .str s=>match xs with
       | []=>none
       | y :: xs=>match y with
         | .int n=>match xs with
           | []=>some (s,n)
           | _ :: _=>none
         | _=>none
     | _=>none
 | _=>none
noncomputable def pairs? (xs:List AV):Option (List (List Nat×Int)):=mz pair? xs
noncomputable def du (p:List Nat×Int):List (List Nat×Int)→List (List Nat×Int)
 | []=>[p]
 | q :: r=>if p.1 < q.1 then p :: q :: r else q :: du p r
noncomputable def cW (l:List (List Nat×Int)):List (List Nat×Int):=l.foldl (fun acc p=>du p acc) []
noncomputable def Gx (σ:Sig):AV→R AV
 | .str s=>if sizeOk s.length then .ok (.int s.length) σ else .stuck
 | .bytes s=>if sizeOk s.length then .ok (.int s.length) σ else .stuck
 | a=>match listItems σ a with
   | some xs=>if sizeOk xs.length then .ok (.int xs.length) σ else .stuck
   | none=>.stuck
noncomputable def Gy (σ:Sig):AV→R AV
 | .list xs=>match ints? xs with
   | some ns=>if ns.all small && (ns.length≤64) then .ok (.int ns.sum) σ else .stuck
   | none=>.stuck
 | _=>.stuck
noncomputable def Gz (σ:Sig):AV→R AV
 | .list xs=>match bools? xs with
   | some bs=>.ok (.bool (bs.all id)) σ
   | none=>.stuck
 | _=>.stuck
noncomputable def vM (σ:Sig):AV→R AV
 | .list xs=>match octets? xs with
   | some bs=>if sizeOk bs.length then .ok (.bytes bs) σ else .stuck
   | none=>.stuck
 | .int n=>if 0≤n && n≤1024 then .ok (.bytes (List.replicate n.toNat 0)) σ else .stuck
 | .bytes b=>.ok (.bytes b) σ
 | .loc i=>match σ[i]? with
   | some (.barr b)=>if sizeOk b.length then .ok (.bytes b) σ else .stuck
   | _=>.stuck
 | _=>.stuck
noncomputable def GC (σ:Sig):AV→R AV
 | .str s=>match s with
   | [c]=>.ok (.int c) σ
   | _=>.stuck
 | _=>.stuck
noncomputable def GD (σ:Sig):AV→R AV
 | .int n=>if 0≤n && n < 128 then .ok (.str [n.toNat]) σ else .stuck
 | _=>.stuck
noncomputable def yQ (σ:Sig):AV→R AV
 | .list xs=>match pairs? xs with
   | some ps=>if ps.length≤3 && (ps.map (·.1)).Nodup then .ok (.list ((cW ps).map fun p=>.tuple [.str p.1,.int p.2])) σ else .stuck
   | none=>.stuck
 | _=>.stuck
noncomputable def vN (σ:Sig):AV→R AV
 | .str _=>.ok (.bool true) σ
 | .int _=>.ok (.bool false) σ
 | _=>.stuck
noncomputable def GF (σ:Sig) (x y:AV):R AV:=match x with
 | .int a=>match y with
   | .int b=>.ok (.int (if a < b then b else a)) σ
   | _=>.stuck
 | _=>.stuck
noncomputable def GJ (σ:Sig) (a:AV):BI→R AV
 | .len=>Gx σ a
 | .sum=>Gy σ a
 | .all=>Gz σ a
 | .bytes=>vM σ a
 | .bytearray=>.stuck
 | .ord=>GC σ a
 | .chr=>GD σ a
 | .sorted=>yQ σ a
 | .max=>.stuck
 | .isstr=>vN σ a
noncomputable def builtin (σ:Sig) (b:BI) (as:List AV):R AV:=match as with
 | []=>if b=.bytearray then .ok (.loc σ.length) (σ++[.barr []]) else .stuck
 | [a]=>GJ σ a b
 | [x,y]=>if b=.max then GF σ x y else .stuck
 | _=>.stuck
noncomputable def vO (σ:Sig) (o a:AV):R AV:=match o with
 | .str s=>match a with
   | .str t=>match t with
     | [c]=>if sizeOk s.length then .ok (.list ((splitOn c s).map .str)) σ else .stuck
     | _=>.stuck
   | _=>.stuck
 | _=>.stuck
noncomputable def zL (σ:Sig) (o a:AV):R AV:=match o with
 | .str s=>match (listItems σ a).bind strs? with
   | some ws=>if sizeOk ((ws.map (·.length)).sum + ws.length * s.length) then .ok (.str (aW s ws)) σ else .stuck
   | none=>.stuck
 | _=>.stuck
noncomputable def tC (σ:Sig) (o v:AV):R AV:=match o with
 | .loc i=>match σ[i]? with
   | some (.list xs)=>if sizeOk xs.length then .ok .none (σ.set i (.list (xs++[v]))) else .stuck
   | _=>.stuck
 | _=>.stuck
noncomputable def tD (σ:Sig) (o v:AV):R AV:=match o with
 | .loc i=>match v with
   | .bytes c=>match σ[i]? with
     | some (.barr b)=>if sizeOk (b.length + c.length) then .ok .none (σ.set i (.barr (b++c))) else .stuck
     | _=>.stuck
   | _=>.stuck
 | _=>.stuck
noncomputable def dW (σ:Sig) (b:BM) (o:AV) (as:List AV):R AV:=match as with
 | [a]=>match b with
   | .split=>vO σ o a
   | .join=>zL σ o a
   | .append=>tC σ o a
   | .extend=>tD σ o a
 | _=>.stuck
noncomputable def qR (σ:Sig):BM→AV→Bool
 | .split,.str _=>true
 | .join,.str _=>true
 | .append,.loc i=>match σ[i]? with | some (.list _)=>true | _=>false
 | .extend,.loc i=>match σ[i]? with | some (.barr _)=>true | _=>false
 | _,_=>false
noncomputable def dM (fs:List (Nat×AV)) (f:Nat):Option AV:=(fs.find? (·.1 == f)).map (·.2)
noncomputable def fu (fs:List (Nat×AV)) (f:Nat) (v:AV):List (Nat×AV):=match fs with
 | []=>[(f,v)]
 | e :: r=>if e.1 == f then (e.1,v) :: r else e :: fu r f v
noncomputable def dj (C f:Nat):Bool:=!(4 < C && f == 4) && decide (f < 26)
noncomputable def getattr (σ:Sig) (o:AV) (f:Nat):Option AV:=match o with
 | .inst C fs=>if dj C f then dM fs f else none
 | .loc i=>match σ[i]? with
   | some (.inst C fs)=>if dj C f then dM fs f else none
   | _=>none
 | _=>none
noncomputable def clsOf (σ:Sig) (o:AV):Option Nat:=match o with
 | .inst C _=>some C
 | .loc i=>match σ[i]? with
   | some (.inst C _)=>some C
   | _=>none
 | _=>none
noncomputable def zM (g:AV→Option AV):MO→Option AV
 | .list xs=>(xs.mapM g).map .list
 | .inst C fs=>(fs.mapM fun p=>(g p.2).map (p.1,·)).map (.inst C)
 | .dict _ es=>(es.mapM fun p=>(g p.2).map (p.1,·)).map .dict
 | _=>none
noncomputable def bA (σ:Sig):Nat→AV→Option AV
 | 0,_=>none
 | n + 1,v=>match v with
   | .tuple xs=>(xs.mapM (bA σ n)).map .tuple
   | .list xs=>(xs.mapM (bA σ n)).map .list
   | .inst C fs=>(fs.mapM fun p=>(bA σ n p.2).map (p.1,·)).map (.inst C)
   | .dict es=>(es.mapM fun p=>(bA σ n p.2).map (p.1,·)).map .dict
   | .loc i=>(σ[i]?).bind (zM (bA σ n))
   | v=>some v
noncomputable def fj:Nat:=6
mutual
noncomputable def bN:AV→Bool
 | .tuple xs=>bR xs
 | .list xs=>bR xs
 | .inst _ fs=>jQ fs
 | .dict es=>jR es
 | .loc _=>false
 | _=>true
noncomputable def bR:List AV→Bool
 | []=>true
 | x :: r=>bN x && bR r
noncomputable def jQ:List (Nat×AV)→Bool
 | []=>true
 | x :: r=>bN x.2 && jQ r
noncomputable def jR:List (Int×AV)→Bool
 | []=>true
 | x :: r=>bN x.2 && jR r
end
inductive Fl where
 | nxt (ρ:Env)
 | ret (v:AV)
 | cont (ρ:Env)
 deriving Inhabited
structure Prog where
 fns:Nat→Option Fn
 init:Nat→Option Nat
 meths:Nat→Nat→Option Nat
noncomputable def stores (ρ:Env):List Nat→List AV→Option Env
 | [],[]=>some ρ
 | x :: xs,v :: vs=>if x < ρ.length then stores (ρ.set x (some v)) xs vs else none
 | _,_=>none
noncomputable def target (ρ:Env) (t:T) (v:AV):Option Env:=match t with
 | .n x=>if x < ρ.length then some (ρ.set x (some v)) else none
 | .tu xs=>match v with
   | .tuple vs=>stores ρ xs vs
   | _=>none
noncomputable def aU (σ:Sig) (k:IK) (a:AV) (j:Nat):Option (Option AV):=match k with
 | .of=>(items σ a).bind fun xs=>if sizeOk xs.length then some xs[j]? else none
 | .enum=>match a with
   | .tuple _ | .str _=>none
   | a=>(items σ a).bind fun xs=>if sizeOk xs.length then some ((xs[j]?).map fun x=>.tuple [.int j,x]) else none
 | .rng=>match a with
   | .int n=>if 0≤n && n≤1024 then some (if (j:Int) < n then some (.int j) else none) else none
   | _=>none
noncomputable abbrev Calls:=Nat→List AV→Sig→R AV
noncomputable def ir (scalar:Bool) (σ:Sig):R AV→R AV
 | .ok v σ'=>match bA σ' fj v with
   | some w=>if scalar && !isScalar w then .stuck else .ok w σ
   | none=>.stuck
 | .err c _=>.err c σ
 | .stuck=>.stuck
noncomputable def aD (cf:Calls) (σ:Sig) (f:Nat) (as:List AV):R AV :=
 if bR as then ir false σ (cf f as [])
 else match as.mapM (bA σ fj) with
   | some bs=>ir true σ (cf f bs [])
   | none=>.stuck
noncomputable def cV (step:Nat→List AV→Sig→R (Option (List AV))):Nat→Nat→List AV→Sig→R (List AV)
 | 0,_,_,_=>.stuck
 | n + 1,j,acc,σ=>match step j acc σ with
   | .ok (some acc') σ'=>cV step n (j + 1) acc' σ'
   | .ok none σ'=>.ok acc σ'
   | .err ..=>.stuck
   | .stuck=>.stuck
noncomputable def turns:Nat:=200
noncomputable def cX:Nat→Option (List Nat)
 | 0=>some [110,111,32,102,111,108,100,101,114]
 | 1=>some [109,105,115,115,105,110,103]
 | 2=>some [108,111,111,112,115]
 | 3=>some [112,97,116,104]
 | _=>none
noncomputable def zN (σ:Sig) (r:R AV):R AV:=match r with
 | .ok v s=>match v with
   | .none=>match s with
     | []=>.stuck
     | o :: t=>match o with
       | .inst C fs=>match t with
         | []=>if jQ fs then .ok (.inst C fs) σ else .stuck
         | _ :: _=>.stuck
       | _=>.stuck
   | _=>.stuck
 | _=>.stuck
mutual
noncomputable def ev (P:Prog) (cf:Calls) (ρ:Env):E→Sig→R AV
 | .k c,σ=>.ok c σ
 | .g _ i,σ=>.ok (.int i) σ
 | .v x,σ=>match ρ[x]? with
   | some (some a)=>.ok a σ
   | _=>.stuck
 | .neg i,σ=>.ok (.int (-i)) σ
 | .bin o a b,σ=>(ev P cf ρ a σ).bind fun x σ=>(ev P cf ρ b σ).bind fun y σ=>R.of (binop o x y) σ
 | .not a,σ=>(ev P cf ρ a σ).bind fun x σ=>match truthy x with
   | some t=>.ok (.bool (!t)) σ
   | none=>.stuck
 | .bo isAnd es,σ=>vP P cf ρ isAnd es σ
 | .cmp a os bs,σ=>(ev P cf ρ a σ).bind fun x σ=>zO P cf ρ x os bs σ
 | .ife t a b,σ=>(ev P cf ρ t σ).bind fun x σ=>match truthy x with
   | some true=>ev P cf ρ a σ
   | some false=>ev P cf ρ b σ
   | none=>.stuck
 | .sub a i,σ=>(ev P cf ρ a σ).bind fun x σ=>(ev P cf ρ i σ).bind fun y σ=>R.of (dJ σ x y) σ
 | .slc a lo hi,σ=>(ev P cf ρ a σ).bind fun x σ=>(ev P cf ρ lo σ).bind fun l σ=>(ev P cf ρ hi σ).bind fun h σ=>R.of (slice x l h) σ
 | .tup es,σ=>(evs P cf ρ es σ).bind fun vs σ=>.ok (.tuple vs) σ
 | .lst m es,σ=>(evs P cf ρ es σ).bind fun vs σ=>if m then .ok (.loc σ.length) (σ++[.list vs]) else .ok (.list vs) σ
 | .emptyd,σ=>.ok (.loc σ.length) (σ++[.dict 0 []])
 | .attr o f,σ=>(ev P cf ρ o σ).bind fun x σ=>R.of (getattr σ x f) σ
 | .comp own caps tgt elt ik it ifs,σ=>(ev P cf ρ it σ).bind fun src σ =>
   (cV (fun j acc σ=>match aU σ ik src j with
     | none=>.stuck
     | some none=>.ok none σ
     | some (some x)=>match target (own.map (fun _=>none)++caps.map fun c=>(ρ[c]?).getD none) tgt x with
       | none=>.stuck
       | some ρ'=>(gM P cf ρ' ifs σ).bind fun b σ=>if b then (ev P cf ρ' elt σ).bind fun y σ=>.ok (some (acc++[y])) σ else .ok (some acc) σ)
     turns 0 [] σ).bind fun vs σ=>.ok (.list vs) σ
 | .call f es,σ=>(evs P cf ρ es σ).bind fun vs σ=>aD cf σ f vs
 | .calls f es,σ=>(evs P cf ρ es σ).bind fun vs σ=>cf f vs σ
 | .new fz C es,σ=>(evs P cf ρ es σ).bind fun vs σ=>match P.init C with
   | none=>.stuck
   | some f =>
     if fz then (if bR vs then zN σ (cf f (.loc 0 :: vs) [.inst C []]) else .stuck)
     else (cf f (.loc σ.length :: vs) (σ++[.inst C []])).bind fun r σ'=>match r with
       | .none=>.ok (.loc σ.length) σ'
       | _=>.stuck
 | .meth mt o nm es,σ=>(ev P cf ρ o σ).bind fun x σ=>match (clsOf σ x).bind fun C=>P.meths C nm with
   | none=>.stuck
   | some f=>(evs P cf ρ es σ).bind fun vs σ=>if mt then cf f (x :: vs) σ else aD cf σ f (x :: vs)
 | .bi b es,σ=>(evs P cf ρ es σ).bind fun vs σ=>builtin σ b vs
 | .bm b o es,σ=>(ev P cf ρ o σ).bind fun x σ=>if qR σ b x then (evs P cf ρ es σ).bind fun vs σ=>dW σ b x vs else .stuck
 | .tried caps body,σ=>match (σ[0]?:Option MO) with
   | some .tab=>(match ev P cf (caps.map fun c=>(ρ[c]?).getD none) body σ with
     | .ok v σ'=>.ok v σ'
     | .err c σ'=>match cX c with
       | some w=>.ok (.str w) σ'
       | none=>.stuck
     | .stuck=>.stuck)
   | _=>.stuck
 | .hole,_=>.stuck
noncomputable def evs (P:Prog) (cf:Calls) (ρ:Env):List E→Sig→R (List AV)
 | [],σ=>.ok [] σ
 | e :: es,σ=>(ev P cf ρ e σ).bind fun v σ=>(evs P cf ρ es σ).bind fun vs σ=>.ok (v :: vs) σ
noncomputable def vP (P:Prog) (cf:Calls) (ρ:Env) (isAnd:Bool):List E→Sig→R AV
 | [],_=>.stuck
 | e :: es,σ=>(ev P cf ρ e σ).bind fun v σ=>match es with
   | []=>.ok v σ
   | _ :: _=>match truthy v with
     | none=>.stuck
     | some t=>if t == isAnd then vP P cf ρ isAnd es σ else .ok v σ
noncomputable def zO (P:Prog) (cf:Calls) (ρ:Env) (x:AV):List COp→List E→Sig→R AV
 | [o],[e],σ=>(ev P cf ρ e σ).bind fun y σ=>R.of ((cmpop σ o x y).map .bool) σ
 | o :: o' :: os,e :: es,σ=>(ev P cf ρ e σ).bind fun y σ=>match cmpop σ o x y with
   | some true=>zO P cf ρ y (o' :: os) es σ
   | some false=>.ok (.bool false) σ
   | none=>.stuck
 | _,_,_=>.stuck
noncomputable def gM (P:Prog) (cf:Calls) (ρ:Env):List E→Sig→R Bool
 | [],σ=>.ok true σ
 | e :: es,σ=>(ev P cf ρ e σ).bind fun v σ=>match truthy v with
   | some true=>gM P cf ρ es σ
   | some false=>.ok false σ
   | none=>.stuck
end
noncomputable def cF (test:Env→Sig→R Bool) (body:Env→Sig→R Fl):Nat→Env→Sig→R Fl
 | 0,_,_=>.stuck
 | n + 1,ρ,σ=>(test ρ σ).bind fun t σ=>if t then (body ρ σ).bind fun fl σ=>match fl with
     | .nxt ρ'=>cF test body n ρ' σ
     | .cont ρ'=>cF test body n ρ' σ
     | .ret v=>.ok (.ret v) σ
   else .ok (.nxt ρ) σ
noncomputable def cg (at_:Sig→Nat→Option (Option AV)) (tgt:T) (body:Env→Sig→R Fl):Nat→Nat→Env→Sig→R Fl
 | 0,_,_,_=>.stuck
 | n + 1,j,ρ,σ=>match at_ σ j with
   | none=>.stuck
   | some none=>.ok (.nxt ρ) σ
   | some (some x)=>match target ρ tgt x with
     | none=>.stuck
     | some ρ=>match body ρ σ with
       | .ok (.nxt ρ') σ=>cg at_ tgt body n (j + 1) ρ' σ
       | .ok (.cont ρ') σ=>cg at_ tgt body n (j + 1) ρ' σ
       | .ok (.ret v) σ=>.ok (.ret v) σ
       | _=>.stuck
noncomputable def setattr (σ:Sig) (o:AV) (f:Nat) (v:AV):Option Sig:=match o with
 | .loc i=>match σ[i]? with
   | some (.inst C fs)=>if dj C f && fs.length≤50 then some (σ.set i (.inst C (fu fs f v))) else none
   | _=>none
 | _=>none
noncomputable def setitem (σ:Sig) (o i v:AV):Option Sig:=match o,i with
 | .loc l,.int k=>match σ[l]? with
   | some (.dict n es)=>if sizeOk n then some (σ.set l (.dict (n + 1) (dictPut es k v))) else none
   | _=>none
 | _,_=>none
mutual
noncomputable def ex (P:Prog) (cf:Calls):C→Env→Sig→R Fl
 | .asg x e,ρ,σ=>(ev P cf ρ e σ).bind fun v σ=>if x < ρ.length then .ok (.nxt (ρ.set x (some v))) σ else .stuck
 | .asgt xs e,ρ,σ=>(ev P cf ρ e σ).bind fun v σ=>match v with
   | .tuple vs=>match stores ρ xs vs with
     | some ρ'=>.ok (.nxt ρ') σ
     | none=>.stuck
   | _=>.stuck
 | .seta o f e,ρ,σ=>(ev P cf ρ e σ).bind fun v σ=>(ev P cf ρ o σ).bind fun x σ=>match setattr σ x f v with
   | some σ'=>.ok (.nxt ρ) σ'
   | none=>.stuck
 | .seti o i e,ρ,σ=>(ev P cf ρ e σ).bind fun v σ=>(ev P cf ρ o σ).bind fun x σ=>(ev P cf ρ i σ).bind fun k σ=>match setitem σ x k v with
   | some σ'=>.ok (.nxt ρ) σ'
   | none=>.stuck
 | .ex e,ρ,σ=>(ev P cf ρ e σ).bind fun _ σ=>.ok (.nxt ρ) σ
 | .ret e,ρ,σ=>(ev P cf ρ e σ).bind fun v σ=>.ok (.ret v) σ
 | .iff t a b,ρ,σ=>(ev P cf ρ t σ).bind fun v σ=>match truthy v with
   | some true=>exs P cf a ρ σ
   | some false=>exs P cf b ρ σ
   | none=>.stuck
 | .whl t b,ρ,σ=>cF (fun ρ σ=>(ev P cf ρ t σ).bind fun v σ=>R.of (truthy v) σ) (fun ρ σ=>exs P cf b ρ σ) turns ρ σ
 | .fr tgt ik it b,ρ,σ=>(ev P cf ρ it σ).bind fun src σ=>cg (fun σ j=>aU σ ik src j) tgt (fun ρ σ=>exs P cf b ρ σ) turns 0 ρ σ
 | .rse c msg,ρ,σ=>(ev P cf ρ msg σ).bind fun _ σ=>.err c σ
 | .cont,ρ,σ=>.ok (.cont ρ) σ
 | .hole,_,_=>.stuck
noncomputable def exs (P:Prog) (cf:Calls):List C→Env→Sig→R Fl
 | [],ρ,σ=>.ok (.nxt ρ) σ
 | c :: cs,ρ,σ=>(ex P cf c ρ σ).bind fun fl σ=>match fl with
   | .nxt ρ'=>exs P cf cs ρ' σ
   | fl=>.ok fl σ
end
noncomputable def Fn.ar (fn:Fn) (n:Nat):Bool:=(n≤fn.nparams && fn.nparams≤n + fn.defaults.length) && (fn.nparams≤8 || n == 1)
noncomputable def run (P:Prog):Nat→Calls
 | 0,_,_,_=>.stuck
 | d + 1,f,as,σ=>match P.fns f with
   | none=>.stuck
   | some fn =>
     if fn.ar as.length then
       let args:=as++fn.defaults.drop (as.length + fn.defaults.length - fn.nparams)
       (exs P (run P d) fn.body (args.map some++(fn.slots.drop fn.nparams).map fun _=>none) σ).bind fun fl σ=>match fl with
         | .ret v=>.ok v σ
         | .nxt _=>.ok .none σ
         | .cont _=>.stuck
     else .stuck
end Mine
end
section
open PySem
namespace Mine
noncomputable def yj:Fn:={ nparams:=1,defaults:=[],slots:=[Str.ofString "octets"],body:=[
 (.ret (.bi .sum [(.comp [Str.ofString "place",Str.ofString "octet"] [] (.tu [0,1]) (.bin .lsh (.v 1) (.bin .mul (.k (.int 8)) (.v 0))) .enum (.v 0) [])]))] }
noncomputable def yl:Fn:={ nparams:=2,defaults:=[],slots:=[Str.ofString "number",Str.ofString "size"],body:=[
 (.iff (.not (.cmp (.k (.int 0)) [.le,.lt] [(.v 0),(.bin .pow (.k (.int 256)) (.v 1))])) [.hole] []),
 (.ret (.bi .bytes [(.comp [Str.ofString "place"] [0] (.n 0) (.bin .band (.bin .rsh (.v 1) (.bin .mul (.k (.int 8)) (.v 0))) (.k (.int 255))) .rng (.v 1) [])]))] }
noncomputable def vf:Fn:={ nparams:=1,defaults:=[],slots:=[Str.ofString "text",Str.ofString "points"],body:=[
 (.asg 1 (.comp [Str.ofString "sign"] [] (.n 0) (.bi .ord [(.v 0)]) .of (.v 0) [])),
 (.iff (.not (.bi .all [(.comp [Str.ofString "point"] [] (.n 0) (.cmp (.k (.int 32)) [.le,.lt] [(.v 0),(.k (.int 127))]) .of (.v 1) [])])) [.hole] []),
 (.ret (.bi .bytes [(.v 1)]))] }
noncomputable def vg:Fn:={ nparams:=1,defaults:=[],slots:=[Str.ofString "octets"],body:=[
 (.iff (.not (.bi .all [(.comp [Str.ofString "octet"] [] (.n 0) (.cmp (.k (.int 32)) [.le,.lt] [(.v 0),(.k (.int 127))]) .of (.v 0) [])])) [.hole] []),
 (.ret (.bm .join (.k (.str [])) [(.comp [Str.ofString "octet"] [] (.n 0) (.bi .chr [(.v 0)]) .of (.v 0) [])]))] }
noncomputable def ym:Fn:={ nparams:=1,defaults:=[],slots:=[Str.ofString "self"],body:=[
 (.seta (.v 0) 0 (.bi .bytearray []))] }
noncomputable def nH:Fn:={ nparams:=3,defaults:=[],slots:=[Str.ofString "self",Str.ofString "number",Str.ofString "size"],body:=[
 (.ex (.bm .extend (.attr (.v 0) 0) [(.call 1 [(.v 1),(.v 2)])]))] }
noncomputable def pN:Fn:={ nparams:=2,defaults:=[],slots:=[Str.ofString "self",Str.ofString "text",Str.ofString "octets"],body:=[
 (.asg 2 (.call 2 [(.v 1)])),
 (.ex (.meth true (.v 0) 0 [(.bi .len [(.v 2)]),(.k (.int 1))])),
 (.ex (.bm .extend (.attr (.v 0) 0) [(.v 2)]))] }
noncomputable def nY:Fn:={ nparams:=1,defaults:=[],slots:=[Str.ofString "self"],body:=[
 (.ret (.bi .bytes [(.attr (.v 0) 0)]))] }
noncomputable def vh:Fn:={ nparams:=3,defaults:=[(.int 0)],slots:=[Str.ofString "self",Str.ofString "octets",Str.ofString "at"],body:=[
 (.seta (.v 0) 0 (.v 1)),
 (.seta (.v 0) 1 (.v 2))] }
noncomputable def nJ:Fn:={ nparams:=1,defaults:=[],slots:=[Str.ofString "self"],body:=[
 (.ret (.bin .sub (.bi .len [(.attr (.v 0) 0)]) (.attr (.v 0) 1)))] }
noncomputable def nM:Fn:={ nparams:=2,defaults:=[],slots:=[Str.ofString "self",Str.ofString "many",Str.ofString "found"],body:=[
 (.iff (.cmp (.v 1) [.gt] [(.meth true (.v 0) 3 [])]) [.hole] []),
 (.asg 2 (.bi .bytes [(.slc (.attr (.v 0) 0) (.attr (.v 0) 1) (.bin .add (.attr (.v 0) 1) (.v 1)))])),
 (.seta (.v 0) 1 (.bin .add (.attr (.v 0) 1) (.v 1))),
 (.ret (.v 2))] }
noncomputable def kI:Fn:={ nparams:=2,defaults:=[],slots:=[Str.ofString "self",Str.ofString "size"],body:=[
 (.ret (.call 0 [(.meth true (.v 0) 4 [(.v 1)])]))] }
noncomputable def nO:Fn:={ nparams:=1,defaults:=[],slots:=[Str.ofString "self"],body:=[
 (.ret (.call 3 [(.meth true (.v 0) 4 [(.meth true (.v 0) 0 [(.k (.int 1))])])]))] }
noncomputable def vQ:Fn:={ nparams:=2,defaults:=[],slots:=[Str.ofString "octets",Str.ofString "size"],body:=[
 (.iff (.cmp (.bi .len [(.v 0)]) [.gt] [(.v 1)]) [.hole] []),
 (.ret (.bin .add (.bi .bytes [(.v 0)]) (.bi .bytes [(.bin .sub (.v 1) (.bi .len [(.v 0)]))])))] }
noncomputable def lL:Fn:={ nparams:=3,defaults:=[],slots:=[Str.ofString "salt",Str.ofString "rows",Str.ofString "size",Str.ofString "sink",Str.ofString "name",Str.ofString "number",Str.ofString "octets"],body:=[
 (.asg 3 (.new false 0 [])),
 (.ex (.meth true (.v 3) 0 [(.g (Str.ofString "MICRO") 1),(.k (.int 1))])),
 (.ex (.meth true (.v 3) 0 [(.v 0),(.k (.int 4))])),
 (.ex (.meth true (.v 3) 0 [(.bi .len [(.v 1)]),(.k (.int 2))])),
 (.fr (.tu [4,5]) .of (.v 1) [(.ex (.meth true (.v 3) 1 [(.v 4)])),(.ex (.meth true (.v 3) 0 [(.v 5),(.g (Str.ofString "NUMBER") 8)]))]),
 (.asg 6 (.meth true (.v 3) 2 [])),
 (.ret (.ife (.cmp (.bi .len [(.v 6)]) [.le] [(.v 2)]) (.call 13 [(.v 6),(.v 2)]) (.k .none)))] }
noncomputable def nZ:Fn:={ nparams:=1,defaults:=[],slots:=[Str.ofString "octets",Str.ofString "cursor",Str.ofString "found",Str.ofString "turn",Str.ofString "name"],body:=[
 (.asgt [1,2] (.tup [(.new false 1 [(.v 0),(.g (Str.ofString "MICRO_HEAD") 7)]),(.lst true [])])),
 (.fr (.n 3) .rng (.call 0 [(.slc (.v 0) (.k (.int 5)) (.k (.int 7)))]) [(.asg 4 (.meth true (.v 1) 1 [])),(.ex (.bm .append (.v 2) [(.tup [(.v 4),(.meth true (.v 1) 0 [(.g (Str.ofString "NUMBER") 8)])])]))]),
 (.ret (.v 2))] }
noncomputable def uv:Fn:={ nparams:=1,defaults:=[],slots:=[Str.ofString "octets"],body:=[
 (.iff (.cmp (.sub (.v 0) (.k (.int 0))) [.notin] [(.tup [(.g (Str.ofString "MICRO") 1),(.g (Str.ofString "FAT") 2)])]) [.hole] []),
 (.ret (.sub (.v 0) (.k (.int 0))))] }
noncomputable def nP:Fn:={ nparams:=2,defaults:=[],slots:=[Str.ofString "view",Str.ofString "object_now"],body:=[
 (.ret (.meth true (.v 0) 6 [(.v 1),(.k (.int 0)),(.attr (.meth true (.v 0) 5 [(.v 1)]) 10)]))] }
noncomputable def qT:Fn:={ nparams:=3,defaults:=[],slots:=[Str.ofString "view",Str.ofString "object_now",Str.ofString "name",Str.ofString "octets",Str.ofString "found",Str.ofString "head",Str.ofString "told",Str.ofString "leaf"],body:=[
 (.asg 3 (.call 17 [(.v 0),(.v 1)])),
 (.iff (.cmp (.call 16 [(.v 3)]) [.eq] [(.g (Str.ofString "MICRO") 1)]) [(.asg 4 (.comp [Str.ofString "text",Str.ofString "number"] [2] (.tu [0,1]) (.v 1) .of (.call 15 [(.v 3)]) [(.cmp (.v 0) [.eq] [(.v 2)])])),(.ret (.ife (.cmp (.v 4) [.ne] [(.lst false [])]) (.sub (.v 4) (.k (.int 0))) (.k .none)))] []),
 .hole,
 .hole,
 .hole,
 .hole] }
noncomputable def qU:Fn:={ nparams:=1,defaults:=[],slots:=[Str.ofString "name"],body:=[
 (.iff (.bo false [(.not (.cmp (.k (.int 1)) [.le,.le] [(.bi .len [(.v 0)]),(.g (Str.ofString "MOST_SIGNS") 28)])),(.cmp (.v 0) [.isin] [(.tup [(.k (.str [46])),(.k (.str [46,46]))])])]) [(.ret (.k (.bool false)))] []),
 (.ret (.bi .all [(.comp [Str.ofString "sign"] [] (.n 0) (.bo true [(.cmp (.k (.int 32)) [.le,.lt] [(.bi .ord [(.v 0)]),(.k (.int 127))]),(.cmp (.v 0) [.ne] [(.k (.str [47]))])]) .of (.v 0) [])]))] }
noncomputable def uw:Fn:={ nparams:=3,defaults:=[],slots:=[Str.ofString "view",Str.ofString "folder",Str.ofString "name",Str.ofString "found"],body:=[
 (.asg 3 (.ife (.call 19 [(.v 2)]) (.call 18 [(.v 0),(.v 1),(.v 2)]) (.k .none))),
 (.ret (.ife (.cmp (.v 3) [.is] [(.k .none)]) (.k .none) (.tup [(.bin .fdiv (.v 3) (.g (Str.ofString "SORTS") 4)),(.bin .mod (.v 3) (.g (Str.ofString "SORTS") 4))])))] }
noncomputable def vR:Fn:={ nparams:=8,defaults:=[],slots:=[Str.ofString "self",Str.ofString "sort",Str.ofString "mode",Str.ofString "size",Str.ofString "links",Str.ofString "parent",Str.ofString "made",Str.ofString "changed"],body:=[
 (.seta (.v 0) 2 (.v 1)),
 (.seta (.v 0) 3 (.v 2)),
 (.seta (.v 0) 4 (.v 3)),
 (.seta (.v 0) 5 (.v 4)),
 (.seta (.v 0) 6 (.v 5)),
 (.seta (.v 0) 7 (.v 6)),
 (.seta (.v 0) 8 (.v 7))] }
noncomputable def lM:Fn:={ nparams:=1,defaults:=[],slots:=[Str.ofString "znode",Str.ofString "sink"],body:=[
 (.asg 1 (.new false 0 [])),
 (.ex (.meth true (.v 1) 0 [(.attr (.v 0) 2),(.k (.int 1))])),
 (.ex (.meth true (.v 1) 0 [(.attr (.v 0) 3),(.k (.int 2))])),
 (.ex (.meth true (.v 1) 0 [(.attr (.v 0) 4),(.k (.int 4))])),
 (.ex (.meth true (.v 1) 0 [(.attr (.v 0) 5),(.k (.int 2))])),
 (.ex (.meth true (.v 1) 0 [(.attr (.v 0) 6),(.k (.int 4))])),
 (.ex (.meth true (.v 1) 0 [(.attr (.v 0) 7),(.k (.int 4))])),
 (.ex (.meth true (.v 1) 0 [(.attr (.v 0) 8),(.k (.int 4))])),
 (.ret (.meth true (.v 1) 2 []))] }
noncomputable def qW:Fn:={ nparams:=1,defaults:=[],slots:=[Str.ofString "octets",Str.ofString "cursor",Str.ofString "sort",Str.ofString "mode",Str.ofString "size",Str.ofString "links",Str.ofString "parent",Str.ofString "made",Str.ofString "changed"],body:=[
 (.iff (.cmp (.bi .len [(.v 0)]) [.ne] [(.g (Str.ofString "ZNODE") 21)]) [.hole] []),
 (.asg 1 (.new false 1 [(.v 0)])),
 (.asgt [2,3,4] (.tup [(.meth true (.v 1) 0 [(.k (.int 1))]),(.meth true (.v 1) 0 [(.k (.int 2))]),(.meth true (.v 1) 0 [(.k (.int 4))])])),
 (.asgt [5,6,7,8] (.tup [(.meth true (.v 1) 0 [(.k (.int 2))]),(.meth true (.v 1) 0 [(.k (.int 4))]),(.meth true (.v 1) 0 [(.k (.int 4))]),(.meth true (.v 1) 0 [(.k (.int 4))])])),
 (.iff (.cmp (.v 2) [.gt] [(.g (Str.ofString "LINK_SORT") 2)]) [.hole] []),
 (.ret (.new true 2 [(.v 2),(.v 3),(.v 4),(.v 5),(.v 6),(.v 7),(.v 8)]))] }
noncomputable def n6:Fn:={ nparams:=2,defaults:=[],slots:=[Str.ofString "view",Str.ofString "number"],body:=[
 (.ret (.call 23 [(.attr (.meth true (.v 0) 5 [(.v 1)]) 12)]))] }
noncomputable def qX:Fn:={ nparams:=1,defaults:=[],slots:=[Str.ofString "path"],body:=[
 (.ret (.comp [Str.ofString "name"] [] (.n 0) (.v 0) .of (.bm .split (.v 0) [(.k (.str [47]))]) [(.cmp (.v 0) [.ne] [(.k (.str []))])]))] }
noncomputable def nQ:Fn:={ nparams:=2,defaults:=[],slots:=[Str.ofString "view",Str.ofString "number",Str.ofString "octets"],body:=[
 (.asg 2 (.meth true (.v 0) 6 [(.v 1),(.k (.int 0)),(.attr (.call 24 [(.v 0),(.v 1)]) 4)])),
 (.ret (.bm .join (.k (.str [])) [(.comp [Str.ofString "octet"] [] (.n 0) (.bi .chr [(.v 0)]) .of (.v 2) [])]))] }
noncomputable def jo:Fn:={ nparams:=3,defaults:=[],slots:=[Str.ofString "view",Str.ofString "number",Str.ofString "path"],body:=[
 (.iff (.cmp (.attr (.call 24 [(.v 0),(.v 1)]) 2) [.ne] [(.g (Str.ofString "FOLDER_SORT") 1)]) [(.rse 0 (.bin .add (.k (.str [110,111,32,102,111,108,100,101,114,32,111,110,32,116,104,101,32,119,97,121,58,32])) (.v 2)))] [])] }
noncomputable def qY:Fn:={ nparams:=3,defaults:=[],slots:=[Str.ofString "root",Str.ofString "here",Str.ofString "path"],body:=[
 (.ret (.ife (.cmp (.slc (.v 2) (.k .none) (.k (.int 1))) [.eq] [(.k (.str [47]))]) (.v 0) (.v 1)))] }
noncomputable def qd:Fn:={ nparams:=4,defaults:=[],slots:=[Str.ofString "view",Str.ofString "root",Str.ofString "path",Str.ofString "follows",Str.ofString "here",Str.ofString "todo",Str.ofString "many",Str.ofString "name",Str.ofString "found",Str.ofString "target"],body:=[
 (.asgt [4,5,6] (.tup [(.v 1),(.call 25 [(.v 2)]),(.k (.int 0))])),
 (.whl (.cmp (.v 5) [.ne] [(.lst false [])]) [(.asgt [7,5] (.tup [(.sub (.v 5) (.k (.int 0))),(.slc (.v 5) (.k (.int 1)) (.k .none))])),(.ex (.call 27 [(.v 0),(.v 4),(.v 2)])),(.iff (.cmp (.v 7) [.eq] [(.k (.str [46]))]) [.cont] []),(.iff (.cmp (.v 7) [.eq] [(.k (.str [46,46]))]) [(.asg 4 (.attr (.call 24 [(.v 0),(.v 4)]) 6)),.cont] []),(.asg 8 (.call 20 [(.v 0),(.v 4),(.v 7)])),(.iff (.cmp (.v 8) [.is] [(.k .none)]) [(.rse 1 (.bin .add (.k (.str [110,111,32,115,117,99,104,32,116,104,105,110,103,58,32])) (.v 2)))] []),(.iff (.bo true [(.cmp (.sub (.v 8) (.k (.int 1))) [.eq] [(.g (Str.ofString "LINK_SORT") 2)]),(.bo false [(.cmp (.v 5) [.ne] [(.lst false [])]),(.v 3)])]) [(.asg 6 (.bin .add (.v 6) (.k (.int 1)))),(.iff (.cmp (.v 6) [.gt] [(.g (Str.ofString "MOST_LINKS") 8)]) [(.rse 2 (.bin .add (.k (.str [116,111,111,32,109,97,110,121,32,108,105,110,107,115,58,32])) (.v 2)))] []),(.asg 9 (.call 26 [(.v 0),(.sub (.v 8) (.k (.int 0)))])),(.asgt [4,5] (.tup [(.call 28 [(.v 1),(.v 4),(.v 9)]),(.bin .add (.call 25 [(.v 9)]) (.v 5))]))] [(.asg 4 (.sub (.v 8) (.k (.int 0))))])]),
 (.ret (.v 4))] }
noncomputable def gO:Fn:={ nparams:=3,defaults:=[],slots:=[Str.ofString "view",Str.ofString "root",Str.ofString "path",Str.ofString "names",Str.ofString "folder"],body:=[
 (.asg 3 (.call 25 [(.v 2)])),
 (.iff (.bo false [(.cmp (.v 3) [.eq] [(.lst false [])]),(.cmp (.sub (.v 3) (.neg 1)) [.isin] [(.tup [(.k (.str [46])),(.k (.str [46,46]))])])]) [(.rse 3 (.bin .add (.k (.str [110,111,32,110,97,109,101,32,97,116,32,116,104,101,32,101,110,100,58,32])) (.v 2)))] []),
 (.asg 4 (.call 29 [(.v 0),(.v 1),(.bm .join (.k (.str [47])) [(.slc (.v 3) (.k .none) (.neg 1))]),(.k (.bool true))])),
 (.ex (.call 27 [(.v 0),(.v 4),(.v 2)])),
 (.ret (.tup [(.v 4),(.sub (.v 3) (.neg 1))]))] }
noncomputable def pO:Fn:={ nparams:=3,defaults:=[],slots:=[Str.ofString "view",Str.ofString "number",Str.ofString "other",Str.ofString "parent"],body:=[
 (.whl (.cmp (.v 1) [.ne] [(.v 2)]) [(.asg 3 (.attr (.call 24 [(.v 0),(.v 1)]) 6)),(.iff (.cmp (.v 3) [.eq] [(.v 1)]) [(.ret (.k (.bool false)))] []),(.asg 1 (.v 3))]),
 (.ret (.k (.bool true)))] }
noncomputable def vU:Fn:={ nparams:=12,defaults:=[(.int 16),(.int 32),(.int 32),(.int 4),(.int 4),(.int 4),(.int 2),(.int 128),(.int 192),(.int 160),(.int 128)],slots:=[Str.ofString "self",Str.ofString "sector",Str.ofString "slab",Str.ofString "record",Str.ofString "fan",Str.ofString "dnodes",Str.ofString "ring",Str.ofString "defer",Str.ofString "most_record",Str.ofString "uber",Str.ofString "config",Str.ofString "zap"],body:=[
 (.seta (.v 0) 16 (.v 1)),
 (.seta (.v 0) 17 (.v 2)),
 (.seta (.v 0) 18 (.v 3)),
 (.seta (.v 0) 19 (.v 4)),
 (.seta (.v 0) 14 (.v 5)),
 (.seta (.v 0) 20 (.v 6)),
 (.seta (.v 0) 21 (.v 7)),
 (.seta (.v 0) 22 (.v 8)),
 (.seta (.v 0) 23 (.v 9)),
 (.seta (.v 0) 24 (.v 10)),
 (.seta (.v 0) 25 (.v 11))] }
noncomputable def qZ:Fn:={ nparams:=2,defaults:=[],slots:=[Str.ofString "number",Str.ofString "to"],body:=[
 (.ret (.bin .mul (.bin .fdiv (.bin .sub (.bin .add (.v 0) (.v 1)) (.k (.int 1))) (.v 1)) (.v 1)))] }
noncomputable def kJ:Fn:={ nparams:=4,defaults:=[],slots:=[Str.ofString "self",Str.ofString "kind",Str.ofString "block",Str.ofString "bonus"],body:=[
 (.seta (.v 0) 9 (.v 1)),
 (.seta (.v 0) 10 (.v 2)),
 (.seta (.v 0) 11 (.neg 1)),
 (.seta (.v 0) 12 (.v 3))] }
noncomputable def vm:Fn:={ nparams:=2,defaults:=[],slots:=[Str.ofString "self",Str.ofString "shape"],body:=[
 (.seta (.v 0) 13 (.v 1)),
 (.seta (.v 0) 14 .emptyd),
 (.seta (.v 0) 0 .emptyd),
 (.seta (.v 0) 15 (.k (.int 0)))] }
noncomputable def iu:Fn:={ nparams:=2,defaults:=[],slots:=[Str.ofString "self",Str.ofString "number"],body:=[
 (.iff (.cmp (.v 1) [.notin] [(.attr (.v 0) 14)]) [(.rse 1 (.k (.str [110,111,32,115,117,99,104,32,111,98,106,101,99,116])))] []),
 (.ret (.sub (.attr (.v 0) 14) (.v 1)))] }
noncomputable def nR:Fn:={ nparams:=4,defaults:=[],slots:=[Str.ofString "self",Str.ofString "number",Str.ofString "at",Str.ofString "many",Str.ofString "found"],body:=[
 (.ex (.meth true (.v 0) 5 [(.v 1)])),
 (.iff (.bo false [(.cmp (.v 2) [.lt] [(.k (.int 0))]),(.cmp (.v 3) [.lt] [(.k (.int 0))])]) [.hole] []),
 (.asg 4 (.bi .bytes [(.slc (.sub (.attr (.v 0) 0) (.v 1)) (.v 2) (.bin .add (.v 2) (.v 3)))])),
 (.ret (.bin .add (.v 4) (.bi .bytes [(.bin .sub (.v 3) (.bi .len [(.v 4)]))])))] }
noncomputable def n7:Fn:={ nparams:=4,defaults:=[(.bytes [])],slots:=[Str.ofString "self",Str.ofString "kind",Str.ofString "block",Str.ofString "bonus"],body:=[
 (.iff (.bo false [(.cmp (.v 1) [.lt] [(.k (.int 1))]),(.cmp (.v 2) [.lt] [(.k (.int 1))])]) [.hole] []),
 (.seta (.v 0) 15 (.bin .add (.attr (.v 0) 15) (.k (.int 1)))),
 (.seti (.attr (.v 0) 14) (.attr (.v 0) 15) (.new false 4 [(.v 1),(.v 2),(.bi .bytes [(.v 3)])])),
 (.seti (.attr (.v 0) 0) (.attr (.v 0) 15) (.k (.bytes []))),
 (.ret (.attr (.v 0) 15))] }
noncomputable def n8:Fn:={ nparams:=3,defaults:=[],slots:=[Str.ofString "self",Str.ofString "number",Str.ofString "octets",Str.ofString "dnode",Str.ofString "whole"],body:=[
 (.asg 3 (.meth true (.v 0) 5 [(.v 1)])),
 (.asg 4 (.call 33 [(.bi .len [(.v 2)]),(.attr (.v 3) 10)])),
 (.seti (.attr (.v 0) 0) (.v 1) (.bin .add (.v 2) (.bi .bytes [(.bin .sub (.v 4) (.bi .len [(.v 2)]))]))),
 (.seta (.v 3) 11 (.bin .sub (.bin .fdiv (.v 4) (.attr (.v 3) 10)) (.k (.int 1))))] }
noncomputable def iw:Fn:={ nparams:=4,defaults:=[],slots:=[Str.ofString "self",Str.ofString "number",Str.ofString "at",Str.ofString "octets",Str.ofString "here"],body:=[
 (.ex (.meth true (.v 0) 5 [(.v 1)])),
 (.iff (.cmp (.v 2) [.lt] [(.k (.int 0))]) [.hole] []),
 (.iff (.cmp (.bi .len [(.v 3)]) [.gt] [(.k (.int 0))]) [(.asg 4 (.bin .add (.sub (.attr (.v 0) 0) (.v 1)) (.bi .bytes [(.bi .max [(.k (.int 0)),(.bin .sub (.v 2) (.bi .len [(.sub (.attr (.v 0) 0) (.v 1))]))])]))),(.ex (.meth true (.v 0) 8 [(.v 1),(.bin .add (.bin .add (.slc (.v 4) (.k .none) (.v 2)) (.bi .bytes [(.v 3)])) (.slc (.v 4) (.bin .add (.v 2) (.bi .len [(.v 3)])) (.k .none)))]))] [])] }
noncomputable def pP:Fn:={ nparams:=2,defaults:=[],slots:=[Str.ofString "script",Str.ofString "at"],body:=[
 (.ret (.ife (.cmp (.v 1) [.lt] [(.bi .len [(.v 0)])]) (.sub (.v 0) (.v 1)) (.bin .add (.bin .mul (.k (.int 11)) (.v 1)) (.k (.int 2)))))] }
noncomputable def pQ:Fn:={ nparams:=2,defaults:=[],slots:=[Str.ofString "x",Str.ofString "most",Str.ofString "parts",Str.ofString "y",Str.ofString "turn"],body:=[
 (.asgt [2,3] (.tup [(.lst true []),(.bin .fdiv (.bin .fdiv (.v 0) (.k (.int 2))) (.v 1))])),
 (.fr (.n 4) .rng (.bin .mod (.bin .fdiv (.v 0) (.k (.int 2))) (.v 1)) [(.ex (.bm .append (.v 2) [(.sub (.lst false [(.k (.str [97])),(.k (.str [98])),(.k (.str [99])),(.k (.str [46,46])),(.k (.str [46])),(.k (.str [])),(.k (.str [97])),(.k (.str [98]))]) (.bin .mod (.v 3) (.k (.int 8))))])),(.asg 3 (.bin .fdiv (.v 3) (.k (.int 8))))]),
 (.ret (.bin .add (.ife (.cmp (.bin .mod (.v 0) (.k (.int 2))) [.eq] [(.k (.int 1))]) (.k (.str [47])) (.k (.str []))) (.bm .join (.k (.str [47])) [(.v 2)])))] }
noncomputable def pR:Fn:={ nparams:=1,defaults:=[],slots:=[Str.ofString "script",Str.ofString "rows",Str.ofString "k",Str.ofString "x",Str.ofString "folders",Str.ofString "sort",Str.ofString "name",Str.ofString "folder"],body:=[
 (.asg 1 (.lst true [(.tup [(.k (.int 1)),(.k (.int 0)),(.k (.str [])),(.k (.str []))])])),
 (.fr (.n 2) .rng (.k (.int 8)) [(.asg 3 (.call 41 [(.v 0),(.v 2)])),(.asg 4 (.comp [Str.ofString "at",Str.ofString "row"] [] (.tu [0,1]) (.v 0) .enum (.v 1) [(.cmp (.sub (.v 1) (.k (.int 0))) [.eq] [(.k (.int 1))])])),(.asgt [5,6] (.tup [(.sub (.lst false [(.k (.int 1)),(.k (.int 2)),(.k (.int 2)),(.k (.int 0)),(.k (.int 1))]) (.bin .mod (.v 3) (.k (.int 5)))),(.sub (.lst false [(.k (.str [97])),(.k (.str [98])),(.k (.str [99]))]) (.bin .mod (.bin .fdiv (.v 3) (.k (.int 5))) (.k (.int 3))))])),(.asg 7 (.sub (.v 4) (.bin .mod (.bin .fdiv (.v 3) (.k (.int 15))) (.bi .len [(.v 4)])))),(.iff (.cmp (.call 44 [(.v 1),(.v 7),(.v 6)]) [.is] [(.k .none)]) [(.ex (.bm .append (.v 1) [(.tup [(.v 5),(.v 7),(.v 6),(.ife (.cmp (.v 5) [.eq] [(.k (.int 2))]) (.call 42 [(.bin .fdiv (.v 3) (.k (.int 60))),(.k (.int 3))]) (.k (.str [])))])]))] [])]),
 (.ret (.v 1))] }
noncomputable def oh:Fn:={ nparams:=3,defaults:=[],slots:=[Str.ofString "rows",Str.ofString "folder",Str.ofString "name",Str.ofString "found"],body:=[
 (.asg 3 (.comp [Str.ofString "at",Str.ofString "row"] [1,2] (.tu [0,1]) (.v 0) .enum (.v 0) [(.bo true [(.cmp (.v 0) [.gt] [(.k (.int 0))]),(.cmp (.sub (.v 1) (.k (.int 1))) [.eq] [(.v 2)]),(.cmp (.sub (.v 1) (.k (.int 2))) [.eq] [(.v 3)])])])),
 (.ret (.ife (.cmp (.v 3) [.ne] [(.lst false [])]) (.sub (.v 3) (.k (.int 0))) (.k .none)))] }
noncomputable def pU:Fn:={ nparams:=1,defaults:=[],slots:=[Str.ofString "rows",Str.ofString "view",Str.ofString "sort",Str.ofString "folder",Str.ofString "name",Str.ofString "text",Str.ofString "bonus",Str.ofString "at",Str.ofString "row",Str.ofString "own"],body:=[
 (.asg 1 (.new false 5 [(.new true 3 [])])),
 (.fr (.tu [2,3,4,5]) .of (.v 0) [(.asg 6 (.call 22 [(.new true 2 [(.v 2),(.k (.int 420)),(.bi .len [(.v 5)]),(.k (.int 1)),(.bin .add (.v 3) (.k (.int 1))),(.k (.int 1)),(.k (.int 1))])])),(.ex (.meth true (.v 1) 7 [(.ife (.cmp (.v 2) [.eq] [(.k (.int 1))]) (.g (Str.ofString "FOLDER") 9) (.g (Str.ofString "FILE") 8)),(.k (.int 128)),(.v 6)]))]),
 (.fr (.tu [7,8]) .enum (.v 0) [(.iff (.cmp (.sub (.v 8) (.k (.int 0))) [.eq] [(.k (.int 1))]) [(.asg 9 (.comp [Str.ofString "k",Str.ofString "one"] [7] (.tu [0,1]) (.tup [(.sub (.v 1) (.k (.int 2))),(.bin .add (.bin .mul (.k (.int 4)) (.bin .add (.v 0) (.k (.int 1)))) (.sub (.v 1) (.k (.int 0))))]) .enum (.v 0) [(.bo true [(.cmp (.v 0) [.gt] [(.k (.int 0))]),(.cmp (.sub (.v 1) (.k (.int 1))) [.eq] [(.v 2)])])])),(.ex (.meth true (.v 1) 9 [(.bin .add (.v 7) (.k (.int 1))),(.k (.int 0)),(.call 14 [(.k (.int 9)),(.bi .sorted [(.v 9)]),(.k (.int 128))])]))] [(.ex (.meth true (.v 1) 9 [(.bin .add (.v 7) (.k (.int 1))),(.k (.int 0)),(.bi .bytes [(.comp [Str.ofString "sign"] [] (.n 0) (.bi .ord [(.v 0)]) .of (.sub (.v 8) (.k (.int 3))) [])])]))])]),
 (.ret (.v 1))] }
noncomputable def kO:Fn:={ nparams:=5,defaults:=[],slots:=[Str.ofString "rows",Str.ofString "here",Str.ofString "path",Str.ofString "follows",Str.ofString "many",Str.ofString "parts",Str.ofString "k",Str.ofString "part",Str.ofString "child"],body:=[
 (.asgt [1,5] (.tup [(.ife (.cmp (.slc (.v 2) (.k .none) (.k (.int 1))) [.eq] [(.k (.str [47]))]) (.k (.int 0)) (.v 1)),(.comp [Str.ofString "part"] [] (.n 0) (.v 0) .of (.bm .split (.v 2) [(.k (.str [47]))]) [(.cmp (.v 0) [.ne] [(.k (.str []))])])])),
 (.fr (.tu [6,7]) .enum (.v 5) [(.iff (.cmp (.sub (.sub (.v 0) (.v 1)) (.k (.int 0))) [.ne] [(.k (.int 1))]) [(.ret (.tup [(.k (.str [110,111,32,102,111,108,100,101,114])),(.v 4)]))] []),(.iff (.cmp (.v 7) [.eq] [(.k (.str [46,46]))]) [(.asg 1 (.sub (.sub (.v 0) (.v 1)) (.k (.int 1))))] [(.iff (.cmp (.v 7) [.ne] [(.k (.str [46]))]) [(.asg 8 (.call 44 [(.v 0),(.v 1),(.v 7)])),(.iff (.cmp (.v 8) [.is] [(.k .none)]) [(.ret (.tup [(.k (.str [109,105,115,115,105,110,103])),(.v 4)]))] []),(.iff (.bo true [(.cmp (.sub (.sub (.v 0) (.v 8)) (.k (.int 0))) [.eq] [(.k (.int 2))]),(.bo false [(.v 3),(.cmp (.bin .add (.v 6) (.k (.int 1))) [.lt] [(.bi .len [(.v 5)])])])]) [(.asg 4 (.bin .add (.v 4) (.k (.int 1)))),(.iff (.cmp (.v 4) [.gt] [(.k (.int 8))]) [(.ret (.tup [(.k (.str [108,111,111,112,115])),(.v 4)]))] []),(.asgt [8,4] (.call 46 [(.v 0),(.v 1),(.sub (.sub (.v 0) (.v 8)) (.k (.int 3))),(.k (.bool true)),(.v 4)])),(.iff (.bi .isstr [(.v 8)]) [(.ret (.tup [(.v 8),(.v 4)]))] [])] []),(.asg 1 (.v 8))] [])])]),
 (.ret (.tup [(.v 1),(.v 4)]))] }
noncomputable def q7:Fn:={ nparams:=3,defaults:=[],slots:=[Str.ofString "rows",Str.ofString "path",Str.ofString "follows",Str.ofString "found"],body:=[
 (.asg 3 (.sub (.call 46 [(.v 0),(.k (.int 0)),(.v 1),(.v 2),(.k (.int 0))]) (.k (.int 0)))),
 (.ret (.ife (.bi .isstr [(.v 3)]) (.v 3) (.bin .add (.v 3) (.k (.int 1)))))] }
noncomputable def jT:Fn:={ nparams:=2,defaults:=[],slots:=[Str.ofString "rows",Str.ofString "path",Str.ofString "parts",Str.ofString "found"],body:=[
 (.asg 2 (.comp [Str.ofString "part"] [] (.n 0) (.v 0) .of (.bm .split (.v 1) [(.k (.str [47]))]) [(.cmp (.v 0) [.ne] [(.k (.str []))])])),
 (.iff (.bo false [(.cmp (.v 2) [.eq] [(.lst false [])]),(.cmp (.sub (.v 2) (.neg 1)) [.isin] [(.tup [(.k (.str [46,46])),(.k (.str [46]))])])]) [(.ret (.k (.str [112,97,116,104])))] []),
 (.asg 3 (.sub (.call 46 [(.v 0),(.k (.int 0)),(.bm .join (.k (.str [47])) [(.slc (.v 2) (.k .none) (.neg 1))]),(.k (.bool true)),(.k (.int 0))]) (.k (.int 0)))),
 (.iff (.bi .isstr [(.v 3)]) [(.ret (.v 3))] []),
 (.ret (.ife (.cmp (.sub (.sub (.v 0) (.v 3)) (.k (.int 0))) [.eq] [(.k (.int 1))]) (.tup [(.bin .add (.v 3) (.k (.int 1))),(.sub (.v 2) (.neg 1))]) (.k (.str [110,111,32,102,111,108,100,101,114]))))] }
noncomputable def jB:Fn:={ nparams:=4,defaults:=[],slots:=[Str.ofString "view",Str.ofString "rows",Str.ofString "path",Str.ofString "further",Str.ofString "follows",Str.ofString "first",Str.ofString "many",Str.ofString "due"],body:=[
 (.fr (.n 4) .of (.tup [(.k (.bool true)),(.k (.bool false))]) [(.iff (.cmp (.tried [0,2,4] (.call 29 [(.v 0),(.k (.int 1)),(.v 1),(.v 2)])) [.ne] [(.call 47 [(.v 1),(.v 2),(.v 4)])]) [(.ret (.k (.bool false)))] [])]),
 (.iff (.cmp (.tried [0,2] (.call 30 [(.v 0),(.k (.int 1)),(.v 1)])) [.ne] [(.call 48 [(.v 1),(.v 2)])]) [(.ret (.k (.bool false)))] []),
 (.asgt [5,6] (.call 46 [(.v 1),(.k (.int 0)),(.v 2),(.k (.bool true)),(.k (.int 0))])),
 (.iff (.bo false [(.bi .isstr [(.v 5)]),(.cmp (.slc (.v 3) (.k .none) (.k (.int 1))) [.eq] [(.k (.str [47]))])]) [(.ret (.k (.bool true)))] []),
 (.asg 7 (.sub (.call 46 [(.v 1),(.v 5),(.v 3),(.k (.bool false)),(.v 6)]) (.k (.int 0)))),
 (.ret (.bo false [(.cmp (.tried [0,2,3] (.call 29 [(.v 0),(.k (.int 1)),(.bin .add (.bin .add (.v 1) (.k (.str [47]))) (.v 2)),(.k (.bool false))])) [.eq] [(.ife (.bi .isstr [(.v 7)]) (.v 7) (.bin .add (.v 7) (.k (.int 1))))]),(.cmp (.comp [Str.ofString "part"] [] (.n 0) (.v 0) .of (.bm .split (.v 3) [(.k (.str [47]))]) [(.cmp (.v 0) [.ne] [(.k (.str []))])]) [.eq] [(.lst false [])])]))] }
noncomputable def Jt:Fn:={ nparams:=1,defaults:=[],slots:=[Str.ofString "script",Str.ofString "rows",Str.ofString "view",Str.ofString "folders",Str.ofString "at",Str.ofString "up",Str.ofString "here"],body:=[
 (.asg 0 (.slc (.v 0) (.k .none) (.k (.int 63)))),
 (.asg 1 (.call 43 [(.v 0)])),
 (.asg 2 (.call 45 [(.v 1)])),
 (.iff (.not (.calls 49 [(.v 2),(.v 1),(.call 42 [(.call 41 [(.v 0),(.k (.int 8))]),(.k (.int 5))]),(.call 42 [(.call 41 [(.v 0),(.k (.int 9))]),(.k (.int 4))])])) [(.ret (.k (.bool false)))] []),
 (.iff (.cmp (.comp [Str.ofString "at",Str.ofString "row"] [2] (.tu [0,1]) (.call 26 [(.v 2),(.bin .add (.v 0) (.k (.int 1)))]) .enum (.v 1) [(.cmp (.sub (.v 1) (.k (.int 0))) [.eq] [(.k (.int 2))])]) [.ne] [(.comp [Str.ofString "row"] [] (.n 0) (.sub (.v 0) (.k (.int 3))) .of (.v 1) [(.cmp (.sub (.v 0) (.k (.int 0))) [.eq] [(.k (.int 2))])])]) [(.ret (.k (.bool false)))] []),
 (.asgt [3,4,5] (.tup [(.comp [Str.ofString "at",Str.ofString "row"] [] (.tu [0,1]) (.v 0) .enum (.v 1) [(.cmp (.sub (.v 1) (.k (.int 0))) [.eq] [(.k (.int 1))])]),(.bin .mod (.call 41 [(.v 0),(.k (.int 10))]) (.bi .len [(.v 1)])),(.lst true [(.k (.int 0))])])),
 (.asg 6 (.v 4)),
 (.whl (.cmp (.v 6) [.gt] [(.k (.int 0))]) [(.ex (.bm .append (.v 5) [(.v 6)])),(.asg 6 (.sub (.sub (.v 1) (.v 6)) (.k (.int 1))))]),
 (.ret (.cmp (.comp [Str.ofString "other"] [2,4] (.n 0) (.call 31 [(.v 1),(.bin .add (.v 2) (.k (.int 1))),(.bin .add (.v 0) (.k (.int 1)))]) .of (.v 3) []) [.eq] [(.comp [Str.ofString "other"] [5] (.n 0) (.cmp (.v 0) [.isin] [(.v 1)]) .of (.v 3) [])]))] }
noncomputable def M8:List Fn:=[yj,yl,vf,vg,ym,nH,pN,nY,vh,nJ,nM,kI,nO,vQ,lL,nZ,uv,nP,qT,qU,uw,vR,lM,qW,n6,qX,nQ,jo,qY,qd,gO,pO,vU,qZ,kJ,vm,iu,nR,n7,n8,iw,pP,pQ,pR,oh,pU,kO,q7,jT,jB,Jt]
noncomputable def fns (f:Nat):Option Fn:=M8[f]?
noncomputable def Ju:List Nat:=[4,8,21,32,34,35]
noncomputable def inits (C:Nat):Option Nat:=Ju[C]?
noncomputable def zP:List (List (Option Nat)):=[[some 5,some 6,some 7],[some 11,some 12,none,some 9,some 10],[],[],[],[none,none,none,none,none,some 36,some 37,some 38,some 39,some 40]]
noncomputable def methsOf (C m:Nat):Option Nat:=(zP[C]?).bind fun l=>(l[m]?).bind id
noncomputable def PR:Prog:={ fns:=fns,init:=inits,meths:=methsOf }
end Mine
end
namespace Mine
open PySem PySem.W PyProof.Rows PySem.Calls
section
noncomputable abbrev Cel:=List (Addr×Addr)
noncomputable abbrev Phi:=Addr→Option Obj
noncomputable def off (S:List Addr) (h:Heap):Phi:=fun a=>if a∈S then none else h.get? a
theorem aA {S:List Addr} {h:Heap} {a:Addr} {o:Obj}:off S h a=some o↔a∉S∧h.get? a=some o:=by
 unfold off;split<;>simp_all
theorem QR {h:Heap}:off [] h=h.get?:=by funext a;simp [off]
structure Tabs where
 ca:Nat→Addr
 fld:Nat→Str
 ea:Nat→Addr
 fa:Nat→Addr
 mn:Nat→Str
 tabP:Addr
 lc:Addr
 lq:Str
noncomputable def lN (φ:Phi) (a:Addr) (vs:List Value):Prop:=∃ o,φ a=some o∧o.cls=.type "list"∧∃ n,o.data=.seq vs.toArray n
noncomputable def TupAt (φ:Phi) (a:Addr) (vs:List Value):Prop:=∃ o,φ a=some o∧o.cls=.type "tuple"∧∃ n,o.data=.seq vs.toArray n
noncomputable def ou (φ:Phi) (a:Addr) (f:Int→Option Value):Prop:=∃ o es ep,φ a=some o∧o.cls=.type "dict"∧o.data=.dict es ep∧PySem.IntKeys es∧∀ k,findBy Value.isInt es k=f k
noncomputable def gr (ps:List (Int×Value)) (k:Int):Option Value:=(ps.find? (·.1 == k)).map (·.2)
noncomputable def J4 (b:List Nat) (v:Value):Prop:=∃ t,v=.bytes (b.map fun n=>UInt8.ofNat n).toArray t∧∀ n∈b,n < 256
noncomputable def PB (s:List Nat) (v:Value):Prop:=∃ t,v=.str ⟨s.toArray⟩ t∧∀ c∈s,c < 1114112
section
variable (T:Tabs) (φ:Phi) (ι:Cel)
mutual
noncomputable def au:AV→Value→Prop
 | .none,v=>v=.none
 | .bool b,v=>v=.bool b
 | .int i,v=>∃ t,v=.int i t
 | .str s,v=>PB s v
 | .bytes b,v=>J4 b v
 | .tuple xs,v=>∃ a vs,v=.ref a∧TupAt φ a vs∧aH xs vs
 | .list xs,v=>∃ a vs,v=.ref a∧lN φ a vs∧aH xs vs
 | .inst C fs,v=>∃ a d es n,v=.ref a∧φ a=some (instObj (T.ca C) d)∧φ d=some (dictOf es n)∧eG fs es
 | .dict es,v=>∃ a ps,v=.ref a∧ou φ a (gr ps)∧fG es ps
 | .loc i,v=>∃ a c,ι[i]?=some (a,c)∧v=.ref a
noncomputable def aH:List AV→List Value→Prop
 | [],vs=>vs=[]
 | x :: xs,vs=>∃ v r,vs=v :: r∧au x v∧aH xs r
noncomputable def eG:List (Nat×AV)→List DictEntry→Prop
 | [],es=>es=[]
 | p :: fs,es=>∃ e r,es=e :: r∧(∃ t,e.key=.str (T.fld p.1) t)∧au p.2 e.val∧eG fs r
noncomputable def fG:List (Int×AV)→List (Int×Value)→Prop
 | [],ps=>ps=[]
 | p :: es,ps=>∃ q r,ps=q :: r∧q.1=p.1∧au p.2 q.2∧fG es r
end
end
section
variable {T:Tabs} {φ φ':Phi} {ι ι':Cel}
theorem lN.mono (hφ:∀ a o,φ a=some o→φ' a=some o) {a:Addr} {vs:List Value} (x:lN φ a vs):lN φ' a vs:=let ⟨o,e,r⟩:=x;⟨o,hφ _ _ e,r⟩
theorem TupAt.mono (hφ:∀ a o,φ a=some o→φ' a=some o) {a:Addr} {vs:List Value} (x:TupAt φ a vs):TupAt φ' a vs:=let ⟨o,e,r⟩:=x;⟨o,hφ _ _ e,r⟩
theorem ou.mono (hφ:∀ a o,φ a=some o→φ' a=some o) {a:Addr} {f:Int→Option Value} (x:ou φ a f):ou φ' a f:=by refine o31 x fun o es ep e r=>?_;exact ⟨o,es,ep,hφ _ _ e,r⟩
mutual
theorem au.mono (hφ:∀ a o,φ a=some o→φ' a=some o) (hι:∀ (i:Nat) p,ι[i]?=some p→ι'[i]?=some p) (x:AV) {v:Value} (h:au T φ ι x v):au T φ' ι' x v:=by
 cases x with
 | tuple xs=>refine o22 h fun a vs e t r=>?_;exact ⟨a,vs,e,t.mono hφ,aH.mono hφ hι xs r⟩
 | list xs=>refine o22 h fun a vs e t r=>?_;exact ⟨a,vs,e,t.mono hφ,aH.mono hφ hι xs r⟩
 | inst _ fs=>refine o43 h fun a d es n e h1 h2 r=>?_;exact ⟨a,d,es,n,e,hφ _ _ h1,hφ _ _ h2,eG.mono hφ hι fs r⟩
 | dict es=>refine o22 h fun a ps e t r=>?_;exact ⟨a,ps,e,t.mono hφ,fG.mono hφ hι es r⟩
 | loc i=>refine o21 h fun a c e h=>?_;exact ⟨a,c,hι _ _ e,h⟩
 | _=>exact h
theorem aH.mono (hφ:∀ a o,φ a=some o→φ' a=some o) (hι:∀ (i:Nat) p,ι[i]?=some p→ι'[i]?=some p) (xs:List AV) {vs:List Value} (h:aH T φ ι xs vs):aH T φ' ι' xs vs:=by
 cases xs with
 | nil=>exact h
 | cons x xs=>refine o22 h fun v r e h1 h2=>?_;exact ⟨v,r,e,au.mono hφ hι x h1,aH.mono hφ hι xs h2⟩
theorem eG.mono (hφ:∀ a o,φ a=some o→φ' a=some o) (hι:∀ (i:Nat) p,ι[i]?=some p→ι'[i]?=some p) (fs:List (Nat×AV)) {es:List DictEntry} (h:eG T φ ι fs es):eG T φ' ι' fs es:=by
 cases fs with
 | nil=>exact h
 | cons p fs=>refine o23 h fun e r h0 h1 h2 h3=>?_;exact ⟨e,r,h0,h1,au.mono hφ hι p.2 h2,eG.mono hφ hι fs h3⟩
theorem fG.mono (hφ:∀ a o,φ a=some o→φ' a=some o) (hι:∀ (i:Nat) p,ι[i]?=some p→ι'[i]?=some p) (es:List (Int×AV)) {ps:List (Int×Value)} (h:fG T φ ι es ps):fG T φ' ι' es ps:=by
 cases es with
 | nil=>exact h
 | cons p es=>refine o23 h fun q r h0 h1 h2 h3=>?_;exact ⟨q,r,h0,h1,au.mono hφ hι p.2 h2,fG.mono hφ hι es h3⟩
end
theorem aH.length {xs:List AV} {vs:List Value} (h:aH T φ ι xs vs):vs.length=xs.length:=by
 induction xs generalizing vs with
 | nil=>refine re (show vs=[] from h) ?_;rfl
 | cons x xs ih=>obtain ⟨_,_,e,_,h⟩:=h;subst e;exact congrArg (· + 1) (ih h)
theorem aH.get {xs:List AV} {vs:List Value} (h:aH T φ ι xs vs) {i:Nat} {x:AV} (e:xs[i]?=some x):∃ v,vs[i]?=some v∧au T φ ι x v:=by
 induction xs generalizing vs i with
 | nil=>exact nomatch (List.getElem?_nil.symm.trans e)
 | cons y xs ih =>
   refine o22 h fun v r e0 h1 h2=>?_
   subst e0
   cases i with
   | zero=>cases e;exact ⟨v,rfl,h1⟩
   | succ i=>exact ih h2 e
theorem aH.append {xs ys:List AV} {vs ws:List Value} (h:aH T φ ι xs vs) (k:aH T φ ι ys ws):aH T φ ι (xs++ys) (vs++ws):=by
 induction xs generalizing vs with
 | nil=>refine re (show vs=[] from h) ?_;exact k
 | cons x xs ih=>refine o22 h fun v r e h1 h2=>?_;subst e;exact ⟨v,_,rfl,h1,ih h2⟩
theorem aH.take (n:Nat) {xs:List AV} {vs:List Value} (h:aH T φ ι xs vs):aH T φ ι (xs.take n) (vs.take n):=by
 induction n generalizing xs vs with
 | zero=>exact rfl
 | succ n ih =>
   cases xs with
   | nil=>refine re (show vs=[] from h) ?_;exact rfl
   | cons x xs=>refine o22 h fun v r e h1 h2=>?_;subst e;exact ⟨v,_,rfl,h1,ih h2⟩
theorem aH.drop (n:Nat) {xs:List AV} {vs:List Value} (h:aH T φ ι xs vs):aH T φ ι (xs.drop n) (vs.drop n):=by
 induction n generalizing xs vs with
 | zero=>exact h
 | succ n ih =>
   cases xs with
   | nil=>refine re (show vs=[] from h) ?_;exact rfl
   | cons x xs=>refine o22 h fun v r e h1 h2=>?_;subst e;exact ih h2
noncomputable def q8 (φ:Phi) (cv:Value) (q:Str):Prop:=∃ c oc vs tq,cv=.ref c∧φ c=some oc∧oc.data=.fields vs∧vs[1]?=some (.str q tq)
theorem q8.mono {φ φ':Phi} {cv:Value} {q:Str} (x:q8 φ cv q) (hφ:∀ a o,φ a=some o→φ' a=some o):q8 φ' cv q:=by refine o42 x fun c oc vs tq e h r=>?_;exact ⟨c,oc,vs,tq,e,hφ _ _ h,r⟩
noncomputable def qe (T:Tabs) (φ:Phi) (ι:Cel) (h:Heap) (p:Addr×Addr):MO→Prop
 | .list xs=>p.1=p.2∧∃ vs,h.PlainList p.2 vs.toArray∧aH T φ ι xs vs
 | .barr b=>p.1=p.2∧h.get? p.2=some { cls:=.type "bytearray",data:=.bytearray (b.map fun n=>UInt8.ofNat n).toArray 0 }∧∀ n∈b,n < 256
 | .inst C fs=>φ p.1=some (instObj (T.ca C) p.2)∧∃ es n,h.get? p.2=some (dictOf es n)∧eG T φ ι fs es
 | .dict n es=>p.1=p.2∧∃ ps,ou h.get? p.2 (gr ps)∧fG T φ ι es ps∧h.DictLe p.2 n
 | .tab=>p.1=p.2∧p.2=T.tabP∧∃ ps,h.get? p.2=some (tabObj ps)∧TriplesOk ps.toList∧∀ pos cv,codeAmong pos ps.toList=some cv→q8 φ cv T.lq
noncomputable def cells (ι:Cel):List Addr:=ι.map (·.2)
end
noncomputable def frs (l:List PySem.Env):List Addr:=l.filterMap (·.frame)
theorem jL {l:List PySem.Env} {a:Addr} (h:a∈frs l):∃ env∈l,env.frame=some a:=List.mem_filterMap.mp h
structure Rel (T:Tabs) (B:Heap) (l:List PySem.Env) (S:List Addr) (ι:Cel) (σ:Sig) (h:Heap):Prop where
 base:∀ a o,B.get? a=some o→h.get? a=some o
 bS:∀ a∈S,B.get? a=none
 live:∀ a∈S,∃ o,h.get? a=some o
 sub:∀ a∈cells ι,a∈S
 nodup:(cells ι).Nodup
 len:ι.length=σ.length
 obj:∀ (i:Nat) p m,ι[i]?=some p→σ[i]?=some m→qe T (off S h) ι h p m
 stk:∀ env∈l,env.scope.kind≠.module∧∃ L m,env.frame=some L∧L∈S∧L∉cells ι∧h.Ns L m
theorem Rel.frS {T:Tabs} {B:Heap} {l:List PySem.Env} {S:List Addr} {ι:Cel} {σ:Sig} {h:Heap} (R:Rel T B l S ι σ h) {a:Addr} (m:a∈frs l):a∈S∧a∉cells ι:=by
 refine o11 (jL m) fun env he hf=>?_
 obtain ⟨_,L,m,hL,h1,h2,_⟩:=R.stk env he
 rw [hf] at hL
 cases hL
 exact ⟨h1,h2⟩
structure Go (l:List PySem.Env) (W S:List Addr) (ι:Cel) (h:Heap) (S':List Addr) (ι':Cel) (h':Heap):Prop where
 step:∀ a o,h.get? a=some o→a∉cells ι→a∉W→a∉frs l→h'.get? a=some o
 frm:∀ a m,h.Ns a m→a∈frs l→a∉W→h'.Ns a m
 alive:∀ a o,h.get? a=some o→∃ o',h'.get? a=some o'
 pre:∀ (i:Nat) p,ι[i]?=some p→ι'[i]?=some p
 sub:∀ a∈S,a∈S'
 new:∀ a∈S',a∉S→h.get? a=none
 cel:∀ a∈cells ι',a∉cells ι→h.get? a=none
theorem none_of {h:Heap} {a:Addr} (k:∀ o,h.get? a=some o→False):h.get? a=none:=by
 cases e:h.get? a with
 | none=>rfl
 | some o=>exact (k o e).elim
theorem Go.back {l:List PySem.Env} {W S S':List Addr} {ι ι':Cel} {h h':Heap} (x:Go l W S ι h S' ι' h') {a:Addr} (e:h'.get? a=none):h.get? a=none :=
 none_of fun o q=>let ⟨_,q'⟩:=x.alive a o q;by rw [e] at q';cases q'
theorem Go.refl (l:List PySem.Env) (W S:List Addr) (ι:Cel) (h:Heap):Go l W S ι h S ι h:=⟨fun _ _ e _ _ _=>e,fun _ _ e _ _=>e,fun _ o e=>⟨o,e⟩,fun _ _ e=>e,fun _ m=>m,fun _ m n=>absurd m n,fun _ m n=>absurd m n⟩
theorem Go.trans {l:List PySem.Env} {W S S₁ S₂:List Addr} {ι ι₁ ι₂:Cel} {h h₁ h₂:Heap} (x:Go l W S ι h S₁ ι₁ h₁) (y:Go l W S₁ ι₁ h₁ S₂ ι₂ h₂):Go l W S ι h S₂ ι₂ h₂ where
 step:=fun a o e n w f=>y.step a o (x.step a o e n w f) (fun m=>by rw [x.cel a m n] at e;cases e) w f
 frm:=fun a o e m w=>y.frm a o (x.frm a o e m w) m w
 alive:=fun a o e=>let ⟨o',e'⟩:=x.alive a o e;y.alive a o' e'
 pre:=fun i p e=>y.pre i p (x.pre i p e)
 sub:=fun a m=>y.sub a (x.sub a m)
 new:=fun a m n=>by
   by_cases q:a∈S₁
   · exact x.new a q n
   · exact x.back (y.new a m q)
 cel:=fun a m n=>by
   by_cases q:a∈cells ι₁
   · exact x.cel a q n
   · exact x.back (y.cel a m q)
theorem Go.wide {l:List PySem.Env} {W S S':List Addr} {ι ι':Cel} {h h':Heap} (x:Go l [] S ι h S' ι' h'):Go l W S ι h S' ι' h' :=
 ⟨fun a o e n _ f=>x.step a o e n (by simp) f,fun a o e m _=>x.frm a o e m (by simp),x.alive,x.pre,x.sub,x.new,x.cel⟩
theorem Go.phi {l:List PySem.Env} {W S S':List Addr} {ι ι':Cel} {h h':Heap} (x:Go l W S ι h S' ι' h') (hs:∀ a,a∈cells ι∨a∈W∨a∈frs l→a∈S):∀ a o,off S h a=some o→off S' h' a=some o:=fun a o e=>by
 refine o01 (aA.mp e) fun n e=>?_
 refine aA.mpr ⟨fun m=>?_,x.step a o e (fun m=>n (hs a (.inl m))) (fun m=>n (hs a (.inr (.inl m)))) fun m=>n (hs a (.inr (.inr m)))⟩
 rw [x.new a m n] at e;cases e
section
variable {T:Tabs} {B:Heap} {l:List PySem.Env} {S S' W:List Addr} {ι ι':Cel} {σ:Sig} {h h':Heap}
theorem Rel.in0 (R:Rel T B l S ι σ h):∀ a,a∈cells ι∨a∈([]:List Addr)∨a∈frs l→a∈S:=fun a m=>by
 rcases m with m | m | m
 · exact R.sub a m
 · cases m
 · exact (R.frS m).1
theorem Rel.inW (R:Rel T B l S ι σ h) (hW:∀ a∈W,a∈S):∀ a,a∈cells ι∨a∈W∨a∈frs l→a∈S:=fun a m=>by
 rcases m with m | m | m
 · exact R.sub a m
 · exact hW a m
 · exact (R.frS m).1
theorem Go.rep (x:Go l [] S ι h S' ι' h') (R:Rel T B l S ι σ h) {a:AV} {v:Value} (r:au T (off S h) ι a v):au T (off S' h') ι' a v:=r.mono (x.phi R.in0) x.pre
theorem Go.repL (x:Go l [] S ι h S' ι' h') (R:Rel T B l S ι σ h) {a:List AV} {v:List Value} (r:aH T (off S h) ι a v):aH T (off S' h') ι' a v:=r.mono (x.phi R.in0) x.pre
end
noncomputable abbrev dX (h h':Heap):Prop:=∀ a o,h.get? a=some o→h'.get? a=some o
theorem dX.phi {h h':Heap} {S:List Addr} (k:dX h h'):∀ a o,off S h a=some o→off S h' a=some o:=fun a o e=>by
 refine o01 (aA.mp e) fun n e=>?_;exact aA.mpr ⟨n,k a o e⟩
section
variable {T:Tabs}
theorem qe.keep {h h':Heap} {S S':List Addr} {ι ι':Cel} {p:Addr×Addr} {m:MO} (kp:∀ a o,off S h a=some o→off S' h' a=some o) (ki:∀ (i:Nat) q,ι[i]?=some q→ι'[i]?=some q)
   (kc:∀ o,h.get? p.2=some o→h'.get? p.2=some o) (r:qe T (off S h) ι h p m):qe T (off S' h') ι' h' p m:=by
 cases m with
 | list xs=>obtain ⟨e,vs,⟨o,ho⟩,r⟩:=r;exact ⟨e,vs,⟨o,kc _ ho⟩,r.mono kp ki⟩
 | barr b=>obtain ⟨e,o,r⟩:=r;exact ⟨e,kc _ o,r⟩
 | inst C fs=>obtain ⟨e,es,n,o,r⟩:=r;exact ⟨kp _ _ e,es,n,kc _ o,r.mono kp ki⟩
 | dict n es =>
   obtain ⟨e,ps,⟨o,es',ep,ho,x⟩,r,d⟩:=r
   exact ⟨e,ps,⟨o,es',ep,kc _ ho,x⟩,r.mono kp ki,d.of_same ho (kc _ ho)⟩
 | tab=>obtain ⟨e,e2,ps,ho,ht,x⟩:=r;exact ⟨e,e2,ps,kc _ ho,ht,fun pos cv q=>(x pos cv q).mono kp⟩
theorem cN {ι:Cel} {i:Nat} {p:Addr×Addr} (e:ι[i]?=some p):p.2∈cells ι:=List.mem_map_of_mem (List.mem_of_getElem? e)
theorem Rel.grow {B h h':Heap} {l:List PySem.Env} {S:List Addr} {ι:Cel} {σ:Sig} (x:Rel T B l S ι σ h) (k:dX h h'):Rel T B l S ι σ h' where
 base:=fun a o e=>k a o (x.base a o e)
 bS:=x.bS
 live:=fun a m=>(x.live a m).imp fun o e=>k a o e
 sub:=x.sub
 nodup:=x.nodup
 len:=x.len
 obj:=fun i p m e1 e2=>(x.obj i p m e1 e2).keep k.phi (fun _ _ e=>e) (k _)
 stk:=fun env he=>by obtain ⟨h1,L,m,h2,h3,h4,h5⟩:=x.stk env he;exact ⟨h1,L,m,h2,h3,h4,h5.keeps k⟩
theorem Go.grow {h h':Heap} (l:List PySem.Env) (W S:List Addr) (ι:Cel) (k:dX h h'):Go l W S ι h S ι h' :=
 ⟨fun a o e _ _ _=>k a o e,fun a m e _ _=>e.keeps k,fun a o e=>⟨o,k a o e⟩,fun _ _ e=>e,fun _ m=>m,fun _ m n=>absurd m n,fun _ m n=>absurd m n⟩
structure Fly (T:Tabs) (N:List Addr) (hr h:Heap) (e:Addr) (c:Nat):Prop where
 keep:∀ a o,hr.get? a=some o→a∉N→h.get? a=some o
 frm:∀ a m,hr.Ns a m→a∈N→h.Ns a m
 isNs:∀ a∈N,∃ m,hr.Ns a m
 new:hr.get? e=none
 exc:∃ oe vs,h.get? e=some oe∧oe.cls=.ref (T.ea c)∧oe.data=.fields vs ∧
   (vs[1]?=some .none∨∃ tb oT ts,vs[1]?=some (.ref tb)∧hr.get? tb=none∧tb≠e∧h.get? tb=some oT∧oT.data=.fields ts∧3 < ts.size)
noncomputable def cG (T:Tabs) (S:List Addr) (ι:Cel) (z:AV) (s:Shared) (Q:Value→Shared→Prop):Prop :=
 ∀ h' tk' v,dX s.heap h'→au T (off S h') ι z v→Q v { s with heap:=h',toks:=tk' }
noncomputable def cI (T:Tabs) (B:Heap) (l:List PySem.Env) (W S:List Addr) (ι:Cel) (s:Shared) (E:Value→Shared→Prop) (c:Nat) (σ':Sig):Prop :=
 ∀ h' tk' S' ι' hr N e,Go l W S ι s.heap S' ι' hr→Rel T B l S' ι' σ' hr→Fly T N hr h' e c→(∀ a∈frs l,a∈N)→(∀ a∈N,a∈frs l∨s.heap.get? a=none∧a∈S'∧a∉cells ι') →
   E (.ref e) { s with heap:=h',toks:=tk' }
noncomputable def aF (T:Tabs) (B:Heap) (l:List PySem.Env) (W S:List Addr) (ι:Cel) (s:Shared) {α β:Type} (P:List Addr→Cel→Heap→α→β→Prop) (Q:β→Shared→Prop) (E:Value→Shared→Prop):R α→Prop
 | .ok z σ'=>∀ h' tk' S' ι' v,Go l W S ι s.heap S' ι' h'→Rel T B l S' ι' σ' h'→P S' ι' h' z v→Q v { s with heap:=h',toks:=tk' }
 | .err c σ'=>cI T B l W S ι s E c σ'
 | .stuck=>False
noncomputable abbrev bF (T:Tabs) (B:Heap) (l:List PySem.Env) (W S:List Addr) (ι:Cel) (s:Shared) (Q:Value→Shared→Prop) (E:Value→Shared→Prop) (r:R AV):Prop :=
 aF T B l W S ι s (fun S' ι' h' z v=>au T (off S' h') ι' z v) Q E r
theorem cI.later {B:Heap} {l:List PySem.Env} {W S S₁:List Addr} {ι ι₁:Cel} {s:Shared} {h₁:Heap} {tk:Nat} {E:Value→Shared→Prop} {c:Nat} {σ':Sig}
   (G:Go l W S ι s.heap S₁ ι₁ h₁) (x:cI T B l W S ι s E c σ'):cI T B l W S₁ ι₁ { s with heap:=h₁,toks:=tk } E c σ' :=
 fun h' tk' S' ι' hr N e g r f n1 n2=>x h' tk' S' ι' hr N e (G.trans g) r f n1 fun a m=>(n2 a m).imp_right fun ⟨q1,q2⟩=>⟨G.back q1,q2⟩
theorem aF.later {B:Heap} {l:List PySem.Env} {W S S₁:List Addr} {ι ι₁:Cel} {s:Shared} {h₁:Heap} {tk:Nat} {E:Value→Shared→Prop} {α β:Type} {P:List Addr→Cel→Heap→α→β→Prop} {Q:β→Shared→Prop} {r:R α}
   (G:Go l W S ι s.heap S₁ ι₁ h₁) (x:aF T B l W S ι s P Q E r):aF T B l W S₁ ι₁ { s with heap:=h₁,toks:=tk } P Q E r:=by
 cases r with
 | ok z σ'=>exact fun h' tk' S' ι' v g r p=>x h' tk' S' ι' v (G.trans g) r p
 | err c σ'=>exact cI.later G x
 | stuck=>exact x
theorem aF.bind {B:Heap} {l:List PySem.Env} {W S:List Addr} {ι:Cel} {s:Shared} {E:Value→Shared→Prop} {α α' β β':Type} {P:List Addr→Cel→Heap→α→β→Prop} {P':List Addr→Cel→Heap→α'→β'→Prop}
   {Q:β→Shared→Prop} {Q':β'→Shared→Prop} {r:R α} {f:α→Sig→R α'} (x:aF T B l W S ι s P' Q' E (r.bind f))
   (k:∀ z σ',r=.ok z σ'→∀ h' tk' S' ι' v,Go l W S ι s.heap S' ι' h'→Rel T B l S' ι' σ' h'→P S' ι' h' z v→aF T B l W S' ι' { s with heap:=h',toks:=tk' } P' Q' E (f z σ')→Q v { s with heap:=h',toks:=tk' }) :
   aF T B l W S ι s P Q E r:=by
 cases r with
 | ok z σ'=>exact fun h' tk' S' ι' v g r p=>k z σ' rfl h' tk' S' ι' v g r p (aF.later g x)
 | err c σ'=>exact x
 | stuck=>exact x
end
end
section
noncomputable def zQ:Op→PySem.Operator
 | .add=>.Add | .sub=>.Sub | .mul=>.Mult | .fdiv=>.FloorDiv | .mod=>.Mod | .lsh=>.LShift | .rsh=>.RShift | .band=>.BitAnd | .pow=>.Pow
section
variable {T:Tabs} {B:Heap} {l:List PySem.Env} {S:List Addr} {ι:Cel} {σ:Sig} {prog:Program} {w:World} {A:Around} {E:Value→Shared→Prop} {s:Shared} {Q:Value→Shared→Prop}
theorem Rel.fresh (R:Rel T B l S ι σ s.heap):s.heap.objs.size∉S:=fun m=>by
 obtain ⟨o,e⟩:=R.live _ m
 exact absurd (Heap.lt_size e) (Nat.lt_irrefl _)
theorem dm (h:Heap) (o:Obj):dX h (h.push o):=fun _ _ e=>Heap.get?_push_of_some _ e
theorem cG.int {z:Int} (h:cG T S ι (.int z) s Q) (t k:Nat):Q (.int z t) { s with toks:=k }:=h s.heap k _ (fun _ _ e=>e) ⟨t,rfl⟩
theorem cG.int0 {z:Int} (h:cG T S ι (.int z) s Q) (t:Nat):Q (.int z t) s:=h s.heap s.toks _ (fun _ _ e=>e) ⟨t,rfl⟩
theorem cG.bool {z:Bool} (h:cG T S ι (.bool z) s Q) (k:Nat):Q (.bool z) { s with toks:=k }:=h s.heap k _ (fun _ _ e=>e) rfl
theorem cG.bool0 {z:Bool} (h:cG T S ι (.bool z) s Q):Q (.bool z) s:=h s.heap s.toks _ (fun _ _ e=>e) rfl
theorem cG.str {z:List Nat} (h:cG T S ι (.str z) s Q) (hz:∀ c∈z,c < 1114112) {x:Str} (e:x.cps.toList=z) (t k:Nat):Q (.str x t) { s with toks:=k }:=h s.heap k _ (fun _ _ e=>e) ⟨t,by
 obtain ⟨c⟩:=x;subst e;simp,hz⟩
theorem mC (R:Rel T B l S ι σ s.heap) {xs:List AV} {vs:List Value} (r:aH T (off S s.heap) ι xs vs) (h:cG T S ι (.list xs) s Q) (k:Nat) :
   Q (.ref s.heap.objs.size) { s with heap:=s.heap.push { cls:=.type "list",data:=.seq vs.toArray },toks:=k } :=
 h _ k _ (dm _ _) ⟨_,vs,rfl,⟨_,aA.mpr ⟨R.fresh,Heap.get?_push_size _ rfl⟩,rfl,0,rfl⟩,r.mono (dm _ _).phi fun _ _ e=>e⟩
theorem J5 (R:Rel T B l S ι σ s.heap) {xs:List AV} {vs:List Value} (r:aH T (off S s.heap) ι xs vs) (h:cG T S ι (.tuple xs) s Q) (k:Nat) :
   Q (.ref s.heap.objs.size) { s with heap:=s.heap.push { cls:=.type "tuple",data:=.seq vs.toArray },toks:=k } :=
 h _ k _ (dm _ _) ⟨_,vs,rfl,⟨_,aA.mpr ⟨R.fresh,Heap.get?_push_size _ rfl⟩,rfl,0,rfl⟩,r.mono (dm _ _).phi fun _ _ e=>e⟩
theorem lN.isList {h:Heap} {a:Addr} {vs:List Value} (x:lN (off S h) a vs):h.IsList a vs.toArray:=let ⟨o,e,c,n,d⟩:=x;⟨o,(aA.mp e).2,c,n,d⟩
theorem TupAt.isTup {h:Heap} {a:Addr} {vs:List Value} (x:TupAt (off S h) a vs):IsTup h a vs.toArray:=let ⟨o,e,c,n,d⟩:=x;⟨o,(aA.mp e).2,c,n,d⟩
theorem zR (x y:List Nat):(Str.mk x.toArray++Str.mk y.toArray)=Str.mk (x++y).toArray:=by
 show Str.mk (x.toArray++y.toArray)=_
 simp
theorem zT {x y:List Nat} {t u:Tok} (hx':∀ c∈x,c < 1114112) (hy':∀ c∈y,c < 1114112) (z:x.length + y.length≤2 ^ 20) (h:cG T S ι (.str (x++y)) s Q):wpAny (model prog w) A (binaryOp .Add (.str ⟨x.toArray⟩ t) (.str ⟨y.toArray⟩ u)) Q E s:=by
 have hz:∀ c∈x++y,c < 1114112:=fun c hc=>(List.mem_append.mp hc).elim (hx' c) (hy' c)
 refine P.add_str ?_
 by_cases hx:x=[]
 · subst hx
   refine re (if_pos (by rfl)) ?_
   exact h.str hz (by simp) u s.toks
 · refine re (if_neg (by simp [Str.length,hx])) ?_
   by_cases hy:y=[]
   · subst hy
     refine re (if_pos (by rfl)) ?_
     exact h.str hz (by simp) t s.toks
   · refine re (if_neg (by simp [Str.length,hy])) ?_
     refine re (zR ..) ?_
     refine ⟨?_,h.str hz (x:=⟨(x++y).toArray⟩) (by simp) _ _⟩
     show ((x++y).toArray).size≤sizeLine
     refine re List.size_toArray (re List.length_append (re sizeLine_eq ?_))
     exact szl z rfl
theorem yo (R:Rel T B l S ι σ s.heap) {xs ys:List AV} {a b:Value} (ha:au T (off S s.heap) ι (.list xs) a) (hb:au T (off S s.heap) ι (.list ys) b) (z:xs.length + ys.length≤2 ^ 20) (h:cG T S ι (.list (xs++ys)) s Q) :
   wpAny (model prog w) A (binaryOp .Add a b) Q E s:=by
 obtain ⟨l,vs,rfl,hl,rl⟩:=ha
 obtain ⟨r,us,rfl,hr,rr⟩:=hb
 obtain ⟨⟨cls,dd,data,sl⟩,ho,hc,n,hd⟩:=hl.isList
 obtain ⟨⟨cls2,dd2,data2,sl2⟩,ho2,hc2,n2,hd2⟩:=hr.isList
 simp only at hc hd hc2 hd2
 subst hc hd hc2 hd2
 have e:vs.toArray++us.toArray=(vs++us).toArray:=by simp
 refine concat_meets ⟨_,ho,rfl⟩ ⟨_,ho2,rfl⟩ noFill_list_add seq_list_add PySem.F.slot_list_add PySem.F.entry_list_add (PySem.F.args_list_add_2 _ _) (list_addW l r vs.toArray us.toArray n n2 dd dd2 sl sl2 (by
   have h1:=rl.length
   have h2:=rr.length
   refine re sizeLine_eq ?_
   simp only [List.size_toArray]
   lia)) ⟨ho,ho2,?_⟩
 refine re e ?_
 exact mC R (rl.append rr) h s.toks
theorem J6 {x:Int} (hx:0≤x):Builtin.bitAnd x 255=x.fmod 256:=by
 refine re (PyProof.Rows.bitAnd_pp hx (by decide)) ?_
 obtain ⟨n,rfl⟩:=Int.eq_ofNat_of_zero_le hx
 have:(n &&& 255)=n % 256:=Nat.and_two_pow_sub_one_eq_mod n 8
 show ((n &&& 255:Nat):Int)=_
 refine re this (re (Int.fmod_eq_emod_of_nonneg _ (by decide)) ?_)
 rfl
theorem q9 {x:Int} (h:x.natAbs < 2 ^ 64):Builtin.Int.intBits x≤64:=intBits_le_64 (nab h).1 (nab h).2
theorem aC {α:Type} {z:α} {P:Prop} (e:(none:Option α)=some z):P:=nomatch e
@[elab_as_elim] theorem cC {c:Prop} [Decidable c] {α:Type} {a z:α} {M:α→Prop} (e:(if c then some a else none)=some z) (H:c→M a):M z:=by
 by_cases q:c
 · rw [if_pos q] at e;exact Option.some.inj e▸H q
 · rw [if_neg q] at e;exact aC e
@[elab_as_elim] theorem yR {c:Prop} [Decidable c] {α:Type} {a z:α} {M:α→Prop} (e:(if c then none else some a)=some z) (H:¬ c→M a):M z:=by
 by_cases q:c
 · rw [if_pos q] at e;exact aC e
 · rw [if_neg q] at e;exact Option.some.inj e▸H q
theorem vV {a b:Prop} [Decidable a] [Decidable b] (h:¬ (decide a || decide b)=true):¬ a∧¬ b :=
 ⟨fun q=>h (by refine re (decide_eq_true q) ?_;rfl),fun q=>h (by exact re (decide_eq_true q) (re (Bool.or_true ..) rfl))⟩
theorem M9 {o:Op} {x y:Int} {z:AV} {t u:Tok} (e:intOp o x y=some z) (h:cG T S ι z s Q):wpAny (model prog w) A (binaryOp (zQ o) (.int x t) (.int y u)) Q E s:=by
 revert h
 cases o with
 | add=>exact cC e fun _ h=>add_int (h.int _ _)
 | sub=>exact cC e fun _ h=>sub_int (h.int _ _)
 | mul=>exact cC e fun hs h=>mul_int (h.int _ _) (IntMulOk.of_left (q9 (of_decide_eq_true (aG hs).1)))
 | fdiv=>exact yR e fun hs h=>floordiv_int (vV hs).1 (h.int _ _) (.inl (PyProof.noPylong_small (by have:=(vV hs).2;exact szl (Nat.lt_of_not_le this) rfl)))
 | mod=>exact yR e fun hs h=>mod_int' (vV hs).1 (h.int _ _)
 | lsh=>exact cC e fun hs h=>gC hs fun h1 h2 h3 h4=>lshift_int_small (of_decide_eq_true h3) (Int.le_trans (of_decide_eq_true h4) (by decide)) (by have:=of_decide_eq_true h1;have:=of_decide_eq_true h2;omega) (h.int _ _)
 | rsh=>exact cC e fun hs h=>rshift_int (of_decide_eq_true (aG (aG hs).1).2) (h.int _ _)
 | band =>
   exact cC e fun hs h=>by
     have h0:0≤x:=of_decide_eq_true (aG (aG hs).1).1
     refine re (show y=255 from of_decide_eq_true (aG hs).2) ?_
     refine and_int ?_
     refine re (J6 h0) ?_
     exact h.int _ _
 | pow =>
   exact cC e fun hs h=>by
     have h0:0≤y:=of_decide_eq_true (aG (aG hs).1).2
     have h1:y≤16:=of_decide_eq_true (aG hs).2
     refine re (show x=256 from of_decide_eq_true (aG (aG hs).1).1) ?_
     refine pow_int h0 ?_ (h.int _ _)
     have:Builtin.Int.intBits 256≤64:=q9 (by decide)
     have h2:(Builtin.Int.intBits 256:Int) * y≤64 * 16:=Int.mul_le_mul (by exact Int.natCast_nonneg _) h1 h0 (by decide)
     omega
@[elab_as_elim] theorem vW {α:Type} {o:Op} {mk:List α→AV} {x y:List α} {z:AV} {M:Op→AV→Prop} (e:qP o mk x y=some z) (H:x.length + y.length≤2 ^ 20→M .add (mk (x++y))):M o z:=by
 unfold qP at e
 by_cases q:o=.add
 · rw [if_pos q] at e
   subst q
   exact cC (M:=fun z=>M .add z) e fun hs=>H (of_decide_eq_true hs)
 · rw [if_neg q] at e
   exact aC e
theorem GK {x y:List Nat} {a b:Value} (ha:au T (off S s.heap) ι (.bytes x) a) (hb:au T (off S s.heap) ι (.bytes y) b) (hs:x.length + y.length≤2 ^ 20) (h:cG T S ι (.bytes (x++y)) s Q):wpAny (model prog w) A (binaryOp .Add a b) Q E s:=by
 obtain ⟨t,rfl,ht⟩:=ha
 obtain ⟨u,rfl,hu⟩:=hb
 refine KBy.add_bytes (by simp only [List.size_toArray,List.length_map];exact szl hs rfl) fun t' k=>?_
 exact h s.heap k _ (fun _ _ e=>e) ⟨t',by simp,fun n hn=>(List.mem_append.mp hn).elim (ht n) (hu n)⟩
set_option tactic.hygienic true in
theorem GP (R:Rel T B l S ι σ s.heap) {o:Op} {x y z:AV} {a b:Value} (ha:au T (off S s.heap) ι x a) (hb:au T (off S s.heap) ι y b) (e:binop o x y=some z) (h:cG T S ι z s Q) :
   wpAny (model prog w) A (binaryOp (zQ o) a b) Q E s:=by
 cases x with
 | int x =>
   cases y with
   | int y =>
     obtain ⟨t,rfl⟩:=ha
     obtain ⟨u,rfl⟩:=hb
     exact M9 e h
   | _=>exact aC e
 | str x =>
   cases y with
   | str y =>
     obtain ⟨t,rfl,ht⟩:=ha
     obtain ⟨u,rfl,hu⟩:=hb
     revert h
     exact vW e fun hs h=>zT ht hu hs h
   | _=>exact aC e
 | bytes x =>
   cases y with
   | bytes y =>
     revert h
     exact vW e fun hs h=>GK ha hb hs h
   | _=>exact aC e
 | list x =>
   cases y with
   | list y =>
     revert h
     exact vW e fun hs h=>yo R ha hb hs h
   | _=>exact aC e
 | _=>exact aC e
end
end
section
noncomputable def rn:COp→PySem.CmpOp
 | .eq=>.Eq | .ne=>.NotEq | .lt=>.Lt | .le=>.LtE | .gt=>.Gt | .ge=>.GtE | .is=>.Is | .isnot=>.IsNot | .isin=>.In | .notin=>.NotIn
mutual
noncomputable def pdT:AV→PyData
 | .bool b=>.bool b
 | .int i=>.int i
 | .str s=>.str ⟨s.toArray⟩
 | .tuple xs=>.tuple (jq xs)
 | .list xs=>.list (jq xs)
 | _=>.none
noncomputable def jq:List AV→List PyData
 | []=>[]
 | x :: xs=>pdT x :: jq xs
end
theorem J7 {s:List Nat} (hs:∀ c∈s,c < 1114112):PyData.strOk ⟨s.toArray⟩=true:=by
 show s.toArray.all (fun c=>decide (c < 0x110000))=true
 refine re List.all_toArray ?_;rewrite [List.all_eq_true]
 exact fun c hc=>decide_eq_true (hs c hc)
section
variable {T:Tabs} {φ:Phi} {ι:Cel} {S:List Addr} {h:Heap}
mutual
theorem gw (hφ:∀ a o,φ a=some o→h.get? a=some o):∀ (x:AV) {v:Value},eE x=true→au T φ ι x v→∃ as,Reads h v (pdT x) as∧(pdT x).canLay0=true
 | .none,_,_,e=>by subst e;exact ⟨[],.none,rfl⟩
 | .bool b,_,_,e=>by subst e;exact ⟨[],.bool b,rfl⟩
 | .int i,_,_,⟨t,e⟩=>by subst e;exact ⟨[],.int i t,rfl⟩
 | .str s,_,_,⟨t,e,hs⟩=>by
   subst e
   exact ⟨[],.str _ t,J7 hs⟩
 | .tuple xs,_,k,⟨a,vs,e,⟨o,ho,hc,n,hd⟩,r⟩=>by
   subst e
   refine o11 (iQ hφ xs k r) fun as q l=>?_
   exact ⟨as,reads_tuple_at (hφ _ _ ho) hc hd q,l⟩
 | .list xs,_,k,⟨a,vs,e,⟨o,ho,hc,n,hd⟩,r⟩=>by
   subst e
   refine o11 (iQ hφ xs k r) fun as q l=>?_
   exact ⟨a :: as,reads_list_at (hφ _ _ ho) hc hd q,l⟩
 | .bytes _,_,k,_=>ffE k
 | .inst _ _,_,k,_=>ffE k
 | .dict _,_,k,_=>ffE k
 | .loc _,_,k,_=>ffE k
theorem iQ (hφ:∀ a o,φ a=some o→h.get? a=some o):∀ (xs:List AV) {vs:List Value},gJ xs=true→aH T φ ι xs vs→∃ as,ReadsAll h vs (jq xs) as∧PyData.canLayAll0 (jq xs)=true
 | [],_,_,e=>by subst e;exact ⟨[],.nil,rfl⟩
 | x :: xs,_,k,⟨v,r,e,h1,h2⟩=>by
   subst e
   refine o11 (gw hφ x (aG k).1 h1) fun as q l=>?_
   refine o11 (iQ hφ xs (aG k).2 h2) fun bs q' l'=>?_
   exact ⟨as++bs,.cons q q',Bool.and_eq_true_iff.mpr ⟨l,l'⟩⟩
end
theorem str_beq (a b:List Nat):((Str.mk a.toArray) == (Str.mk b.toArray))=(a == b):=by
 by_cases h:a=b
 · subst h;simp
 · refine re (beq_eq_false_iff_ne.mpr h) ?_;rewrite [beq_eq_false_iff_ne]
   intro e
   apply h
   have:=congrArg Str.cps e
   simpa using this
mutual
theorem rz:∀ (x y:AV),eE x=true→eE y=true→PyData.eqv (pdT x) (pdT y)=eqB x y
 | .none,y,_,k=>by cases y<;>first | rfl | exact ffE k
 | .bool b,y,_,k=>by cases y<;>first | rfl | exact ffE k
 | .int i,y,_,k=>by cases y<;>first | rfl | exact ffE k
 | .str s,y,_,k=>by cases y<;>first | exact str_beq _ _ | rfl | exact ffE k
 | .tuple xs,y,k1,k=>by cases y<;>first | exact tE xs _ k1 k | rfl | exact ffE k
 | .list xs,y,k1,k=>by cases y<;>first | exact tE xs _ k1 k | rfl | exact ffE k
 | .bytes _,_,k,_=>ffE k
 | .inst _ _,_,k,_=>ffE k
 | .dict _,_,k,_=>ffE k
 | .loc _,_,k,_=>ffE k
theorem tE:∀ (xs ys:List AV),gJ xs=true→gJ ys=true→PyData.eqvAll (jq xs) (jq ys)=tB xs ys
 | [],ys,_,k=>by cases ys<;>rfl
 | x :: xs,ys,k1,k=>by
   cases ys with
   | nil=>rfl
   | cons y ys=>exact congr (congrArg and (rz x y (aG k1).1 (aG k).1)) (tE xs ys (aG k1).2 (aG k).2)
end
theorem vX (x:AV) (h:isScalar x=true):(pdT x).depth=0:=by
 cases x<;>first | rfl | exact ffE h
theorem ux (xs:List AV) (k:xs.all isScalar=true):PyData.depthAll (jq xs)=0:=by
 induction xs with
 | nil=>rfl
 | cons x xs ih =>
   have k:(isScalar x && xs.all isScalar)=true:=k
   show max (pdT x).depth (PyData.depthAll (jq xs))=0
   refine re (vX x (aG k).1) (re (ih (aG k).2) ?_)
   rfl
theorem vY (x:AV) (k:dI x=true):(pdT x).depth≤1:=by
 cases x with
 | tuple xs =>
   show PyData.depthAll (jq xs) + 1≤1
   refine re (ux xs k) ?_
   exact Nat.le_refl 1
 | list xs =>
   show PyData.depthAll (jq xs) + 1≤1
   refine re (ux xs k) ?_
   exact Nat.le_refl 1
 | _=>exact Nat.zero_le 1
end
section
variable {T:Tabs} {B:Heap} {l:List PySem.Env} {S:List Addr} {ι:Cel} {σ:Sig} {prog:Program} {w:World} {A:Around} {E:Value→Shared→Prop} {s:Shared} {Q:Value→Shared→Prop}
theorem gD {h:Heap}:∀ a o,off S h a=some o→h.get? a=some o:=fun _ _ e=>(aA.mp e).2
@[elab_as_elim] theorem yS {x y:AV} {z:Bool} {M:Bool→Prop} (e:eF x y=some z) (H:(dI y || dI x)=true→eE x=true→eE y=true→M (eqB x y)):M z :=
 cC e fun k=>H (aG k).1 (aG (aG k).2).1 (aG (aG k).2).2
theorem CG {x y:AV} {n:Nat} (hu:n + 64 < cLine) (q:(dI y || dI x)=true):n + min (pdT x).depth (pdT y).depth < cLine:=by
 rcases Bool.or_eq_true_iff.mp q with q | q
 · exact Nat.lt_of_le_of_lt (Nat.add_le_add_left (Nat.le_trans (Nat.min_le_right _ _) (szl (vY y q) rfl)) n) hu
 · exact Nat.lt_of_le_of_lt (Nat.add_le_add_left (Nat.le_trans (Nat.min_le_left _ _) (szl (vY x q) rfl)) n) hu
theorem PJ {x y:AV} {a b:Value} {z:Bool} (ha:au T (off S s.heap) ι x a) (hb:au T (off S s.heap) ι y b) (hu:A.units + 64 < cLine) (e:eF x y=some z) (h:Q (.bool z) s):wpAny (model prog w) A (compareOp .Eq a b) Q E s:=by
 revert h
 refine yS e fun k kx ky h=>?_
 refine o11 (gw gD x kx ha) fun as r1 l1=>?_
 refine o11 (gw gD y ky hb) fun bs r2 l2=>?_
 exact SeqAt.compareEq_reads r1 r2 l1 l2 (CG hu k) (by refine re (rz x y kx ky) ?_;exact h)
theorem PK {x y:AV} {a b:Value} {z:Bool} (ha:au T (off S s.heap) ι x a) (hb:au T (off S s.heap) ι y b) (hu:A.units + 64 < cLine) (e:eF x y=some z) (h:Q (.bool !z) s):wpAny (model prog w) A (compareOp .NotEq a b) Q E s:=by
 revert h
 refine yS e fun k kx ky h=>?_
 refine o11 (gw gD x kx ha) fun as r1 l1=>?_
 refine o11 (gw gD y ky hb) fun bs r2 l2=>?_
 exact SeqAt.compareNe_reads r1 r2 l1 l2 (CG hu k) (by refine re (rz x y kx ky) ?_;exact h)
theorem yp {c x:Value} {P:Bool→Shared→Prop} (h:wpAny (model prog w) A (compareOp .In x c) (fun v s'=>∃ b,v=.bool b∧P (!b) s') E s):wpAny (model prog w) A (compareOp .NotIn x c) (fun v s'=>∃ b,v=.bool b∧P b s') E s:=by
 have h0:wpAny (model prog w) A (contains c x >>= fun r=>pure (Value.bool r)) (fun v s'=>∃ b,v=.bool b∧P (!b) s') E s:=h
 show wpAny (model prog w) A (contains c x >>= fun r=>pure (Value.bool !r)) _ E s
 intro Γ p hΓ
 have h1:=h0 Γ p hΓ
 rw [Sem.wp_bind'] at h1 ⊢
 refine Sem.wp_mono _ Γ _ (fun r p' s' h'=>?_) (fun _ _ _ e=>e) p s h1
 refine o11 h' fun b e q=>?_
 cases e
 exact ⟨!r,rfl,q⟩
theorem vZ (x:AV) (ys:List AV) (k:eE x=true) (k':gJ ys=true):((jq ys).any fun y=>PyData.eqv y (pdT x))=ys.any fun y=>eqB y x:=by
 induction ys with
 | nil=>rfl
 | cons y ys ih=>exact congr (congrArg or (rz y x (aG k').1 k)) (ih (aG k').2)
theorem lE:∀ {φ:Phi} {es:List (Int×AV)} {ps:List (Int×Value)} (k:Int),fG T φ ι es ps→(gr ps k).isSome=es.any (·.1 == k)
 | _,[],_,k,e=>by refine re e ?_;rfl
 | φ,p :: es,_,k,⟨q,r,e,e1,_,h⟩=>by
   refine re e ?_
   have ih:=lE k h
   unfold gr at ih ⊢
   simp only [List.find?_cons,List.any_cons,e1]
   cases hq:(p.1 == k) with
   | true=>simp
   | false=>simpa using ih
theorem yU {x:AV} {ys:List AV} {a b:Value} {z:Bool} (hs:isScalar x=true) (ha:au T (off S s.heap) ι x a) (hb:au T (off S s.heap) ι (.tuple ys) b) (hu:A.units + 64 < cLine) (e:qQ x ys=some z) (h:Q (.bool z) s):wpAny (model prog w) A (compareOp .In a b) Q E s:=by
 revert h
 refine cC e fun k h=>?_
 refine o11 (gw gD x (aG k).1 ha) fun as r1 l1=>?_
 refine o11 (gw gD (.tuple ys) (aG k).2 hb) fun bs r2 l2=>?_
 refine SeqAt.in_tuple_reads r2 r1 l2 l1 (by refine re (vX x hs) ?_;lia) ?_
 refine re (vZ x ys (aG k).1 (aG k).2) ?_
 exact h
theorem PL (R:Rel T B l S ι σ s.heap) {x:Int} {t:Tok} {i:Nat} {p:Addr×Addr} {m:MO} {z:Bool} (hi:ι[i]?=some p) (hs:σ[i]?=some m) (hu:A.units + 64 < cLine) (e:Gv x m=some z) (h:∀ k,Q (.bool z) { s with toks:=k }):wpAny (model prog w) A (compareOp .In (.int x t) (.ref p.1)) Q E s:=by
 cases m with
 | dict n es =>
   cases e
   obtain ⟨e1,ps,⟨o,es',ep,ho,hc,hd,hk,hf⟩,r,_⟩:=R.obj _ _ _ hi hs
   refine re e1 ?_
   refine wpAny_in_intMap ⟨o,es',ep,ho,hc,hd,hk,hf⟩ ?_
   refine re (lE _ r) ?_
   exact h _
 | list ys =>
   obtain ⟨e1,vs,hpl,r⟩:=R.obj _ _ _ hi hs
   refine re e1 ?_
   obtain ⟨o,ho,hc,n,hd⟩:=hpl.isList
   revert h
   refine cC e fun k h=>?_
   refine o11 (iQ gD ys (aG k).2 r) fun as r1 l1=>?_
   refine SeqAt.in_list_reads (d:=.int x) (reads_list_at ho hc hd (r1)) (Reads.int x t) l1 rfl (by show A.units + 1 + min _ 0 < cLine;refine re (Nat.min_zero ..) ?_;exact Nat.le_trans (Nat.add_lt_add_left (Nat.le_add_left _ _) _) hu) ?_
   have:=vZ (.int x) ys rfl (aG k).2
   refine re (show (fun y=>PyData.eqv y (PyData.int x))=fun y=>PyData.eqv y (pdT (.int x)) from rfl) (re this ?_)
   exact h s.toks
 | _=>exact aC e
theorem pW (R:Rel T B l S ι σ s.heap) {x y:AV} {a b:Value} {z:Bool} (ha:au T (off S s.heap) ι x a) (hb:au T (off S s.heap) ι y b) (hu:A.units + 64 < cLine) (e:Gw σ x y=some z) (h:∀ k,Q (.bool z) { s with toks:=k }) :
   wpAny (model prog w) A (compareOp .In a b) Q E s:=by
 cases x with
 | str x =>
   cases y with
   | tuple ys=>exact yU rfl ha hb hu e (h s.toks)
   | _=>exact aC e
 | int x =>
   cases y with
   | tuple ys=>exact yU rfl ha hb hu e (h s.toks)
   | dict es =>
     cases e
     obtain ⟨t,rfl⟩:=ha
     obtain ⟨l,ps,rfl,⟨o,es',ep,ho,hc,hd,hk,hf⟩,r⟩:=hb
     refine wpAny_in_intMap ⟨o,es',ep,(aA.mp ho).2,hc,hd,hk,hf⟩ ?_
     refine re (lE _ r) ?_
     exact h _
   | loc i =>
     obtain ⟨t,rfl⟩:=ha
     obtain ⟨l,c,hi,rfl⟩:=hb
     refine o11 (Option.bind_eq_some_iff.mp e) fun m hm e=>?_
     exact PL R hi hm hu e h
   | _=>exact aC e
 | _=>exact aC e
theorem v5 {φ:Phi} {x:AV} {v:Value} (r:au T φ ι x v):(v == .none)=nB x:=by
 cases x with
 | none=>cases r;rfl
 | bool b=>cases r;rfl
 | int i=>obtain ⟨t,rfl⟩:=r;rfl
 | str s=>obtain ⟨t,rfl,_⟩:=r;rfl
 | bytes s=>obtain ⟨t,rfl,_⟩:=r;rfl
 | tuple s=>obtain ⟨a,vs,rfl,_⟩:=r;rfl
 | list s=>obtain ⟨a,vs,rfl,_⟩:=r;rfl
 | inst C s=>obtain ⟨a,d,es,n,rfl,_⟩:=r;rfl
 | dict s=>obtain ⟨a,vs,rfl,_⟩:=r;rfl
 | loc i=>obtain ⟨a,c,_,rfl⟩:=r;rfl
@[elab_as_elim] theorem Jv {M:AV→Prop} {x:AV} (h:nB x=true) (H:M .none):M x:=by
 cases x with
 | none=>exact H
 | _=>exact ffE h
theorem pq {f:Int→Int→Bool} {x y:AV} {z:Bool} {G:Prop} (e:vL f x y=some z) (H:∀ i j,x=.int i→y=.int j→z=f i j→G):G:=by
 cases x with
 | int i =>
   cases y with
   | int j=>exact H i j rfl rfl (Option.some.inj e).symm
   | _=>exact aC e
 | _=>exact aC e
theorem rA {φ:Phi} {x:AV} {v:Value} (r:au T φ ι x v):plainIs v .none=true:=by
 cases x with
 | none=>cases r;rfl
 | bool b=>cases r;rfl
 | int i=>obtain ⟨t,rfl⟩:=r;rfl
 | str s=>obtain ⟨t,rfl,_⟩:=r;rfl
 | bytes s=>obtain ⟨t,rfl,_⟩:=r;rfl
 | tuple s=>obtain ⟨a,vs,rfl,_⟩:=r;rfl
 | list s=>obtain ⟨a,vs,rfl,_⟩:=r;rfl
 | inst C s=>obtain ⟨a,d,es,n,rfl,_⟩:=r;rfl
 | dict s=>obtain ⟨a,vs,rfl,_⟩:=r;rfl
 | loc i=>obtain ⟨a,c,_,rfl⟩:=r;rfl
set_option tactic.hygienic true in
theorem mD (R:Rel T B l S ι σ s.heap) {o:COp} {x y:AV} {a b:Value} {z:Bool} (ha:au T (off S s.heap) ι x a) (hb:au T (off S s.heap) ι y b) (hu:A.units + 64 < cLine) (e:cmpop σ o x y=some z) (h:∀ k,Q (.bool z) { s with toks:=k }) :
   wpAny (model prog w) A (compareOp (rn o) a b) Q E s:=by
 have h0:=h s.toks
 cases o with
 | eq=>exact PJ ha hb hu e h0
 | ne =>
   obtain ⟨z',e',rfl⟩:=Option.map_eq_some_iff.mp e
   exact PK ha hb hu e' h0
 | lt =>
   refine pq e fun i j hx hy hz=>?_
   subst hx hy hz
   obtain ⟨t,rfl⟩:=ha
   obtain ⟨u,rfl⟩:=hb
   exact lt_int h0
 | le =>
   refine pq e fun i j hx hy hz=>?_
   subst hx hy hz
   obtain ⟨t,rfl⟩:=ha
   obtain ⟨u,rfl⟩:=hb
   exact le_int h0
 | gt =>
   refine pq e fun i j hx hy hz=>?_
   subst hx hy hz
   obtain ⟨t,rfl⟩:=ha
   obtain ⟨u,rfl⟩:=hb
   exact gt_int h0
 | ge =>
   refine pq e fun i j hx hy hz=>?_
   subst hx hy hz
   obtain ⟨t,rfl⟩:=ha
   obtain ⟨u,rfl⟩:=hb
   exact ge_int h0
 | is =>
   revert h0
   refine cC e fun hn h0=>?_
   revert hb
   refine Jv hn fun hb=>?_
   cases hb
   exact wpAny_is_plain (rA ha) (by refine re (v5 ha) ?_;exact h0)
 | isnot =>
   revert h0
   refine cC e fun hn h0=>?_
   revert hb
   refine Jv hn fun hb=>?_
   cases hb
   exact wpAny_isNot_plain (rA ha) (by refine re (v5 ha) ?_;exact h0)
 | isin=>exact pW R ha hb hu e h
 | notin =>
   obtain ⟨z',e',rfl⟩:=Option.map_eq_some_iff.mp e
   refine wpAny_mono (yp (P:=fun r s'=>∀ k,Q (.bool r) { s' with toks:=k }) (pW R ha hb hu e' fun k=>⟨z',rfl,fun k=>h k⟩)) (fun v s' ⟨r,hr,q⟩=>?_) fun _ _ x=>x
   subst hr
   exact q s'.toks
end
end
section
section
variable {T:Tabs} {B:Heap} {l:List PySem.Env} {S:List Addr} {ι:Cel} {σ:Sig} {prog:Program} {w:World} {A:Around} {E:Value→Shared→Prop} {s:Shared} {Q:Value→Shared→Prop}
theorem Rel.listAt (R:Rel T B l S ι σ s.heap) {x:AV} {xs:List AV} {v:Value} (r:au T (off S s.heap) ι x v) (e:listItems σ x=some xs):∃ l vs,v=.ref l∧s.heap.IsList l vs.toArray∧aH T (off S s.heap) ι xs vs:=by
 unfold listItems at e
 split at e
 · cases e
   obtain ⟨l,vs,rfl,hl,rl⟩:=r
   exact ⟨l,vs,rfl,hl.isList,rl⟩
 · obtain ⟨l,c,hi,rfl⟩:=r
   split at e
   · rename_i hs
     cases e
     obtain ⟨e1,vs,⟨n,ho⟩,r⟩:=R.obj _ _ _ hi hs
     dsimp only at e1 ho
     subst e1
     exact ⟨l,vs,rfl,⟨_,ho,rfl,n,rfl⟩,r⟩
   · cases e
 · cases e
theorem oA {x:AV} {v:Value} {t:Bool} {Q:Bool→Shared→Prop} (r:au T (off S s.heap) ι x v) (e:truthy x=some t) (h:Q t s) :
   wpAny (model prog w) A (PySem.truthy v) Q E s:=by
 cases x with
 | none=>cases r;cases e;exact truthy_none h
 | bool b=>cases r;cases e;exact wpAny_truthy_bool h
 | int i=>obtain ⟨u,rfl⟩:=r;cases e;exact truthy_int h
 | _=>cases e
theorem yV {xs:List AV} {n:Int} {z:AV} (e:nth xs n=some z):(0≤n∧xs[n.toNat]?=some z)∨(n < 0∧-(xs.length:Int)≤n∧xs[(n + xs.length).toNat]?=some z):=by
 unfold nth at e
 split at e
 · exact .inl ⟨by assumption,e⟩
 · split at e
   · exact .inr ⟨by lia,by lia,e⟩
   · cases e
theorem rB {xs:List AV} {n:Int} {z:AV} (e:gK xs n=some z):xs.length≤2 ^ 20∧nth xs n=some z:=by
 unfold gK at e
 split at e
 · rename_i hz;exact ⟨by simpa [sizeOk] using hz,e⟩
 · cases e
theorem uy {l:Addr} {vs:List Value} {xs:List AV} {n:Int} {t:Tok} {z:AV} (hl:s.heap.IsList l vs.toArray) (rl:aH T (off S s.heap) ι xs vs) (e:gK xs n=some z) (h:cG T S ι z s Q) :
   wpAny (model prog w) A (getItem (.ref l) (.int n t)) Q E s:=by
 refine o01 (rB e) fun hz e=>?_
 rcases yV e with ⟨h0,e⟩ | ⟨h0,h1,e⟩
 · refine o11 (rl.get e) fun v hv rv=>?_
   have:=(List.getElem?_eq_some_iff.mp e).1
   exact wpAny_getItem_list hl h0 (by lia) (by simpa using hv) (h s.heap s.toks _ (fun _ _ e=>e) rv)
 · refine o11 (rl.get e) fun v hv rv=>?_
   have hn:=rl.length
   refine wpAny_getItem_list_neg hl h0 (by simp only [List.size_toArray];lia) (by lia) ?_ (h s.heap s.toks _ (fun _ _ e=>e) rv)
   simp only [List.size_toArray,hn]
   simpa using hv
theorem v6:∀ {φ:Phi} {es:List (Int×AV)} {ps:List (Int×Value)} {k:Int} {z:AV},fG T φ ι es ps→dictGet es k=some z→∃ v,gr ps k=some v∧au T φ ι z v
 | _,[],_,k,z,_,e=>by simp [dictGet] at e
 | φ,p :: es,_,k,z,⟨q,r,e0,e1,hv,h⟩,e=>by
   refine re e0 ?_
   unfold dictGet at e
   unfold gr
   simp only [List.find?_cons,e1] at e ⊢
   cases hq:(p.1 == k) with
   | true=>rw [hq] at e;simp at e;subst e;exact ⟨q.2,by simp,hv⟩
   | false=>rw [hq] at e;simpa [gr] using v6 h (by simpa [dictGet] using e)
theorem oE {x z:AV} {a:Value} {t:Tok} {n:Int} {value slice:PySem.Expr} {ps:List (Int×Value)} {es:List (Int×AV)} {l:Addr} (hm:s.heap.IntMap l (gr ps)) (r:fG T (off S s.heap) ι es ps) (e:dictGet es n=some z)
   (hs:subscripted slice false (.ref l) (.int n t)=operate [.ref l,.int n t] (getItem (.ref l) (.int n t))) (h:cG T S ι z s Q):wpAny (model prog w) A (subscriptTail value slice (.ref l) (.int n t)) Q E s:=by
 refine o11 (v6 r e) fun v hv rv=>?_
 exact tail_any hm.typeIs slot_dict_getitem.lookup (wpAny_getItem_intMap hm hv (h s.heap _ _ (fun _ _ e=>e) rv)) hs
theorem GQ {xs:List AV} {z:AV} {a:Value} {t:Tok} {n:Int} {value slice:PySem.Expr} (ha:au T (off S s.heap) ι (.tuple xs) a) (e:gK xs n=some z)
   (hs:subscripted slice false a (.int n t)=operate [a,.int n t] (getItem a (.int n t))) (h:cG T S ι z s Q):wpAny (model prog w) A (subscriptTail value slice a (.int n t)) Q E s:=by
 obtain ⟨l,vs,rfl,hl',rl⟩:=ha
 refine o01 (rB e) fun hz e=>?_
 have hn:=rl.length
 refine tail_any hl'.isTup.typeIs slot_tuple_getitem.lookup ?_ hs
 rcases yV e with ⟨h0,e⟩ | ⟨h0,h1,e⟩
 · refine o11 (rl.get e) fun v hv rv=>?_
   have hlt:=(List.getElem?_eq_some_iff.mp e).1
   refine getItem_tuple hl'.isTup (by lia) (by lia) (j:=n.toNat) ?_ (by simpa using hv) (h s.heap s.toks _ (fun _ _ e=>e) rv)
   have:¬ n < 0:=by exact Int.not_lt_of_ge h0
   simp [seqIndex?,this,h0,hn]
   lia
 · refine o11 (rl.get e) fun v hv rv=>?_
   refine getItem_tuple hl'.isTup (by lia) (by lia) (j:=(n + xs.length).toNat) ?_ (by simpa using hv) (h s.heap s.toks _ (fun _ _ e=>e) rv)
   simp [seqIndex?,h0,hn]
   lia
theorem zU {bs:List Nat} {z:AV} {a:Value} {t:Tok} {n:Int} {value slice:PySem.Expr} (ha:au T (off S s.heap) ι (.bytes bs) a) (e:(if 0≤n && sizeOk bs.length then (bs[n.toNat]?).map fun (c:Nat)=>AV.int (c:Int) else none)=some z)
   (hs:subscripted slice false a (.int n t)=operate [a,.int n t] (getItem a (.int n t))) (h:cG T S ι z s Q):wpAny (model prog w) A (subscriptTail value slice a (.int n t)) Q E s:=by
 obtain ⟨u,rfl,hb8⟩:=ha
 by_cases q:(decide (0≤n) && sizeOk bs.length)=true
 · rw [if_pos q] at e
   have h0:0≤n:=of_decide_eq_true (aG q).1
   have hz:bs.length≤2 ^ 20:=of_decide_eq_true (aG q).2
   refine o11 (Option.map_eq_some_iff.mp e) fun c hc e=>?_
   have hlt:=(List.getElem?_eq_some_iff.mp hc).1
   refine tail_any (typeIs_bytes _ _ _) FB.slot_bytes_getitem.lookup (getItem_bytes (by simp;exact szl hz rfl) h0 (by simp;exact (Int.toNat_lt h0).mp hlt) ?_) hs
   subst e
   have hm:c < 256:=hb8 c (List.mem_of_getElem? hc)
   have:((List.map (fun n=>UInt8.ofNat n) bs).getD n.toNat 0).toNat=c:=by
     refine re (List.getD_eq_getElem?_getD) (re (List.getElem?_map) (re hc ?_))
     simp [UInt8.toNat_ofNat',Nat.mod_eq_of_lt hm]
   refine re this ?_
   exact h.int _ _
 · rw [if_neg q] at e
   exact aC e
set_option tactic.hygienic true in
theorem CJ (R:Rel T B l S ι σ s.heap) {x y z:AV} {a b:Value} {value slice:PySem.Expr} (ha:au T (off S s.heap) ι x a) (hb:au T (off S s.heap) ι y b) (e:dJ σ x y=some z)
   (hs:subscripted slice false a b=operate [a,b] (getItem a b)) (h:cG T S ι z s Q):wpAny (model prog w) A (subscriptTail value slice a b) Q E s:=by
 cases y with
 | int n =>
   obtain ⟨t,rfl⟩:=hb
   cases x with
   | list xs =>
     obtain ⟨l,vs,rfl,hl',rl⟩:=ha
     exact tail_any hl'.isList.typeIs slot_list_getitem.lookup (uy hl'.isList rl e h) hs
   | tuple xs=>exact GQ ha e hs h
   | bytes bs=>exact zU ha e hs h
   | dict es =>
     obtain ⟨l,ps,rfl,⟨o,es',ep,ho,hc,hd,hk,hf⟩,r⟩:=ha
     exact oE (x:=z) (a:=.ref l) ⟨o,es',ep,(aA.mp ho).2,hc,hd,hk,hf⟩ r e hs h
   | loc i =>
     refine o11 (Option.bind_eq_some_iff.mp e) fun m hm e=>?_
     cases m with
     | list xs =>
       obtain ⟨l,vs,rfl,hl',rl⟩:=R.listAt ha (xs:=xs) (by simp [listItems,hm])
       exact tail_any hl'.typeIs slot_list_getitem.lookup (uy hl' rl e h) hs
     | dict k es =>
       obtain ⟨l,c,hi,rfl⟩:=ha
       obtain ⟨e1,ps,⟨o,es',ep,ho,hc,hd,hk,hf⟩,r,_⟩:=R.obj _ _ _ hi hm
       dsimp only at e1 ho
       subst e1
       exact oE (x:=z) (a:=.ref l) ⟨o,es',ep,ho,hc,hd,hk,hf⟩ r e hs h
     | _=>exact aC e
   | _=>exact aC e
 | _=>exact aC e
end
end
section
section
variable {T:Tabs} {B:Heap} {l:List PySem.Env} {S:List Addr} {ι:Cel} {σ:Sig} {prog:Program} {w:World} {A:Around} {E:Value→Shared→Prop} {s:Shared} {Q:Value→Shared→Prop}
theorem yW:@clip=@clipAt:=rfl
theorem part_of {φ:Phi} {x:AV} {v:Value} {l:Option Int} (r:au T φ ι x v) (e:bound? x=some l):IsPart v l:=by
 cases x with
 | none=>cases e;cases r;exact .none
 | int i =>
   obtain ⟨t,rfl⟩:=r
   exact cC (M:=fun l=>IsPart _ l) e fun _=>.int _ _
 | _=>exact aC e
theorem aH.cut {φ:Phi} {xs:List AV} {vs:List Value} (r:aH T φ ι xs vs) (l h:Option Int):aH T φ ι (Mine.cut xs l h) ((vs.drop (l.elim 0 (clipAt vs.length))).take (h.elim vs.length (clipAt vs.length) - l.elim 0 (clipAt vs.length))):=by
 unfold Mine.cut
 refine re yW (re r.length ?_)
 exact (r.drop _).take _
theorem GR (x:List Nat) (t u:Tok):sliceMade ⟨x.toArray⟩ t none (some (1,u)) none=.val (.str ⟨x.toArray⟩ t)∧x.length≤1∨sliceMade ⟨x.toArray⟩ t none (some (1,u)) none=.str ⟨(x.take 1).toArray⟩:=by
 cases x with
 | nil=>left;exact ⟨rfl,by simp⟩
 | cons c r =>
   have hp:slicePicked ⟨(c :: r).toArray⟩ none (some (1,u)) none=[0]:=by
     unfold slicePicked Builtin.Str.strSliceIndices sliceRange
     have:(max (0:Int) (min 1 ((Str.mk (c :: r).toArray).length:Int)))=1:=by
       simp only [Str.length,List.size_toArray,List.length_cons];refine re (show min (1:Int) ((r.length + 1:Nat):Int)=1 from Int.min_eq_left (ile (Nat.succ_le_succ (Nat.zero_le _)))) ?_;rfl
     simp [this]
   unfold sliceMade
   refine re hp ?_
   cases r with
   | nil=>left;exact ⟨rfl,by simp⟩
   | cons d r=>right;simp [Str.length]
theorem J8 (R:Rel T B l S ι σ s.heap) {z:AV} {l h0:Option Int} {a vl vu:Value} {sl:Addr} {value slice:PySem.Expr} {x:List Nat} (ha:au T (off S s.heap) ι (.str x) a) (pl:IsPart vl l) (pu:IsPart vu h0)
   (e:sliceOf l h0 (.str x)=some z) (hsl:s.heap.IsSliceOf sl vl vu .none) (hs:subscripted slice false a (.ref sl)=operate [.ref sl,a] (getItem a (.ref sl))) (h:cG T S ι z s Q) :
   wpAny (model prog w) A (subscriptTail value slice a (.ref sl)) Q E s:=by
 obtain ⟨t,rfl,hc⟩:=ha
 revert h
 refine cC e fun hq h=>?_
 obtain rfl:l=none:=of_decide_eq_true (aG hq).1
 obtain rfl:h0=some 1:=of_decide_eq_true (aG hq).2
 cases pl
 cases pu with
 | int i u =>
 have hz:∀ c∈x.take 1,c < 1114112:=fun c hm=>hc c (List.mem_of_mem_take hm)
 refine tail_any (typeIs_str _ _ _) PySem.F.slot_str_getitem.lookup ?_ hs
 refine o12 hsl fun os e1 e2 e3=>?_
 refine wpAny_getItem_str_slice (l:=none) (u:=some (1,u)) (st:=none) ⟨os,e1,e2,e3⟩ rfl ?_
 rcases GR x t u with ⟨q,hx⟩ | q
 · refine re q ?_
   exact h.str hz (by exact re (List.take_of_length_le hx) rfl) t s.toks
 · refine re q ?_
   refine ⟨?_,h.str hz rfl _ _⟩
   show ((x.take 1).toArray).size≤sizeLine
   refine re List.size_toArray (re List.length_take (re sizeLine_eq ?_))
   exact szl (Nat.min_le_left _ _) rfl
theorem CK (R:Rel T B l S ι σ s.heap) {z:AV} {l h0:Option Int} {a vl vu:Value} {sl:Addr} {value slice:PySem.Expr} {x:List Nat} (ha:au T (off S s.heap) ι (.bytes x) a) (pl:IsPart vl l) (pu:IsPart vu h0)
   (e:sliceOf l h0 (.bytes x)=some z) (hsl:s.heap.IsSliceOf sl vl vu .none) (hs:subscripted slice false a (.ref sl)=operate [.ref sl,a] (getItem a (.ref sl))) (h:cG T S ι z s Q) :
   wpAny (model prog w) A (subscriptTail value slice a (.ref sl)) Q E s:=by
 obtain ⟨t,rfl,hc⟩:=ha
 revert h
 refine cC e fun hq h=>?_
 have hq:x.length≤2 ^ 20:=of_decide_eq_true hq
 refine tail_any (typeIs_bytes _ _ _) FB.slot_bytes_getitem.lookup (getItem_meets (typeIs_bytes _ _ _) (rfl) FB.slot_bytes_getitem FB.entry_bytes_getitem (FB.args_bytes_getitem_2 _ _) (KBc.meets_slice2 _ t _ pl pu)
   ⟨hsl,Nat.le_trans (KBc.size_picked_le _ _ _) (by refine re sizeLine_eq ?_;simp;exact szl hq rfl),fun t' k=>?_⟩) hs
 refine h s.heap k _ (fun _ _ e=>e) ⟨t',?_,fun n hn=>hc n ?_⟩
 · refine re (KBc.picked_eq ..) ?_
   unfold Mine.cut
   refine re yW ?_
   simp [List.map_take,List.map_drop]
 · exact List.mem_of_mem_drop (List.mem_of_mem_take hn)
theorem GX (R:Rel T B l S ι σ s.heap) {z:AV} {l h0:Option Int} {a vl vu:Value} {sl:Addr} {value slice:PySem.Expr} {x:List AV} (ha:au T (off S s.heap) ι (.list x) a) (pl:IsPart vl l) (pu:IsPart vu h0)
   (e:sliceOf l h0 (.list x)=some z) (hsl:s.heap.IsSliceOf sl vl vu .none) (hs:subscripted slice false a (.ref sl)=operate [.ref sl,a] (getItem a (.ref sl))) (h:cG T S ι z s Q) :
   wpAny (model prog w) A (subscriptTail value slice a (.ref sl)) Q E s:=by
 obtain ⟨a,vs,rfl,ha,r⟩:=ha
 revert h
 refine cC e fun hq h=>?_
 have hq:x.length≤2 ^ 20:=of_decide_eq_true hq
 have hn:=r.length
 refine tail_any ha.isList.typeIs list_getitem_lookup (wpAny_getItem_list_slice ha.isList hsl pl pu .none (by decide) ?_ (by refine re sizeLine_eq ?_;simp only [List.size_toArray];exact szl (eql hn hq) rfl)) hs
 refine re (slicePick_plain ..) ?_
 simpa using mC R (r.cut l h0) h s.toks
set_option tactic.hygienic true in
theorem GZ (R:Rel T B l S ι σ s.heap) {x lo hi z:AV} {a vl vu:Value} {sl:Addr} {value slice:PySem.Expr} (ha:au T (off S s.heap) ι x a) (hlo:au T (off S s.heap) ι lo vl) (hhi:au T (off S s.heap) ι hi vu)
   (e:Mine.slice x lo hi=some z) (hsl:s.heap.IsSliceOf sl vl vu .none) (hs:subscripted slice false a (.ref sl)=operate [.ref sl,a] (getItem a (.ref sl))) (h:cG T S ι z s Q) :
   wpAny (model prog w) A (subscriptTail value slice a (.ref sl)) Q E s:=by
 refine o11 (Option.bind_eq_some_iff.mp e) fun l hl e=>?_
 refine o11 (Option.bind_eq_some_iff.mp e) fun h0 hh e=>?_
 have pl:=part_of hlo hl
 have pu:=part_of hhi hh
 cases x with
 | str x=>exact J8 R ha pl pu e hsl hs h
 | bytes x=>exact CK R ha pl pu e hsl hs h
 | list x=>exact GX R ha pl pu e hsl hs h
 | _=>exact aC e
end
end
section
structure Cx where
 env:PySem.Env
 A:Around
 l:List PySem.Env
noncomputable def qg (T:Tabs) (φ:Phi) (ι:Cel) (oa:Option (Option AV)) (ov:Option Value):Prop:=∀ a,oa=some (some a)→∃ v,ov=some v∧au T φ ι a v
noncomputable def Nb (T:Tabs) (env:PySem.Env) (m:Str→Option Value) (φ:Phi) (ι:Cel) (h:Heap) (x:Str) (oa:Option (Option AV)):Prop :=
 (env.kindOf x=some .local∧qg T φ ι oa (m x)) ∨
 ((env.kindOf x=some .cell∨env.kindOf x=some .free)∧∃ c v,env.cells.lookup x=some c∧h.IsCell c v∧qg T φ ι oa v)
noncomputable def Wof (env:PySem.Env):List Addr:=env.locals :: env.cells.map (·.2)
theorem fH (env:PySem.Env):env.locals∈Wof env:=List.mem_cons_self
theorem gP {env:PySem.Env} {n:Str} {c:Addr} (h:env.cells.lookup n=some c):c∈Wof env:=List.mem_cons_of_mem _ (List.mem_map_of_mem (f:=fun x:Str×Addr=>x.2) (mem_of_lookup h))
structure Loc (T:Tabs) (env:PySem.Env) (sl:List Str) (ρ:Env) (S:List Addr) (ι:Cel) (h:Heap):Prop where
 len:ρ.length=sl.length
 kind:env.scope.kind=.function
 own:∀ a∈Wof env,a∈S∧a∉cells ι
 apart:env.cells.Pairwise fun x y=>x.2≠y.2
 nd:sl.Nodup
 ns:∃ m,h.Ns env.locals m∧∀ (i:Nat) x,sl[i]?=some x→Nb T env m (off S h) ι h x ρ[i]?
section
variable {T:Tabs} {B:Heap} {l:List PySem.Env} {S S' W:List Addr} {ι ι':Cel} {σ σ':Sig} {h h':Heap} {env:PySem.Env} {sl:List Str} {ρ:Env}
theorem Go.ns (x:Go l [] S ι h S' ι' h') {a:Addr} {m:Str→Option Value} (n:a∉cells ι) (e:h.Ns a m):h'.Ns a m:=by
 by_cases q:a∈frs l
 · exact x.frm a m e q (by simp)
 · refine o31 e fun o es ep ho r=>?_
   exact ⟨o,es,ep,x.step a o ho n (by simp) q,r⟩
theorem lO {a:Addr} {m:Str→Option Value} {v:Option Value} (x:h.Ns a m) (y:h.IsCell a v):False:=by
 refine o32 x fun o es ep ho hd _=>?_
 refine o11 y fun o' ho' hd'=>?_
 rw [ho] at ho'
 cases ho'
 rw [hd] at hd'
 cases hd'
theorem Go.cell (x:Go l [] S ι h S' ι' h') (R:Rel T B l S ι σ h) {a:Addr} {v:Option Value} (n:a∉cells ι) (e:h.IsCell a v):h'.IsCell a v:=by
 have q:a∉frs l:=fun q=>by
   refine o11 (jL q) fun env he hf=>?_
   obtain ⟨_,L,m,hL,_,_,hn⟩:=R.stk env he
   rw [hf] at hL
   cases hL
   exact lO hn e
 refine o11 e fun o ho r=>?_
 exact ⟨o,x.step a o ho n (by simp) q,r⟩
theorem qg.mono {φ φ':Phi} {oa:Option (Option AV)} {ov:Option Value} (x:qg T φ ι oa ov) (hφ:∀ a o,φ a=some o→φ' a=some o) (hι:∀ (i:Nat) p,ι[i]?=some p→ι'[i]?=some p):qg T φ' ι' oa ov :=
 fun a e=>let ⟨v,h1,h2⟩:=x a e;⟨v,h1,h2.mono hφ hι⟩
theorem Loc.go (L:Loc T env sl ρ S ι h) (R:Rel T B l S ι σ h) (G:Go l [] S ι h S' ι' h'):Loc T env sl ρ S' ι' h' where
 len:=L.len
 kind:=L.kind
 own:=fun a q=>⟨G.sub a (L.own a q).1,fun m=>by
   refine o10 (R.live a (L.own a q).1) fun o e=>?_
   rw [G.cel a m (L.own a q).2] at e;cases e⟩
 apart:=L.apart
 nd:=L.nd
 ns:=by
   refine o11 L.ns fun m hm hs=>?_
   refine ⟨m,G.ns (L.own _ (fH _)).2 hm,fun i x hx=>?_⟩
   rcases hs i x hx with ⟨h1,h2⟩ | ⟨h1,c,v,h2,h3,h4⟩
   · exact .inl ⟨h1,h2.mono (G.phi R.in0) G.pre⟩
   · exact .inr ⟨h1,c,v,h2,G.cell R (L.own _ (gP h2)).2 h3,h4.mono (G.phi R.in0) G.pre⟩
theorem Loc.grow (L:Loc T env sl ρ S ι h) (R:Rel T B l S ι σ h) (k:dX h h'):Loc T env sl ρ S ι h':=L.go R (Go.grow l [] S ι k)
end
section
variable {T:Tabs} {B:Heap} {prog:Program} {w:World}
noncomputable def Sat (T:Tabs) (B:Heap) (prog:Program) (w:World) (X:Cx) (sl:List Str) (ρ:Env) (t:Sem Value) (r:Sig→R AV):Prop :=
 ∀ {S:List Addr} {ι:Cel} {σ:Sig} {s:Shared} {Q E:Value→Shared→Prop},Rel T B X.l S ι σ s.heap→Loc T X.env sl ρ S ι s.heap→bF T B X.l [] S ι s Q E (r σ)→wpD (model prog w) X.A t Q E s
noncomputable abbrev PN (T:Tabs) (B:Heap) (l:List PySem.Env) (W S:List Addr) (ι:Cel) (s:Shared) (Q:List Value→Shared→Prop) (E:Value→Shared→Prop) (r:R (List AV)):Prop :=
 aF T B l W S ι s (fun S' ι' h' z v=>aH T (off S' h') ι' z v) Q E r
noncomputable def f9 (T:Tabs) (B:Heap) (prog:Program) (w:World) (X:Cx) (sl:List Str) (ρ:Env) (t:Sem (List Value)) (r:Sig→R (List AV)):Prop :=
 ∀ {S:List Addr} {ι:Cel} {σ:Sig} {s:Shared} {Q:List Value→Shared→Prop} {E:Value→Shared→Prop},Rel T B X.l S ι σ s.heap→Loc T X.env sl ρ S ι s.heap→PN T B X.l [] S ι s Q E (r σ)→wpD (model prog w) X.A t Q E s
noncomputable abbrev zV (T:Tabs) (B:Heap) (l:List PySem.Env) (W S:List Addr) (ι:Cel) (s:Shared) (Q:Bool→Shared→Prop) (E:Value→Shared→Prop) (r:R Bool):Prop :=
 aF T B l W S ι s (fun _ _ _ z v=>z=v) Q E r
noncomputable def bW (T:Tabs) (B:Heap) (prog:Program) (w:World) (X:Cx) (sl:List Str) (ρ:Env) (t:Sem Bool) (r:Sig→R Bool):Prop :=
 ∀ {S:List Addr} {ι:Cel} {σ:Sig} {s:Shared} {Q:Bool→Shared→Prop} {E:Value→Shared→Prop},Rel T B X.l S ι σ s.heap→Loc T X.env sl ρ S ι s.heap→zV T B X.l [] S ι s Q E (r σ)→wpD (model prog w) X.A t Q E s
section
variable {l:List PySem.Env} {W S:List Addr} {ι:Cel} {σ:Sig} {s:Shared} {Q:Value→Shared→Prop} {E:Value→Shared→Prop}
theorem bx (R:Rel T B l S ι σ s.heap) {z:AV} (p:bF T B l W S ι s Q E (.ok z σ)):cG T S ι z s Q :=
 fun h' tk' v k r=>p h' tk' S ι v (Go.grow l W S ι k) (R.grow k) r
theorem gh (R:Rel T B l S ι σ s.heap) {z:AV} (p:bF T B l W S ι s Q E (.ok z σ)) {v:Value} (r:au T (off S s.heap) ι z v):Q v s :=
 p s.heap s.toks S ι v (Go.refl ..) R r
theorem rC (R:Rel T B l S ι σ s.heap) {o:Option AV} (p:bF T B l W S ι s Q E (Mine.R.of o σ)):∃ z,o=some z∧cG T S ι z s Q:=by
 cases o with
 | none=>exact p.elim
 | some z=>exact ⟨z,rfl,bx R p⟩
theorem tG (R:Rel T B l S ι σ s.heap) {Q:Bool→Shared→Prop} {z:Bool} (p:zV T B l W S ι s Q E (.ok z σ)):Q z s:=p s.heap s.toks S ι z (Go.refl ..) R rfl
end
variable {X:Cx} {sl:List Str} {ρ:Env}
noncomputable def constOk (c:Const) (a:AV):Bool:=match c with
 | .none=>match a with
   | .none=>true
   | _=>false
 | .bool x=>match a with
   | .bool y=>x == y
   | _=>false
 | .int x=>match a with
   | .int y=>x == y
   | _=>false
 | .str x=>match a with
   | .str y=>x.cps.toList == y && y.all (· < 1114112)
   | _=>false
 | .bytes x=>match a with
   | .bytes y=>x.map (·.toNat) == y && decide (y.length≤1000)
   | _=>false
 | _=>false
theorem G3 {C:Const→AV→Prop} {c:Const} {a:AV} (h:constOk c a=true) (h0:C .none .none) (h1:∀ b,C (.bool b) (.bool b)) (h2:∀ n,C (.int n) (.int n))
   (h3:∀ x y,x.cps.toList=y→(∀ c∈y,c < 1114112)→C (.str x) (.str y)) (h4:∀ b,C (.bytes b) (.bytes (b.map (·.toNat)))):C c a:=by
 cases c with
 | none =>
   cases a with
   | none=>exact h0
   | _=>exact ffE h
 | bool x =>
   cases a with
   | bool y=>cases eq_of_beq (show (x == y)=true from h);exact h1 x
   | _=>exact ffE h
 | int x =>
   cases a with
   | int y=>cases eq_of_beq (show (x == y)=true from h);exact h2 x
   | _=>exact ffE h
 | str x =>
   cases a with
   | str y =>
     have h:=(Bool.and_eq_true _ _).mp (show (x.cps.toList == y && y.all (· < 1114112))=true from h)
     exact h3 x y (eq_of_beq h.1) fun c m=>of_decide_eq_true (List.all_eq_true.mp h.2 c m)
   | _=>exact ffE h
 | bytes x =>
   cases a with
   | bytes y =>
     have h:=(Bool.and_eq_true _ _).mp (show (x.map (·.toNat) == y && decide (y.length≤1000))=true from h)
     cases eq_of_beq h.1
     exact h4 x
   | _=>exact ffE h
 | _=>exact ffE h
theorem CN {c:Const} {x1:Nat} {x2:Pos} {a:AV} (h:constOk c a=true):Sat T B prog w X sl ρ (eval (.Constant c x1 x2) X.env) (fun σ=>.ok a σ):=by
 intro S ι σ s Q E R L p
 refine re (arm_eval_Constant ..) ?_
 revert p
 refine G3 (C:=fun c a=>bF T B X.l [] S ι s Q E (.ok a σ)→wpD (model prog w) X.A (constValue X.env c) Q E s) h (fun p=>?_) (fun b p=>?_) (fun n p=>?_) (fun x y e hy p=>?_) fun b p=>?_
 · exact D (wpAny_pure (gh R p rfl))
 · exact D (wpAny_pure (gh R p rfl))
 · exact D (wpAny_mkInt ((bx R p).int _ _))
 · exact D (wpAny_mkText ((bx R p).str hy e _ _))
 · show wpD _ _ (fresh >>= fun t=>pure (Value.bytes b.toArray t)) _ _ _
   refine D (wpAny_bind (wpAny_fresh (wpAny_pure (bx R p s.heap _ _ (fun _ _ e=>e) ⟨s.toks,?_,fun n hn=>?_⟩))))
   · congr 1
     refine re List.map_map ?_
     congr 1
     conv=>lhs;rw [← List.map_id b]
     apply List.map_congr_left
     intro u _
     simp
   · obtain ⟨u,_,rfl⟩:=List.mem_map.mp hn
     exact u.toNat_lt
theorem G4 {x:Nat} {id:Str} {pos:Pos} (hx:sl[x]?=some id) (hd:(id == ("__debug__":Str))=false) (hc:(id == ("__classdict__":Str))=false) :
   Sat T B prog w X sl ρ (eval (.Name id pos) X.env) (fun σ=>match ρ[x]? with | some (some a)=>.ok a σ | _=>.stuck):=by
 intro S ι σ s Q E R L p
 refine o11 L.ns fun m hm hs=>?_
 cases e:ρ[x]? with
 | none=>rw [e] at p;exact p.elim
 | some o =>
   cases o with
   | none=>rw [e] at p;exact p.elim
   | some a =>
     rw [e] at p
     rcases hs x id hx with ⟨h1,h2⟩ | ⟨h1,c,v,h2,h3,h4⟩
     · refine o11 (h2 a e) fun v h3 h4=>?_
       exact D (wpAny_Name (wpAny_loadName_local L.kind h1 hm h3 (gh R p h4)) hd)
     · obtain ⟨v,rfl,h5⟩:=h4 a e
       rcases h1 with h1 | h1
       · exact D (wpAny_Name (wpAny_loadName_cell L.kind h1 h2 h3 (gh R p h5)) hd)
       · exact D (wpAny_Name (wpAny_loadName_free L.kind h1 h2 h3 (gh R p h5) hc) hd)
theorem G5:f9 T B prog w X sl ρ (spliced []) (fun σ=>.ok [] σ):=by
 intro S ι σ s Q E R L p
 exact aj (p s.heap s.toks S ι [] (Go.refl ..) R rfl)
theorem CP {t:Sem Value} {r:Sig→R AV} {ts:List (Bool×Sem Value)} {rs:Sig→R (List AV)} (h:Sat T B prog w X sl ρ t r) (hs:f9 T B prog w X sl ρ (spliced ts) rs) :
   f9 T B prog w X sl ρ (spliced ((false,t) :: ts)) (fun σ=>(r σ).bind fun v σ=>(rs σ).bind fun vs σ=>.ok (v :: vs) σ):=by
 intro S ι σ s Q E R L p
 rw [spliced]
 refine aa (h R L (aF.bind p fun z σ₁ _ h₁ tk₁ S₁ ι₁ v G₁ R₁ r₁ p₁=>?_))
 refine aa (aj (aa (ao (hs R₁ (L.go R G₁) (aF.bind p₁ fun zs σ₂ _ h₂ tk₂ S₂ ι₂ vs G₂ R₂ r₂ p₂=>?_)))))
 exact aj (p₂ h₂ tk₂ S₂ ι₂ _ (Go.refl ..) R₂ ⟨v,vs,rfl,G₂.rep R₁ r₁,r₂⟩)
theorem PP:f9 T B prog w X sl ρ (evalAll []) (fun σ=>.ok [] σ):=by
 intro S ι σ s Q E R L p
 exact aj (p s.heap s.toks S ι [] (Go.refl ..) R rfl)
theorem J9 {a b:Expr} {o:Op} {pos:Pos} {ra rb:Sig→R AV} (ha:Sat T B prog w X sl ρ (eval a X.env) ra) (hb:Sat T B prog w X sl ρ (eval b X.env) rb) :
   Sat T B prog w X sl ρ (eval (.BinOp a (zQ o) b pos) X.env) (fun σ=>(ra σ).bind fun x σ=>(rb σ).bind fun y σ=>R.of (binop o x y) σ):=by
 intro S ι σ s Q E R L p
 refine re (arm_eval_BinOp ..) ?_
 refine aa (ha R L (aF.bind p fun z σ₁ _ h₁ tk₁ S₁ ι₁ v G₁ R₁ r₁ p₁=>?_))
 refine aa (ao (hb R₁ (L.go R G₁) (aF.bind p₁ fun z₂ σ₂ _ h₂ tk₂ S₂ ι₂ v₂ G₂ R₂ r₂ p₂=>?_)))
 refine o11 (rC R₂ p₂) fun z e lf=>?_
 exact aa (aq (lD (D (GP R₂ (G₂.rep R₁ r₁) r₂ e lf))))
theorem Ka {i:Int} {x1:Nat} {x2 pos:Pos}:Sat T B prog w X sl ρ (eval (.UnaryOp .USub (.Constant (.int i) x1 x2) pos) X.env) (fun σ=>.ok (.int (-i)) σ):=by
 intro S ι σ s Q E R L p
 refine re (arm_eval_UnaryOp ..) (re (arm_eval_Constant ..) ?_)
 refine aa (D (wpAny_mkInt (aa (aq (ao (D (PyProof.Rows.neg_int ?_)))))))
 exact (bx R p).int _ _
theorem Kc {a i:Expr} {pos:Pos} {ra ri:Sig→R AV} (ha:Sat T B prog w X sl ρ (eval a X.env) ra) (hi:Sat T B prog w X sl ρ (eval i X.env) ri)
   (hs:∀ o i',subscripted i false o i'=operate [o,i'] (getItem o i')) :
   Sat T B prog w X sl ρ (eval (.Subscript a i pos) X.env) (fun σ=>(ra σ).bind fun x σ=>(ri σ).bind fun y σ=>R.of (dJ σ x y) σ):=by
 intro S ι σ s Q E R L p
 refine re (arm_eval_Subscript ..) ?_
 refine aa (ha R L (aF.bind p fun z σ₁ _ h₁ tk₁ S₁ ι₁ v G₁ R₁ r₁ p₁=>?_))
 refine aa (ao (hi R₁ (L.go R G₁) (aF.bind p₁ fun z₂ σ₂ _ h₂ tk₂ S₂ ι₂ v₂ G₂ R₂ r₂ p₂=>?_)))
 refine o11 (rC R₂ p₂) fun z e lf=>?_
 refine aa (aq (D ?_))
 exact CJ R₂ (G₂.rep R₁ r₁) r₂ e (hs _ _) lf
end
end
section
structure Know (T:Tabs) (B:Heap) (K:Frag):Prop where
 kin:K.In B
 lim:B.NoLimit
 plain:∀ C f,dj C f=true→plainGet K (T.ca C) (T.fld f)=true
 hasD:∀ C,hasDictIn K (T.ca C)=true
 field:∀ C f,dj C f=true→∃ attr,findIn K (.ref (T.ca C)) (T.fld f)=some attr∧noGet K attr=true
 inj:∀ f g,T.fld f=T.fld g→f=g
section
variable {T:Tabs} {B:Heap} {K:Frag} {prog:Program} {w:World} {X:Cx} {sl:List Str} {ρ:Env}
theorem Know.here (k:Know T B K) {l:List PySem.Env} {S:List Addr} {ι:Cel} {σ:Sig} {h:Heap} (R:Rel T B l S ι σ h):K.In h:=k.kin.keeps R.base
theorem lF {vs:List Value} {n:Nat} (h:vs.length≤n) (hn:n≤2 ^ 22):vs.toArray.size≤sizeLine:=by refine re sizeLine_eq (re List.size_toArray ?_);exact szl (Nat.le_trans h hn) rfl
theorem Kd {es:List Expr} {x1:Nat} {pos:Pos} {rs:Sig→R (List AV)} (h:f9 T B prog w X sl ρ (spliced (backTo pos (starEach es X.env))) rs) (hl:∀ σ vs σ',rs σ=.ok vs σ'→vs.length≤1000) :
   Sat T B prog w X sl ρ (eval (.Tuple es x1 pos) X.env) (fun σ=>(rs σ).bind fun vs σ=>.ok (.tuple vs) σ):=by
 intro S ι σ s Q E R L p
 refine re (arm_eval_Tuple ..) ?_
 refine aa (aq (aa (h R L (aF.bind p fun z σ₁ e h₁ tk₁ S₁ ι₁ v G₁ R₁ r₁ p₁=>?_))))
 exact D (wpAny_newObj_type (J5 R₁ r₁ (bx R₁ p₁) _) (lF (by refine re (aH.length r₁) ?_;exact hl _ _ _ e) (by decide)))
theorem Ke {es:List Expr} {pos:Pos} {rs:Sig→R (List AV)} (h:f9 T B prog w X sl ρ (spliced (backTo pos (starEach es X.env))) rs) (hl:∀ σ vs σ',rs σ=.ok vs σ'→vs.length≤1000) :
   Sat T B prog w X sl ρ (eval (.List es pos) X.env) (fun σ=>(rs σ).bind fun vs σ=>.ok (.list vs) σ):=by
 intro S ι σ s Q E R L p
 refine re (arm_eval_List ..) ?_
 refine aa (aq (aa (h R L (aF.bind p fun z σ₁ e h₁ tk₁ S₁ ι₁ v G₁ R₁ r₁ p₁=>?_))))
 exact D (wpAny_newObj_type (mC R₁ r₁ (bx R₁ p₁) _) (lF (by refine re (aH.length r₁) ?_;exact hl _ _ _ e) (by decide)))
section
variable {l:List PySem.Env} {W S:List Addr} {ι:Cel} {σ:Sig} {h:Heap}
theorem Rel.alloc (R:Rel T B l S ι σ h) {o:Obj} {m:MO} (hf:o.isFreed=false) (hm:qe T (off (h.objs.size :: S) (h.push o)) (ι++[(h.objs.size,h.objs.size)]) (h.push o) (h.objs.size,h.objs.size) m) :
   Rel T B l (h.objs.size :: S) (ι++[(h.objs.size,h.objs.size)]) (σ++[m]) (h.push o)∧Go l W S ι h (h.objs.size :: S) (ι++[(h.objs.size,h.objs.size)]) (h.push o):=by
 have fr:h.objs.size∉S:=fun q=>by refine o10 (R.live _ q) fun o e=>?_;exact absurd (Heap.lt_size e) (Nat.lt_irrefl _)
 have nn:h.get? h.objs.size=none:=Heap.get?_none_of_le (Nat.le_refl _)
 have ki:∀ (i:Nat) p,ι[i]?=some p→(ι++[(h.objs.size,h.objs.size)])[i]?=some p:=fun i p e=>by
   refine re (List.getElem?_append_left (List.getElem?_eq_some_iff.mp e).1) ?_;exact e
 have kp:∀ a o',off S h a=some o'→off (h.objs.size :: S) (h.push o) a=some o':=fun a o' e=>by
   refine o01 (aA.mp e) fun n e=>?_
   refine aA.mpr ⟨fun q=>?_,Heap.get?_push_of_some _ e⟩
   rcases List.mem_cons.mp q with rfl | q
   · rw [nn] at e;cases e
   · exact n q
 constructor
 · exact {
     base:=fun a o' e=>Heap.get?_push_of_some _ (R.base a o' e)
     bS:=fun a q=>by
       rcases List.mem_cons.mp q with rfl | q
       · exact none_of fun o e=>by rw [R.base _ _ e] at nn;cases nn
       · exact R.bS a q
     live:=fun a q=>by
       rcases List.mem_cons.mp q with rfl | q
       · exact ⟨o,Heap.get?_push_size _ hf⟩
       · refine o10 (R.live a q) fun o' e=>?_;exact ⟨o',Heap.get?_push_of_some _ e⟩
     sub:=fun a q=>by
       simp only [cells,List.map_append,List.mem_append,List.map_cons,List.map_nil,List.mem_singleton] at q
       rcases q with q | rfl
       · exact .tail _ (R.sub a q)
       · exact .head _
     nodup:=by
       simp only [cells,List.map_append,List.map_cons,List.map_nil]
       refine List.nodup_append.mpr ⟨R.nodup,by simp,fun a q b q' e=>?_⟩
       simp only [List.mem_singleton] at q'
       subst q' e
       exact fr (R.sub _ q)
     len:=by simp [R.len]
     obj:=fun i p m' e1 e2=>by
       by_cases q:i < ι.length
       · rw [List.getElem?_append_left q] at e1
         rw [List.getElem?_append_left (by refine rf R.len ?_;exact q)] at e2
         exact (R.obj i p m' e1 e2).keep kp ki fun o' e=>Heap.get?_push_of_some _ e
       · have hi:i=ι.length:=by
           have:=(List.getElem?_eq_some_iff.mp e1).1
           simp at this;lia
         subst hi
         simp at e1
         rw [R.len] at e2
         simp at e2
         subst e1 e2
         exact hm
     stk:=fun env he=>by
       obtain ⟨h1,L,m,h2,h3,h4,h5⟩:=R.stk env he
       refine ⟨h1,L,m,h2,.tail _ h3,fun q=>?_,h5.push _⟩
       simp only [cells,List.map_append,List.mem_append,List.map_cons,List.map_nil,List.mem_singleton] at q
       rcases q with q | rfl
       · exact h4 q
       · exact fr h3 }
 · exact {
     step:=fun a o' e _ _ _=>Heap.get?_push_of_some _ e
     frm:=fun a m e _ _=>e.push _
     alive:=fun a o' e=>⟨o',Heap.get?_push_of_some _ e⟩
     pre:=ki
     sub:=fun a q=>.tail _ q
     new:=fun a q n=>by
       rcases List.mem_cons.mp q with rfl | q
       · exact nn
       · exact absurd q n
     cel:=fun a q n=>by
       simp only [cells,List.map_append,List.mem_append,List.map_cons,List.map_nil,List.mem_singleton] at q
       rcases q with q | rfl
       · exact absurd q n
       · exact nn }
end
theorem G6 {es:List Expr} {pos:Pos} {rs:Sig→R (List AV)} (h:f9 T B prog w X sl ρ (spliced (backTo pos (starEach es X.env))) rs) (hl:∀ σ vs σ',rs σ=.ok vs σ'→vs.length≤1000) :
   Sat T B prog w X sl ρ (eval (.List es pos) X.env) (fun σ=>(rs σ).bind fun vs σ=>.ok (.loc σ.length) (σ++[.list vs])):=by
 intro S ι σ s Q E R L p
 refine re (arm_eval_List ..) ?_
 refine aa (aq (aa (h R L (aF.bind p fun z σ₁ e h₁ tk₁ S₁ ι₁ v G₁ R₁ r₁ p₁=>?_))))
 refine D (wpAny_newObj_type ?_ (lF (by refine re (aH.length r₁) ?_;exact hl _ _ _ e) (by decide)))
 obtain ⟨R₂,G₂⟩:=R₁.alloc (W:=[]) (o:={ cls:=.type "list",data:=.seq v.toArray }) (m:=.list z) rfl ⟨rfl,v,⟨0,Heap.get?_push_size _ rfl⟩,r₁.mono (fun a o e=>by
   obtain ⟨n,e⟩:=aA.mp e
   refine aA.mpr ⟨fun q=>?_,Heap.get?_push_of_some _ e⟩
   rcases List.mem_cons.mp q with rfl | q
   · exact absurd (Heap.lt_size e) (Nat.lt_irrefl _)
   · exact n q) (fun i p e=>by refine re (List.getElem?_append_left (List.getElem?_eq_some_iff.mp e).1) ?_;exact e)⟩
 exact p₁ _ tk₁ _ _ _ G₂ R₂ ⟨_,_,by refine rf R₁.len ?_;exact List.getElem?_concat_length ..,rfl⟩
theorem zW {pos:Pos}:Sat T B prog w X sl ρ (eval (.Dict [] [] pos) X.env) (fun σ=>.ok (.loc σ.length) (σ++[.dict 0 []])):=by
 intro S ι σ s Q E R L p
 refine re (eval_Dict_empty ..) ?_
 refine aa (aq (D (wpAny_newObj_type ?_)))
 obtain ⟨R₂,G₂⟩:=R.alloc (W:=[]) (o:={ cls:=.type "dict",data:=.dict #[] }) (m:=.dict 0 []) rfl ⟨rfl,[],⟨_,#[],0,Heap.get?_push_size _ rfl,rfl,rfl,by intro e he;simp at he,fun k=>by simp [findBy,gr]⟩,rfl,by
   intro o es ep ho hd
   rw [Heap.get?_push_size _ rfl] at ho
   cases ho
   cases hd
   simp⟩
 exact p _ s.toks _ _ _ G₂ R₂ ⟨_,_,by refine rf R.len ?_;exact List.getElem?_concat_length ..,rfl⟩
noncomputable def zX (T:Tabs) (B:Heap) (prog:Program) (w:World) (X:Cx) (sl:List Str) (ρ:Env) (x:Option Expr) (r:Sig→R AV):Prop:=Sat T B prog w X sl ρ (valueOrNone (evalOpt x X.env)) r
theorem uz {e:Expr} {r:Sig→R AV} (h:Sat T B prog w X sl ρ (eval e X.env) r):zX T B prog w X sl ρ (some e) r:=h
theorem uA:zX T B prog w X sl ρ none (fun σ=>.ok .none σ):=by
 intro S ι σ s Q E R L p
 exact aj (gh R p rfl)
theorem Kf {a:Expr} {lo hi:Option Expr} {pos p2:Pos} {ra rl rh:Sig→R AV} (ha:Sat T B prog w X sl ρ (eval a X.env) ra) (hl:zX T B prog w X sl ρ lo rl) (hh:zX T B prog w X sl ρ hi rh) :
   Sat T B prog w X sl ρ (eval (.Subscript a (.Slice lo hi none p2) pos) X.env) (fun σ=>(ra σ).bind fun x σ=>(rl σ).bind fun l σ=>(rh σ).bind fun h σ=>R.of (Mine.slice x l h) σ):=by
 intro S ι σ s Q E R L p
 refine re (arm_eval_Subscript ..) ?_
 refine aa (ha R L (aF.bind p fun z σ₁ _ h₁ tk₁ S₁ ι₁ v G₁ R₁ r₁ p₁=>?_))
 refine aa (ao ?_)
 refine re (arm_eval_Slice ..) ?_
 refine aa (hl R₁ (L.go R G₁) (aF.bind p₁ fun z₂ σ₂ _ h₂ tk₂ S₂ ι₂ v₂ G₂ R₂ r₂ p₂=>?_))
 refine aa (ao (hh R₂ ((L.go R G₁).go R₁ G₂) (aF.bind p₂ fun z₃ σ₃ _ h₃ tk₃ S₃ ι₃ v₃ G₃ R₃ r₃ p₃=>?_)))
 refine aa (ao (aj (D (wpAny_newObj_type ?_))))
 refine o11 (rC R₃ p₃) fun z e lf=>?_
 refine aa (aq (D ?_))
 have k:dX h₃ (h₃.push { cls:=.type "slice",data:=.fields #[v₂,v₃,.none] }):=dm _ _
 refine GZ (R₃.grow k) ((G₃.rep R₂ (G₂.rep R₁ r₁)).mono k.phi fun _ _ e=>e) ((G₃.rep R₂ r₂).mono k.phi fun _ _ e=>e) (r₃.mono k.phi fun _ _ e=>e) e (Heap.IsSliceOf.new h₃ v₂ v₃ .none) rfl ?_
 exact fun h' tk' v k' r=>lf h' tk' v (fun a o e=>k' a o (k a o e)) r
theorem Kg {a:Expr} {pos:Pos} {ra:Sig→R AV} (ha:Sat T B prog w X sl ρ (eval a X.env) ra) :
   Sat T B prog w X sl ρ (eval (.UnaryOp .Not a pos) X.env) (fun σ=>(ra σ).bind fun x σ=>match truthy x with | some t=>.ok (.bool (!t)) σ | none=>.stuck):=by
 intro S ι σ s Q E R L p
 refine re (arm_eval_UnaryOp ..) ?_
 refine aa (ha R L (aF.bind p fun z σ₁ _ h₁ tk₁ S₁ ι₁ v G₁ R₁ r₁ p₁=>?_))
 cases e:truthy z with
 | none=>rw [e] at p₁;exact p₁.elim
 | some t =>
   rw [e] at p₁
   exact aa (aq (ao (D (not_value (oA r₁ e (bx R₁ p₁).bool0)))))
end
end
section
noncomputable def tst (r:Sig→R AV):Sig→R Bool:=fun σ=>(r σ).bind fun v σ=>Mine.R.of (truthy v) σ
section
variable {T:Tabs} {B:Heap} {K:Frag} {prog:Program} {w:World} {X:Cx} {sl:List Str} {ρ:Env}
noncomputable def oG:Expr→Bool
 | .UnaryOp .Not _ _ | .BoolOp .. | .IfExp .. | .Compare ..=>false
 | _=>true
theorem isTrue_plain {e:Expr} {env:PySem.Env} {whole:Sem Value} (h:oG e=true):isTrue e env whole=(do let v ← whole;standAt e.pos;holding [v] (PySem.truthy v)):=by
 cases e with
 | UnaryOp op x p=>cases op<;>first | rfl | cases h
 | _=>first | rfl | cases h
theorem QS {t:Sem Bool} {r r':Sig→R Bool} (e:r=r') (h:bW T B prog w X sl ρ t r'):bW T B prog w X sl ρ t r:=by rw [e];exact h
theorem zY {e:Expr} {r:Sig→R AV} (hp:oG e=true) (h:Sat T B prog w X sl ρ (eval e X.env) r):bW T B prog w X sl ρ (isTrue e X.env (eval e X.env)) (tst r):=by
 intro S ι σ s Q E R L p
 refine re (isTrue_plain hp) ?_
 refine aa (h R L (aF.bind p fun z σ₁ _ h₁ tk₁ S₁ ι₁ v G₁ R₁ r₁ p₁=>?_))
 cases e:truthy z with
 | none=>rw [e] at p₁;exact p₁.elim
 | some t =>
   rw [e] at p₁
   exact aa (aq (ao (D (oA r₁ e (tG R₁ p₁)))))
theorem Kh (r:Sig→R AV):tst (fun σ=>(r σ).bind fun x σ=>match truthy x with | some t=>.ok (.bool (!t)) σ | none=>.stuck)=fun σ=>(tst r σ).bind fun t σ=>.ok (!t) σ:=by
 funext σ
 unfold tst;try dsimp only
 cases r σ with
 | ok v σ' =>
   simp only [Mine.R.bind]
   cases truthy v<;>rfl
 | err=>rfl
 | stuck=>rfl
theorem G7 {a:Expr} {pos:Pos} {ra:Sig→R AV} {whole:Sem Value} (ha:bW T B prog w X sl ρ (isTrue a X.env (eval a X.env)) (tst ra)) :
   bW T B prog w X sl ρ (isTrue (.UnaryOp .Not a pos) X.env whole) (tst (fun σ=>(ra σ).bind fun x σ=>match truthy x with | some t=>.ok (.bool (!t)) σ | none=>.stuck)):=by
 rw [Kh]
 intro S ι σ s Q E R L p
 rw [arm_isTrue_UnaryOp]
 refine aa (ha R L (aF.bind p fun z σ₁ _ h₁ tk₁ S₁ ι₁ v G₁ R₁ r₁ p₁=>?_))
 subst r₁
 exact aj (tG R₁ p₁)
theorem Kl {t a b:Expr} {pos:Pos} {rt ra rb:Sig→R AV} (ht:bW T B prog w X sl ρ (isTrue t X.env (eval t X.env)) (tst rt)) (ha:Sat T B prog w X sl ρ (eval a X.env) ra) (hb:Sat T B prog w X sl ρ (eval b X.env) rb) :
   Sat T B prog w X sl ρ (eval (.IfExp t a b pos) X.env) (fun σ=>(rt σ).bind fun x σ=>match truthy x with | some true=>ra σ | some false=>rb σ | none=>.stuck):=by
 intro S ι σ s Q E R L p
 refine re (arm_eval_IfExp ..) ?_
 have e:((rt σ).bind fun x σ=>match truthy x with | some true=>ra σ | some false=>rb σ | none=>.stuck)=(tst rt σ).bind fun c σ=>if c then ra σ else rb σ:=by
   unfold tst;try dsimp only
   cases rt σ with
   | ok v σ' =>
     simp only [Mine.R.bind]
     cases truthy v with
     | none=>rfl
     | some c=>cases c<;>rfl
   | err=>rfl
   | stuck=>rfl
 (try dsimp only at p);rw [e] at p
 refine aa (ht R L (aF.bind p fun z σ₁ _ h₁ tk₁ S₁ ι₁ v G₁ R₁ r₁ p₁=>?_))
 subst r₁
 cases z with
 | true=>simp only [if_true] at p₁ ⊢;exact ha R₁ (L.go R G₁) p₁
 | false=>simp only [Bool.false_eq_true,if_false] at p₁ ⊢;exact hb R₁ (L.go R G₁) p₁
theorem G8 {t a b:Expr} {pos:Pos} {rt ra rb:Sig→R AV} {whole:Sem Value} (ht:bW T B prog w X sl ρ (isTrue t X.env (eval t X.env)) (tst rt)) (ha:bW T B prog w X sl ρ (isTrue a X.env (eval a X.env)) (tst ra))
   (hb:bW T B prog w X sl ρ (isTrue b X.env (eval b X.env)) (tst rb)) :
   bW T B prog w X sl ρ (isTrue (.IfExp t a b pos) X.env whole) (tst (fun σ=>(rt σ).bind fun x σ=>match truthy x with | some true=>ra σ | some false=>rb σ | none=>.stuck)):=by
 intro S ι σ s Q E R L p
 refine re (arm_isTrue_IfExp ..) ?_
 have e:tst (fun σ=>(rt σ).bind fun x σ=>match truthy x with | some true=>ra σ | some false=>rb σ | none=>.stuck) σ=(tst rt σ).bind fun c σ=>if c then tst ra σ else tst rb σ:=by
   unfold tst;try dsimp only
   cases rt σ with
   | ok v σ' =>
     simp only [Mine.R.bind]
     cases truthy v with
     | none=>rfl
     | some c=>cases c<;>rfl
   | err=>rfl
   | stuck=>rfl
 (try dsimp only at p);rw [e] at p
 refine aa (ht R L (aF.bind p fun z σ₁ _ h₁ tk₁ S₁ ι₁ v G₁ R₁ r₁ p₁=>?_))
 subst r₁
 cases z with
 | true=>simp only [if_true] at p₁ ⊢;exact ha R₁ (L.go R G₁) p₁
 | false=>simp only [Bool.false_eq_true,if_false] at p₁ ⊢;exact hb R₁ (L.go R G₁) p₁
noncomputable def bop (isAnd:Bool):PySem.BoolOp:=if isAnd then .And else .Or
noncomputable def rD (isAnd:Bool) (r rs:Sig→R AV):Sig→R AV:=fun σ=>(r σ).bind fun v σ=>match truthy v with | none=>.stuck | some t=>if t == isAnd then rs σ else .ok v σ
theorem Nf {e:Expr} {pos:Pos} {isAnd:Bool} {r:Sig→R AV} (h:Sat T B prog w X sl ρ (eval e X.env) r):Sat T B prog w X sl ρ (boolOp pos (bop isAnd) (evalEach [e] X.env)) r:=h
theorem Km {e e2:Expr} {es:List Expr} {pos:Pos} {isAnd:Bool} {r rs:Sig→R AV} (h:Sat T B prog w X sl ρ (eval e X.env) r) (hs:Sat T B prog w X sl ρ (boolOp pos (bop isAnd) (evalEach (e2 :: es) X.env)) rs) :
   Sat T B prog w X sl ρ (boolOp pos (bop isAnd) (evalEach (e :: e2 :: es) X.env)) (rD isAnd r rs):=by
 intro S ι σ s Q E R L p
 refine aa (h R L (aF.bind p fun z σ₁ _ h₁ tk₁ S₁ ι₁ v G₁ R₁ r₁ p₁=>?_))
 cases e:truthy z with
 | none=>rw [e] at p₁;exact p₁.elim
 | some t =>
   rw [e] at p₁
   refine aa (aq (aa (ao (D (oA r₁ e ?_)))))
   cases isAnd<;>cases t
   · exact hs R₁ (L.go R G₁) p₁
   · exact aj (gh R₁ p₁ r₁)
   · exact aj (gh R₁ p₁ r₁)
   · exact hs R₁ (L.go R G₁) p₁
theorem Ng (isAnd:Bool) (r rs:Sig→R AV):tst (rD isAnd r rs)=fun σ=>(tst r σ).bind fun t σ=>if t == isAnd then tst rs σ else .ok t σ:=by
 funext σ
 unfold tst rD;try dsimp only
 cases r σ with
 | ok v σ' =>
   simp only [Mine.R.bind]
   cases e:truthy v with
   | none=>rfl
   | some t =>
     simp only [R.of,R.bind]
     cases t<;>cases isAnd<;>simp [R.bind,e,R.of]
 | err=>rfl
 | stuck=>rfl
theorem Ko {e:Expr} {isAnd:Bool} {r:Sig→R AV} (h:bW T B prog w X sl ρ (isTrue e X.env (eval e X.env)) (tst r)):bW T B prog w X sl ρ (allTrue (bop isAnd) [e] X.env) (tst r):=by
 intro S ι σ s Q E R L p
 have e':tst r σ=(tst r σ).bind fun t σ=>.ok t σ:=by cases tst r σ<;>rfl
 try dsimp only at p
 rw [e'] at p
 refine re (arm_allTrue_cons ..) ?_
 refine aa (h R L (aF.bind p fun z σ₁ _ h₁ tk₁ S₁ ι₁ v G₁ R₁ r₁ p₁=>?_))
 subst r₁
 have:=tG R₁ p₁
 cases isAnd<;>cases z<;>exact aj this
theorem G9 {e:Expr} {es:List Expr} {isAnd:Bool} {r rs:Sig→R AV} (h:bW T B prog w X sl ρ (isTrue e X.env (eval e X.env)) (tst r)) (hs:bW T B prog w X sl ρ (allTrue (bop isAnd) es X.env) (tst rs)) :
   bW T B prog w X sl ρ (allTrue (bop isAnd) (e :: es) X.env) (tst (rD isAnd r rs)):=by
 rw [Ng]
 intro S ι σ s Q E R L p
 rw [arm_allTrue_cons]
 refine aa (h R L (aF.bind p fun z σ₁ _ h₁ tk₁ S₁ ι₁ v G₁ R₁ r₁ p₁=>?_))
 subst r₁
 cases isAnd<;>cases z
 · exact hs R₁ (L.go R G₁) p₁
 · exact aj (tG R₁ p₁)
 · exact aj (tG R₁ p₁)
 · exact hs R₁ (L.go R G₁) p₁
noncomputable def rE:Expr→Bool
 | .Set ..=>false
 | _=>true
theorem fJ {env:PySem.Env}:∀ (ops:List PySem.CmpOp) (es:List Expr),es.all rE=true→markedEach ops es (evalEach es env)=evalEach es env
 | [],[],_=>rfl
 | [],_ :: _,_=>rfl
 | [_],[],_=>rfl
 | _ :: _ :: _,[],_=>rfl
 | [op],[e],h=>by
   have h:rE e=true:=by simpa using h
   show [markedBehindIn op e (eval e env)]=[eval e env]
   unfold markedBehindIn
   have:behindInMarks op e=false:=by cases e<;>first | rfl | cases h
   exact re this rfl
 | [op],e :: e2 :: es,h=>by
   show eval e env :: markedEach [] (e2 :: es) (evalEach (e2 :: es) env)=_
   refine re (fJ [] (e2 :: es) (by simp only [List.all_cons,Bool.and_eq_true] at h ⊢;exact h.2)) ?_
   rfl
 | op :: op2 :: ops,[e],h=>by
   show eval e env :: markedEach (op2 :: ops) [] (evalEach [] env)=_
   refine re (fJ (op2 :: ops) [] rfl) ?_
   rfl
 | op :: op2 :: ops,e :: e2 :: es,h=>by
   show eval e env :: markedEach (op2 :: ops) (e2 :: es) (evalEach (e2 :: es) env)=_
   refine re (fJ (op2 :: ops) (e2 :: es) (by simp only [List.all_cons,Bool.and_eq_true] at h ⊢;exact h.2)) ?_
   rfl
noncomputable def pA (T:Tabs) (B:Heap) (prog:Program) (w:World) (X:Cx) (sl:List Str) (ρ:Env) (pos:Pos) (ops:List PySem.CmpOp) (es:List Expr) (r:AV→Sig→R AV):Prop :=
 ∀ {S:List Addr} {ι:Cel} {σ:Sig} {s:Shared} {Q E:Value→Shared→Prop} {x:AV} {v:Value},Rel T B X.l S ι σ s.heap→Loc T X.env sl ρ S ι s.heap→au T (off S s.heap) ι x v →
   (bF T B X.l [] S ι s Q E (r x σ)→wpD (model prog w) X.A (compareChain pos v ops (evalEach es X.env)) Q E s) ∧
   ∀ {Q:Bool→Shared→Prop},zV T B X.l [] S ι s Q E (tst (r x) σ)→wpD (model prog w) X.A (testChain pos v ops (evalEach es X.env)) Q E s
theorem Nh {e:Expr} {pos:Pos} {o:COp} {r:Sig→R AV} (hu:X.A.units + 64 < cLine) (h:Sat T B prog w X sl ρ (eval e X.env) r) :
   pA T B prog w X sl ρ pos [rn o] [e] (fun x σ=>(r σ).bind fun y σ=>Mine.R.of ((cmpop σ o x y).map .bool) σ):=by
 intro S ι σ s Q E x v R L rx
 constructor
 · intro p
   show wpD _ _ (holding [v] (eval e X.env) >>= _) _ _ _
   refine aa (ao (h R L (aF.bind p fun z σ₁ _ h₁ tk₁ S₁ ι₁ v₁ G₁ R₁ r₁ p₁=>?_)))
   cases e:cmpop σ₁ o x z with
   | none=>rw [e] at p₁;exact p₁.elim
   | some c =>
     rw [e] at p₁
     exact aa (aq (lD (D (mD R₁ (G₁.rep R rx) r₁ hu e fun k=>(bx R₁ p₁).bool k))))
 · intro Q p
   show wpD _ _ (holding [v] (eval e X.env) >>= _) _ _ _
   have e':tst (fun σ=>(r σ).bind fun y σ=>Mine.R.of ((cmpop σ o x y).map .bool) σ) σ=(r σ).bind fun y σ=>Mine.R.of (cmpop σ o x y) σ:=by
     unfold tst;try dsimp only
     cases r σ with
     | ok y σ'=>simp only [Mine.R.bind];cases cmpop σ' o x y<;>rfl
     | err=>rfl
     | stuck=>rfl
   try dsimp only at p
   rw [e'] at p
   refine aa (ao (h R L (aF.bind p fun z σ₁ _ h₁ tk₁ S₁ ι₁ v₁ G₁ R₁ r₁ p₁=>?_)))
   cases e:cmpop σ₁ o x z with
   | none=>rw [e] at p₁;exact p₁.elim
   | some c =>
     rw [e] at p₁
     refine aa (aq (aa (lD (D (mD R₁ (G₁.rep R rx) r₁ hu e fun k=>?_)))))
     exact ao (D (wpAny_truthy_bool (p₁ h₁ k S₁ ι₁ c (Go.refl ..) R₁ rfl)))
theorem Kp {e e2:Expr} {es:List Expr} {pos:Pos} {o:COp} {o2:PySem.CmpOp} {ops:List PySem.CmpOp} {r:Sig→R AV} {rs:AV→Sig→R AV} (hu:X.A.units + 64 < cLine) (h:Sat T B prog w X sl ρ (eval e X.env) r)
   (hs:pA T B prog w X sl ρ pos (o2 :: ops) (e2 :: es) rs) :
   pA T B prog w X sl ρ pos (rn o :: o2 :: ops) (e :: e2 :: es) (fun x σ=>(r σ).bind fun y σ=>match cmpop σ o x y with | some true=>rs y σ | some false=>.ok (.bool false) σ | none=>.stuck):=by
 intro S ι σ s Q E x v R L rx
 constructor
 · intro p
   show wpD _ _ (holding [v] (eval e X.env) >>= _) _ _ _
   refine aa (ao (h R L (aF.bind p fun z σ₁ _ h₁ tk₁ S₁ ι₁ v₁ G₁ R₁ r₁ p₁=>?_)))
   cases e:cmpop σ₁ o x z with
   | none=>rw [e] at p₁;exact p₁.elim
   | some c =>
     rw [e] at p₁
     refine aa (aq (aa (ao (D (mD R₁ (G₁.rep R rx) r₁ hu e fun k=>?_)))))
     refine aa (gf (aa (ao (D (wpAny_truthy_bool ?_)))))
     cases c with
     | true=>exact (hs (s:={ s with heap:=h₁,toks:=k }) R₁ (L.go R G₁) r₁).1 (aF.later (s:={ s with heap:=h₁,toks:=tk₁ }) (Go.refl ..) p₁)
     | false=>exact aj ((bx R₁ p₁).bool k)
 · intro Q p
   show wpD _ _ (holding [v] (eval e X.env) >>= _) _ _ _
   have e':tst (fun σ=>(r σ).bind fun y σ=>match cmpop σ o x y with | some true=>rs y σ | some false=>.ok (.bool false) σ | none=>.stuck) σ=(r σ).bind fun y σ=>match cmpop σ o x y with | some true=>tst (rs y) σ | some false=>.ok false σ | none=>.stuck:=by
     unfold tst;try dsimp only
     cases r σ with
     | ok y σ' =>
       simp only [Mine.R.bind]
       cases cmpop σ' o x y with
       | none=>rfl
       | some c=>cases c<;>rfl
     | err=>rfl
     | stuck=>rfl
   try dsimp only at p
   rw [e'] at p
   refine aa (ao (h R L (aF.bind p fun z σ₁ _ h₁ tk₁ S₁ ι₁ v₁ G₁ R₁ r₁ p₁=>?_)))
   cases e:cmpop σ₁ o x z with
   | none=>rw [e] at p₁;exact p₁.elim
   | some c =>
     rw [e] at p₁
     refine aa (aq (aa (ao (D (mD R₁ (G₁.rep R rx) r₁ hu e fun k=>?_)))))
     refine aa (gf (aa (ao (D (wpAny_truthy_bool ?_)))))
     cases c with
     | true=>exact (hs (s:={ s with heap:=h₁,toks:=k }) (Q:=fun _ _=>True) (E:=E) R₁ (L.go R G₁) r₁).2 (aF.later (s:={ s with heap:=h₁,toks:=tk₁ }) (Go.refl ..) p₁)
     | false=>exact aj (p₁ h₁ k S₁ ι₁ false (Go.refl ..) R₁ rfl)
theorem Kq {a:Expr} {ops:List PySem.CmpOp} {es:List Expr} {pos:Pos} {ra:Sig→R AV} {rs:AV→Sig→R AV} (ha:Sat T B prog w X sl ρ (eval a X.env) ra) (hs:pA T B prog w X sl ρ pos ops es rs) (hn:es.all rE=true) :
   Sat T B prog w X sl ρ (eval (.Compare a ops es pos) X.env) (fun σ=>(ra σ).bind fun x σ=>rs x σ):=by
 intro S ι σ s Q E R L p
 refine re (arm_eval_Compare ..) (re (fJ _ _ hn) ?_)
 refine aa (ha R L (aF.bind p fun z σ₁ _ h₁ tk₁ S₁ ι₁ v G₁ R₁ r₁ p₁=>?_))
 exact (hs R₁ (L.go R G₁) r₁).1 p₁
theorem Ha {a:Expr} {ops:List PySem.CmpOp} {es:List Expr} {pos:Pos} {ra:Sig→R AV} {rs:AV→Sig→R AV} {whole:Sem Value} (ha:Sat T B prog w X sl ρ (eval a X.env) ra) (hs:pA T B prog w X sl ρ pos ops es rs) (hn:es.all rE=true) :
   bW T B prog w X sl ρ (isTrue (.Compare a ops es pos) X.env whole) (tst (fun σ=>(ra σ).bind fun x σ=>rs x σ)):=by
 intro S ι σ s Q E R L p
 refine re (arm_isTrue_Compare ..) (re (fJ _ _ hn) ?_)
 have e:tst (fun σ=>(ra σ).bind fun x σ=>rs x σ) σ=(ra σ).bind fun x σ=>tst (rs x) σ:=by
   unfold tst;try dsimp only
   cases ra σ<;>rfl
 (try dsimp only at p);rw [e] at p
 refine aa (ha R L (aF.bind p fun z σ₁ _ h₁ tk₁ S₁ ι₁ v G₁ R₁ r₁ p₁=>?_))
 exact (hs (Q:=fun _ _=>True) (E:=E) R₁ (L.go R G₁) r₁).2 p₁
noncomputable def baseOk:Expr→Bool
 | .Call f xs ks _=>match f with
   | .Name _ _=>!(xs.isEmpty && ks.isEmpty)
   | _=>true
 | _=>true
theorem lQ {o:Expr} {attr:Str} {env:PySem.Env} {whole:Sem Value} (h:baseOk o=true):attributeBase o attr env whole=whole:=by
 cases o with
 | Call f xs ks p =>
   cases f with
   | Name =>
     cases xs with
     | nil =>
       cases ks with
       | nil=>exact ffE h
       | cons=>rfl
     | cons=>rfl
   | _=>rfl
 | _=>rfl
theorem Kr {φ:Phi} {ι:Cel} {fs:List (Nat×AV)} {es:List DictEntry} {f:Nat} {z:AV} (hi:∀ f g,T.fld f=T.fld g→f=g) (hr:eG T φ ι fs es) (e:dM fs f=some z):∃ v,getL (T.fld f) es=some (some v)∧au T φ ι z v:=by
 induction fs generalizing es with
 | nil=>exact aC e
 | cons p fs ih =>
   obtain ⟨en,r,rfl,⟨t,hk⟩,hv,hr⟩:=hr
   unfold dM at e
   rw [List.find?_cons] at e
   unfold getL
   refine re (List.find?_cons) ?_
   have:en.key.isStr (T.fld f)=(p.1 == f):=by
     refine re hk ?_
     show (T.fld p.1 == T.fld f)=_
     rw [Bool.eq_iff_iff]
     simp only [beq_iff_eq]
     exact ⟨fun q=>hi _ _ q,fun q=>by exact re q rfl⟩
   refine re this ?_
   cases q:(p.1 == f) with
   | true=>rw [q] at e;simp at e;subst e;exact ⟨en.val,rfl,hv⟩
   | false =>
     rw [q] at e
     refine o11 (ih hr (show dM fs f=some z from e)) fun v h1 h2=>?_
     refine ⟨v,?_,h2⟩
     unfold getL at h1
     dsimp only
     cases q2:r.find? (·.key.isStr (T.fld f)) with
     | some e'=>rw [q2] at h1;exact h1
     | none =>
       rw [q2] at h1
       exfalso
       dsimp only at h1
       split at h1<;>cases h1
theorem zZ {φ:Phi} {ι:Cel} {x:AV} {v:Value} (r:au T φ ι x v):handedIn v=true:=by
 cases x with
 | none=>cases r;rfl
 | bool b=>cases r;rfl
 | int i=>obtain ⟨t,rfl⟩:=r;rfl
 | str s=>obtain ⟨t,rfl,_⟩:=r;rfl
 | bytes s=>obtain ⟨t,rfl,_⟩:=r;rfl
 | tuple xs=>obtain ⟨a,vs,rfl,_⟩:=r;rfl
 | list xs=>obtain ⟨a,vs,rfl,_⟩:=r;rfl
 | inst C fs=>obtain ⟨a,d,es,n,rfl,_⟩:=r;rfl
 | dict es=>obtain ⟨a,ps,rfl,_⟩:=r;rfl
 | loc i=>obtain ⟨a,c,_,rfl⟩:=r;rfl
section
variable {l:List PySem.Env} {S:List Addr} {ι:Cel} {σ:Sig} {s:Shared} {A:Around} {E:Value→Shared→Prop} {Q:Value→Shared→Prop}
theorem Rel.instAt (R:Rel T B l S ι σ s.heap) {x:AV} {v:Value} {C:Nat} {fs:List (Nat×AV)} (r:au T (off S s.heap) ι x v)
   (e:x=.inst C fs∨∃ i,x=.loc i∧σ[i]?=some (.inst C fs)):∃ a d es n,v=.ref a∧s.heap.get? a=some (instObj (T.ca C) d)∧s.heap.get? d=some (dictOf es n)∧eG T (off S s.heap) ι fs es:=by
 rcases e with rfl | ⟨i,rfl,hi⟩
 · obtain ⟨a,d,es,n,rfl,h1,h2,h3⟩:=r
   exact ⟨a,d,es,n,rfl,(aA.mp h1).2,(aA.mp h2).2,h3⟩
 · obtain ⟨a,c,h1,rfl⟩:=r
   obtain ⟨h2,es,n,h3,h4⟩:=R.obj _ _ _ h1 hi
   exact ⟨a,c,es,n,rfl,(aA.mp h2).2,h3,h4⟩
theorem v7 {x:AV} {f:Nat} {z:AV} (e:getattr σ x f=some z):∃ C fs,(x=.inst C fs∨∃ i,x=.loc i∧σ[i]?=some (.inst C fs))∧dj C f=true∧dM fs f=some z:=by
 unfold getattr at e
 split at e
 · split at e
   · exact ⟨_,_,.inl rfl,by assumption,e⟩
   · cases e
 · split at e
   · split at e
     · exact ⟨_,_,.inr ⟨_,rfl,by assumption⟩,by assumption,e⟩
     · cases e
   · cases e
 · cases e
theorem kY {h:Heap} {a d C:Addr} {es:List DictEntry} {n:Nat} (h1:h.get? a=some (instObj C d)) (h2:h.get? d=some (dictOf es n)):InstAt h a (instObj C d) C (some (dictOf es n)):=⟨h1,rfl,rfl,h2⟩
theorem z6 (k:Know T B K) (R:Rel T B l S ι σ s.heap) {x z:AV} {v:Value} {f:Nat} {expr:Bool} (r:au T (off S s.heap) ι x v) (e:getattr σ x f=some z) (h:cG T S ι z s Q) :
   wpAny (model prog w) A (getAttr v (T.fld f) expr) Q E s:=by
 refine o22 (v7 e) fun C fs hx hok hg=>?_
 obtain ⟨a,d,es,n,rfl,h1,h2,h3⟩:=R.instAt r hx
 refine o11 (Kr k.inj h3 hg) fun v hl hv=>?_
 refine o11 (k.field C f hok) fun attr ha hn=>?_
 have hp:=plainGet_of (k.plain C f hok)
 exact get_value (k.here R) (kY h1 h2) hp.1 (findObj_own (k.hasD C) ha hn (by refine re (lookIn_dict ..) ?_;exact hl)) (zZ hv) (h s.heap (s.toks + 1) v (fun _ _ e=>e) hv)
end
theorem Hb (k:Know T B K) {o:Expr} {f:Nat} {pos:Pos} {ro:Sig→R AV} (ho:Sat T B prog w X sl ρ (eval o X.env) ro) (hb:baseOk o=true) :
   Sat T B prog w X sl ρ (eval (.Attribute o (T.fld f) pos) X.env) (fun σ=>(ro σ).bind fun x σ=>Mine.R.of (getattr σ x f) σ):=by
 intro S ι σ s Q E R L p
 refine re (arm_eval_Attribute ..) (re (lQ hb) ?_)
 refine aa (ho R L (aF.bind p fun z σ₁ _ h₁ tk₁ S₁ ι₁ v G₁ R₁ r₁ p₁=>?_))
 refine o11 (rC R₁ p₁) fun z e lf=>?_
 refine aa (aq (aa (ao (D (z6 k R₁ r₁ e fun h' tk' v k r=>?_)))))
 exact aa (D (wpAny_letTemporaryGo (aj (lf h' tk' v k r))))
end
end
section
section
variable {prog:Program} {w:World} {A:Around} {K:Frag} {C:Addr} {R:Result→Shared→Prop} {h:Heap} {g:Array GenState} {d:Drawn} {t:Nat} {os:OsState} {s:Shared}
theorem gj {c c':Code} (h:wpAny (model prog w) (A.under c) ((model prog w).den c) (fun fin s'=>fin=.again c'∧c'.quiet=true∧bj (model prog w) A c' R s') (fun e s'=>R (.error e) s') s) (hd:isDec c=false) :
   bj (model prog w) A c R s :=
 bQ (aV (D h) (fun fin s' ⟨e,q,r⟩=>by subst e;exact ⟨q,r⟩) fun _ _ x=>x) hd
theorem eQ {id:String} {args:Args} {b:Builtin} (hb:entryFor table id=some b)
   (h:wpD (model prog w) (A.under (.builtin id args)) (b args)
     (fun fin s'=>match fin with | .done f=>R (.ok f) s' | .again c'=>c'.quiet=true∧bj (model prog w) A c' R s') (fun e s'=>R (.error e) s') s) (hd:Builtin.Bytes.decodersThatHold.contains id=false) :
   bj (model prog w) A (.builtin id args) R s:=by
 refine bQ ?_ hd
 show wpD _ _ (match entryFor table id with | some b=>b args | none=>unsupported ((withoutEnding? id "#data").getD id)) _ _ s
 refine re hb ?_;exact h
theorem cQ {id:String} {args:Args} (hq:(Code.builtin id args).quiet=true)
   (h:wpAny (model prog w) A.in1 (checkBuiltinCall id args) (fun _ s₁=>bj (model prog w) A (.builtin id args) R s₁) (fun e s'=>R (.error e) s') s) :
   bj (model prog w) A (.call (.builtin id) args) R s:=by
 refine gj (c':=.builtin id args) ?_ rfl
 show wpAny _ A.in1 (do checkBuiltinCall id args;again (.builtin id args)) _ _ s
 exact wpAny_bind (wpAny_mono h (fun _ s₁ h₁=>wpAny_pure ⟨rfl,hq,h₁⟩) fun _ _ h'=>h')
theorem PQ {rest:List Value} {init:Value} (Y:Makes (model prog w) h C) (hi:Looks (model prog w) h (typeLookup (.ref C) "__init__") (some init))
   (hb:∀ self,Looks (model prog w) h (bindSpecial init self) (init,[self])) (hne:(some init != some (Value.builtin "object.__init__"))=true∨(rest=[]∧([]:List (Str×Value))=[]))
   (hq:bj (model prog w) (A.under (.builtin "type.__call__" ⟨.ref C :: rest,[]⟩)) (.call init ⟨.ref (h.objs.size + 1) :: rest,[]⟩) (InitBack (h.objs.size + 1) R) ⟨(h.push emptyDict).push (instObj C h.objs.size),g,d,t,os⟩) :
   bj (model prog w) A (.call (.ref C) ⟨rest,[]⟩) R ⟨h,g,d,t,os⟩:=by
 have Y':=Y
 obtain ⟨⟨oc,od,cd,sl,hC,e1,e2,e4⟩,made,base,self,top,call,typ⟩:=Y
 refine gj (c':=.call (.builtin "type.__call__") ⟨.ref C :: rest,[]⟩) ?_ rfl
 refine nd_load hC ?_
 show wpAny _ _ (callAny.viaDunder (.ref C) _) _ _ _
 refine wpAny_bind (call.at ?_)
 dsimp only
 refine re (tc_bind ..) ?_
 refine wpAny_bind (wpAny_pure (wpAny_bind (wpAny_pure ?_)))
 refine wpAny_pure (a:=Fin.again (.call (.builtin "type.__call__") ⟨.ref C :: rest,[]⟩)) ⟨rfl,rfl,?_⟩
 refine cQ (Code.quiet_builtin _ (by decide +kernel)) (check_slot tc_kind tc_split typ (tc_args _ _ _) ?_)
 refine eQ entry_typeCall ?_ (by decide +kernel)
 have hm:Looks (model prog w) h (mroOf (.ref C)) cd.mro:=((Looks.ld (part:=none) hC).andThen .now).andThen .now
 refine az (hm.at ?_)
 simp only [e4,Bool.false_eq_true,if_false]
 refine az (made.at ?_)
 refine aa (aj ?_)
 refine aa (ao (D (wpAny_call (new_K Y' hi hne ?_))))
 have k:∀ b o,h.get? b=some o→((h.push emptyDict).push (instObj C h.objs.size)).get? b=some o:=fun b o e=>Heap.get?_push_of_some _ (Heap.get?_push_of_some _ e)
 have hx:((h.push emptyDict).push (instObj C h.objs.size)).get? (h.objs.size + 1)=some (instObj C h.objs.size):=by heap_get
 have t1:Looks (model prog w) ((h.push emptyDict).push (instObj C h.objs.size)) (typeOf (.ref (h.objs.size + 1))) (.ref C):=(Looks.ld hx).andThen .now
 have s1:=self.keeps k
 have i1:=hi.keeps k
 have b1:=(hb (.ref (h.objs.size + 1))).keeps k
 refine az ((show Looks (model prog w) _ (isInstance (.ref (h.objs.size + 1)) (.ref C)) true from t1.andThen s1).at ?_)
 refine aa (ao ?_)
 refine az ((show Looks (model prog w) _ (specialOf (.ref (h.objs.size + 1)) "__init__") (some init) from t1.andThen i1).at ?_)
 dsimp only
 refine ao (az (b1.at ?_))
 refine aa (cH (fU hq fun r s' z=>?_))
 rcases r with e | (v | _ | _ | _)<;>first | exact z | exact z.elim | skip
 obtain ⟨rfl,z⟩:=z
 exact aj (aj z)
end
end
section
namespace BA
theorem mro:mroOf (.type "bytearray")=pure [.type "bytearray",.type "object"]:=by refine re (mroOf_type ..) ?_;kernel_rfl
theorem z7:typeLookup (.type "bytearray") "__new__"=pure (some (.builtin "bytearray.__new__")):=by refine re (typeLookup_type ..) (re builtinLookup_eq_fast ?_);kernel_rfl
theorem sub:isSubtype (.type "bytearray") (.type "bytearray")=pure true:=by refine re (isSubtype_type ..) ?_;kernel_rfl
theorem gF:Slot "bytearray" "__init__" "bytearray.__init__" :=
 .of (owner:="bytearray") (n:="__init__") (by refine re (typeLookup_type ..) (re builtinLookup_eq_fast ?_);kernel_rfl) (by decide +kernel) (by decide +kernel) (by decide +kernel)
   (by first | exact .inl (by decide +kernel) | exact .inr (by decide +kernel)) sub
theorem called:TypeCalled "bytearray" "bytearray.__new__" "bytearray.__init__" :=
 ⟨by decide +kernel,by decide +kernel,⟨_,_,mro⟩,madeBy_type mro z7 (by decide +kernel),by decide +kernel,sub,gF⟩
theorem typeCall:checkTypeCall "bytearray" ⟨[],[]⟩=pure ():=by kernel_rfl
theorem Ks:checkBuiltinCall "bytearray.__new__" ⟨[.type "bytearray"],[]⟩=pure ():=by kernel_rfl
theorem CQ:entryFor table "bytearray.__new__"=some Builtin.«list.__new__»:=entryFor_alias (id':="list.__new__") (by kernel_rfl) rfl (by decide +kernel) (by kernel_rfl)
theorem z9:entryFor table "bytearray.__init__"=some Builtin.«bytearray.__init__»:=entryFor_of_tree (by kernel_rfl)
theorem uB:plainId "bytearray.__new__"=true:=by decide +kernel
theorem CT:("bytearray.__new__".splitOn ".__new__").headD ""="bytearray":=by simp +decide [String.splitOn,String.splitOnAux]
theorem CV (a:Value):argsOk "bytearray.__init__" ⟨[a],[]⟩:=by unfold argsOk;kernel_rfl
theorem release:typeLookup (.type "bytearray") "__release_buffer__"=pure (some (.builtin "bytearray.__release_buffer__")):=by refine re (typeLookup_type ..) (re builtinLookup_eq_fast ?_);kernel_rfl
theorem buffer:typeLookup (.type "bytearray") "__buffer__"=pure (some (.builtin "bytearray.__buffer__")):=by refine re (typeLookup_type ..) (re builtinLookup_eq_fast ?_);kernel_rfl
theorem Ku:typeLookup (.type "bytearray") "__bytes__"=pure none:=by refine re (typeLookup_type ..) (re builtinLookup_eq_fast ?_);kernel_rfl
theorem Kv:typeLookup (.type "bytearray") "__index__"=pure none:=by refine re (typeLookup_type ..) (re builtinLookup_eq_fast ?_);kernel_rfl
theorem PT:Builtin.Bytes.bindOptional "bytearray.__init__" "bytearray" ["source", "encoding", "errors"] [] []=pure [none,none,none]:=by kernel_rfl
end BA
section
variable {prog:Program} {w:World} {A:Around} {E:Value→Shared→Prop} {s:Shared}
theorem yq {Q₁:Value→Shared→Prop} (h:Q₁ (.ref s.heap.objs.size) { s with heap:=s.heap.push { cls:=.type "bytearray",data:=.bytearray #[] } }) :
   codeAny (model prog w) A (.call (.builtin "bytearray.__new__") ⟨[.type "bytearray"],[]⟩) (wants Q₁ E) s:=by
 refine codeAny_of_tree ?_
 show wpAny _ A.in1 (do checkBuiltinCall "bytearray.__new__" ⟨[.type "bytearray"],[]⟩;again (.builtin "bytearray.__new__" ⟨[.type "bytearray"],[]⟩)) _ _ s
 refine wpAny_bind (wpAny_of_eq BA.Ks (wpAny_pure ⟨plainId_quiet BA.uB _,codeAny_builtin_stack BA.CQ rfl fun p st=>?_⟩))
 refine re (Around.under_plainId BA.uB _) ?_
 have hsub:=BA.sub
 have hown:=BA.CT
 obtain ⟨hp,g,d,tk,os⟩:=s
 simp only [hown]
 wp_walk
 exact h
noncomputable abbrev eY (h:Heap) (a:Addr) (b:Array UInt8):Prop:=h.get? a=some { cls:=.type "bytearray",data:=.bytearray b 0 }
theorem eY.typeIs {a:Addr} {b:Array UInt8} (x:eY s.heap a b):s.TypeIs (.ref a) "bytearray":=⟨_,x,rfl⟩
theorem nT {a:Addr} {b:Array UInt8} {Q:Bool→Shared→Prop} (x:eY s.heap a b) (h:Q false s):wpAny (model prog w) A (Builtin.Bytes.ownRelease (.ref a)) Q E s:=by
 refine wpAny_bind (wpAny_bind (wpAny_specialOf x.typeIs BA.release ?_))
 dsimp only
 have e1:("bytearray.__release_buffer__".endsWith ("."++"__release_buffer__"))=true:=by decide +kernel
 have e2:("bytearray.__release_buffer__".dropRight ("__release_buffer__".length + 1))="bytearray":=by decide +kernel
 refine re e1 (re e2 ?_)
 exact bm_if_false rfl (wpAny_isInstance x.typeIs BA.sub (wpAny_pure h))
theorem rF {a:Addr} {b:Array UInt8} {Q:Array UInt8→Shared→Prop} (x:eY s.heap a b) (h:Q b s):wpAny (model prog w) A (Builtin.Bytes.payload (.ref a)) Q E s:=by
 refine wpAny_bind (wpAny_bind (wpAny_load x ?_))
 exact wpAny_pure (wpAny_pure h)
theorem v8 {a:Addr} {b:Array UInt8} {f:Array UInt8→Array UInt8} {Q:Unit→Shared→Prop} (x:eY s.heap a b) (hz:(f b).size≤sizeLine) (h:∀ h',eY h' a (f b)→Heap.SameBut a s.heap h'→Q () { s with heap:=h' }) :
   wpAny (model prog w) A (Builtin.Bytes.write (.ref a) f) Q E s:=by
 show wpAny _ _ (updateBytearray a f) _ _ _
 refine wpAny_bind (wpAny_load x ?_)
 refine wpAny_bind (wpAny_update x ?_)
 have hS:eY (s.heap.update a (Obj.mapBytearray f)) a (f b):=Heap.get?_update_self (Obj.mapBytearray f) x rfl
 refine wpAny_lookBehind hS ?_ (h _ hS (Heap.SameBut.update ..))
 show (if (f b).size > sizeLine then some "bytearray:memory" else none)=none
 exact re (if_neg (by exact Nat.not_lt_of_le hz)) rfl
theorem lR {a:Addr} {b:Array UInt8} {Q:Bool→Shared→Prop} (hg:A.guards=some []) (x:eY s.heap a b) (h:Q false s) :
   wpD (model prog w) A (Builtin.Bytes.exported (.ref a) <||> (do return (← Builtin.Bytes.exportsOf (.ref a)) > 0)) Q E s:=by
 show wpD _ _ (Builtin.Bytes.exported (.ref a) >>= _) _ _ _
 refine aa (vK hg ?_)
 refine az (wpAny_bind (wpAny_load x (wpAny_pure ?_)))
 exact aj h
theorem tH {a:Addr} {b:Array UInt8} {Q:Unit→Shared→Prop} (hg:A.guards=some []) (x:eY s.heap a b) (h:Q () s):wpD (model prog w) A (Builtin.Bytes.checkResize (.ref a)) Q E s:=by
 unfold Builtin.Bytes.checkResize
 refine aa (lR hg x ?_)
 exact aj h
theorem v9 {a:Addr} {Q:Value→Shared→Prop} (hg:A.guards=some []) (x:eY s.heap a #[]) (h:∀ h',eY h' a #[]→Heap.SameBut a s.heap h'→Q .none { s with heap:=h' }) :
   bj (model prog w) A (.call (.builtin "bytearray.__init__") ⟨[.ref a],[]⟩) (wants Q E) s:=by
 refine cQ (plainId_quiet BA.gF.plain _) (BA.gF.check _ _ _ _ _ _ _ _ x.typeIs (BA.CV _) ?_)
 refine eQ BA.z9 ?_ (by decide +kernel)
 refine re (Around.under_plainId BA.gF.plain _) ?_
 show wpD _ _ (Builtin.Bytes.ownRelease (.ref a) >>= _) _ _ _
 refine az (nT x ?_)
 show wpD _ _ (Builtin.Bytes.bindOptional "bytearray.__init__" "bytearray" ["source", "encoding", "errors"] [] [] >>= _) _ _ _
 refine az (wpAny_of_eq BA.PT ?_)
 refine az (wpAny_of_eq (a:=()) rfl ?_)
 refine az (wpAny_of_eq (a:=()) rfl ?_)
 refine aa (lR (A:=A.in1) hg x ?_)
 refine az (v8 x (by decide) fun h' x' hs=>?_)
 exact aa (aj (aj (h h' x' hs)))
theorem tK {Q:Value→Shared→Prop} (hg:A.guards=some [])
   (h:∀ h',eY h' s.heap.objs.size #[]→Heap.SameBut s.heap.objs.size (s.heap.push { cls:=.type "bytearray",data:=.bytearray #[] }) h'→Q (.ref s.heap.objs.size) { s with heap:=h' }) :
   wpD (model prog w) A (call (.type "bytearray") []) Q E s:=by
 refine cH ?_
 refine gj (c':=.builtin "type.__call__" ⟨[.type "bytearray"],[]⟩) ?_ rfl
 show wpAny _ _ (callAny (.type "bytearray") _) _ _ _
 refine wpAny_pure ⟨rfl,Code.quiet_builtin _ (by decide +kernel),?_⟩
 refine eQ entry_typeCall ?_ (by decide +kernel)
 refine re (Around.under_plain (weight_type_call_type "bytearray" [] []) rfl) ?_
 unfold Builtin.«type.__call__»
 refine az (wpAny_of_eq BA.typeCall ?_)
 refine az (wpAny_of_eq BA.mro ?_)
 refine az (wpAny_of_eq BA.called.made ?_)
 refine aa (aj ?_)
 refine aa (ao (D (wpAny_runValue (codeAny_mono (yq (E:=fun _ _=>False) (Q₁:=fun v s₁=>v=.ref s.heap.objs.size∧s₁={ s with heap:=s.heap.push { cls:=.type "bytearray",data:=.bytearray #[] } }) ⟨rfl,rfl⟩) fun r s₁ z=>?_))))
 rcases r with e | (v | _ | _ | _)<;>first | exact z.elim | skip
 obtain ⟨rfl,rfl⟩:=z
 have x:eY (s.heap.push { cls:=.type "bytearray",data:=.bytearray #[] }) s.heap.objs.size #[]:=Heap.get?_push_size _ rfl
 have hT:({ s with heap:=s.heap.push { cls:=.type "bytearray",data:=.bytearray #[] } }:Shared).TypeIs (.ref s.heap.objs.size) "bytearray":=eY.typeIs (s:={ s with heap:=s.heap.push { cls:=.type "bytearray",data:=.bytearray #[] } }) x
 refine az (wpAny_isInstance hT BA.sub ?_)
 refine aa (ao ?_)
 refine az (wpAny_specialOf hT BA.gF.lookup ?_)
 dsimp only
 refine ao (az (wpAny_of_eq (BA.gF.bind _) ?_))
 refine aa (cH (fU (v9 (A:=A.in1) (E:=E) (Q:=fun v s'=>v=.none∧Q (.ref s.heap.objs.size) s') hg x fun h' x' hs=>⟨rfl,h h' x' hs⟩) fun r s' z=>?_))
 rcases r with e | (v | _ | _ | _)<;>first | exact z | exact z.elim | skip
 obtain ⟨rfl,z⟩:=z
 exact aj (aj z)
namespace BA
theorem iR:Slot "bytearray" "extend" "bytearray.extend" :=
 .of (owner:="bytearray") (n:="extend") (by refine re (typeLookup_type ..) (re builtinLookup_eq_fast ?_);kernel_rfl) (by decide +kernel) (by decide +kernel) (by decide +kernel)
   (by first | exact .inl (by decide +kernel) | exact .inr (by decide +kernel)) sub
theorem wg:entryFor table "bytearray.extend"=some Builtin.«bytearray.extend»:=entryFor_of_tree (by kernel_rfl)
theorem yr (a b:Value):argsOk "bytearray.extend" ⟨[a,b],[]⟩:=by unfold argsOk;kernel_rfl
theorem iy:typeLookup (.type "bytes") "__buffer__"=pure (some (.builtin "bytes.__buffer__")):=by refine re (typeLookup_type ..) (re builtinLookup_eq_fast ?_);kernel_rfl
theorem CW:typeLookup (.type "bytes") "__release_buffer__"=pure none:=by refine re (typeLookup_type ..) (re builtinLookup_eq_fast ?_);kernel_rfl
theorem PX:isSubtype (.type "bytes") (.type "bytes")=pure true:=by rw [isSubtype_type];kernel_rfl
end BA
theorem wi {c:Array UInt8} {t:Tok} {Q:Bool→Shared→Prop} (h:Q false s):wpAny (model prog w) A (Builtin.Bytes.ownRelease (.bytes c t)) Q E s:=by
 unfold Builtin.Bytes.ownRelease Builtin.Bytes.slotIsOwn
 refine wpAny_bind (wpAny_bind (wpAny_specialOf (typeIs_bytes _ _ _) BA.CW ?_))
 exact wpAny_pure (wpAny_pure h)
theorem oH {c:Array UInt8} {t:Tok} {Q:Bool→Shared→Prop} (h:Q true s):wpAny (model prog w) A (Builtin.Bytes.slotIsOwn (.bytes c t) "__buffer__") Q E s:=by
 unfold Builtin.Bytes.slotIsOwn
 refine wpAny_bind (wpAny_specialOf (typeIs_bytes _ _ _) BA.iy ?_)
 dsimp only
 have e1:("bytes.__buffer__".endsWith ("."++"__buffer__"))=true:=by decide +kernel
 have e2:("bytes.__buffer__".dropRight ("__buffer__".length + 1))="bytes":=by decide +kernel
 refine re e1 (re e2 ?_)
 exact bm_if_false rfl (wpAny_isInstance (typeIs_bytes _ _ _) BA.PX h)
theorem b_buffer? {id:String} {full:Bool} {c:Array UInt8} {t:Tok} {Q:Option (Array UInt8)→Shared→Prop} (h:Q (some c) s):wpAny (model prog w) A (Builtin.Bytes.buffer? id (.bytes c t) full) Q E s:=by
 unfold Builtin.Bytes.buffer?
 refine wpAny_bind (wpAny_specialOf (typeIs_bytes _ _ _) BA.iy ?_)
 refine wpAny_bind (oH ?_)
 refine wpAny_bind (wpAny_specialOf (typeIs_bytes _ _ _) BA.iy ?_)
 refine wpAny_bind (wi ?_)
 exact wpAny_bind (wpAny_bind (wpAny_pure (wpAny_pure (wpAny_pure h))))
theorem yt {id:String} {n:Int} {c:Array UInt8} {t:Tok} {Q:Option (Array UInt8×Option Value)→Shared→Prop} (h:Q (some (c,none)) s):wpAny (model prog w) A (Builtin.Bytes.takeBufferQuiet? id (.bytes c t) n) Q E s:=by
 refine wpAny_bind (wpAny_attempt ?_)
 refine wpAny_bind (wpAny_specialOf (typeIs_bytes _ _ _) BA.iy ?_)
 refine wpAny_bind (oH ?_)
 refine wpAny_bind (wpAny_specialOf (typeIs_bytes _ _ _) BA.iy ?_)
 exact wpAny_bind (b_buffer? (wpAny_pure (wpAny_pure h)))
set_option backward.match.sparseCases true in
theorem yu {a:Addr} {b c:Array UInt8} {t:Tok} {Q:Value→Shared→Prop} (hg:A.guards=some []) (x:eY s.heap a b) (hz:(b++c).size≤sizeLine)
   (h:∀ h',eY h' a (b++c)→Heap.SameBut a s.heap h'→Q .none { s with heap:=h' }):wpD (model prog w) A (call (.builtin "bytearray.extend") [.ref a,.bytes c t]) Q E s:=by
 refine cH ?_
 refine cQ (plainId_quiet BA.iR.plain _) (BA.iR.check _ _ _ _ _ _ _ _ x.typeIs (BA.yr _ _) ?_)
 refine eQ BA.wg ?_ (by decide +kernel)
 refine re (Around.under_plainId BA.iR.plain _) ?_
 unfold Builtin.«bytearray.extend»
 refine az (wpAny_of_eq (a:=(Value.ref a,Value.bytes c t)) rfl ?_)
 refine az (wpAny_specialOf (typeIs_bytes _ _ _) BA.iy ?_)
 refine az (wpAny_rule ?_)
 refine az (rF x ?_)
 refine az (yt ?_)
 have fin:wpD (model prog w) A.in1 (Builtin.Bytes.write (.ref a) (·++c) >>= fun _=>ret .none) (fun fin s'=>match fin with
     | .done f=>(match (Except.ok f:Result) with | .ok (.ret v)=>Q v s' | .ok _=>False | .error e=>E e s')
     | .again c'=>c'.quiet=true∧bj (model prog w) A c' (fun r s'=>match r with | .ok (.ret v)=>Q v s' | .ok _=>False | .error e=>E e s') s') E s :=
   az (v8 (f:=(·++c)) x hz fun h' x' hs=>aj (h h' x' hs))
 show wpD _ _ (if (!c.isEmpty)=true then (Builtin.Bytes.checkResize (.ref a) >>= fun _=>_) else _) _ _ _
 split
 · exact aa (tH hg x fin)
 · exact fin
namespace BA
theorem Kw:typeLookup (.type "bytes") "__bytes__"=pure (some (.builtin "bytes.__bytes__")):=by refine re (typeLookup_type ..) (re builtinLookup_eq_fast ?_);kernel_rfl
theorem Ky:typeLookup (.type "int") "__bytes__"=pure none:=by refine re (typeLookup_type ..) (re builtinLookup_eq_fast ?_);kernel_rfl
theorem Kz:typeLookup (.type "int") "__index__"=pure (some (.builtin "int.__index__")):=by refine re (typeLookup_type ..) (re builtinLookup_eq_fast ?_);kernel_rfl
end BA
theorem Aa {x:Value} {Q:Value→Shared→Prop} (h:wpAny (model prog w) A.in1 (Builtin.«bytes.__new__» ⟨[.type "bytes",x],[]⟩)
     (fun fin s'=>match fin with | .done f=>wants Q E (.ok f) s' | .again c'=>c'.quiet=true∧codeAny (model prog w) A c' (wants Q E) s') (fun e s'=>wants Q E (.error e) s') s) :
   codeAny (model prog w) A (.call (.builtin "bytes.__new__") ⟨[.type "bytes",x],[]⟩) (wants Q E) s:=by
 refine codeAny_of_tree ?_
 show wpAny _ A.in1 (do checkBuiltinCall "bytes.__new__" ⟨[.type "bytes",x],[]⟩;again (.builtin "bytes.__new__" ⟨[.type "bytes",x],[]⟩)) _ _ s
 refine wpAny_bind (wpAny_of_eq (F.bm_newCall _) (wpAny_pure ⟨plainId_quiet F.bm_plain _,codeAny_builtin F.bm_entry ?_⟩))
 refine re (Around.under_plainId F.bm_plain _) ?_
 exact h
theorem jr {x:Value} {Q:Value→Shared→Prop} (h:wpAny (model prog w) A.in1.in1 (Builtin.«bytes.__new__» ⟨[.type "bytes",x],[]⟩)
     (fun fin s'=>∃ v,fin=.done (.ret v)∧s'.TypeIs v "bytes"∧Q v s') (fun _ _=>False) s):wpAny (model prog w) A (call (.type "bytes") [x]) Q E s:=by
 refine callType_codes (Q₁:=fun obj s₁=>s₁.TypeIs obj "bytes"∧Q obj s₁) F.bm_called (F.bm_typeCall _) F.entry_object_init
   (Aa (wpAny_mono h (fun fin s' z=>?_) fun _ _ z=>z.elim)) fun obj s₁ h₁=>?_
 · obtain ⟨v,rfl,z⟩:=z;exact z
 · exact ⟨h₁.1,F.args_object_init_2 obj _,object_init_meets F.bm_called.init.lookup F.bm_called.made (rfl) prog w A.in1 _ s₁ ⟨h₁.1,rfl,h₁.2⟩⟩
theorem qi {c:Array UInt8} {t:Tok} {Q:Value→Shared→Prop} (h:Q (.bytes c t) s):wpAny (model prog w) A (call (.type "bytes") [.bytes c t]) Q E s:=by
 refine jr ?_
 refine wpAny_bind (wpAny_of_eq (a:=true) rfl ?_)
 refine bm_if_false rfl ?_
 refine wpAny_bind (wpAny_of_eq F.bm_sub ?_)
 refine bm_if_false rfl ?_
 refine wpAny_bind (wpAny_of_eq (F.bm_bind _) ?_)
 refine wpAny_bind (wpAny_of_eq (a:=()) rfl ?_)
 refine wpAny_bind (wpAny_of_eq (a:=()) rfl ?_)
 refine bm_if_false rfl ?_
 refine wpAny_bind (wpAny_specialOf (typeIs_bytes _ _ _) BA.Kw ?_)
 refine wpAny_bind (wpAny_rule (wpAny_bind (wpAny_typeOf (typeIs_bytes _ _ _) ?_)))
 refine bm_if_true (rfl) ?_
 exact wpAny_pure ⟨_,rfl,typeIs_bytes _ _ _,h⟩
theorem qj {n:Int} {t:Tok} {Q:Value→Shared→Prop} (h0:0≤n) (h1:n≤1024) (h:∀ t' k,Q (.bytes (Array.replicate n.toNat 0) t') { s with toks:=k }):wpAny (model prog w) A (call (.type "bytes") [.int n t]) Q E s:=by
 refine jr ?_
 refine wpAny_bind (wpAny_of_eq (a:=true) rfl ?_)
 refine bm_if_false rfl ?_
 refine wpAny_bind (wpAny_of_eq F.bm_sub ?_)
 refine bm_if_false rfl ?_
 refine wpAny_bind (wpAny_of_eq (F.bm_bind _) ?_)
 refine wpAny_bind (wpAny_of_eq (a:=()) rfl ?_)
 refine wpAny_bind (wpAny_of_eq (a:=()) rfl ?_)
 refine bm_if_false rfl ?_
 refine wpAny_bind (wpAny_specialOf (typeIs_int _ _ _) BA.Ky ?_)
 refine wpAny_bind (wpAny_of_eq (a:=false) rfl ?_)
 refine bm_if_false rfl ?_
 refine wpAny_bind (wpAny_specialOf (typeIs_int _ _ _) BA.Kz ?_)
 refine bm_if_false rfl ?_
 refine wpAny_bind (wpAny_attempt (wpAny_of_eq (rfl:asIndex (.int n t)=pure n) ?_))
 have f1:Builtin.Bytes.fitsIndex n=true:=by unfold Builtin.Bytes.fitsIndex;simp only [Bool.and_eq_true,decide_eq_true_eq];exact ⟨Int.le_trans (by decide) h0,Int.lt_of_le_of_lt h1 (by decide)⟩
 have f2:Builtin.Bytes.tooLong n.toNat=false:=by unfold Builtin.Bytes.tooLong;refine re sizeLine_eq ?_;simp only [decide_eq_false_iff_not];exact Nat.not_lt.mpr (szl (Int.toNat_le.mpr h1) rfl)
 simp only [f1,f2,Bool.not_true,Bool.false_eq_true,if_false]
 refine re (if_neg (by exact Int.not_lt_of_ge h0)) (re (if_neg (Int.not_lt.mpr (Int.le_trans h1 (by decide)))) ?_)
 refine wpAny_bind (wpAny_rule (wpAny_bind (wpAny_mkBytes ?_ (by refine re sizeLine_eq ?_;simp only [Array.size_replicate];exact szl (Int.toNat_le.mpr h1) rfl))))
 show wpAny _ _ (if (Value.type "bytes" == Value.type "bytes")=true then _ else _) _ _ _
 refine bm_if_true (by decide) ?_
 first
   | exact wpAny_pure ⟨_,rfl,typeIs_bytes _ _ _,h _ _⟩
   | exact wpAny_bind (wpAny_pure (wpAny_pure ⟨_,rfl,typeIs_bytes _ _ _,h _ _⟩))
theorem ba_buffer? {id:String} {full:Bool} {a:Addr} {c:Array UInt8} {Q:Option (Array UInt8)→Shared→Prop} (x:eY s.heap a c) (h:Q (some c) s):wpAny (model prog w) A (Builtin.Bytes.buffer? id (.ref a) full) Q E s:=by
 unfold Builtin.Bytes.buffer?
 refine wpAny_bind (wpAny_specialOf x.typeIs BA.buffer ?_)
 refine wpAny_bind ?_
 refine wpAny_bind (wpAny_specialOf x.typeIs BA.buffer ?_)
 dsimp only
 have e1:("bytearray.__buffer__".endsWith ("."++"__buffer__"))=true:=by decide +kernel
 have e2:("bytearray.__buffer__".dropRight ("__buffer__".length + 1))="bytearray":=by decide +kernel
 refine re e1 (re e2 ?_)
 refine bm_if_false rfl (wpAny_isInstance x.typeIs BA.sub ?_)
 refine wpAny_bind (wpAny_specialOf x.typeIs BA.buffer ?_)
 refine wpAny_bind (nT x ?_)
 exact wpAny_bind (rF x (wpAny_pure h))
theorem vo {a:Addr} {c:Array UInt8} {Q:Value→Shared→Prop} (x:eY s.heap a c) (hz:c.size≤sizeLine) (h:∀ t k,Q (.bytes c t) { s with toks:=k }):wpAny (model prog w) A (call (.type "bytes") [.ref a]) Q E s:=by
 refine jr ?_
 refine wpAny_bind (wpAny_of_eq (a:=true) rfl ?_)
 refine bm_if_false rfl ?_
 refine wpAny_bind (wpAny_of_eq F.bm_sub ?_)
 refine bm_if_false rfl ?_
 refine wpAny_bind (wpAny_of_eq (F.bm_bind _) ?_)
 refine wpAny_bind (wpAny_of_eq (a:=()) rfl ?_)
 refine wpAny_bind (wpAny_of_eq (a:=()) rfl ?_)
 refine bm_if_false rfl ?_
 refine wpAny_bind (wpAny_specialOf x.typeIs BA.Ku ?_)
 refine wpAny_bind (wpAny_bind ?_)
 refine wpAny_bind (wpAny_load x ?_)
 refine wpAny_pure (wpAny_pure ?_)
 refine bm_if_false rfl ?_
 refine wpAny_bind (wpAny_specialOf x.typeIs BA.Kv ?_)
 refine bm_if_true rfl ?_
 first
   | show wpAny _ _ (Builtin.Bytes.buffer? "bytes.__new__" (.ref a) true >>= _) _ _ _
   | (refine wpAny_bind ?_;show wpAny _ _ (Builtin.Bytes.buffer? "bytes.__new__" (.ref a) true >>= _) _ _ _)
 refine wpAny_bind (ba_buffer? x ?_)
 refine wpAny_bind (wpAny_rule ?_)
 refine wpAny_bind (wpAny_mkBytes ?_ hz)
 refine bm_if_true (by decide) ?_
 first
   | exact wpAny_pure ⟨_,rfl,typeIs_bytes _ _ _,h _ _⟩
   | exact wpAny_bind (wpAny_pure (wpAny_pure ⟨_,rfl,typeIs_bytes _ _ _,h _ _⟩))
end
end
section
theorem rG (c:Nat):∀ (p:List Nat),c∉p→splitOn c p=[p]
 | [],_=>rfl
 | d :: r,h=>by
   have hd:¬ (d=c):=fun e=>h (by refine re e ?_;exact List.mem_cons_self)
   unfold splitOn
   exact re (if_neg hd) (re (rG c r fun m=>h (List.mem_cons_of_mem _ m)) rfl)
theorem uC (c:Nat) (r:List Nat):∀ (p:List Nat),c∉p→splitOn c (p++c :: r)=p :: splitOn c r
 | [],_=>by
   show splitOn c (c :: r)=_
   rewrite [splitOn];exact re (if_pos rfl) rfl
 | d :: p,h=>by
   have hd:¬ (d=c):=fun e=>h (by refine re e ?_;exact List.mem_cons_self)
   show splitOn c (d :: (p++c :: r))=_
   rewrite [splitOn];exact re (if_neg hd) (re (uC c r p fun m=>h (List.mem_cons_of_mem _ m)) rfl)
theorem uD (c:Nat):∀ (ps:List (List Nat)),ps≠[]→(∀ p∈ps,c∉p)→splitOn c (aW [c] ps)=ps
 | [],h,_=>absurd rfl h
 | [p],_,hp=>rG c p (hp p (by simp))
 | p :: q :: r,_,hp=>by
   show splitOn c (p++[c]++aW [c] (q :: r))=p :: q :: r
   refine re (List.append_assoc ..) ?_
   show splitOn c (p++c :: aW [c] (q :: r))=_
   exact re (uC c _ p (hp p (by simp))) (re (uD c (q :: r) (by simp) fun x m=>hp x (List.mem_cons_of_mem _ m)) rfl)
theorem lG (sep:List Nat):∀ ps:List Str,(Str.join ⟨sep.toArray⟩ ps).cps.toList=aW sep (ps.map (·.cps.toList))
 | []=>rfl
 | [_]=>rfl
 | x :: y :: r=>by
   show (x++⟨sep.toArray⟩++Str.join ⟨sep.toArray⟩ (y :: r)).cps.toList=x.cps.toList++sep++aW sep ((y :: r).map (·.cps.toList))
   refine rf (lG sep (y :: r)) ?_
   show ((x.cps++sep.toArray)++(Str.join ⟨sep.toArray⟩ (y :: r)).cps).toList=_
   simp
theorem wj (s:List Nat) (c:Nat):(Txt.split ⟨s.toArray⟩ ⟨#[c]⟩).map (·.cps.toList)=splitOn c s:=by
 have h1:=StrLaws.join_split ⟨s.toArray⟩ ⟨#[c]⟩
 have h2:=StrLaws.split_free ⟨s.toArray⟩ c
 have h3:(Txt.split ⟨s.toArray⟩ ⟨#[c]⟩).map (·.cps.toList)≠[]:=by
   have:=split_pos ⟨s.toArray⟩ ⟨#[c]⟩
   intro e
   rw [← List.length_map (f:=fun x:Str=>x.cps.toList),e] at this
   simp at this
 rw [← uD c _ h3 (fun p hp=>by
   obtain ⟨q,hq,rfl⟩:=List.mem_map.mp hp
   exact h2 q hq)]
 have h4:=lG [c] (Txt.split ⟨s.toArray⟩ ⟨#[c]⟩)
 rw [show (⟨[c].toArray⟩:Str)=⟨#[c]⟩ from rfl,h1] at h4
 exact rf h4 rfl
noncomputable def biV:BI→Value
 | .len=>.builtin "len" | .sum=>.builtin "sum" | .all=>.builtin "all" | .bytes=>.type "bytes" | .bytearray=>.type "bytearray"
 | .ord=>.builtin "ord" | .chr=>.builtin "chr" | .sorted=>.builtin "sorted" | .max=>.builtin "max" | .isstr=>.builtin "isinstance"
section
variable {T:Tabs} {φ:Phi} {ι:Cel}
theorem mF {α:Type} {f:AV→Option α} {P:List Value→List α→Prop} (h0:P [] []) (h1:∀ a v b vs bs,f a=some b→au T φ ι a v→P vs bs→P (v :: vs) (b :: bs)) {xs:List AV} {vs:List Value} {bs:List α} (r:aH T φ ι xs vs) (e:mz f xs=some bs):P vs bs:=by
 induction xs generalizing vs bs with
 | nil=>cases e;refine re (show vs=[] from r) ?_;exact h0
 | cons x xs ih =>
   obtain ⟨v,us,rfl,rv,rl⟩:=r
   refine o11 (Option.bind_eq_some_iff.mp (show (f x).bind (fun b=>(mz f xs).map (b :: ·))=some bs from e)) fun b hb e=>?_
   obtain ⟨bs',e',rfl⟩:=Option.map_eq_some_iff.mp e
   exact h1 _ _ _ _ _ hb rv (ih rl e')
theorem CX {C:Prop} {a:AV} {n:Int} {v:Value} (e:int? a=some n) (r:au T φ ι a v) (h:∀ t,v=.int n t→C):C:=by
 cases a with
 | int i=>cases e;refine o10 r fun t e=>?_;exact h t e
 | _=>exact aC e
theorem Hc {xs:List AV} {vs:List Value} {ns:List Int} (r:aH T φ ι xs vs) (e:ints? xs=some ns):IntsAre vs ns :=
 mF (P:=IntsAre) .nil (fun _ _ _ _ _ e r h=>CX e r fun t q=>q▸.cons _ _ h) r e
theorem CZ {xs:List AV} {vs:List Value} {ns:List Bool} (r:aH T φ ι xs vs) (e:bools? xs=some ns):vs=ns.map .bool:=by
 refine mF (P:=fun vs ns=>vs=ns.map .bool) rfl (fun a v b _ _ e r h=>?_) r e
 cases a with
 | bool i=>cases e;cases r;refine re h ?_;rfl
 | _=>exact aC e
theorem Ab {xs:List AV} {vs:List Value} {bs:List Nat} (r:aH T φ ι xs vs) (e:octets? xs=some bs):IntsAre vs (bs.map fun (n:Nat)=>(n:Int))∧∀ n∈bs,n < 256:=by
 refine mF (P:=fun vs bs=>IntsAre vs (bs.map fun (n:Nat)=>(n:Int))∧∀ n∈bs,n < 256) ⟨.nil,fun _ h=>nomatch h⟩ (fun a v b _ _ e r h=>?_) r e
 refine o11 (Option.bind_eq_some_iff.mp e) fun n e1 e=>?_
 refine CX e1 r fun t q=>?_
 by_cases hi:(decide (0≤n) && decide (n < 256))=true
 · rw [if_pos hi] at e
   refine o01 ((Bool.and_eq_true _ _).mp hi) fun h1 h2=>?_
   have g:=Int.toNat_of_nonneg (of_decide_eq_true h1)
   have g2:=of_decide_eq_true h2
   cases e
   refine ⟨q▸g▸.cons _ _ h.1,fun m hm=>?_⟩
   rcases List.mem_cons.mp hm with rfl | hm
   · lia
   · exact h.2 m hm
 · rw [if_neg hi] at e;exact aC e
theorem Hf {xs:List AV} {vs:List Value} {ws:List (List Nat)} (r:aH T φ ι xs vs) (e:strs? xs=some ws):(∃ l:List (Str×Tok),vs=strValues l∧l.map (·.1)=ws.map fun w=>⟨w.toArray⟩)∧∀ w∈ws,∀ c∈w,c < 1114112:=by
 refine mF (P:=fun vs ws=>(∃ l:List (Str×Tok),vs=strValues l∧l.map (·.1)=ws.map fun w=>⟨w.toArray⟩)∧∀ w∈ws,∀ c∈w,c < 1114112) ⟨⟨[],rfl,rfl⟩,fun _ h=>nomatch h⟩ (fun a v b _ _ e r h=>?_) r e
 cases a with
 | str i =>
   cases e
   obtain ⟨t,rfl,hc⟩:=r
   obtain ⟨⟨l,rfl,hl⟩,h2⟩:=h
   refine ⟨⟨(_,t) :: l,rfl,by refine re List.map_cons (re hl ?_);rfl⟩,fun w hw=>?_⟩
   rcases List.mem_cons.mp hw with rfl | hw
   · exact hc
   · exact h2 w hw
 | _=>exact aC e
theorem wk:∀ (l:List (Str×Tok)),(∀ p∈l,∀ c∈p.1.cps.toList,c < 1114112)→aH T φ ι ((l.map (·.1.cps.toList)).map .str) (strValues l)
 | [],_=>rfl
 | p :: l,h=>⟨_,_,rfl,⟨p.2,by simp,h p (by simp)⟩,wk l fun q hq=>h q (List.mem_cons_of_mem _ hq)⟩
end
section
variable {T:Tabs} {B:Heap} {K:Frag} {l:List PySem.Env} {S W:List Addr} {ι:Cel} {σ:Sig} {prog:Program} {w:World} {A:Around} {E:Value→Shared→Prop} {s:Shared} {Q:Value→Shared→Prop}
theorem Ac {h h':Heap} {o:Obj} (hk:∀ b x,b∉[h.objs.size]→(h.push o).get? b=some x→h'.get? b=some x):dX h h' :=
 fun b x e=>hk b x (fun hm=>by rw [List.mem_singleton.mp hm] at e;exact Nat.lt_irrefl _ (Heap.lt_size e)) (Heap.get?_push_of_some _ e)
theorem Ad (R:Rel T B l S ι σ s.heap) {x:AV} {xs:List AV} {v:Value} (r:au T (off S s.heap) ι x v) (e:listItems σ x=some xs) (hz:xs.length≤2 ^ 20) (h:cG T S ι (.int xs.length) s Q) :
   wpAny (model prog w) A (call (.builtin "len") [v]) Q E s:=by
 obtain ⟨a,vs,rfl,hl,rl⟩:=R.listAt r e
 refine call_len_list hl (by simp only [List.size_toArray,aH.length rl];lia) ?_
 refine re List.size_toArray (re (aH.length rl) ?_)
 exact h.int _ _
noncomputable def biX:BI→List Value
 | .isstr=>[.type "str"]
 | _=>[]
theorem szb {n:Nat} (h:sizeOk n=true):n≤2 ^ 20:=by simpa [sizeOk] using h
theorem yw (bs:List Nat) (h:∀ n∈bs,n < 256):byteArr (bs.map fun (n:Nat)=>(n:Int))=(bs.map fun n=>UInt8.ofNat n).toArray:=by
 unfold byteArr
 refine re List.map_map ?_
 congr 1
theorem Ni (R:Rel T B l S ι σ s.heap) {a:AV} {v:Value} (hv:au T (off S s.heap) ι a v) (p:bF T B l [] S ι s Q E (Gx σ a)):wpD (model prog w) A (call (biV .len) ([v]++biX .len)) Q E s:=by
 unfold Gx at p
 split at p
 · obtain ⟨t,rfl,_⟩:=hv
   split at p
   · rename_i hz
     have:=szb hz
     exact D (PySem.P.len_str (by show ¬ ((_:Nat):Int) ≥ _;simp only [Str.length,List.size_toArray];exact inl (szl this rfl)) (by simpa [Str.length] using (bx R p).int _ _))
   · exact p.elim
 · obtain ⟨t,rfl,_⟩:=hv
   split at p
   · rename_i hz
     have:=szb hz
     exact D (len_bytes (by simp only [List.size_toArray,List.length_map];exact szl this rfl) (by simpa using (bx R p).int _ _))
   · exact p.elim
 · split at p
   · split at p
     · rename_i e hz
       exact D (Ad R hv e (szb hz) (bx R p))
     · exact p.elim
   · exact p.elim
set_option tactic.hygienic true in
theorem Nj (hh:A.handled=none) (R:Rel T B l S ι σ s.heap) {a:AV} {v:Value} (hv:au T (off S s.heap) ι a v) (p:bF T B l [] S ι s Q E (Gy σ a)):wpD (model prog w) A (call (biV .sum) ([v]++biX .sum)) Q E s:=by
 unfold Gy at p
 split at p
 · obtain ⟨a,vs,rfl,hl,rl⟩:=hv
   split at p
   · rename_i ns e
     split at p
     · have hi:=Hc rl e
       obtain ⟨xs,hx⟩:=hi.allInts.items
       have hl':=hl.isList
       rw [hx] at hl'
       refine D (sum_intListG hh hl' fun h' tk t' k=>?_)
       refine bx R p h' tk _ k ⟨t',?_⟩
       have:=nums_intItems (xs:=xs)
       exact re (preSum_eq ..) (re (List.take_of_length_le (by simp)) (rf this (rf hx (re (show vs.toArray.toList=vs from rfl) (re hi.numsOf rfl)))))
     · exact p.elim
   · exact p.elim
 · exact p.elim
set_option tactic.hygienic true in
theorem Nk (hh:A.handled=none) (R:Rel T B l S ι σ s.heap) {a:AV} {v:Value} (hv:au T (off S s.heap) ι a v) (p:bF T B l [] S ι s Q E (Gz σ a)):wpD (model prog w) A (call (biV .all) ([v]++biX .all)) Q E s:=by
 unfold Gz at p
 split at p
 · obtain ⟨a,vs,rfl,hl,rl⟩:=hv
   split at p
   · rename_i bs e
     have hb:=CZ rl e
     have hl':=hl.isList
     have hlt:a < s.heap.objs.size:=by refine o11 hl' fun _ e _=>?_;exact Heap.lt_size e
     refine D (call_all_walk (wpAny_pyIter_list hl' ⟨s.heap.objs.size,[s.heap.objs.size,a],[s.heap.objs.size],vs.toArray.size,_,_,fun i=>(bs[i]?).getD true,rfl,Walks.list (A:=A.in1) hh _ a (Nat.ne_of_lt hlt) vs.toArray,
       ⟨⟨_,Heap.get?_push_size _ rfl,rfl,rfl⟩,hl'.push _⟩,fun i v s' Q' E' hP hQ=>?_,fun h' tk hk=>?_⟩))
     · have hP:vs.toArray[i]?=some v:=hP
       rw [List.getElem?_toArray,hb,List.getElem?_map] at hP
       obtain ⟨b,e,rfl⟩:=Option.map_eq_some_iff.mp hP
       simp only [e,Option.getD_some] at hQ
       exact wpAny_truthy_bool hQ
     · have e:((List.range vs.toArray.size).all fun i=>(bs[i]?).getD true)=bs.all id:=by
         refine re List.size_toArray (re hb (re (List.length_map ..) ?_));exact LSm.range_all bs
       refine re e ?_
       exact bx R p h' tk _ (Ac hk) rfl
   · exact p.elim
 · exact p.elim
set_option tactic.hygienic true in
theorem Hg (hh:A.handled=none) (R:Rel T B l S ι σ s.heap) {a:AV} {v:Value} (hv:au T (off S s.heap) ι a v) (p:bF T B l [] S ι s Q E (vM σ a)):wpD (model prog w) A (call (biV .bytes) ([v]++biX .bytes)) Q E s:=by
 unfold vM at p
 split at p
 · obtain ⟨a,vs,rfl,hl,rl⟩:=hv
   split at p
   · rename_i bs e
     split at p
     · rename_i hz
       refine o01 (Ab rl e) fun hi h256=>?_
       refine D (call_bytes_ints hl.isList hi (fun n hn=>?_) ?_ hh fun h' t k hk=>?_)
       · obtain ⟨m,hm,rfl⟩:=List.mem_map.mp hn
         have:=h256 m hm
         exact And.intro (Int.natCast_nonneg _) (ile this)
       · have:=hi.length
         simp only [List.length_map] at this
         have:=szb hz
         refine re sizeLine_eq ?_
         lia
       · exact bx R p h' k _ hk ⟨t,by exact re (yw bs h256) rfl,h256⟩
     · exact p.elim
   · exact p.elim
 · obtain ⟨t,rfl⟩:=hv
   split at p
   · rename_i hn
     simp only [Bool.and_eq_true,decide_eq_true_eq] at hn
     refine D (qj hn.1 hn.2 fun t' k=>bx R p s.heap k _ (fun _ _ e=>e) ⟨t',by simp,fun n hn=>?_⟩)
     rw [List.mem_replicate] at hn
     exact zJ hn.2 (Nat.le_add_left _ _)
   · exact p.elim
 · obtain ⟨t,rfl,hb⟩:=hv
   exact D (qi (gh R p ⟨t,rfl,hb⟩))
 · obtain ⟨a,c,hi,rfl⟩:=hv
   split at p
   · rename_i hs
     split at p
     · rename_i hz
       refine o02 (R.obj _ _ _ hi hs) fun e1 ho hb=>?_
       dsimp only at e1 ho
       subst e1
       exact D (vo (c:=(List.map (fun n=>UInt8.ofNat n) _).toArray) ho (by have:=szb hz;refine re sizeLine_eq (re List.size_toArray (re (List.length_map ..) ?_));exact szl this rfl) fun t k=>bx R p s.heap k _ (fun _ _ e=>e) ⟨t,rfl,hb⟩)
     · exact p.elim
   · exact p.elim
 · exact p.elim
theorem Nm (R:Rel T B l S ι σ s.heap) {a:AV} {v:Value} (hv:au T (off S s.heap) ι a v) (p:bF T B l [] S ι s Q E (GC σ a)):wpD (model prog w) A (call (biV .ord) ([v]++biX .ord)) Q E s:=by
 unfold GC at p
 split at p
 · obtain ⟨t,rfl,_⟩:=hv
   split at p
   · exact D (PySem.P.ord_of_char ((bx R p).int _ _))
   · exact p.elim
 · exact p.elim
theorem Np (R:Rel T B l S ι σ s.heap) {a:AV} {v:Value} (hv:au T (off S s.heap) ι a v) (p:bF T B l [] S ι s Q E (GD σ a)):wpD (model prog w) A (call (biV .chr) ([v]++biX .chr)) Q E s:=by
 unfold GD at p
 split at p
 · obtain ⟨t,rfl⟩:=hv
   split at p
   · rename_i hn
     simp only [Bool.and_eq_true,decide_eq_true_eq] at hn
     refine D (PySem.P.chr_of_int (by simp only [Bool.or_eq_false_iff,decide_eq_false_iff_not];lia) ((bx R p).str (fun c hc=>?_) rfl _ _))
     simp only [List.mem_singleton] at hc
     lia
   · exact p.elim
 · exact p.elim
theorem Hh (R:Rel T B l S ι σ s.heap) {a:AV} {v:Value} (hv:au T (off S s.heap) ι a v) (p:bF T B l [] S ι s Q E (vN σ a)):wpD (model prog w) A (call (biV .isstr) ([v]++biX .isstr)) Q E s:=by
 unfold vN at p
 split at p
 · obtain ⟨t,rfl,_⟩:=hv
   exact D (IsiPair.str_str (bx R p).bool0)
 · obtain ⟨t,rfl⟩:=hv
   exact D (IsiPair.int_str ((bx R p).bool _))
 · exact p.elim
set_option tactic.hygienic true in
theorem Nq (hh:A.handled=none) (R:Rel T B l S ι σ s.heap) {a b:AV} {v v2:Value} (hv:au T (off S s.heap) ι a v) (hv2:au T (off S s.heap) ι b v2) (p:bF T B l [] S ι s Q E (GF σ a b)):wpD (model prog w) A (call (biV .max) ([v,v2]++biX .max)) Q E s:=by
 unfold GF at p
 split at p
 · split at p
   · obtain ⟨t,rfl⟩:=hv
     obtain ⟨t2,rfl⟩:=hv2
     refine D (max_two_ints hh fun h' tk k=>?_)
     rename_i a _ b
     by_cases hab:b > a
     · refine re (if_pos hab) ?_
       rw [if_pos (show a < b from hab)] at p
       exact bx R p h' tk _ k ⟨_,rfl⟩
     · refine re (if_neg hab) ?_
       rw [if_neg (show ¬ a < b from hab)] at p
       exact bx R p h' tk _ k ⟨_,rfl⟩
   · exact p.elim
 · exact p.elim
theorem Jw (hh:A.handled=none) (hg:A.guards=some []) (R:Rel T B l S ι σ s.heap) {b:BI} {as:List AV} {vs:List Value} (hso:b≠.sorted) (ra:aH T (off S s.heap) ι as vs) (p:bF T B l [] S ι s Q E (builtin σ b as)) :
   wpD (model prog w) A (call (biV b) (vs++biX b)) Q E s:=by
 unfold builtin at p
 split at p
 · cases ra
   split at p
   · rename_i hb
     subst hb
     refine tK hg fun h' x hs=>?_
     obtain ⟨R₂,G₂⟩:=R.alloc (W:=[]) (o:={ cls:=.type "bytearray",data:=.bytearray #[] 0 }) (m:=.barr []) rfl ⟨rfl,Heap.get?_push_size _ rfl,fun _ h=>nomatch h⟩
     have k:dX (s.heap.push { cls:=.type "bytearray",data:=.bytearray #[] 0 }) h':=fun a o e=>by
       by_cases q:a=s.heap.objs.size
       · subst q
         rw [Heap.get?_push_size _ rfl] at e
         cases e
         exact x
       · exact (hs.2 a q).trans e
     exact p h' s.toks _ _ _ (G₂.trans (Go.grow _ _ _ _ k)) (R₂.grow k) ⟨_,_,by refine rf R.len ?_;exact List.getElem?_concat_length ..,rfl⟩
   · exact p.elim
 · obtain ⟨v,r,rfl,hv,rfl⟩:=ra
   cases b with
   | len=>exact Ni R hv p
   | sum=>exact Nj hh R hv p
   | all=>exact Nk hh R hv p
   | bytes=>exact Hg hh R hv p
   | bytearray=>exact p.elim
   | ord=>exact Nm R hv p
   | chr=>exact Np R hv p
   | sorted=>exact absurd rfl hso
   | max=>exact p.elim
   | isstr=>exact Hh R hv p
 · obtain ⟨v,r,rfl,hv,v2,r2,rfl,hv2,rfl⟩:=ra
   split at p
   · rename_i hb
     subst hb
     exact Nq hh R hv hv2 p
   · exact p.elim
 · exact p.elim
end
end
section
section
variable {T:Tabs} {B:Heap} {K:Frag} {l:List PySem.Env} {S W:List Addr} {ι:Cel} {σ:Sig} {h h':Heap}
theorem Rel.turn (R:Rel T B l S ι σ h) {i:Nat} {p:Addr×Addr} {m:MO} (hi:ι[i]?=some p) (hs:Heap.SameBut p.2 h h') (hl:∃ o,h'.get? p.2=some o) (hm:qe T (off S h') ι h' p m) :
   Rel T B l S ι (σ.set i m) h'∧Go l W S ι h S ι h':=by
 have hc:=cN hi
 have hS:=R.sub _ hc
 have ne:∀ a,a∉S→a≠p.2:=fun a n e=>n (by refine re e ?_;exact hS)
 have kp:∀ a o,off S h a=some o→off S h' a=some o:=fun a o e=>by
   refine o01 (aA.mp e) fun n e=>?_
   exact aA.mpr ⟨n,(hs.2 a (ne a n)).trans e⟩
 constructor
 · exact {
     base:=fun a o e=>(hs.2 a fun q=>by have:=R.bS _ hS;rw [← q,e] at this;cases this).trans (R.base a o e)
     bS:=R.bS
     live:=fun a m=>by
       by_cases q:a=p.2
       · refine re q ?_;exact hl
       · refine o10 (R.live a m) fun o e=>?_;exact ⟨o,(hs.2 a q).trans e⟩
     sub:=R.sub
     nodup:=R.nodup
     len:=by simp [R.len]
     obj:=fun j q m' e1 e2=>by
       by_cases hj:i=j
       · subst hj
         rw [hi] at e1
         cases e1
         rw [List.getElem?_set_self (by refine rf R.len ?_;exact (List.getElem?_eq_some_iff.mp hi).1)] at e2
         cases e2
         exact hm
       · rw [List.getElem?_set_ne hj] at e2
         refine (R.obj j q m' e1 e2).keep kp (fun _ _ e=>e) fun o e=>(hs.2 _ fun z=>hj ?_).trans e
         have h1:(cells ι)[i]?=some p.2:=by simp [cells,hi]
         have h2:(cells ι)[j]?=some q.2:=by simp [cells,e1]
         rw [z] at h2
         refine o10 (List.getElem?_eq_some_iff.mp h1) fun hi' h1=>?_
         refine o10 (List.getElem?_eq_some_iff.mp h2) fun hj' h2=>?_
         have nd:=List.pairwise_iff_getElem.mp R.nodup
         rcases Nat.lt_trichotomy i j with q' | q' | q'
         · exact absurd (h1.trans h2.symm) (nd i j hi' hj' q')
         · exact q'
         · exact absurd (h2.trans h1.symm) (nd j i hj' hi' q')
     stk:=fun env he=>by
       obtain ⟨h1,L,m,h2,h3,h4,h5⟩:=R.stk env he
       exact ⟨h1,L,m,h2,h3,h4,h5.sameBut hs fun q=>h4 (by refine re q ?_;exact hc)⟩ }
 · exact {
     step:=fun a o e n _ _=>(hs.2 a fun q=>n (by refine re q ?_;exact hc)).trans e
     frm:=fun a m e ma _=>e.sameBut hs fun q=>(R.frS ma).2 (by refine re q ?_;exact hc)
     alive:=fun a o e=>by
       by_cases q:a=p.2
       · refine re q ?_;exact hl
       · exact ⟨o,(hs.2 a q).trans e⟩
     pre:=fun _ _ e=>e
     sub:=fun _ m=>m
     new:=fun _ m n=>absurd m n
     cel:=fun _ m n=>absurd m n }
theorem ql {p:Addr×Addr} {i:Nat} (R:Rel T B l S ι σ h) (hi:ι[i]?=some p) (hs:Heap.SameBut p.2 h h'):∀ a o,off S h a=some o→off S h' a=some o:=fun a o e=>by
 refine o01 (aA.mp e) fun n e=>?_
 exact aA.mpr ⟨n,(hs.2 a fun q=>n (by refine re q ?_;exact R.sub _ (cN hi))).trans e⟩
end
noncomputable def bmN:BM→Str
 | .split=>"split" | .join=>"join" | .append=>"append" | .extend=>"extend"
theorem vp:PlainAttrs "bytearray" :=
 ⟨⟨"bytearray.__getattribute__",by refine re (typeLookup_type ..) (re builtinLookup_eq_fast ?_);kernel_rfl,by decide +kernel⟩,by refine re (typeLookup_type ..) (re builtinLookup_eq_fast ?_);kernel_rfl⟩
theorem tL:typeOf (.builtin "bytearray.extend")=pure (.type "method_descriptor"):=by show builtinType _=_;refine re builtinType_eq_fast ?_;kernel_rfl
section
variable {T:Tabs} {B:Heap} {K:Frag} {l:List PySem.Env} {S W:List Addr} {ι:Cel} {σ:Sig} {prog:Program} {w:World} {A:Around} {E:Value→Shared→Prop} {s:Shared} {Q:Value→Shared→Prop}
noncomputable def bmF:BM→String
 | .split=>"str.split" | .join=>"str.join" | .append=>"list.append" | .extend=>"bytearray.extend"
theorem Dc (R:Rel T B l S ι σ s.heap) {b:BM} {x:AV} {v:Value} {pl:Sem Bool} {Q:Value×List Value→Shared→Prop} (r:au T (off S s.heap) ι x v) (hb:qR σ b x=true) (h:Q (.builtin (bmF b),[v]) s) :
   wpAny (model prog w) A (getMethod v (bmN b) pl) Q E s:=by
 unfold qR at hb
 split at hb
 · obtain ⟨t,rfl,_⟩:=r
   exact GM.split h
 · obtain ⟨t,rfl,_⟩:=r
   exact GM.join h
 · obtain ⟨a,c,hi,rfl⟩:=r
   split at hb
   · rename_i hs
     obtain ⟨e1,vs,⟨n,ho⟩,_⟩:=R.obj _ _ _ hi hs
     dsimp only at e1 ho
     subst e1
     exact getMethod_builtin (T:="list") ⟨_,ho,rfl⟩ F.plainAttrs_list slot_list_append type_list_append (fun a' e=>by cases e;exact ⟨_,ho,rfl⟩) h
   · cases hb
 · obtain ⟨a,c,hi,rfl⟩:=r
   split at hb
   · rename_i hs
     refine o02 (R.obj _ _ _ hi hs) fun e1 ho _=>?_
     dsimp only at e1 ho
     subst e1
     exact getMethod_builtin (T:="bytearray") ⟨_,ho,rfl⟩ vp BA.iR tL (fun a' e=>by cases e;exact ⟨_,ho,rfl⟩) h
   · cases hb
 · cases hb
set_option tactic.hygienic true in
theorem kZ (c:Nat):∀ (x:List Nat) (p:List Nat),p∈splitOn c x→∀ d∈p,d∈x
 | [],p,hp,d,hd=>by
   simp only [splitOn,List.mem_singleton] at hp
   subst hp
   exact hd
 | a :: r,p,hp,d,hd=>by
   unfold splitOn at hp
   split at hp
   · rcases List.mem_cons.mp hp with rfl | hp
     · cases hd
     · exact List.mem_cons_of_mem _ (kZ c r p hp d hd)
   · split at hp
     · rename_i w ws e
       rcases List.mem_cons.mp hp with rfl | hp
       · rcases List.mem_cons.mp hd with rfl | hd
         · exact List.mem_cons_self
         · exact List.mem_cons_of_mem _ (kZ c r w (by refine re e ?_;exact List.mem_cons_self) d hd)
       · exact List.mem_cons_of_mem _ (kZ c r p (by refine re e ?_;exact List.mem_cons_of_mem _ hp) d hd)
     · simp only [List.mem_singleton] at hp
       subst hp
       simp only [List.mem_singleton] at hd
       subst hd
       exact List.mem_cons_self
theorem wu {P:Nat→Prop} (sep:List Nat):∀ (ws:List (List Nat)),(∀ c∈sep,P c)→(∀ w∈ws,∀ c∈w,P c)→∀ c∈aW sep ws,P c
 | [],_,_,c,h=>nomatch h
 | [w],_,hw,c,h=>hw w (by simp) c h
 | x :: y :: r,hs,hw,c,h=>by
   simp only [aW,List.mem_append] at h
   rcases h with (h | h) | h
   · exact hw x (by simp) c h
   · exact hs c h
   · exact wu sep (y :: r) hs (fun w m=>hw w (List.mem_cons_of_mem _ m)) c h
theorem Ae {x:Str} {c:Nat} {t u:Tok} (hsz:x.length≤2 ^ 20)
   (hq:∀ lst k,lst.map (·.1)=Txt.split x ⟨#[c]⟩→Q (.ref s.heap.objs.size) { s with heap:=s.heap.push { cls:=.type "list",data:=.seq (strValues lst).toArray },toks:=k }) :
   wpAny (model prog w) A (call (.builtin "str.split") [.str x t,.str ⟨#[c]⟩ u]) Q E s:=by
 have hz:x.length≤sizeLine:=by refine re sizeLine_eq ?_;exact szl hsz rfl
 cases h1:(decide (x.length < (⟨#[c]⟩:Str).length) || decide (Builtin.Str.strKind x < Builtin.Str.strKind ⟨#[c]⟩))
 · cases hf:(Builtin.Str.occurrences x ⟨#[c]⟩ 0 x.length (x.length + 1)).isEmpty
   · have e:Txt.split x ⟨#[c]⟩=Builtin.Str.partsBetween x (Builtin.Str.occurrences x ⟨#[c]⟩ 0 x.length (x.length + 1)) (⟨#[c]⟩:Str).length:=(if_neg (ne_true_of_eq_false h1)).trans (if_neg (ne_true_of_eq_false hf))
     have hl:(Builtin.Str.partsBetween x (Builtin.Str.occurrences x ⟨#[c]⟩ 0 x.length (x.length + 1)) (⟨#[c]⟩:Str).length).length≤sizeLine:=by
       refine rf e ?_
       have:=split_le x ⟨#[c]⟩
       refine re sizeLine_eq ?_
       exact szl (Nat.le_trans this (Nat.add_le_add hsz (Nat.le_refl _))) rfl
     refine call_meets F.slot_str_split (typeIs_str _ _ _) F.entry_str_split (F.args_str_split_2 _ _) (meets_str_split_sep x ⟨#[c]⟩ t u h1 rfl hf hz hl) ?_
     show wants Q E _ { s with toks:=_,heap:=s.heap.push { cls:=.type "list",data:=.seq (strsFrom s.toks (Builtin.Str.partsBetween x (Builtin.Str.occurrences x ⟨#[c]⟩ 0 x.length (x.length + 1)) (⟨#[c]⟩:Str).length)).toArray } }
     refine re (strsFrom_eq ..) ?_
     exact hq (numbered s.toks _) _ ((numbered_texts _ _).trans e.symm)
   · exact call_meets F.slot_str_split (typeIs_str _ _ _) F.entry_str_split (F.args_str_split_2 _ _) (meets_str_split_not_found x ⟨#[c]⟩ t u h1 rfl hf)
       (hq [(x,t)] s.toks ((if_neg (ne_true_of_eq_false h1)).trans (if_pos hf)).symm)
 · exact call_meets F.slot_str_split (typeIs_str _ _ _) F.entry_str_split (F.args_str_split_2 _ _) (meets_str_split_cannot_occur x ⟨#[c]⟩ t u h1)
     (hq [(x,t)] s.toks (if_pos h1).symm)
set_option tactic.hygienic true in
theorem bm_split (R:Rel T B l S ι σ s.heap) {x a:AV} {v u:Value} (rx:au T (off S s.heap) ι x v) (hu:au T (off S s.heap) ι a u) (p:bF T B l [] S ι s Q E (vO σ x a)):wpD (model prog w) A (call (.builtin (bmF .split)) [v,u]) Q E s:=by
 unfold vO at p
 split at p
 · split at p
   · split at p
     · obtain ⟨t,rfl,hx⟩:=rx
       obtain ⟨t2,rfl,hc⟩:=hu
       rename_i x _ _ c
       split at p
       · rename_i hz
         have hz:=szb hz
         refine D (Ae (by simpa [Str.length] using hz) fun lst k hl=>?_)
         have e:=wj x c
         rw [← hl,List.map_map] at e
         have hcs:∀ q∈lst,∀ d∈q.1.cps.toList,d < 1114112:=fun q hq d hd=>hx d ?_
         · refine mC R (xs:=(splitOn c x).map .str) (vs:=strValues lst) ?_ (bx R p) k
           refine rf e ?_
           have:=wk (T:=T) (φ:=off S s.heap) (ι:=ι) lst hcs
           rw [List.map_map] at this ⊢
           exact this
         · have hm:q.1.cps.toList∈splitOn c x:=by refine rf e ?_;exact List.mem_map_of_mem (f:=(fun x:Str=>x.cps.toList)∘fun x:Str×Tok=>x.1) hq
           exact kZ c x _ hm _ hd
       · exact p.elim
     · exact p.elim
   · exact p.elim
 · exact p.elim
set_option tactic.hygienic true in
theorem KC (R:Rel T B l S ι σ s.heap) {x a:AV} {v u:Value} (rx:au T (off S s.heap) ι x v) (hu:au T (off S s.heap) ι a u) (p:bF T B l [] S ι s Q E (zL σ x a)):wpD (model prog w) A (call (.builtin (bmF .join)) [v,u]) Q E s:=by
 unfold zL at p
 split at p
 · obtain ⟨t,rfl,hx⟩:=rx
   rename_i sep
   split at p
   · rename_i ws e
     split at p
     · rename_i hz
       have hz:=szb hz
       refine o11 (Option.bind_eq_some_iff.mp e) fun xs e1 e2=>?_
       obtain ⟨a,vs,rfl,hl,rl⟩:=R.listAt hu e1
       obtain ⟨⟨lst,rfl,hl2⟩,hc⟩:=Hf rl e2
       refine D (SC.join hl hl2 ?_ fun t' k=>?_)
       · unfold JoinOk
         refine re (StrLaws.joinTotal ..) (re (Bool.not_eq_true' ..) ?_)
         unfold Builtin.Str.tooLong
         refine re sizeLine_eq ?_;rewrite [decide_eq_false_iff_not]
         have:(List.map (fun w:List Nat=>(⟨w.toArray⟩:Str)) ws).map (·.length)=ws.map (·.length):=by
           refine re List.map_map ?_;congr 1
         refine re this (re (List.length_map ..) ?_)
         simp only [Str.length,List.size_toArray]
         exact Nat.not_le_of_lt (szt hz rfl)
       · refine (bx R p).str (fun d hd=>?_) ?_ _ _
         · exact wu (P:=fun d=>d < 1114112) sep ws hx hc d hd
         · show (Builtin.Str.glued _ _).cps.toList=_
           refine re (StrLaws.glued_eq_join ..) (re (lG ..) (re List.map_map ?_))
           congr 1
           simp [Function.comp_def]
     · exact p.elim
   · exact p.elim
 · exact p.elim
theorem De (R:Rel T B l S ι σ s.heap) {x a:AV} {v u:Value} (rx:au T (off S s.heap) ι x v) (hu:au T (off S s.heap) ι a u) (p:bF T B l [] S ι s Q E (tC σ x a)):wpD (model prog w) A (call (.builtin (bmF .append)) [v,u]) Q E s:=by
 unfold tC at p
 split at p
 · obtain ⟨a,c,hi,rfl⟩:=rx
   split at p
   · rename_i xs hs
     split at p
     · rename_i hz
       obtain ⟨e1,vs,hpl,rl⟩:=R.obj _ _ _ hi hs
       dsimp only at e1 hpl
       subst e1
       refine D (wpAny_list_append_plain hpl (fun h' hpl' hsb=>?_) (by have:=szb hz;refine re sizeLine_eq (re List.size_toArray (re (aH.length rl) ?_));exact szl this rfl))
       have kp:=ql R hi hsb
       obtain ⟨R',G'⟩:=R.turn (W:=[]) hi hsb (let ⟨n,e⟩:=hpl';⟨_,e⟩) (m:=.list (xs++[_])) ⟨rfl,vs++[u],by simpa using hpl',aH.append (rl.mono kp fun _ _ e=>e) ⟨u,[],rfl,hu.mono kp fun _ _ e=>e,rfl⟩⟩
       exact p h' s.toks S ι _ G' R' rfl
     · exact p.elim
   · exact p.elim
 · exact p.elim
set_option tactic.hygienic true in
theorem Df (hg:A.guards=some []) (R:Rel T B l S ι σ s.heap) {x a:AV} {v u:Value} (rx:au T (off S s.heap) ι x v) (hu:au T (off S s.heap) ι a u) (p:bF T B l [] S ι s Q E (tD σ x a)):wpD (model prog w) A (call (.builtin (bmF .extend)) [v,u]) Q E s:=by
 unfold tD at p
 split at p
 · split at p
   · obtain ⟨a,c,hi,rfl⟩:=rx
     obtain ⟨t,rfl,hc⟩:=hu
     rename_i cc
     split at p
     · rename_i b hs
       split at p
       · rename_i hz
         refine o02 (R.obj _ _ _ hi hs) fun e1 ho hb=>?_
         dsimp only at e1 ho
         subst e1
         refine yu (b:=(List.map (fun n=>UInt8.ofNat n) b).toArray) hg ho (by have:=szb hz;refine re sizeLine_eq ?_;simp only [List.append_toArray,List.size_toArray,List.length_append,List.length_map];exact szl this rfl) fun h' ho' hsb=>?_
         obtain ⟨R',G'⟩:=R.turn (W:=[]) hi hsb ⟨_,ho'⟩ (m:=.barr (b++cc)) ⟨rfl,by simpa using ho',fun n hn=>by
           rcases List.mem_append.mp hn with q | q
           · exact hb n q
           · exact hc n q⟩
         exact p h' s.toks S ι _ G' R' rfl
       · exact p.elim
     · exact p.elim
   · exact p.elim
 · exact p.elim
theorem P0 (hg:A.guards=some []) (R:Rel T B l S ι σ s.heap) {b:BM} {x:AV} {v:Value} {as:List AV} {vs:List Value} (rx:au T (off S s.heap) ι x v) (ra:aH T (off S s.heap) ι as vs) (p:bF T B l [] S ι s Q E (dW σ b x as)) :
   wpD (model prog w) A (call (.builtin (bmF b)) (v :: vs)) Q E s:=by
 unfold dW at p
 split at p
 · obtain ⟨u,r,rfl,hu,rfl⟩:=ra
   cases b with
   | split=>exact bm_split R rx hu p
   | join=>exact KC R rx hu p
   | append=>exact De R rx hu p
   | extend=>exact Df hg R rx hu p
 · exact p.elim
end
end
section
structure KnowS (T:Tabs) (B:Heap) (K:Frag):Prop extends Know T B K where
 setA:∀ C,findIn K (.ref (T.ca C)) "__setattr__"=some (some (.builtin "object.__setattr__"))
 over:∀ C,plainOver K (T.ca C)=true
 taker:∀ C f,dj C f=true→takerIn K (T.ca C) (T.fld f)=some none
section
variable {prog:Program} {w:World} {A:Around} {K:Frag} {C x:Addr} {s:Shared} {R:Result→Shared→Prop}
set_option tactic.hygienic true in
theorem Hi {ox od:Obj} {dx:Addr} {name:Str} {tk:Tok} {v:Value} (X:K.In s.heap)
   (I:InstAt s.heap x ox C (some od)) (hd:ox.dict=some dx) (hp:plainOver K C=true) (ht:takerIn K C name=some none) (hh:(clsIn K C).any (·.hasDict)=true)
   (D:s.heap.get? dx=some od) (hl:(lookIn name od).isSome=true) {es:List DictEntry} {n:Nat} (e':(Obj.putName name (PyData.keyHash w.params name) (.str name s.toks) v od).data=.dict es.toArray n) (hz:es.length≤1000)
   (h:R (.ok (.ret .none)) { s with heap:=s.heap.update dx (Obj.putName name (PyData.keyHash w.params name) (.str name s.toks) v),toks:=s.toks + 1 }) :
   codeAny (model prog w) A (.call (.builtin "object.__setattr__") ⟨[.ref x,.str name tk,v],[]⟩) R s:=by
 refine osa_open X I hp ht fun b=>?_
 refine o11 (any_some hh) fun cd hc hd'=>?_
 have D':=Heap.get?_update_self (Obj.putName name (PyData.keyHash w.params name) (.str name s.toks) v) D (Obj.isFreed_of_dict e')
 obtain ⟨hx,hcl,hn,-⟩:=I
 obtain ⟨oc,odi,oda,osl⟩:=ox
 dsimp only at hcl hd
 subst hcl hd
 refine wpAny_bind (wpAny_pure (wpAny_bind (wpAny_bind (wpAny_loadPart hx (wpAny_bind ((looks_clsIn X hc).here ?_))))))
 refine re hd' ?_
 refine wpAny_pure (a:=some dx) (wpAny_bind (wpAny_pure (wpAny_bind ?_)))
 refine wpAny_bind (wpAny_bind (wpAny_askSetting (wpAny_pure (wpAny_bind (wpAny_mkText (wpAny_bind (wpAny_loadPart D ?_)))))))
 unfold lookIn at hl
 split at hl
 · rename_i es₀ n₀ q
   refine re q ?_
   dsimp only
   have c:(!es₀.any (·.key.isStr name) && es₀.any (·.refKey))=false:=by
     refine rf Array.any_toList (rf Array.any_toList ?_)
     split at hl
     · rename_i en he
       refine re (List.any_eq_true.mpr ⟨en,List.mem_of_find?_eq_some he,List.find?_some he⟩) ?_;rfl
     · split at hl
       · cases hl
       · rename_i z;rw [Bool.not_eq_true] at z;exact re z (re (Bool.and_false ..) rfl)
   refine re (aRefKeyMayBeTheName_at ..) (re c ?_)
   refine wpAny_updatePart D ?_
   refine wpAny_bind (wpAny_lookBehind D' (by refine re e' ?_;exact pastItsLine_dict (by refine re List.size_toArray (re sizeLine_eq ?_);exact szl hz rfl)) ?_)
   exact wpAny_pure h
 · cases hl
end
section
variable {T:Tabs} {φ:Phi} {ι:Cel}
theorem ww (hi:∀ f g,T.fld f=T.fld g→f=g) {f:Nat} {a:AV} {v:Value} {hsh:Int} {tk:Tok} (hv:au T φ ι a v):∀ {fs:List (Nat×AV)} {es:List DictEntry},eG T φ ι fs es→eG T φ ι (fu fs f a) (putL (T.fld f) hsh (.str (T.fld f) tk) v es)
 | [],es,h=>by
   refine re (show es=[] from h) ?_
   exact ⟨_,[],rfl,⟨tk,rfl⟩,hv,rfl⟩
 | p :: fs,es,h=>by
   obtain ⟨en,r,rfl,⟨t,hk⟩,hp,hr⟩:=h
   have:en.key.isStr (T.fld f)=(p.1 == f):=by
     refine re hk ?_
     show (T.fld p.1 == T.fld f)=_
     rw [Bool.eq_iff_iff]
     simp only [beq_iff_eq]
     exact ⟨fun q=>hi _ _ q,fun q=>by exact re q rfl⟩
   unfold fu putL
   refine re this ?_
   cases q:(p.1 == f) with
   | true=>exact ⟨_,r,rfl,⟨t,hk⟩,hv,hr⟩
   | false=>exact ⟨en,_,rfl,⟨t,hk⟩,hp,ww hi hv hr⟩
theorem wy (name:Str) (hsh:Int) (key v:Value):∀ es:List DictEntry,(putL name hsh key v es).length≤es.length + 1
 | []=>Nat.le_refl _
 | e :: r=>by
   unfold putL
   split
   · exact Nat.le_succ _
   · exact Nat.succ_le_succ (wy name hsh key v r)
theorem mG:∀ {fs:List (Nat×AV)} {es:List DictEntry},eG T φ ι fs es→es.any (·.refKey)=false
 | [],es,h=>by refine re (show es=[] from h) ?_;rfl
 | p :: fs,es,h=>by
   obtain ⟨en,r,rfl,⟨t,hk⟩,hp,hr⟩:=h
   refine re List.any_cons (re (mG hr) (re (Bool.or_false ..) ?_))
   unfold DictEntry.refKey
   exact re hk rfl
theorem wz:∀ {fs:List (Nat×AV)} {es:List DictEntry},eG T φ ι fs es→es.length=fs.length
 | [],es,h=>by refine re (show es=[] from h) ?_;rfl
 | p :: fs,es,h=>by
   obtain ⟨en,r,rfl,_,_,hr⟩:=h
   exact re List.length_cons (re List.length_cons (re (wz hr) rfl))
theorem wA {k:Int} {a:AV} {v:Value} (hv:au T φ ι a v):∀ {es:List (Int×AV)} {ps:List (Int×Value)},fG T φ ι es ps→∃ ps',fG T φ ι (dictPut es k a) ps'∧∀ x,gr ps' x=if x=k then some v else gr ps x
 | [],ps,h=>by
   refine re (show ps=[] from h) ?_
   refine ⟨[(k,v)],⟨_,[],rfl,rfl,hv,rfl⟩,fun x=>?_⟩
   unfold gr
   by_cases q:x=k
   · subst q;simp
   · have:(k == x)=false:=by simpa using fun e=>q e.symm
     simp [this,q]
 | p :: es,ps,h=>by
   obtain ⟨q,r,rfl,e1,hp,hr⟩:=h
   unfold dictPut
   cases z:(p.1 == k) with
   | true =>
     have z':p.1=k:=beq_iff_eq.mp z
     refine ⟨(q.1,v) :: r,⟨_,r,rfl,e1,hv,hr⟩,fun x=>?_⟩
     unfold gr
     by_cases qx:x=k
     · subst qx;simp [e1,z']
     · have:(q.1 == x)=false:=by refine re e1 (re z' ?_);simpa using fun e=>qx e.symm
       simp [this,qx]
   | false =>
     refine o11 (wA (k:=k) hv hr) fun ps' h1 h2=>?_
     refine ⟨q :: ps',⟨q,ps',rfl,e1,hp,h1⟩,fun x=>?_⟩
     have h2:=h2 x
     unfold gr at h2 ⊢
     simp only [List.find?_cons]
     cases y:(q.1 == x) with
     | true =>
       have y':q.1=x:=beq_iff_eq.mp y
       have:¬ (x=k):=fun e=>by rw [← e1,y',e] at z;simp at z
       simp [this]
     | false=>exact h2
end
section
variable {T:Tabs} {B:Heap} {K:Frag} {l:List PySem.Env} {S W:List Addr} {ι:Cel} {σ σ':Sig} {prog:Program} {w:World} {A:Around} {E:Value→Shared→Prop} {s:Shared} {Q:Unit→Shared→Prop}
set_option tactic.hygienic true in
theorem Af (k:KnowS T B K) (R:Rel T B l S ι σ s.heap) {x a:AV} {o v:Value} {f:Nat} (rx:au T (off S s.heap) ι x o) (ra:au T (off S s.heap) ι a v) (e:setattr σ x f a=some σ')
   (h:∀ h' tk',Go l W S ι s.heap S ι h'→Rel T B l S ι σ' h'→Q () { s with heap:=h',toks:=tk' }):wpAny (model prog w) A (setAttr o (T.fld f) v) Q E s:=by
 unfold setattr at e
 split at e
 · rename_i i
   obtain ⟨a,d,hi,rfl⟩:=rx
   split at e
   · rename_i C fs hs
     split at e
     · rename_i hok
       cases e
       obtain ⟨h1,es,n,h2,h3⟩:=R.obj _ _ _ hi hs
       have h1':=(aA.mp h1).2
       have hlen:=wz h3
       simp only [Bool.and_eq_true,decide_eq_true_eq] at hok
       obtain ⟨hok,hle⟩:=hok
       have hput:=putName_dict (T.fld f) (PyData.keyHash w.params (T.fld f)) (.str (T.fld f) (s.toks + 1)) v es n
       have hz:(putL (T.fld f) (PyData.keyHash w.params (T.fld f)) (.str (T.fld f) (s.toks + 1)) v es).length≤1000:=by
         have:=wy (T.fld f) (PyData.keyHash w.params (T.fld f)) (.str (T.fld f) (s.toks + 1)) v es
         exact Nat.le_trans this (szt (eql hlen hle) rfl)
       refine set_plain (k.here R) (kY h1' h2) (k.setA C) (Hi (s:={ s with toks:=s.toks + 1 }) (k.here R) (kY h1' h2) rfl (k.over C) (k.taker C f hok) (k.hasD C) h2 ?_ (by exact re hput rfl) hz ?_)
       · refine re (lookIn_dict ..) ?_
         unfold getL
         split
         · rfl
         · refine re (mG h3) ?_;rfl
       · have hsb:=Heap.SameBut.update s.heap d (Obj.putName (T.fld f) (PyData.keyHash w.params (T.fld f)) (.str (T.fld f) (s.toks + 1)) v)
         have D':=Heap.get?_update_self (Obj.putName (T.fld f) (PyData.keyHash w.params (T.fld f)) (.str (T.fld f) (s.toks + 1)) v) h2 (by refine re hput ?_;rfl)
         rw [hput] at D'
         have kp:=ql R hi hsb
         obtain ⟨R',G'⟩:=R.turn (W:=W) hi hsb ⟨_,D'⟩ (m:=.inst C (fu fs f _)) ⟨kp _ _ h1,_,_,D',ww k.inj (ra.mono kp fun _ _ e=>e) (h3.mono kp fun _ _ e=>e)⟩
         exact h _ (s.toks + 1 + 1) G' R'
     · cases e
   · cases e
 · cases e
set_option tactic.hygienic true in
theorem Ag (R:Rel T B l S ι σ s.heap) {x i a:AV} {o iv v:Value} (rx:au T (off S s.heap) ι x o) (ri:au T (off S s.heap) ι i iv) (ra:au T (off S s.heap) ι a v) (e:setitem σ x i a=some σ')
   (h:∀ h' tk',Go l W S ι s.heap S ι h'→Rel T B l S ι σ' h'→Q () { s with heap:=h',toks:=tk' }):wpAny (model prog w) A (setItem o iv v) Q E s:=by
 unfold setitem at e
 split at e
 · obtain ⟨ad,d,hi,rfl⟩:=rx
   obtain ⟨t,rfl⟩:=ri
   split at e
   · rename_i n es hs
     split at e
     · rename_i hz
       cases e
       obtain ⟨e1,ps,⟨o,es',ep,ho,hc,hd,hk,hf⟩,hr,hle⟩:=R.obj _ _ _ hi hs
       dsimp only at e1 ho
       subst e1
       have hm:s.heap.IntMap ad (gr ps):=⟨o,es',ep,ho,hc,hd,hk,hf⟩
       refine wpAny_setItem_intMap_le hm hle (by have:=szb hz;refine re sizeLine_eq ?_;exact szl this rfl) fun h' hm' hle' hsb=>?_
       have kp:=ql R hi hsb
       obtain ⟨ps',hr',hg⟩:=wA (k:=_) (ra.mono kp fun _ _ e=>e) (hr.mono kp fun _ _ e=>e)
       obtain ⟨o2,es2,ep2,ho2,hc2,hd2,hk2,hf2⟩:=id hm'
       obtain ⟨R',G'⟩:=R.turn (W:=W) hi hsb ⟨_,ho2⟩ (m:=.dict (n + 1) (dictPut es _ _)) ⟨rfl,ps',⟨o2,es2,ep2,ho2,hc2,hd2,hk2,fun x=>by refine re (hf2 x) ?_;exact (hg x).symm⟩,hr',hle'⟩
       exact h h' (s.toks + 1) G' R'
     · cases e
   · cases e
 · cases e
end
end
section
section
variable {T:Tabs} {B:Heap} {l:List PySem.Env} {S W:List Addr} {ι:Cel} {σ:Sig} {h h':Heap} {env:PySem.Env} {sl:List Str} {ρ:Env}
theorem Rel.own (R:Rel T B l S ι σ h) {a:Addr} (hS:a∈S) (hc:a∉cells ι) (hW:a∈W) (hs:Heap.SameBut a h h') (hl:∃ o,h'.get? a=some o) (hn:a∈frs l→∃ m,h'.Ns a m) :
   Rel T B l S ι σ h'∧Go l W S ι h S ι h':=by
 have kp:∀ b o,off S h b=some o→off S h' b=some o:=fun b o e=>by
   refine o01 (aA.mp e) fun n e=>?_
   exact aA.mpr ⟨n,(hs.2 b fun q=>n (by refine re q ?_;exact hS)).trans e⟩
 constructor
 · exact {
     base:=fun b o e=>(hs.2 b fun q=>by have:=R.bS _ hS;rw [← q,e] at this;cases this).trans (R.base b o e)
     bS:=R.bS
     live:=fun b m=>by
       by_cases q:b=a
       · refine re q ?_;exact hl
       · refine o10 (R.live b m) fun o e=>?_;exact ⟨o,(hs.2 b q).trans e⟩
     sub:=R.sub
     nodup:=R.nodup
     len:=R.len
     obj:=fun j q m' e1 e2=>(R.obj j q m' e1 e2).keep kp (fun _ _ e=>e) fun o e=>(hs.2 _ fun z=>hc (by refine rf z ?_;exact cN e1)).trans e
     stk:=fun e he=>by
       obtain ⟨h1,L,m,h2,h3,h4,h5⟩:=R.stk e he
       by_cases q:L=a
       · refine o10 (hn (q▸List.mem_filterMap.mpr ⟨e,he,h2⟩)) fun m' h6=>?_
         exact ⟨h1,L,m',h2,h3,h4,q▸h6⟩
       · exact ⟨h1,L,m,h2,h3,h4,h5.sameBut hs q⟩ }
 · exact {
     step:=fun b o e _ w _=>(hs.2 b fun q=>w (by refine re q ?_;exact hW)).trans e
     frm:=fun b m e _ w=>e.sameBut hs fun q=>w (by refine re q ?_;exact hW)
     alive:=fun b o e=>by
       by_cases q:b=a
       · refine re q ?_;exact hl
       · exact ⟨o,(hs.2 b q).trans e⟩
     pre:=fun _ _ e=>e
     sub:=fun _ m=>m
     new:=fun _ m n=>absurd m n
     cel:=fun _ m n=>absurd m n }
theorem pB {a:Addr} (hS:a∈S) (hs:Heap.SameBut a h h'):∀ b o,off S h b=some o→off S h' b=some o:=fun b o e=>by
 refine o01 (aA.mp e) fun n e=>?_
 exact aA.mpr ⟨n,(hs.2 b fun q=>n (by refine re q ?_;exact hS)).trans e⟩
theorem cT {a:Addr} {m:Str→Option Value} (x:h.Ns a m):∃ o,h.get? a=some o:=let ⟨o,_,_,e,_⟩:=x;⟨o,e⟩
theorem uE {a:Addr} {v:Option Value} (x:h.IsCell a v):∃ o,h.get? a=some o:=let ⟨o,e,_⟩:=x;⟨o,e⟩
theorem yX {α:Type} {ρ:List α} {x i:Nat} {a:α} (hx:x < ρ.length):(ρ.set x a)[i]?=if i=x then some a else ρ[i]?:=by
 by_cases q:i=x
 · subst q;exact re (if_pos rfl) (re (List.getElem?_set_self hx) rfl)
 · exact re (if_neg q) (re (List.getElem?_set_ne (fun e=>q e.symm)) rfl)
end
section
variable {T:Tabs} {B:Heap} {K:Frag} {l:List PySem.Env} {S W:List Addr} {ι:Cel} {σ:Sig} {M:Model} {A:Around} {E:Value→Shared→Prop} {s:Shared} {env:PySem.Env} {sl:List Str} {ρ:Env} {Q:Unit→Shared→Prop}
theorem storeName_free {name:Str} {c:Addr} {v₀:Option Value} {v:Value} (hk:env.scope.kind=.function) (hl:env.kindOf name=some .free)
   (hc:env.cells.lookup name=some c) (hv:s.heap.IsCell c v₀) (h:∀ h',h'.IsCell c (some v)→Heap.SameBut c s.heap h'→Q () { s with heap:=h' }):wpAny M A (storeName env name v) Q E s:=by
 unfold storeName
 simp only [hl,hk]
 exact wpAny_bind (wpAny_cellOf hc (wpAny_cellSet hv h))
noncomputable def StW (env:PySem.Env) (W:List Addr) (id:Str):Prop:=(env.kindOf id=some .local→env.locals∈W)∧∀ a,env.kindOf id≠some .local→env.cells.lookup id=some a→a∈W
theorem iz (env:PySem.Env) (id:Str):StW env (Wof env) id:=⟨fun _=>fH env,fun _ _ h=>gP h⟩
theorem uF {env:PySem.Env} {id:Str} (h:env.kindOf id=some .local):StW env [env.locals] id:=⟨fun _=>by simp,fun _ n _=>absurd h n⟩
theorem jU (R:Rel T B l S ι σ s.heap) (L:Loc T env sl ρ S ι s.heap) {x:Nat} {id:Str} {a:AV} {v:Value} (hx:sl[x]?=some id) (hw:StW env W id) (rv:au T (off S s.heap) ι a v)
   (h:∀ h' tk',Go l W S ι s.heap S ι h'→Rel T B l S ι σ h'→Loc T env sl (ρ.set x (some a)) S ι h'→Q () { s with heap:=h',toks:=tk' }):wpAny M A (bindName env id v) Q E s:=by
 unfold bindName
 refine wpAny_bind (wpAny_holding (wpAny_point (wpAny_bind ?_)))
 have hxl:x < ρ.length:=by refine re L.len ?_;exact (List.getElem?_eq_some_iff.mp hx).1
 refine o11 L.ns fun m hm hs=>?_
 have name_ne:∀ (i:Nat) y,sl[i]?=some y→i≠x→y≠id:=fun i y hy hi e=>by
   subst e
   refine o10 (List.getElem?_eq_some_iff.mp hy) fun h1 e1=>?_
   refine o10 (List.getElem?_eq_some_iff.mp hx) fun h2 e2=>?_
   have nd:=List.pairwise_iff_getElem.mp L.nd
   rcases Nat.lt_or_gt_of_ne hi with q | q
   · exact nd i x h1 h2 q (e1.trans e2.symm)
   · exact nd x i h2 h1 q (e2.trans e1.symm)
 rcases hs x id hx with ⟨h1,h2⟩ | ⟨h1,c,v0,h2,h3,h4⟩
 · refine wpAny_storeName_local h1 hm (fun h' hm' hsb=>?_) (by refine re L.kind ?_;rfl)
   have own:=L.own _ (fH env)
   refine o01 (R.own own.1 own.2 (hw.1 h1) hsb (cT hm') fun _=>⟨_,hm'⟩) fun R' G'=>?_
   have kp:=pB own.1 hsb
   refine wpAny_point (h h' (s.toks + 1) G' R' ⟨by refine re List.length_set ?_;exact L.len,L.kind,L.own,L.apart,L.nd,_,hm',fun i y hy=>?_⟩)
   refine re (yX hxl) ?_
   by_cases q:i=x
   · subst q
     rw [hx] at hy
     cases hy
     refine re (if_pos rfl) ?_
     exact .inl ⟨h1,fun a' e=>by cases e;exact ⟨v,if_pos rfl,rv.mono kp fun _ _ e=>e⟩⟩
   · refine re (if_neg q) ?_
     have ny:=name_ne i y hy q
     rcases hs i y hy with ⟨g1,g2⟩ | ⟨g1,c,v0,g2,g3,g4⟩
     · exact .inl ⟨g1,by dsimp only;refine re (if_neg ny) ?_;exact g2.mono kp fun _ _ e=>e⟩
     · exact .inr ⟨g1,c,v0,g2,g3.sameBut hsb (fun e=>lO hm (e▸g3)),g4.mono kp fun _ _ e=>e⟩
 · have fin:∀ h',h'.IsCell c (some v)→Heap.SameBut c s.heap h'→wpAny M A point Q E { s with heap:=h' }:=by
     intro h' hc' hsb
     have own:=L.own _ (gP h2)
     have nfr:c∉frs l:=fun q=>by
       refine o11 (jL q) fun e he hf=>?_
       obtain ⟨_,L',m',hL,_,_,hn⟩:=R.stk e he
       rw [hf] at hL
       cases hL
       exact lO hn h3
     refine o01 (R.own own.1 own.2 (hw.2 _ (by rcases h1 with h1 | h1<;>refine re h1 ?_<;>decide) h2) hsb (uE hc') fun q=>absurd q nfr) fun R' G'=>?_
     have kp:=pB own.1 hsb
     have hm':h'.Ns env.locals m:=hm.sameBut hsb fun e=>lO hm (e▸h3)
     refine wpAny_point (h h' s.toks G' R' ⟨by refine re List.length_set ?_;exact L.len,L.kind,L.own,L.apart,L.nd,_,hm',fun i y hy=>?_⟩)
     refine re (yX hxl) ?_
     by_cases q:i=x
     · subst q
       rw [hx] at hy
       cases hy
       refine re (if_pos rfl) ?_
       exact .inr ⟨h1,c,some v,h2,hc',fun a' e=>by cases e;exact ⟨v,rfl,rv.mono kp fun _ _ e=>e⟩⟩
     · refine re (if_neg q) ?_
       have ny:=name_ne i y hy q
       rcases hs i y hy with ⟨g1,g2⟩ | ⟨g1,c',v0',g2,g3,g4⟩
       · exact .inl ⟨g1,g2.mono kp fun _ _ e=>e⟩
       · refine .inr ⟨g1,c',v0',g2,g3.sameBut hsb (fun e=>ny ?_),g4.mono kp fun _ _ e=>e⟩
         subst e
         exact name_of_addr L.apart (mem_of_lookup g2) (mem_of_lookup h2)
   rcases h1 with h1 | h1
   · exact wpAny_storeName_cell L.kind h1 h2 h3 fin
   · exact storeName_free L.kind h1 h2 h3 fin
end
noncomputable def Jx (T:Tabs) (env:PySem.Env) (sl:List Str) (S':List Addr) (ι':Cel) (h':Heap):Fl→Flow→Prop
 | .nxt ρ,f=>f=.next∧Loc T env sl ρ S' ι' h'
 | .cont ρ,f=>f=.cont∧Loc T env sl ρ S' ι' h'
 | .ret a,f=>∃ v,f=.ret v∧au T (off S' h') ι' a v
noncomputable abbrev Ah (T:Tabs) (B:Heap) (X:Cx) (sl:List Str) (S:List Addr) (ι:Cel) (s:Shared) (Q:Flow→Shared→Prop) (E:Value→Shared→Prop) (r:R Fl):Prop :=
 aF T B X.l (Wof X.env) S ι s (Jx T X.env sl) Q E r
noncomputable def cO (T:Tabs) (B:Heap) (prog:Program) (w:World) (X:Cx) (sl:List Str) (ρ:Env) (t:Sem Flow) (r:Sig→R Fl):Prop :=
 ∀ {S:List Addr} {ι:Cel} {σ:Sig} {s:Shared} {Q:Flow→Shared→Prop} {E:Value→Shared→Prop},Rel T B X.l S ι σ s.heap→Loc T X.env sl ρ S ι s.heap→Ah T B X sl S ι s Q E (r σ)→wpD (model prog w) X.A t Q E s
section
variable {T:Tabs} {B:Heap} {l:List PySem.Env} {W S S₁:List Addr} {ι ι₁:Cel} {s:Shared} {E:Value→Shared→Prop}
theorem cI.narrow {c:Nat} {σ':Sig} (x:cI T B l W S ι s E c σ'):cI T B l [] S ι s E c σ' :=
 fun h' tk' S' ι' hr N e g r f n1 n2=>x h' tk' S' ι' hr N e g.wide r f n1 n2
theorem aF.bindE {α α' β β':Type} {P:List Addr→Cel→Heap→α→β→Prop} {P':List Addr→Cel→Heap→α'→β'→Prop}
   {Q:β→Shared→Prop} {Q':β'→Shared→Prop} {r:R α} {f:α→Sig→R α'} (x:aF T B l W S ι s P' Q' E (r.bind f))
   (k:∀ z σ',r=.ok z σ'→∀ h' tk' S' ι' v,Go l [] S ι s.heap S' ι' h'→Rel T B l S' ι' σ' h'→P S' ι' h' z v→aF T B l W S' ι' { s with heap:=h',toks:=tk' } P' Q' E (f z σ')→Q v { s with heap:=h',toks:=tk' }) :
   aF T B l [] S ι s P Q E r:=by
 cases r with
 | ok z σ'=>exact fun h' tk' S' ι' v g r p=>k z σ' rfl h' tk' S' ι' v g r p (aF.later g.wide x)
 | err c σ'=>exact cI.narrow x
 | stuck=>exact x
end
section
variable {T:Tabs} {B:Heap} {K:Frag} {prog:Program} {w:World} {X:Cx} {sl:List Str} {ρ:Env}
theorem Hj:cO T B prog w X sl ρ (execs [] X.env) (fun σ=>.ok (.nxt ρ) σ):=by
 intro S ι σ s Q E R L p
 exact aj (p s.heap s.toks S ι _ (Go.refl ..) R ⟨rfl,L⟩)
theorem Dg {c:Stmt} {cs:List Stmt} {rc:Sig→R Fl} {rs:Env→Sig→R Fl} (h:cO T B prog w X sl ρ (exec c X.env) rc) (hs:∀ ρ',cO T B prog w X sl ρ' (execs cs X.env) (rs ρ')) :
   cO T B prog w X sl ρ (execs (c :: cs) X.env) (fun σ=>(rc σ).bind fun fl σ=>match fl with | .nxt ρ'=>rs ρ' σ | fl=>.ok fl σ):=by
 intro S ι σ s Q E R L p
 refine aa (h R L (aF.bind p fun z σ₁ _ h₁ tk₁ S₁ ι₁ v G₁ R₁ r₁ p₁=>?_))
 cases z with
 | nxt ρ' =>
   obtain ⟨rfl,L'⟩:=r₁
   exact hs ρ' R₁ L' p₁
 | ret a =>
   obtain ⟨v,rfl,rv⟩:=r₁
   exact aj (p₁ h₁ tk₁ S₁ ι₁ _ (Go.refl ..) R₁ ⟨v,rfl,rv⟩)
 | cont ρ' =>
   obtain ⟨rfl,L'⟩:=r₁
   exact aj (p₁ h₁ tk₁ S₁ ι₁ _ (Go.refl ..) R₁ ⟨rfl,L'⟩)
theorem Hk {e:Expr} {pos:Pos} {r:Sig→R AV} (h:Sat T B prog w X sl ρ (eval e X.env) r):cO T B prog w X sl ρ (exec (.Return (some e) pos) X.env) (fun σ=>(r σ).bind fun v σ=>.ok (.ret v) σ):=by
 intro S ι σ s Q E R L p
 refine re (exec_Return_some ..) ?_
 refine aa (aq (aa (h R L (aF.bindE p fun z σ₁ _ h₁ tk₁ S₁ ι₁ v G₁ R₁ r₁ p₁=>?_))))
 exact aj (p₁ h₁ tk₁ S₁ ι₁ _ (Go.refl ..) R₁ ⟨v,rfl,r₁⟩)
theorem KD {t:Expr} {a b:List Stmt} {pos:Pos} {rt:Sig→R AV} {ra rb:Sig→R Fl} (ht:bW T B prog w X sl ρ (isTrue t X.env (eval t X.env)) (tst rt)) (ha:cO T B prog w X sl ρ (execs a X.env) ra) (hb:cO T B prog w X sl ρ (execs b X.env) rb) :
   cO T B prog w X sl ρ (exec (.If t a b pos) X.env) (fun σ=>(rt σ).bind fun v σ=>match truthy v with | some true=>ra σ | some false=>rb σ | none=>.stuck):=by
 intro S ι σ s Q E R L p
 refine re (exec_If ..) ?_
 have e:((rt σ).bind fun x σ=>match truthy x with | some true=>ra σ | some false=>rb σ | none=>.stuck)=(tst rt σ).bind fun c σ=>if c then ra σ else rb σ:=by
   unfold tst
   cases rt σ with
   | ok v σ' =>
     simp only [Mine.R.bind]
     cases truthy v with
     | none=>rfl
     | some c=>cases c<;>rfl
   | err=>rfl
   | stuck=>rfl
 (try dsimp only at p);rw [e] at p
 refine aa (aq (aa (ht R L (aF.bindE p fun z σ₁ _ h₁ tk₁ S₁ ι₁ v G₁ R₁ r₁ p₁=>?_))))
 subst r₁
 cases z with
 | true=>simp only [if_true] at p₁ ⊢;exact ha R₁ (L.go R G₁) p₁
 | false=>simp only [Bool.false_eq_true,if_false] at p₁ ⊢;exact hb R₁ (L.go R G₁) p₁
theorem Dh {pos:Pos}:cO T B prog w X sl ρ (exec (.Continue pos) X.env) (fun σ=>.ok (.cont ρ) σ):=by
 intro S ι σ s Q E R L p
 exact aa (aq (aj (p s.heap s.toks S ι _ (Go.refl ..) R ⟨rfl,L⟩)))
theorem KH {e:Expr} {pos:Pos} {r:Sig→R AV} (h:Sat T B prog w X sl ρ (eval e X.env) r) (hs:∀ n env,swapsWith e none n env=pure false) :
   cO T B prog w X sl ρ (exec (.Expr e pos) X.env) (fun σ=>(r σ).bind fun _ σ=>.ok (.nxt ρ) σ):=by
 intro S ι σ s Q E R L p
 rw [exec_Expr X.env e pos (by unfold interactive;rw [L.kind];rfl) (hs _ _)]
 refine aa (aq (aa (h R L (aF.bindE p fun z σ₁ _ h₁ tk₁ S₁ ι₁ v G₁ R₁ r₁ p₁=>?_))))
 exact D (wpAny_dropValue (p₁ h₁ tk₁ S₁ ι₁ _ (Go.refl ..) R₁ ⟨rfl,L.go R G₁⟩))
end
end
section
noncomputable def dw:Expr→Bool
 | .ListComp .. | .SetComp .. | .DictComp ..=>false
 | _=>true
theorem gn {e:Expr} {t:Option Expr} {n:Nat} {env:PySem.Env} (h:dw e=true):swapsWith e t n env=pure false:=by
 cases e with
 | ListComp=>exact ffE h
 | SetComp=>exact ffE h
 | DictComp=>exact ffE h
 | _=>rfl
theorem iT {x:Nat} {xs:List Nat} {v:AV} {vs:List AV} {ρ:Env} (h:x < ρ.length):stores ρ (x :: xs) (v :: vs)=stores (ρ.set x (some v)) xs vs:=if_pos h
theorem fV {P:List Nat→List AV→Env→Env→Prop} (h0:∀ ρ,P [] [] ρ ρ) (h1:∀ x xs v vs ρ ρ',x < ρ.length→stores (ρ.set x (some v)) xs vs=some ρ'→P xs vs (ρ.set x (some v)) ρ'→P (x :: xs) (v :: vs) ρ ρ') :
   ∀ {xs:List Nat} {vs:List AV} {ρ ρ':Env},stores ρ xs vs=some ρ'→P xs vs ρ ρ':=by
 intro xs
 induction xs with
 | nil =>
   intro vs ρ ρ' e
   cases vs with
   | nil=>cases e;exact h0 ρ
   | cons=>exact aC e
 | cons x xs ih =>
   intro vs ρ ρ' e
   cases vs with
   | nil=>exact aC e
   | cons v vs =>
     replace e:(if x < ρ.length then stores (ρ.set x (some v)) xs vs else none)=some ρ':=e
     by_cases hl:x < ρ.length
     · rw [if_pos hl] at e;exact h1 _ _ _ _ _ _ hl e (ih e)
     · rw [if_neg hl] at e;exact aC e
theorem jV {e t:Expr} {n:Nat} {env:PySem.Env} (h:dw e=true):swapsWithSole [t] e n env=pure false:=gn (t:=some t) h
section
variable {T:Tabs} {B:Heap} {l:List PySem.Env} {S S' W:List Addr} {ι ι':Cel} {σ:Sig} {h h':Heap}
theorem Go.repW (x:Go l W S ι h S' ι' h') (R:Rel T B l S ι σ h) (hW:∀ a∈W,a∈S) {a:AV} {v:Value} (r:au T (off S h) ι a v):au T (off S' h') ι' a v:=r.mono (x.phi (R.inW hW)) x.pre
theorem Go.repLW (x:Go l W S ι h S' ι' h') (R:Rel T B l S ι σ h) (hW:∀ a∈W,a∈S) {a:List AV} {v:List Value} (r:aH T (off S h) ι a v):aH T (off S' h') ι' a v:=r.mono (x.phi (R.inW hW)) x.pre
end
section
variable {T:Tabs} {B:Heap} {K:Frag} {prog:Program} {w:World} {X:Cx} {sl:List Str} {ρ:Env}
theorem Hl {x:Nat} {id:Str} {value:Expr} {p1 pos:Pos} {r:Sig→R AV} (hx:sl[x]?=some id) (hn:dw value=true) (h:Sat T B prog w X sl ρ (eval value X.env) r) :
   cO T B prog w X sl ρ (exec (.Assign [.Name id p1] value pos) X.env) (fun σ=>(r σ).bind fun v σ=>if x < ρ.length then .ok (.nxt (ρ.set x (some v))) σ else .stuck):=by
 intro S ι σ s Q E R L p
 refine re (exec_Assign_Name X.env id p1 value pos (gn hn)) ?_
 refine aa (aq (aa (h R L (aF.bindE p fun z σ₁ _ h₁ tk₁ S₁ ι₁ v G₁ R₁ r₁ p₁=>?_))))
 split at p₁
 · refine aa (aq (az (jU R₁ (L.go R G₁) hx (iz _ _) r₁ fun h₂ tk₂ G₂ R₂ L₂=>?_)))
   exact aj (p₁ h₂ tk₂ _ _ _ G₂ R₂ ⟨rfl,L₂⟩)
 · exact p₁.elim
theorem Di (k:KnowS T B K) {o value:Expr} {f:Nat} {p1 pos:Pos} {ro rv:Sig→R AV} (ho:Sat T B prog w X sl ρ (eval o X.env) ro) (hv:Sat T B prog w X sl ρ (eval value X.env) rv) (hn:dw value=true) :
   cO T B prog w X sl ρ (exec (.Assign [.Attribute o (T.fld f) p1] value pos) X.env) (fun σ=>(rv σ).bind fun v σ=>(ro σ).bind fun x σ=>match setattr σ x f v with | some σ'=>.ok (.nxt ρ) σ' | none=>.stuck):=by
 intro S ι σ s Q E R L p
 refine re (exec_Assign_arm ..) ?_
 refine aa (aq ?_)
 refine re (jV hn) ?_
 refine aa (aj ?_)
 refine re (if_neg (by decide)) ?_
 refine aa (hv R L (aF.bindE p fun z σ₁ _ h₁ tk₁ S₁ ι₁ v G₁ R₁ r₁ p₁=>?_))
 refine re (show swappedStores [.Attribute o (T.fld f) p1] value X.env=pure none from rfl) ?_
 refine aa (aj ?_)
 show wpD _ _ (do assignAll v [assign (.Attribute o (T.fld f) p1) X.env];pure Flow.next) _ _ _
 refine aa ?_
 show wpD _ _ (do let ov ← holding [v] (eval o X.env);standAt p1.atName;holding [v,ov] (setAttr ov (T.fld f) v);release [v,ov] []) _ _ _
 refine aa (ao (ho R₁ (L.go R G₁) (aF.bindE p₁ fun z₂ σ₂ _ h₂ tk₂ S₂ ι₂ v₂ G₂ R₂ r₂ p₂=>?_)))
 split at p₂
 · rename_i σ' e
   refine aa (aq (aa (ao (D (Af (W:=[]) k R₂ r₂ (G₂.rep R₁ r₁) e fun h₃ tk₃ G₃ R₃=>?_)))))
   refine gf (aj (p₂ h₃ tk₃ _ _ _ G₃.wide R₃ ⟨rfl,((L.go R G₁).go R₁ G₂).go R₂ G₃⟩))
 · exact p₂.elim
theorem Dj {o i value:Expr} {p1 pos:Pos} {ro ri rv:Sig→R AV} (ho:Sat T B prog w X sl ρ (eval o X.env) ro) (hi:Sat T B prog w X sl ρ (eval i X.env) ri) (hv:Sat T B prog w X sl ρ (eval value X.env) rv) (hn:dw value=true) :
   cO T B prog w X sl ρ (exec (.Assign [.Subscript o i p1] value pos) X.env) (fun σ=>(rv σ).bind fun v σ=>(ro σ).bind fun x σ=>(ri σ).bind fun k σ=>match setitem σ x k v with | some σ'=>.ok (.nxt ρ) σ' | none=>.stuck):=by
 intro S ι σ s Q E R L p
 refine re (exec_Assign_Subscript o i p1 value pos (gn hn)) ?_
 refine aa (aq (aa (hv R L (aF.bindE p fun z σ₁ _ h₁ tk₁ S₁ ι₁ v G₁ R₁ r₁ p₁=>?_))))
 refine re (assign_Subscript ..) ?_
 refine aa ?_
 refine aa (ao (ho R₁ (L.go R G₁) (aF.bindE p₁ fun z₂ σ₂ _ h₂ tk₂ S₂ ι₂ v₂ G₂ R₂ r₂ p₂=>?_)))
 refine aa (ao (hi R₂ ((L.go R G₁).go R₁ G₂) (aF.bindE p₂ fun z₃ σ₃ _ h₃ tk₃ S₃ ι₃ v₃ G₃ R₃ r₃ p₃=>?_)))
 split at p₃
 · rename_i σ' e
   refine aa (aq (aa (ao (D (Ag (W:=[]) R₃ (G₃.rep R₂ r₂) r₃ (G₃.rep R₂ (G₂.rep R₁ r₁)) e fun h₄ tk₄ G₄ R₄=>?_)))))
   refine gf (aj (p₃ h₄ tk₄ _ _ _ G₄.wide R₄ ⟨rfl,(((L.go R G₁).go R₁ G₂).go R₂ G₃).go R₃ G₄⟩))
 · exact p₃.elim
noncomputable def bU (M:Model) (A:Around) (env:PySem.Env) (W:List Addr) (sl:List Str):List (Value→Sem Unit)→List Nat→Prop
 | [],[]=>True
 | t :: ts,x :: xs=>(∃ id,sl[x]?=some id∧StW env W id∧∀ (v:Value) (Q:Unit→Shared→Prop) (E:Value→Shared→Prop) (s:Shared),wpAny M A (bindName env id v) Q E s→wpAny M A (t v) Q E s)∧bU M A env W sl ts xs
 | _,_=>False
theorem bU.length {M:Model} {A:Around} {env:PySem.Env} {W:List Addr} {sl:List Str}:∀ {ts:List (Value→Sem Unit)} {xs:List Nat},bU M A env W sl ts xs→ts.length=xs.length
 | [],[],_=>rfl
 | _ :: _,_ :: _,h=>by exact re List.length_cons (re List.length_cons (re h.2.length rfl))
 | [],_ :: _,h=>h.elim
 | _ :: _,[],h=>h.elim
theorem bU.append {M:Model} {A:Around} {env:PySem.Env} {W:List Addr} {sl:List Str}:∀ {ts ts':List (Value→Sem Unit)} {xs xs':List Nat},bU M A env W sl ts xs→bU M A env W sl ts' xs'→bU M A env W sl (ts++ts') (xs++xs')
 | [],_,[],_,_,h'=>h'
 | _ :: _,_,_ :: _,_,h,h'=>⟨h.1,h.2.append h'⟩
 | [],_,_ :: _,_,h,_=>h.elim
 | _ :: _,_,[],_,h,_=>h.elim
theorem bU.reverse {M:Model} {A:Around} {env:PySem.Env} {W:List Addr} {sl:List Str}:∀ {ts:List (Value→Sem Unit)} {xs:List Nat},bU M A env W sl ts xs→bU M A env W sl ts.reverse xs.reverse
 | [],[],h=>h
 | _ :: _,_ :: _,h=>by
   refine re List.reverse_cons (re List.reverse_cons ?_)
   exact h.2.reverse.append ⟨h.1,trivial⟩
 | [],_ :: _,h=>h.elim
 | _ :: _,[],h=>h.elim
theorem uG {l:List PySem.Env} {A:Around} {E:Value→Shared→Prop} {Q:Unit→Shared→Prop} {S W:List Addr} {ι:Cel} {σ:Sig} {env:PySem.Env} (hW:∀ a∈W,a∈Wof env) :
   ∀ {xs:List Nat} {ts:List (Value→Sem Unit)} {vs:List AV} {us:List Value} {ρ ρ':Env} {s:Shared},Rel T B l S ι σ s.heap→Loc T env sl ρ S ι s.heap→aH T (off S s.heap) ι vs us→stores ρ xs vs=some ρ' →
   bU (model prog w) A env W sl ts xs →
   (∀ h' tk',Go l W S ι s.heap S ι h'→Rel T B l S ι σ h'→Loc T env sl ρ' S ι h'→Q () { s with heap:=h',toks:=tk' }) →
   wpAny (model prog w) A (assignInOrder ts us) Q E s:=by
 intro xs ts vs us ρ ρ' s R L rl e
 revert ts us s
 refine fV (P:=fun xs vs ρ ρ'=>∀ {ts:List (Value→Sem Unit)} {us:List Value} {s:Shared},Rel T B l S ι σ s.heap→Loc T env sl ρ S ι s.heap→aH T (off S s.heap) ι vs us→bU (model prog w) A env W sl ts xs →
   (∀ h' tk',Go l W S ι s.heap S ι h'→Rel T B l S ι σ h'→Loc T env sl ρ' S ι h'→Q () { s with heap:=h',toks:=tk' })→wpAny (model prog w) A (assignInOrder ts us) Q E s) (fun ρ ts us s R L rl hn h=>?_) (fun x xs v vs ρ ρ' hl e ih ts us s R L rl hn h=>?_) e
 · cases ts with
   | nil=>exact wpAny_pure (h s.heap s.toks (Go.refl ..) R L)
   | cons=>exact hn.elim
 · cases ts with
   | nil=>exact hn.elim
   | cons t ts =>
     obtain ⟨u,us',rfl,ru,rl⟩:=rl
     obtain ⟨⟨id,hid,hw,ht⟩,hn⟩:=hn
     exact wpAny_bind (wpAny_holding (ht _ _ _ _ (jU R L hid hw ru fun h₁ tk₁ G₁ R₁ L₁ =>
       ih R₁ L₁ (G₁.repLW R (fun a m=>(L.own a (hW a m)).1) rl) hn fun h' tk' G R' L'=>h h' tk' (G₁.trans G) R' L')))
theorem rH {xs:List Nat} {vs:List AV} {ρ ρ':Env} (e:stores ρ xs vs=some ρ'):xs.length=vs.length :=
 fV (P:=fun xs vs _ _=>xs.length=vs.length) (fun _=>rfl) (fun _ _ _ _ _ _ _ _ h=>congrArg (· + 1) h) e
theorem Qa {xs:List Nat} {vs:List AV} {ρ ρ':Env} {x:Nat} {v:Option AV} (hx:x∉xs) (e:stores ρ xs vs=some ρ'):stores (ρ.set x v) xs vs=some (ρ'.set x v):=by
 revert hx
 refine fV (P:=fun xs vs ρ ρ'=>x∉xs→stores (ρ.set x v) xs vs=some (ρ'.set x v)) (fun _ _=>rfl) (fun y xs u vs ρ ρ' hl e ih hx=>?_) e
 rw [iT (by rw [List.length_set];exact hl),List.set_comm _ _ fun q=>hx (by rw [q];exact List.mem_cons_self)]
 exact ih fun m=>hx (List.mem_cons_of_mem _ m)
theorem yx {xs:List Nat} {vs:List AV} {ρ ρ':Env} {x:Nat} {v:AV} (e:stores ρ xs vs=some ρ'):x < ρ'.length→stores ρ (xs++[x]) (vs++[v])=some (ρ'.set x (some v)) :=
 fV (P:=fun xs vs ρ ρ'=>x < ρ'.length→stores ρ (xs++[x]) (vs++[v])=some (ρ'.set x (some v))) (fun _ h=>iT h) (fun _ _ _ _ _ _ hl _ ih h=>(iT hl).trans (ih h)) e
theorem yz {xs:List Nat} {vs:List AV} {ρ ρ':Env} (e:stores ρ xs vs=some ρ'):ρ'.length=ρ.length :=
 fV (P:=fun _ _ ρ ρ'=>ρ'.length=ρ.length) (fun _=>rfl) (fun _ _ _ _ _ _ _ _ ih=>ih.trans List.length_set) e
theorem Ai {x:Nat} {v:Option AV} {xs:List Nat} {vs:List AV} {ρ ρ':Env} (hx:x∉xs) (e:stores (ρ.set x v) xs vs=some ρ'):∃ ρ₁,stores ρ xs vs=some ρ₁∧ρ'=ρ₁.set x v:=by
 induction xs generalizing vs ρ ρ' with
 | nil =>
   cases vs with
   | nil=>cases e;exact ⟨ρ,rfl,rfl⟩
   | cons=>exact aC e
 | cons y xs ih =>
   cases vs with
   | nil=>exact aC e
   | cons u vs =>
     replace e:(if y < (ρ.set x v).length then stores ((ρ.set x v).set y (some u)) xs vs else none)=some ρ':=e
     rw [List.length_set] at e
     by_cases hl:y < ρ.length
     · rw [if_pos hl,List.set_comm _ _ fun q=>hx (by refine re q ?_;exact List.mem_cons_self)] at e
       refine re (iT hl) ?_
       exact ih (fun m=>hx (List.mem_cons_of_mem _ m)) e
     · rw [if_neg hl] at e;exact aC e
theorem Aj {xs:List Nat} {vs:List AV} {ρ ρ':Env} (hn:xs.Nodup) (e:stores ρ xs vs=some ρ'):stores ρ xs.reverse vs.reverse=some ρ':=by
 induction xs generalizing vs ρ ρ' with
 | nil =>
   cases vs with
   | nil=>exact e
   | cons=>exact aC e
 | cons x xs ih =>
   cases vs with
   | nil=>exact aC e
   | cons v vs =>
     replace e:(if x < ρ.length then stores (ρ.set x (some v)) xs vs else none)=some ρ':=e
     by_cases hl:x < ρ.length
     · rw [if_pos hl] at e
       refine o01 (List.nodup_cons.mp hn) fun hx hn=>?_
       obtain ⟨ρ₁,h1,rfl⟩:=Ai hx e
       refine re List.reverse_cons (re List.reverse_cons ?_)
       exact yx (ih hn h1) (by refine re (yz h1) ?_;exact hl)
     · rw [if_neg hl] at e;exact aC e
noncomputable def nameOf:Expr→Option Str
 | .Name id _=>some id
 | _=>none
theorem uH {C:Prop} {t:Expr} {id:Str} (e:nameOf t=some id) (h:∀ p,t=.Name id p→C):C:=by
 cases t with
 | Name=>cases e;exact h _ rfl
 | _=>exact aC e
noncomputable def cU:List Expr→Option (List Str)
 | []=>some []
 | t :: r=>match nameOf t with
   | some id=>(cU r).map (id :: ·)
   | none=>none
noncomputable def cj (sl:List Str):List Nat→List Str→Bool
 | [],ids=>ids.isEmpty
 | x :: xs,ids=>match ids with
   | []=>false
   | id :: ids=>sl[x]? == some id && cj sl xs ids
theorem jc {sl:List Str} {P:List Nat→List Str→Prop} (h0:P [] []) (h1:∀ x xs id ids,sl[x]?=some id→cj sl xs ids=true→P xs ids→P (x :: xs) (id :: ids)):∀ {xs:List Nat} {ids:List Str},cj sl xs ids=true→P xs ids:=by
 intro xs
 induction xs with
 | nil =>
   intro ids h
   cases ids with
   | nil=>exact h0
   | cons=>exact ffE h
 | cons x xs ih =>
   intro ids h
   cases ids with
   | nil=>exact ffE h
   | cons id ids =>
     have h:=(Bool.and_eq_true _ _).mp h
     exact h1 _ _ _ _ (beq_iff_eq.mp h.1) h.2 (ih h.2)
theorem Ak {sl:List Str} {x:Nat} {xs:List Nat} {id:Str} {ids:List Str} (h:sl[x]?=some id) (h2:cj sl xs ids=true):cj sl (x :: xs) (id :: ids)=true:=(Bool.and_eq_true _ _).mpr ⟨beq_iff_eq.mpr h,h2⟩
theorem rI {C:Prop} {t:Expr} {ts:List Expr} {ids:List Str} (e:cU (t :: ts)=some ids) (h:∀ id p r,t=.Name id p→cU ts=some r→ids=id :: r→C):C:=by
 replace e:(match nameOf t with | some id=>(cU ts).map (id :: ·) | none=>none)=some ids:=e
 cases q:nameOf t with
 | none=>rw [q] at e;exact aC e
 | some id =>
   rw [q] at e
   refine o11 (Option.map_eq_some_iff.mp e) fun r h1 h2=>?_
   exact uH q fun p q=>h id p r q h1 h2.symm
theorem uI {A:Around} {env:PySem.Env} {W:List Addr} {ts:List Expr} {ids:List Str} {xs:List Nat} (e:cU ts=some ids) (h:cj sl xs ids=true) (hw:∀ id∈ids,StW env W id) :
   bU (model prog w) A env W sl ((assignEach ts env).map (·.2)) xs∧(assignEach ts env).findIdx? (·.1)=none∧(assignEach ts env).length=xs.length:=by
 revert ts hw
 refine jc (P:=fun xs ids=>∀ {ts:List Expr},cU ts=some ids→(∀ id∈ids,StW env W id) →
   bU (model prog w) A env W sl ((assignEach ts env).map (·.2)) xs∧(assignEach ts env).findIdx? (·.1)=none∧(assignEach ts env).length=xs.length) (fun {ts} e hw=>?_) (fun x xs id ids h1 h2 ih ts e hw=>?_) h
 · cases ts with
   | nil=>exact ⟨trivial,rfl,rfl⟩
   | cons t ts=>exact rI e fun _ _ _ _ _ q=>nomatch q
 · cases ts with
   | nil=>cases e
   | cons t ts =>
     refine rI e fun id' p r ht hr q=>?_
     cases q
     cases ht
     refine o02 (ih hr fun i m=>hw i (List.mem_cons_of_mem _ m)) fun k1 k2 k3=>?_
     refine ⟨⟨⟨id,h1,hw id (.head _),fun v Q E s q=>wpAny_bind (wpAny_standAt q)⟩,k1⟩,?_,congrArg (· + 1) k3⟩
     show List.findIdx? (·.1) ((false,assign (.Name id p) env) :: assignEach ts env)=none
     refine re (List.findIdx?_cons) (re k2 ?_)
     rfl
theorem Al {A:Around} {env:PySem.Env} {W:List Addr} (hw:∀ id,StW env W id) {xs:List Nat} {ids:List Str} (h:cj sl xs ids=true):bU (model prog w) A env W sl (ids.map fun n=>bindName env n) xs :=
 jc (P:=fun xs ids=>bU (model prog w) A env W sl (ids.map fun n=>bindName env n) xs) trivial (fun _ _ i _ h _ ih=>⟨⟨i,h,hw i,fun _ _ _ _ q=>q⟩,ih⟩) h
theorem Dk {sl:List Str} {xs:List Nat} {ids:List Str} (h:cj sl xs ids=true):xs.length=ids.length:=jc (P:=fun xs ids=>xs.length=ids.length) rfl (fun _ _ _ _ _ _ ih=>congrArg (· + 1) ih) h
theorem KJ {T:Tabs} {φ:Phi} {ι:Cel} {vs:List AV} {us:List Value} (h:aH T φ ι vs us):aH T φ ι vs.reverse us.reverse:=by
 induction vs generalizing us with
 | nil=>refine re (show us=[] from h) ?_;rfl
 | cons x vs ih =>
   obtain ⟨u,r,rfl,h1,h2⟩:=h
   refine re List.reverse_cons (re List.reverse_cons ?_)
   exact (ih h2).append ⟨u,[],rfl,h1,rfl⟩
theorem mH {l:List PySem.Env} {A:Around} {E:Value→Shared→Prop} {Q:Unit→Shared→Prop} {S W:List Addr} {ι:Cel} {σ:Sig} {env:PySem.Env} {s:Shared} {ts:List Expr} {ids:List Str} {xs:List Nat} {x1:Nat} {pos:Pos} {vs:List AV} {v:Value} {ρ':Env}
   (hh:A.handled=none) (R:Rel T B l S ι σ s.heap) (L:Loc T env sl ρ S ι s.heap) (rv:au T (off S s.heap) ι (.tuple vs) v) (e:stores ρ xs vs=some ρ') (h1:cU ts=some ids) (h2:cj sl xs ids=true) (hW:∀ a∈W,a∈Wof env) (hw:∀ id∈ids,StW env W id)
   (h:∀ h' tk',Go l W S ι s.heap S ι h'→Rel T B l S ι σ h'→Loc T env sl ρ' S ι h'→Q () { s with heap:=h',toks:=tk' }) :
   wpAny (model prog w) A (assign (.Tuple ts x1 pos) env v) Q E s:=by
 obtain ⟨a,us,rfl,ht,rl⟩:=rv
 refine o02 (uI (prog:=prog) (w:=w) (A:=A) (env:=env) h1 h2 hw) fun k1 k2 k3=>?_
 refine assign_Tuple_tuple hh ht.isTup (by refine re k3 (re List.size_toArray (re (aH.length rl) ?_));exact rH e) k2 fun h' he=>?_
 have kp:dX s.heap h':=fun b o q=>he b o (Nat.ne_of_lt (Heap.lt_size q)) q
 exact uG hW (s:={ s with heap:=h' }) (R.grow kp) (L.grow R kp) (rl.mono kp.phi fun _ _ e=>e) e k1 fun h'' tk'' G R' L'=>h h'' tk'' ((Go.grow l _ S ι kp).trans G) R' L'
set_option tactic.hygienic true in
theorem Dl (hh:X.A.handled=none) {ts:List Expr} {ids:List Str} {xs:List Nat} {x1:Nat} {value:Expr} {p1 pos:Pos} {r:Sig→R AV} (h1:cU ts=some ids) (h2:cj sl xs ids=true) (hnd:xs.Nodup) (hn:dw value=true)
   (hsw:swappedStores [.Tuple ts x1 p1] value X.env=pure none∨swappedStores [.Tuple ts x1 p1] value X.env=pure (some ids)) (h:Sat T B prog w X sl ρ (eval value X.env) r) :
   cO T B prog w X sl ρ (exec (.Assign [.Tuple ts x1 p1] value pos) X.env) (fun σ=>(r σ).bind fun v σ=>match v with
     | .tuple vs=>match stores ρ xs vs with | some ρ'=>.ok (.nxt ρ') σ | none=>.stuck
     | _=>.stuck):=by
 intro S ι σ s Q E R L p
 refine re (exec_Assign_arm ..) ?_
 refine aa (aq ?_)
 refine re (jV hn) ?_
 refine aa (aj ?_)
 refine re (if_neg (by decide)) ?_
 refine aa (h R L (aF.bindE p fun z σ₁ _ h₁ tk₁ S₁ ι₁ v G₁ R₁ r₁ p₁=>?_))
 split at p₁
 · rename_i vs
   split at p₁
   · rename_i ρ' e
     have L₁:=L.go R G₁
     rcases hsw with hsw | hsw
     · refine re hsw ?_
       refine aa (aj ?_)
       show wpD _ _ (do assign (.Tuple ts x1 p1) X.env v;pure Flow.next) _ _ _
       refine az (mH hh R₁ L₁ r₁ e h1 h2 (fun _ m=>m) (fun id _=>iz _ id) fun h' tk' G R' L'=>?_)
       exact aj (p₁ h' tk' _ _ _ G R' ⟨rfl,L'⟩)
     · refine re hsw ?_
       refine aa (aj ?_)
       obtain ⟨a,us,rfl,ht,rl⟩:=r₁
       refine o02 (uI (prog:=prog) (w:=w) (A:=X.A) (env:=X.env) (W:=Wof X.env) h1 h2 fun id _=>iz _ id) fun k1 k2 k3=>?_
       show wpD _ _ (do rule "assign.swapped-stores";let items ← unpackItems (.ref a) ids.length none;assignInOrder (ids.reverse.map fun n=>bindName X.env n) items.reverse;pure Flow.next) _ _ _
       refine aa (vI ?_)
       have hlen:ids.length=us.length:=by exact rf (Dk h2) (re (rH e) (re (aH.length rl) rfl))
       refine re (show ids.length=us.toArray.size from hlen) ?_
       refine az (unpackItems_tuple hh ht.isTup fun h' he=>?_)
       have kp:dX h₁ h':=fun b o q=>he b o (Nat.ne_of_lt (Heap.lt_size q)) q
       have like:=Al (prog:=prog) (w:=w) (A:=X.A) (env:=X.env) (iz X.env) h2
       refine az ?_
       refine re List.map_reverse ?_
       refine uG (fun _ m=>m) (s:={ s with heap:=h',toks:=tk₁ }) (R₁.grow kp) (L₁.grow R₁ kp) ((KJ rl).mono kp.phi fun _ _ e=>e) (Aj hnd e) like.reverse fun h'' tk'' G R' L'=>?_
       exact aj (p₁ h'' tk'' _ _ _ ((Go.grow X.l _ S₁ ι₁ kp).trans G) R' ⟨rfl,L'⟩)
   · exact p₁.elim
 · exact p₁.elim
end
end
section
noncomputable def notStar:Expr→Bool
 | .Starred ..=>false
 | _=>true
noncomputable def bw (es:List Expr) (env:PySem.Env):List (Bool×Sem Value):=es.map fun e=>(false,eval e env)
theorem lU {env:PySem.Env}:∀ {es:List Expr},es.all notStar=true→starEach es env=bw es env
 | [],_=>rfl
 | e :: es,h=>by
   simp only [List.all_cons,Bool.and_eq_true] at h
   have:starEach (e :: es) env=(false,eval e env) :: starEach es env:=by
     have h1:=h.1
     cases e<;>first | rfl | cases h1
   refine re this (re (lU h.2) ?_)
   rfl
theorem bT {env:PySem.Env} {pos:Pos} {es:List Expr} (h:es.all notStar=true):backTo pos (starEach es env)=bw es env:=by
 refine re (lU h) ?_
 unfold backTo bw
 refine re List.map_map ?_
 rfl
theorem plain_any {env:PySem.Env}:∀ (es:List Expr),(bw es env).any (·.1)=false
 | []=>rfl
 | e :: es=>by show (false || (bw es env).any (·.1))=false;refine re (plain_any es) ?_;rfl
theorem plain_all {env:PySem.Env}:∀ (es:List Expr),(bw es env).all (!·.1)=true
 | []=>rfl
 | e :: es=>by show (true && (bw es env).all (!·.1))=true;refine re (plain_all es) ?_;rfl
section
variable {M:Model} {A:Around} {E:Value→Shared→Prop} {s:Shared}
theorem Dm {f:Value} {ts:List (Bool×Sem Value)} {Q:Args→Shared→Prop} (hts:ts.any (·.1)=false) (h:wpD M A (spliced ts) (fun vs s'=>Q ⟨vs,[]⟩ s') E s):wpD M A (evalArgs f true ts []) Q E s:=by
 match ts,hts,h with
 | [],_,h =>
   refine aa (aV h (fun vs s' h'=>?_) fun _ _ x=>x)
   refine ao ?_
   exact aa (aj (aa (aj (aj h'))))
 | (false,x) :: rest,_,h =>
   refine aa (aV h (fun vs s' h'=>?_) fun _ _ x=>x)
   refine ao ?_
   exact aa (aj (aa (aj (aj h'))))
 | (true,x) :: r,hts,_=>simp at hts
theorem dq {f:Value} {first:List Value} {pos:Pos} {ts:List (Bool×Sem Value)} {Q:Value→Shared→Prop} {P:Heap→Prop} (hts:ts.any (·.1)=false)
   (hk:∀ h,P h→∃ k,(k=Keeper.frame∨k=Keeper.machine∨k=Keeper.boundFrame)∧Looks M h (keeperOf f) k)
   (h:wpD M A (spliced ts) (fun vs s₁=>P s₁.heap∧wpD M A (call f (first++vs)) Q E s₁) E s):wpD M A (callWith pos f first ts []) Q E s:=by
 unfold callWith
 refine aa (ao (Dm hts (aV h (fun vs s₁ h₁=>aa (aq ?_)) fun _ _ x=>x)))
 refine o11 (hk _ h₁.1) fun k hk' L=>?_
 simp only [hts,List.any_nil,Bool.or_false]
 refine az (L.here ?_)
 have tail:∀ {t:Sem Value},wpD M A t Q E s₁→wpD M A (t >>= fun r=>holding [r] point >>= fun _=>pure r) Q E s₁ :=
   fun ht=>aa (aV ht (fun r s₂ hr=>aa (ao (D (wpAny_point (aj hr))))) fun _ _ x=>x)
 have marked (mk:Value):wpD M A (callMarked mk f (first++vs) []) Q E s₁:=by unfold callMarked;exact Gu h₁.2
 rcases hk' with rfl | rfl | rfl<;>dsimp only<;>first | exact tail h₁.2 | (split<;>first | exact tail h₁.2 | exact tail (marked _))
theorem lV {id:String} (h:Heap):∃ k,(k=Keeper.frame∨k=Keeper.machine∨k=Keeper.boundFrame)∧Looks M h (keeperOf (.builtin id)) k:=⟨_,.inr (.inl rfl),.now⟩
theorem yZ {T:String} (h:Heap):∃ k,(k=Keeper.frame∨k=Keeper.machine∨k=Keeper.boundFrame)∧Looks M h (keeperOf (.type T)) k:=⟨_,.inr (.inl rfl),.now⟩
end
section
variable {T:Tabs} {B:Heap} {K:Frag} {prog:Program} {w:World} {X:Cx} {sl:List Str} {ρ:Env}
noncomputable def jt (T:Tabs) (B:Heap) (prog:Program) (w:World) (X:Cx) (sl:List Str) (ρ:Env) (f:Expr) (v:Value):Prop :=
 ∀ {S:List Addr} {ι:Cel} {σ:Sig} {s:Shared} {Q E:Value→Shared→Prop},Rel T B X.l S ι σ s.heap→Loc T X.env sl ρ S ι s.heap→Q v s→wpAny (model prog w) X.A (eval f X.env) Q E s
theorem jW {func:Expr} {fv:Value} {es:List Expr} {pos:Pos} {rs:Sig→R (List AV)} {cf:List AV→Sig→R AV} (hna:∀ o n p,func≠.Attribute o n p) (hst:es.all notStar=true) (hf:jt T B prog w X sl ρ func fv)
   (hk:∀ {S:List Addr} {ι:Cel} {σ:Sig} {h:Heap},Rel T B X.l S ι σ h→∃ k,(k=Keeper.frame∨k=Keeper.machine∨k=Keeper.boundFrame)∧Looks (model prog w) h (keeperOf fv) k)
   (ha:f9 T B prog w X sl ρ (spliced (bw es X.env)) rs)
   (hc:∀ {S:List Addr} {ι:Cel} {σ:Sig} {s:Shared} {Q E:Value→Shared→Prop} {as:List AV} {vs:List Value},Rel T B X.l S ι σ s.heap→aH T (off S s.heap) ι as vs→bF T B X.l [] S ι s Q E (cf as σ)→wpD (model prog w) X.A (call fv vs) Q E s) :
   Sat T B prog w X sl ρ (eval (.Call func es [] pos) X.env) (fun σ=>(rs σ).bind fun vs σ=>cf vs σ):=by
 intro S ι σ s Q E R L p
 have e:eval (.Call func es [] pos) X.env=(do callWith pos (← eval func X.env) [] (backTo pos (starEach es X.env)) (backToKw pos (keywordEach [] X.env))):=by
   cases func<;>first | rfl | exact absurd rfl (hna _ _ _)
 refine re e (re (bT hst) ?_)
 refine az (hf R L ?_)
 refine dq (P:=fun h=>∃ S ι σ,Rel T B X.l S ι σ h) (plain_any es) (fun h ⟨_,_,_,R⟩=>hk R) ?_
 refine ha R L (aF.bind p fun z σ₁ _ h₁ tk₁ S₁ ι₁ v G₁ R₁ r₁ p₁=>?_)
 exact ⟨⟨_,_,_,R₁⟩,hc R₁ r₁ p₁⟩
theorem Dn {func e2:Expr} {e:Expr} {pos:Pos} {r:Sig→R AV} (hna:∀ o n p,func≠.Attribute o n p) (hst:notStar e=true) (hst2:notStar e2=true) (hh:X.A.handled=none) (hg:X.A.guards=some []) (hf:jt T B prog w X sl ρ func (.builtin "isinstance")) (hs:jt T B prog w X sl ρ e2 (.type "str"))
   (ha:Sat T B prog w X sl ρ (eval e X.env) r) :
   Sat T B prog w X sl ρ (eval (.Call func [e,e2] [] pos) X.env) (fun σ=>(r σ).bind fun v σ=>builtin σ .isstr [v]):=by
 intro S ι σ s Q E R L p
 have e':eval (.Call func [e,e2] [] pos) X.env=(do callWith pos (← eval func X.env) [] (backTo pos (starEach [e,e2] X.env)) (backToKw pos (keywordEach [] X.env))):=by
   cases func<;>first | rfl | exact absurd rfl (hna _ _ _)
 refine re e' (re (bT (by simp [hst,hst2])) ?_)
 refine az (hf R L ?_)
 refine dq (P:=fun _=>True) (plain_any _) (fun h _=>lV h) ?_
 show wpD _ _ (spliced [(false,eval e X.env),(false,eval e2 X.env)]) _ _ _
 rw [spliced]
 refine aa (ha R L (aF.bind p fun z σ₁ _ h₁ tk₁ S₁ ι₁ v G₁ R₁ r₁ p₁=>?_))
 refine aa (aj (aa (ao ?_)))
 rw [spliced]
 refine az (hs R₁ (L.go R G₁) ?_)
 refine aa (aj (aa (ao ?_)))
 rw [spliced]
 refine aj (aj (aj ⟨trivial,?_⟩))
 exact Jw (b:=.isstr) hh hg R₁ (by decide) (as:=[z]) (vs:=[v]) ⟨v,[],rfl,r₁,rfl⟩ p₁
theorem oJ {es:List Expr} (h:es.length < 30):methodCallForm (es.length + 0) (bw es X.env) (backToKw default (keywordEach [] X.env))=true:=by
 unfold methodCallForm
 refine re (plain_all ..) ?_
 show (true && true && decide (es.length + 0 + 0 < 30))=true
 simp [h]
theorem Qc {o:Expr} {nm:Str} {es:List Expr} {apos pos:Pos} {ro:Sig→R AV} {rs:Sig→R (List AV)} {chk:AV→Sig→Bool} {cf:AV→List AV→Sig→R AV} {out:R AV→R AV} (hb:baseOk o=true) (hst:es.all notStar=true) (hn:es.length < 30) (hl:(apos.endLine == pos.line)=true)
   (ho:Sat T B prog w X sl ρ (eval o X.env) ro) (ha:f9 T B prog w X sl ρ (spliced (bw es X.env)) rs)
   (hm:∀ {S:List Addr} {ι:Cel} {σ:Sig} {s:Shared} {Q:Value×List Value→Shared→Prop} {E:Value→Shared→Prop} {x:AV} {v:Value} {pl:Sem Bool},Rel T B X.l S ι σ s.heap→au T (off S s.heap) ι x v→chk x σ=true →
     (∀ f,(∀ {S':List Addr} {ι':Cel} {σ':Sig} {h':Heap},Rel T B X.l S' ι' σ' h'→∃ k,(k=Keeper.frame∨k=Keeper.machine∨k=Keeper.boundFrame)∧Looks (model prog w) h' (keeperOf f) k) →
       (∀ {S':List Addr} {ι':Cel} {σ':Sig} {s':Shared} {Q' E':Value→Shared→Prop} {as:List AV} {vs:List Value},Rel T B X.l S' ι' σ' s'.heap→au T (off S' s'.heap) ι' x v→aH T (off S' s'.heap) ι' as vs→bF T B X.l [] S' ι' s' Q' E' (cf x as σ')→wpD (model prog w) X.A (call f (v :: vs)) Q' E' s')→Q (f,[v]) s) →
     wpAny (model prog w) X.A (getMethod v nm pl) Q E s) :
   Sat T B prog w X sl ρ (eval (.Call (.Attribute o nm apos) es [] pos) X.env) (fun σ=>(ro σ).bind fun x σ=>if chk x σ then (rs σ).bind fun vs σ=>cf x vs σ else .stuck):=by
 intro S ι σ s Q E R L p
 refine re (arm_eval_Call ..) (re (lQ hb) (re (bT hst) ?_))
 refine aa (ho R L (aF.bind p fun z σ₁ _ h₁ tk₁ S₁ ι₁ v G₁ R₁ r₁ p₁=>?_))
 refine aa (aq ?_)
 split at p₁
 · rename_i hc
   unfold methodCall
   refine re (show methodCallForm (es.length + [].length) (bw es X.env) (backToKw pos (keywordEach [] X.env))=true from oJ hn) ?_
   refine aa (ao (D ?_))
   refine hm R₁ r₁ hc fun f hk hcall=>?_
   dsimp only
   have e2:methodCallPos true o X.env apos pos=pure pos:=by
     unfold methodCallPos
     refine re hl ?_
     rfl
   refine re e2 ?_
   refine aa (aj ?_)
   have L₁:=L.go R G₁
   refine dq (P:=fun h=>∃ S ι σ,Rel T B X.l S ι σ h) (plain_any es) (fun h ⟨_,_,_,R⟩=>hk R) ?_
   refine ha R₁ L₁ (aF.bind p₁ fun zs σ₂ _ h₂ tk₂ S₂ ι₂ vs G₂ R₂ r₂ p₂=>?_)
   exact ⟨⟨_,_,_,R₂⟩,hcall R₂ (G₂.rep R₁ r₁) r₂ p₂⟩
 · exact p₁.elim
end
end
section
section
variable {T:Tabs} {φ φ':Phi} {ι ι':Cel}
mutual
theorem oK (hφ:∀ a o,φ a=some o→φ' a=some o) (x:AV) {v:Value} (n:bN x=true) (h:au T φ ι x v):au T φ' ι' x v:=by
 cases x with
 | tuple xs=>refine o22 h fun a vs e t r=>?_;exact ⟨a,vs,e,t.mono hφ,gQ hφ xs n r⟩
 | list xs=>refine o22 h fun a vs e t r=>?_;exact ⟨a,vs,e,t.mono hφ,gQ hφ xs n r⟩
 | inst _ fs=>refine o43 h fun a d es m e h1 h2 r=>?_;exact ⟨a,d,es,m,e,hφ _ _ h1,hφ _ _ h2,mJ hφ fs n r⟩
 | dict es=>refine o22 h fun a ps e t r=>?_;exact ⟨a,ps,e,t.mono hφ,rJ hφ es n r⟩
 | loc _=>exact ffE n
 | _=>exact h
theorem gQ (hφ:∀ a o,φ a=some o→φ' a=some o) (xs:List AV) {vs:List Value} (n:bR xs=true) (h:aH T φ ι xs vs):aH T φ' ι' xs vs:=by
 cases xs with
 | nil=>exact h
 | cons x xs =>
   refine o22 h fun v r e h1 h2=>?_
   have n:=(Bool.and_eq_true _ _).mp n
   exact ⟨v,r,e,oK hφ x n.1 h1,gQ hφ xs n.2 h2⟩
theorem mJ (hφ:∀ a o,φ a=some o→φ' a=some o) (fs:List (Nat×AV)) {es:List DictEntry} (n:jQ fs=true) (h:eG T φ ι fs es):eG T φ' ι' fs es:=by
 cases fs with
 | nil=>exact h
 | cons p fs =>
   refine o23 h fun e r h0 h1 h2 h3=>?_
   have n:=(Bool.and_eq_true _ _).mp n
   exact ⟨e,r,h0,h1,oK hφ p.2 n.1 h2,mJ hφ fs n.2 h3⟩
theorem rJ (hφ:∀ a o,φ a=some o→φ' a=some o) (es:List (Int×AV)) {ps:List (Int×Value)} (n:jR es=true) (h:fG T φ ι es ps):fG T φ' ι' es ps:=by
 cases es with
 | nil=>exact h
 | cons p es =>
   refine o23 h fun q r h0 h1 h2 h3=>?_
   have n:=(Bool.and_eq_true _ _).mp n
   exact ⟨q,r,h0,h1,oK hφ p.2 n.1 h2,rJ hφ es n.2 h3⟩
end
theorem Am {x:AV} {v:Value} (n:isScalar x=true) (h:au T φ ι x v):au T φ' ι' x v:=by
 cases x<;>first | exact h | cases n
end
theorem iC {α β:Type} {f:α→Option β} {x:α} {xs:List α} {ys:List β} (h:(x :: xs).mapM f=some ys):∃ y r,f x=some y∧xs.mapM f=some r∧ys=y :: r:=by
 rw [List.mapM_cons] at h
 cases h1:f x with
 | none=>rw [h1] at h;cases h
 | some y =>
   cases h2:xs.mapM f with
   | none=>rw [h1,h2] at h;cases h
   | some r=>rw [h1,h2] at h;cases h;exact ⟨y,r,rfl,rfl,rfl⟩
theorem ju {α β:Type} {f:α→Option β} {ys:List β} (h:([]:List α).mapM f=some ys):ys=[]:=by
 rw [List.mapM_nil] at h;cases h;rfl
section
variable {T:Tabs} {B:Heap} {l:List PySem.Env} {S S' W:List Addr} {ι ι' ι₂:Cel} {σ σ':Sig} {h h':Heap} {φ':Phi}
section
variable {f:AV→Option AV} {φ:Phi}
theorem mK (ih:∀ {x w:AV} {v:Value},f x=some w→au T φ ι x v→au T φ' ι₂ w v) {xs ws:List AV} {vs:List Value} (e:xs.mapM f=some ws) (r:aH T φ ι xs vs):aH T φ' ι₂ ws vs:=by
 induction xs generalizing ws vs with
 | nil=>refine re (ju e) ?_;exact r
 | cons x xs ihx =>
   obtain ⟨y,q,e1,e2,rfl⟩:=iC e
   obtain ⟨u,us,rfl,r1,r2⟩:=r
   exact ⟨u,us,rfl,ih e1 r1,ihx e2 r2⟩
theorem wB (ih:∀ {x w:AV} {v:Value},f x=some w→au T φ ι x v→au T φ' ι₂ w v) {fs gs:List (Nat×AV)} {es:List DictEntry} (e:fs.mapM (fun p=>(f p.2).map (p.1,·))=some gs) (r:eG T φ ι fs es):eG T φ' ι₂ gs es:=by
 induction fs generalizing gs es with
 | nil=>refine re (ju e) ?_;exact r
 | cons p fs ihx =>
   obtain ⟨y,q,e1,e2,rfl⟩:=iC e
   obtain ⟨b,e3,rfl⟩:=Option.map_eq_some_iff.mp e1
   obtain ⟨en,r',rfl,hk,r1,r2⟩:=r
   exact ⟨en,r',rfl,hk,ih e3 r1,ihx e2 r2⟩
theorem wC (ih:∀ {x w:AV} {v:Value},f x=some w→au T φ ι x v→au T φ' ι₂ w v) {fs gs:List (Int×AV)} {es:List (Int×Value)} (e:fs.mapM (fun p=>(f p.2).map (p.1,·))=some gs) (r:fG T φ ι fs es):fG T φ' ι₂ gs es:=by
 induction fs generalizing gs es with
 | nil=>refine re (ju e) ?_;exact r
 | cons p fs ihx =>
   obtain ⟨y,q,e1,e2,rfl⟩:=iC e
   obtain ⟨b,e3,rfl⟩:=Option.map_eq_some_iff.mp e1
   obtain ⟨en,r',rfl,hk,r1,r2⟩:=r
   exact ⟨en,r',rfl,hk,ih e3 r1,ihx e2 r2⟩
theorem KN {α β:Type} {C:Prop} {o:Option α} {g:α→Option β} {w:β} (e:o.bind g=some w) (h:∀ a,o=some a→g a=some w→C):C:=by
 cases o with
 | none=>exact aC e
 | some a=>exact h a rfl e
theorem jX {α β:Type} {C:Prop} {o:Option α} {g:α→β} {w:β} (e:o.map g=some w) (h:∀ a,o=some a→w=g a→C):C:=by
 refine o11 (Option.map_eq_some_iff.mp e) fun a e0 e1=>?_
 exact h a e0 e1.symm
end
theorem Hm (R:Rel T B l S ι σ h) (k1:∀ a o,off S h a=some o→φ' a=some o) (k2:∀ a o,a∈cells ι→h.get? a=some o→φ' a=some o) {n:Nat}
   (ih:∀ {x w:AV} {v:Value},bA σ n x=some w→au T (off S h) ι x v→au T φ' ι₂ w v) {i:Nat} {w:AV} {v:Value} (e:bA σ (n + 1) (.loc i)=some w) (r:au T (off S h) ι (.loc i) v):au T φ' ι₂ w v:=by
 obtain ⟨a,c,hi,rfl⟩:=r
 refine KN (show (σ[i]?).bind (zM (bA σ n))=some w from e) fun o hs e=>?_
 cases o with
 | list xs =>
   refine jX e fun ws e0 q=>?_
   obtain ⟨e1,vs,⟨m,ho⟩,r⟩:=R.obj _ _ _ hi hs
   dsimp only at e1 ho
   subst e1
   exact q▸⟨a,vs,rfl,⟨_,k2 _ _ (cN hi) ho,rfl,m,rfl⟩,mK ih e0 r⟩
 | inst C fs =>
   refine jX e fun ws e0 q=>?_
   obtain ⟨h1,es,m,h2,r⟩:=R.obj _ _ _ hi hs
   exact q▸⟨a,c,es,m,rfl,k1 _ _ h1,k2 _ _ (cN hi) h2,wB ih e0 r⟩
 | dict N es =>
   refine jX e fun ws e0 q=>?_
   obtain ⟨e1,ps,⟨o,es',ep,ho,rest⟩,r,_⟩:=R.obj _ _ _ hi hs
   dsimp only at e1 ho
   subst e1
   exact q▸⟨a,ps,rfl,⟨o,es',ep,k2 _ _ (cN hi) ho,rest⟩,wC ih e0 r⟩
 | _=>exact aC e
theorem qm (R:Rel T B l S ι σ h) (k1:∀ a o,off S h a=some o→φ' a=some o) (k2:∀ a o,a∈cells ι→h.get? a=some o→φ' a=some o) (n:Nat) :
   ∀ {x w:AV} {v:Value},bA σ n x=some w→au T (off S h) ι x v→au T φ' ι₂ w v:=by
 induction n with
 | zero=>exact fun e _=>aC e
 | succ n ih =>
   intro x w v e r
   cases x with
   | tuple xs =>
     refine jX e fun ws e0 q=>?_
     obtain ⟨a,vs,rfl,t,r⟩:=r
     exact q▸⟨a,vs,rfl,t.mono k1,mK ih e0 r⟩
   | list xs =>
     refine jX e fun ws e0 q=>?_
     obtain ⟨a,vs,rfl,t,r⟩:=r
     exact q▸⟨a,vs,rfl,t.mono k1,mK ih e0 r⟩
   | inst C fs =>
     refine jX e fun ws e0 q=>?_
     obtain ⟨a,d,es,m,rfl,h1,h2,r⟩:=r
     exact q▸⟨a,d,es,m,rfl,k1 _ _ h1,k1 _ _ h2,wB ih e0 r⟩
   | dict es =>
     refine jX e fun ws e0 q=>?_
     obtain ⟨a,ps,rfl,t,r⟩:=r
     exact q▸⟨a,ps,rfl,t.mono k1,wC ih e0 r⟩
   | loc i=>exact Hm R k1 k2 ih e r
   | _=>cases e;exact r
theorem Dp (R:Rel T B l S ι σ h) (k1:∀ a o,off S h a=some o→φ' a=some o) (k2:∀ a o,a∈cells ι→h.get? a=some o→φ' a=some o) (n:Nat) {xs ws:List AV} {vs:List Value} (e:xs.mapM (bA σ n)=some ws) (r:aH T (off S h) ι xs vs):aH T φ' ι₂ ws vs :=
 mK (qm R k1 k2 n) e r
theorem Rel.back (R:Rel T B l S ι σ h) (k:∀ a o,h.get? a=some o→a∉frs l→h'.get? a=some o) (f:∀ a m,a∈frs l→h.Ns a m→h'.Ns a m) (N:List Addr) (hN:∀ a∈N,h.get? a=none) (hN':∀ a∈N,∃ o,h'.get? a=some o) :
   Rel T B l (S++N) ι σ h'∧Go l [] S ι h (S++N) ι h':=by
 have alive:∀ a o,h.get? a=some o→∃ o',h'.get? a=some o':=fun a o e=>by
   by_cases q:a∈frs l
   · refine o11 (jL q) fun env he hf=>?_
     obtain ⟨_,L,m,hL,_,_,hn⟩:=R.stk env he
     rw [hf] at hL
     cases hL
     exact cT (f a m q hn)
   · exact ⟨o,k a o e q⟩
 have kp:∀ a o,off S h a=some o→off (S++N) h' a=some o:=fun a o e=>by
   refine o01 (aA.mp e) fun n e=>?_
   refine aA.mpr ⟨fun q=>?_,k a o e fun q=>n (R.frS q).1⟩
   rcases List.mem_append.mp q with q | q
   · exact n q
   · rw [hN a q] at e;cases e
 constructor
 · exact {
     base:=fun a o e=>k a o (R.base a o e) fun q=>by rw [R.bS a (R.frS q).1] at e;cases e
     bS:=fun a q=>by
       rcases List.mem_append.mp q with q | q
       · exact R.bS a q
       · exact none_of fun o e=>by have:=R.base a o e;rw [hN a q] at this;cases this
     live:=fun a q=>by
       rcases List.mem_append.mp q with q | q
       · refine o10 (R.live a q) fun o e=>?_;exact alive a o e
       · exact hN' a q
     sub:=fun a q=>List.mem_append_left _ (R.sub a q)
     nodup:=R.nodup
     len:=R.len
     obj:=fun i p m e1 e2=>(R.obj i p m e1 e2).keep kp (fun _ _ e=>e) fun o e=>k _ o e fun q=>(R.frS q).2 (cN e1)
     stk:=fun env he=>by
       obtain ⟨h1,L,m,h2,h3,h4,h5⟩:=R.stk env he
       exact ⟨h1,L,m,h2,List.mem_append_left _ h3,h4,f L m (List.mem_filterMap.mpr ⟨env,he,h2⟩) h5⟩ }
 · exact {
     step:=fun a o e _ _ q=>k a o e q
     frm:=fun a m e q _=>f a m q e
     alive:=alive
     pre:=fun _ _ e=>e
     sub:=fun a q=>List.mem_append_left _ q
     new:=fun a q n=>by
       rcases List.mem_append.mp q with q | q
       · exact absurd q n
       · exact hN a q
     cel:=fun a q n=>absurd q n }
end
noncomputable def aM (T:Tabs) (B:Heap) (prog:Program) (w:World) (n:Nat) (cf:Calls):Prop :=
 ∀ {A:Around} {l:List PySem.Env} {S:List Addr} {ι:Cel} {σ:Sig} {s:Shared} {Q E:Value→Shared→Prop} {f:Nat} {as:List AV} {vs:List Value},A.depth + 4 * n≤904→A.units + 32 * n≤9032→A.frames=some l→A.guards=some []→A.handled=none →
   Rel T B l S ι σ s.heap→aH T (off S s.heap) ι as vs→bF T B l [] S ι s Q E (cf f as σ)→bj (model prog w) A (.call (.ref (T.fa f)) ⟨vs,[]⟩) (wants Q E) s
structure Cx.Ok (X:Cx) (n:Nat):Prop where
 dp:X.A.depth + 4 * n≤903
 un:X.A.units + 32 * n≤9028
 fr:X.A.frames=some X.l
 gd:X.A.guards=some []
 hd:X.A.handled=none
section
variable {T:Tabs} {B:Heap} {K:Frag} {prog:Program} {w:World} {X:Cx} {sl:List Str} {ρ:Env} {l:List PySem.Env} {S:List Addr} {ι:Cel} {σ:Sig} {h:Heap}
noncomputable def opened (S:List Addr) (ι:Cel):List Addr:=S.filter fun a=>!(cells ι).contains a
theorem fW {a:Addr}:a∈opened S ι↔a∈S∧a∉cells ι:=by
 unfold opened
 rw [List.mem_filter]
 simp
theorem Rel.open (R:Rel T B l S ι σ h) (b:Bool):Rel T B l (if b then opened S ι else S) [] [] h:=by
 have hsub:∀ a∈(if b then opened S ι else S),a∈S:=fun a m=>by
   cases b with
   | true=>exact (fW.mp m).1
   | false=>exact m
 have hin:∀ a,a∈S→a∉cells ι→a∈(if b then opened S ι else S):=fun a m n=>by
   cases b with
   | true=>exact fW.mpr ⟨m,n⟩
   | false=>exact m
 exact {
   base:=R.base
   bS:=fun a m=>R.bS a (hsub a m)
   live:=fun a m=>R.live a (hsub a m)
   sub:=fun a m=>nomatch m
   nodup:=List.nodup_nil
   len:=rfl
   obj:=fun i p m e=>by simp at e
   stk:=fun env he=>by
     obtain ⟨h1,L,m,h2,h3,h4,h5⟩:=R.stk env he
     exact ⟨h1,L,m,h2,hin L h3 h4,(fun q=>nomatch q),h5⟩ }
set_option tactic.hygienic true in
theorem uJ {s:Shared} {Q E:Value→Shared→Prop} (R:Rel T B l S ι σ s.heap) (b:Bool) {r:Mine.R AV} (p:bF T B l [] S ι s Q E (ir b σ r)) :
   bF T B l [] (if b then opened S ι else S) [] s Q E r:=by
 have hsub:∀ a∈(if b then opened S ι else S),a∈S:=fun a m=>by
   cases b with
   | true=>exact (fW.mp m).1
   | false=>exact m
 have hin:∀ a,a∈S→a∉cells ι→a∈(if b then opened S ι else S):=fun a m n=>by
   cases b with
   | true=>exact fW.mpr ⟨m,n⟩
   | false=>exact m
 cases r with
 | stuck=>exact p
 | ok z σ' =>
   intro h' tk' S' ι' v G R' rv
   simp only [ir] at p
   split at p
   · rename_i wv hb
     split at p
     · exact p.elim
     · rename_i hsc
       have bk:=R.back (fun a o e q=>G.step a o e (by simp [cells]) (by simp) q) (fun a m q hn=>G.frm a m hn q (by simp)) [] (fun _ m=>nomatch m) fun _ m=>nomatch m
       rw [List.append_nil] at bk
       refine p h' tk' S ι v bk.2 bk.1 ?_
       cases b with
       | true =>
         have hw:isScalar wv=true:=by simpa using hsc
         exact Am (φ:=h'.get?) (ι:=[]) hw (qm R' (fun a o e=>(aA.mp e).2) (fun a o m e=>e) fj hb rv)
       | false =>
         refine qm R' (fun a o e=>?_) (fun a o m e=>?_) fj hb rv
         · refine o01 (aA.mp e) fun n e=>?_
           exact aA.mpr ⟨fun q=>n (G.sub a q),e⟩
         · refine aA.mpr ⟨fun q=>?_,e⟩
           have:=G.cel a m (by simp [cells])
           refine o10 (R.live a q) fun o' e'=>?_
           rw [this] at e';cases e'
   · exact p.elim
 | err c σ' =>
   intro h' tk' S' ι' hr N e G R' F n1 n2
   have bk:=R.back (fun a o e q=>G.step a o e (by simp [cells]) (by simp) q) (fun a m q hn=>G.frm a m hn q (by simp)) (N.filter fun a=>(s.heap.get? a).isNone) (fun a m=>by simpa using (List.mem_filter.mp m).2)
     (fun a m=>by refine o10 (F.isNs a (List.mem_filter.mp m).1) fun q hq=>?_;exact cT hq)
   refine p h' tk' _ ι hr N e bk.2 bk.1 F n1 fun a m=>?_
   rcases n2 a m with q | ⟨q1,q2,q3⟩
   · exact .inl q
   · refine .inr ⟨q1,List.mem_append_right _ (List.mem_filter.mpr ⟨m,by simp [q1]⟩),fun q=>?_⟩
     refine o10 (R.live a (R.sub a q)) fun o eo=>?_
     rw [q1] at eo;cases eo
end
end
section
structure Names where
 glob:Str→Option Value
 blt:Str→Option Value
structure KnowN (T:Tabs) (B:Heap) (N:Names):Prop where
 main:∃ mg,B.Ns mainGlobals mg∧(∀ x v,N.glob x=some v→mg x=some v)∧∀ x v,N.blt x=some v→mg x=none
 bins:∃ mb,B.Ns builtinsNs mb∧∀ x v,N.blt x=some v→mb x=some v
structure KnowF (P:Prog) (T:Tabs) (B:Heap) (K:Frag):Prop extends KnowS T B K where
 fn:∀ f,(P.fns f).isSome=true→keepIn K (.ref (T.fa f))=true∧typeIn K (.ref (T.fa f))=some (.type "function")
 cls:∀ C f,P.init C=some f→keepIn K (.ref (T.ca C))=true∧makesIn K (T.ca C)=true∧findIn K (.ref (T.ca C)) "__init__"=some (some (.ref (T.fa f)))∧(P.fns f).isSome=true
 meth:∀ C nm f,P.meths C nm=some f→findIn K (.ref (T.ca C)) (T.mn nm)=some (some (.ref (T.fa f)))∧(P.fns f).isSome=true
 mnf:∀ nm f,T.mn nm≠T.fld f
section
variable {P:Prog} {T:Tabs} {B:Heap} {K:Frag} {NN:Names} {prog:Program} {w:World} {X:Cx} {sl:List Str} {ρ:Env}
structure Cx.Env (X:Cx):Prop where
 glob:X.env.globals=mainGlobals
 bins:X.env.builtins=builtinsNs
theorem lg (k:KnowN T B NN) (xe:X.Env) {id:Str} {v:Value} {pos:Pos} (hk:X.env.kindOf id=some .globalImplicit) (hv:NN.glob id=some v) (hd:(id == ("__debug__":Str))=false):jt T B prog w X sl ρ (.Name id pos) v:=by
 intro S ι σ s Q E R L q
 refine o12 k.main fun mg h1 h2 h3=>?_
 exact Name_function_global L.kind hk (loadGlobal_global (by refine re xe.glob ?_;exact h1.keeps R.base) (h2 _ _ hv) q) hd
theorem Hn (k:KnowN T B NN) (xe:X.Env) {id:Str} {v:Value} {pos:Pos} (hk:X.env.kindOf id=some .globalImplicit) (hv:NN.blt id=some v) (hd:(id == ("__debug__":Str))=false) (hn:(id == ("__builtins__":Str))=false):jt T B prog w X sl ρ (.Name id pos) v:=by
 intro S ι σ s Q E R L q
 refine o12 k.main fun mg h1 h2 h3=>?_
 refine o11 k.bins fun mb h4 h5=>?_
 exact Name_function_global L.kind hk (loadGlobal_builtin (by refine re xe.glob ?_;exact h1.keeps R.base) (h3 _ _ hv) (by refine re xe.bins ?_;exact h4.keeps R.base) (h5 _ _ hv) q) hd
theorem Ho (k:KnowN T B NN) (xe:X.Env) {id:Str} {i:Int} {t:Tok} {pos:Pos} (hk:X.env.kindOf id=some .globalImplicit) (hv:NN.glob id=some (.int i t)) (hd:(id == ("__debug__":Str))=false) :
   Sat T B prog w X sl ρ (eval (.Name id pos) X.env) (fun σ=>.ok (.int i) σ):=by
 intro S ι σ s Q E R L p
 exact D (lg k xe hk hv hd R L (gh R p ⟨t,rfl⟩))
theorem yC {n:Nat} {cf:Calls} (c:aM T B prog w n cf) {A:Around} {l:List PySem.Env} {S:List Addr} {ι:Cel} {σ:Sig} {s:Shared} {Q E:Value→Shared→Prop} {f:Nat} {as:List AV} {vs:List Value}
   (h1:A.depth + 4 * n≤904) (h2:A.units + 32 * n≤9032) (h3:A.frames=some l) (h4:A.guards=some []) (h5:A.handled=none) (R:Rel T B l S ι σ s.heap) (ra:aH T (off S s.heap) ι as vs) (p:bF T B l [] S ι s Q E (aD cf σ f as)) :
   wpD (model prog w) A (call (.ref (T.fa f)) vs) Q E s:=by
 unfold aD at p
 split at p
 · rename_i hn
   exact cH (c h1 h2 h3 h4 h5 (R.open false) (gQ (fun _ _ e=>e) as hn ra) (uJ R false p))
 · split at p
   · rename_i bs hb
     refine cH (c h1 h2 h3 h4 h5 (R.open true) (Dp R (fun a o e=>?_) (fun a o m e=>?_) fj hb ra) (uJ R true p))
     · obtain ⟨nn,e⟩:=aA.mp e
       exact aA.mpr ⟨fun q=>nn (fW.mp q).1,e⟩
     · exact aA.mpr ⟨fun q=>(fW.mp q).2 m,e⟩
   · exact p.elim
theorem Dq (kf:KnowF P T B K) {n:Nat} {cf:Calls} (c:aM T B prog w n cf) (xo:X.Ok n) {func:Expr} {f:Nat} {es:List Expr} {pos:Pos} {rs:Sig→R (List AV)} (hna:∀ o n p,func≠.Attribute o n p) (hst:es.all notStar=true) (hfn:(P.fns f).isSome=true)
   (hf:jt T B prog w X sl ρ func (.ref (T.fa f))) (ha:f9 T B prog w X sl ρ (spliced (bw es X.env)) rs) :
   Sat T B prog w X sl ρ (eval (.Call func es [] pos) X.env) (fun σ=>(rs σ).bind fun vs σ=>aD cf σ f vs) :=
 jW (cf:=fun vs σ=>aD cf σ f vs) hna hst hf (fun R=>keeps_K (kf.fn f hfn).1 _ (kf.here R)) ha fun R ra p=>yC c (by have:=xo.dp;exact szl this rfl) (by have:=xo.un;exact szl this rfl) xo.fr xo.gd xo.hd R ra p
theorem Nr {n:Nat} (xo:X.Ok n) {func:Expr} {b:BI} {es:List Expr} {pos:Pos} {rs:Sig→R (List AV)} (hb:b≠.sorted) (hb2:b≠.isstr) (hna:∀ o n p,func≠.Attribute o n p) (hst:es.all notStar=true)
   (hf:jt T B prog w X sl ρ func (biV b)) (ha:f9 T B prog w X sl ρ (spliced (bw es X.env)) rs) :
   Sat T B prog w X sl ρ (eval (.Call func es [] pos) X.env) (fun σ=>(rs σ).bind fun vs σ=>builtin σ b vs) :=
 jW (cf:=fun vs σ=>builtin σ b vs) hna hst hf (fun R=>by cases b<;>first | exact lV _ | exact yZ _) ha fun R ra p=>by
   have z:=Jw (prog:=prog) (w:=w) xo.hd xo.gd R hb ra p
   rw [show biX b=[] from by cases b<;>first | rfl | exact absurd rfl hb2,List.append_nil] at z
   exact z
theorem Hp (kf:KnowF P T B K) {n:Nat} {cf:Calls} (c:aM T B prog w n cf) (xo:X.Ok n) {o:Expr} {nm:Nat} {es:List Expr} {apos pos:Pos} {ro:Sig→R AV} {rs:Sig→R (List AV)} (hb:baseOk o=true) (hst:es.all notStar=true) (hn:es.length < 30) (hl:(apos.endLine == pos.line)=true)
   (ho:Sat T B prog w X sl ρ (eval o X.env) ro) (ha:f9 T B prog w X sl ρ (spliced (bw es X.env)) rs) :
   Sat T B prog w X sl ρ (eval (.Call (.Attribute o (T.mn nm) apos) es [] pos) X.env) (fun σ=>(ro σ).bind fun x σ=>match (clsOf σ x).bind fun C=>P.meths C nm with
     | none=>.stuck
     | some f=>(rs σ).bind fun vs σ=>cf f (x :: vs) σ):=by
 intro S ι σ s Q E R L p
 refine re (arm_eval_Call ..) (re (lQ hb) (re (bT hst) ?_))
 refine aa (ho R L (aF.bind p fun z σ₁ _ h₁ tk₁ S₁ ι₁ v G₁ R₁ r₁ p₁=>?_))
 refine aa (aq ?_)
 split at p₁
 · exact p₁.elim
 · rename_i f hf
   refine o11 (Option.bind_eq_some_iff.mp hf) fun C hC hm=>?_
   refine o01 (kf.meth C nm f hm) fun km kfn=>?_
   have hx:∃ fs,z=.inst C fs∨∃ i,z=.loc i∧σ₁[i]?=some (.inst C fs):=by
     unfold clsOf at hC
     split at hC
     · cases hC;exact ⟨_,.inl rfl⟩
     · split at hC
       · cases hC;rename_i hs;exact ⟨_,.inr ⟨_,rfl,hs⟩⟩
       · cases hC
     · cases hC
   refine o10 hx fun fs hx=>?_
   obtain ⟨a,d,es',n',rfl,g1,g2,g3⟩:=R₁.instAt (s:={ s with heap:=h₁,toks:=tk₁ }) r₁ hx
   unfold methodCall
   refine re (show methodCallForm (es.length + [].length) (bw es X.env) (backToKw pos (keywordEach [] X.env))=true from oJ hn) ?_
   refine aa (ao (D ?_))
   have hp:=plainGet_of (kf.plain C 0 (by simp [dj]))
   have hsh:shadowIn (some (dictOf es' n')) (T.mn nm)=some false:=by
     show (lookIn (T.mn nm) (dictOf es' n')).map (·.isSome)=_
     refine re (lookIn_dict ..) ?_
     have:∀ {fs:List (Nat×AV)} {es:List DictEntry} {φ:Phi} {ι:Cel},eG T φ ι fs es→es.find? (·.key.isStr (T.mn nm))=none:=by
       intro fs
       induction fs with
       | nil=>intro es φ ι h;refine re (show es=[] from h) ?_;rfl
       | cons q fs ih =>
         intro es φ ι h
         obtain ⟨en,r,rfl,⟨t,hk⟩,_,hr⟩:=h
         refine re (List.find?_cons) ?_
         have:en.key.isStr (T.mn nm)=false:=by
           refine re hk ?_
           show (T.fld q.1 == T.mn nm)=false
           exact beq_eq_false_iff_ne.mpr fun e=>kf.mnf nm q.1 e.symm
         refine re this ?_
         exact ih hr
     unfold getL
     refine re (this g3) (re (mG g3) ?_)
     rfl
   refine method_fn (kf.here R₁) (kY g1 g2) hp.1 hp.2 km (kf.fn f kfn).2 hsh ?_
   dsimp only
   have e2:methodCallPos true o X.env apos pos=pure pos:=by
     unfold methodCallPos
     refine re hl ?_
     rfl
   refine re e2 ?_
   refine aa (aj ?_)
   have L₁:=L.go R G₁
   refine dq (P:=fun h=>K.In h) (plain_any es) (fun h X=>keeps_K (kf.fn f kfn).1 h X) ?_
   refine ha R₁ L₁ (aF.bind p₁ fun zs σ₂ _ h₂ tk₂ S₂ ι₂ vs G₂ R₂ r₂ p₂=>?_)
   exact ⟨kf.here R₂,cH (c (as:=z :: zs) (vs:=.ref a :: vs) (by have:=xo.dp;exact szl this rfl) (by have:=xo.un;exact szl this rfl) xo.fr xo.gd xo.hd R₂ ⟨_,vs,rfl,G₂.rep R₁ r₁,r₂⟩ p₂)⟩
theorem Nt {n:Nat} (xo:X.Ok n) {o:Expr} {b:BM} {es:List Expr} {apos pos:Pos} {ro:Sig→R AV} {rs:Sig→R (List AV)} (hb:baseOk o=true) (hst:es.all notStar=true) (hn:es.length < 30) (hl:(apos.endLine == pos.line)=true)
   (ho:Sat T B prog w X sl ρ (eval o X.env) ro) (ha:f9 T B prog w X sl ρ (spliced (bw es X.env)) rs) :
   Sat T B prog w X sl ρ (eval (.Call (.Attribute o (bmN b) apos) es [] pos) X.env) (fun σ=>(ro σ).bind fun x σ=>if qR σ b x then (rs σ).bind fun vs σ=>dW σ b x vs else .stuck):=by
 intro S ι σ s Q E R L p
 refine re (arm_eval_Call ..) (re (lQ hb) (re (bT hst) ?_))
 refine aa (ho R L (aF.bind p fun z σ₁ _ h₁ tk₁ S₁ ι₁ v G₁ R₁ r₁ p₁=>?_))
 refine aa (aq ?_)
 split at p₁
 · rename_i hc
   unfold methodCall
   refine re (show methodCallForm (es.length + [].length) (bw es X.env) (backToKw pos (keywordEach [] X.env))=true from oJ hn) ?_
   refine aa (ao (D ?_))
   refine Dc R₁ r₁ hc ?_
   have e2:methodCallPos true o X.env apos pos=pure pos:=by
     unfold methodCallPos
     refine re hl ?_
     rfl
   refine re e2 ?_
   refine aa (aj ?_)
   have L₁:=L.go R G₁
   refine dq (P:=fun _=>True) (plain_any es) (fun h _=>lV h) ?_
   refine ha R₁ L₁ (aF.bind p₁ fun zs σ₂ _ h₂ tk₂ S₂ ι₂ vs G₂ R₂ r₂ p₂=>?_)
   exact ⟨trivial,P0 xo.gd R₂ (G₂.rep R₁ r₁) r₂ p₂⟩
 · exact p₁.elim
end
end
section
section
variable {P:Prog} {T:Tabs} {B:Heap} {K:Frag} {NN:Names} {prog:Program} {w:World} {X:Cx} {sl:List Str} {ρ:Env} {l:List PySem.Env} {S:List Addr} {ι:Cel} {σ:Sig} {h:Heap}
theorem rK (A:Around) (C:Addr) (rest:List Value):A.under (.builtin "type.__call__" ⟨.ref C :: rest,[]⟩)={ A with depth:=A.depth + 1,units:=A.units + 1 }:=by
 obtain ⟨hd,d,fr,gs,u⟩:=A
 have h1:(Code.builtin "type.__call__" ⟨.ref C :: rest,[]⟩).weight=1:=rfl
 have h2:(Code.builtin "type.__call__" ⟨.ref C :: rest,[]⟩).cUnits=1:=rfl
 have h3:(Code.builtin "type.__call__" ⟨.ref C :: rest,[]⟩).envs=[]:=rfl
 have h4:(Code.builtin "type.__call__" ⟨.ref C :: rest,[]⟩).guards=[]:=rfl
 simp only [Around.under,h1,h2,h3,h4,pushEnvs,pushGuards]
theorem Rel.make (R:Rel T B l S ι σ h) (C:Nat) :
   let h₁:=(h.push emptyDict).push (instObj (T.ca C) h.objs.size)
   let ι₁:=ι++[(h.objs.size + 1,h.objs.size)]
   Rel T B l (h.objs.size :: S) ι₁ (σ++[.inst C []]) h₁∧Go l [] S ι h (h.objs.size :: S) ι₁ h₁:=by
 intro h₁ ι₁
 have nn:h.get? h.objs.size=none:=Heap.get?_none_of_le (Nat.le_refl _)
 have fr:h.objs.size∉S:=fun q=>by refine o10 (R.live _ q) fun o e=>?_;rw [nn] at e;cases e
 have fr1:h.objs.size + 1∉S:=fun q=>by refine o10 (R.live _ q) fun o e=>?_;rw [Heap.get?_none_of_le (Nat.le_succ _)] at e;cases e
 have hd:h₁.get? h.objs.size=some emptyDict:=Heap.get?_push_of_some _ (Heap.get?_push_size _ rfl)
 have hx:h₁.get? (h.objs.size + 1)=some (instObj (T.ca C) h.objs.size):=by
   have:=Heap.get?_push_size (h.push emptyDict) (o:=instObj (T.ca C) h.objs.size) rfl
   rw [Heap.size_push] at this
   exact this
 have keep:dX h h₁:=fun a o e=>Heap.get?_push_of_some _ (Heap.get?_push_of_some _ e)
 have ki:∀ (i:Nat) p,ι[i]?=some p→ι₁[i]?=some p:=fun i p e=>by
   refine re (List.getElem?_append_left (List.getElem?_eq_some_iff.mp e).1) ?_;exact e
 have kp:∀ a o',off S h a=some o'→off (h.objs.size :: S) h₁ a=some o':=fun a o' e=>by
   refine o01 (aA.mp e) fun n e=>?_
   refine aA.mpr ⟨fun q=>?_,keep _ _ e⟩
   rcases List.mem_cons.mp q with rfl | q
   · rw [nn] at e;cases e
   · exact n q
 have cm:∀ a,a∈cells ι₁↔a∈cells ι∨a=h.objs.size:=fun a=>by simp [ι₁,cells,List.map_append]
 constructor
 · exact {
     base:=fun a o' e=>keep _ _ (R.base a o' e)
     bS:=fun a q=>by
       rcases List.mem_cons.mp q with rfl | q
       · exact none_of fun o e=>by have:=R.base _ _ e;rw [nn] at this;cases this
       · exact R.bS a q
     live:=fun a q=>by
       rcases List.mem_cons.mp q with rfl | q
       · exact ⟨_,hd⟩
       · refine o10 (R.live a q) fun o' e=>?_;exact ⟨o',keep _ _ e⟩
     sub:=fun a q=>by
       rcases (cm a).mp q with q | rfl
       · exact .tail _ (R.sub a q)
       · exact .head _
     nodup:=by
       show ((ι++[(h.objs.size + 1,h.objs.size)]).map (·.2)).Nodup
       refine re List.map_append ?_
       refine List.nodup_append.mpr ⟨R.nodup,by simp,fun a q b q' e=>?_⟩
       simp only [List.map_cons,List.map_nil,List.mem_singleton] at q'
       subst q' e
       exact fr (R.sub _ q)
     len:=by simp [ι₁,R.len]
     obj:=fun i p m' e1 e2=>by
       by_cases q:i < ι.length
       · rw [List.getElem?_append_left q] at e1
         rw [List.getElem?_append_left (by refine rf R.len ?_;exact q)] at e2
         exact (R.obj i p m' e1 e2).keep kp ki fun o' e=>keep _ _ e
       · have hi:i=ι.length:=by
           have:=(List.getElem?_eq_some_iff.mp e1).1
           simp [ι₁] at this;omega
         subst hi
         simp [ι₁] at e1
         rw [R.len] at e2
         simp at e2
         subst e1 e2
         refine ⟨aA.mpr ⟨fun q=>?_,hx⟩,[],0,hd,rfl⟩
         rcases List.mem_cons.mp q with q | q
         · exact absurd q (Nat.succ_ne_self _)
         · exact fr1 q
     stk:=fun env he=>by
       obtain ⟨h1,L,m,h2,h3,h4,h5⟩:=R.stk env he
       refine ⟨h1,L,m,h2,.tail _ h3,fun q=>?_,h5.keeps keep⟩
       rcases (cm L).mp q with q | rfl
       · exact h4 q
       · exact fr h3 }
 · exact {
     step:=fun a o' e _ _ _=>keep _ _ e
     frm:=fun a m e _ _=>e.keeps keep
     alive:=fun a o' e=>⟨o',keep _ _ e⟩
     pre:=ki
     sub:=fun a q=>.tail _ q
     new:=fun a q n=>by
       rcases List.mem_cons.mp q with rfl | q
       · exact nn
       · exact absurd q n
     cel:=fun a q n=>by
       rcases (cm a).mp q with q | rfl
       · exact absurd q n
       · exact nn }
noncomputable def Hq (cf:Calls) (fz:Bool) (C f:Nat) (vs:List AV) (σ:Sig):R AV :=
 if fz then (if bR vs then zN σ (cf f (.loc 0 :: vs) [.inst C []]) else .stuck)
 else (cf f (.loc σ.length :: vs) (σ++[.inst C []])).bind fun r σ'=>match r with
   | .none=>.ok (.loc σ.length) σ'
   | _=>.stuck
theorem KQ {K:R AV→Prop} {G:Prop} {σ:Sig} {r:R AV} (hK:K .stuck→G) (p:K (zN σ r)) (h:∀ C fs,r=.ok .none [.inst C fs]→jQ fs=true→K (.ok (.inst C fs) σ)→G):G:=by
 cases r with
 | ok v s =>
   cases v with
   | none =>
     rcases s with _ | ⟨o,t⟩
     · exact hK p
     · cases o with
       | inst C fs =>
         cases t with
         | nil =>
           replace p:K (if jQ fs=true then .ok (.inst C fs) σ else .stuck):=p
           by_cases q:jQ fs=true
           · rw [if_pos q] at p;exact h C fs rfl q p
           · rw [if_neg q] at p;exact hK p
         | cons=>exact hK p
       | _=>exact hK p
   | _=>exact hK p
 | _=>exact hK p
theorem Nu (kf:KnowF P T B K) {n:Nat} {cf:Calls} (c:aM T B prog w n cf) {A:Around} {s:Shared} {Q E:Value→Shared→Prop} {fz:Bool} {C f:Nat} {as:List AV} {vs:List Value}
   (h1:A.depth + 4 * n≤903) (h2:A.units + 32 * n≤9028) (h3:A.frames=some l) (h4:A.guards=some []) (h5:A.handled=none) (hi:P.init C=some f) (R:Rel T B l S ι σ s.heap) (ra:aH T (off S s.heap) ι as vs) (p:bF T B l [] S ι s Q E (Hq cf fz C f as σ)) :
   wpD (model prog w) A (call (.ref (T.ca C)) vs) Q E s:=by
 refine o03 (kf.cls C f hi) fun k1 k2 k3 k4=>?_
 refine cH ?_
 obtain ⟨hh,g,d,t,os⟩:=s
 refine PQ (makes_of (kf.here R) k2) (looks_findIn (kf.here R) k3) (fun self=>bind_fn (kf.here R) self (kf.fn f k4).2) (.inl rfl) ?_
 refine re (rK ..) ?_
 refine o01 (R.make C) fun R₁ G₁=>?_
 cases fz with
 | false =>
   refine fU (c (A:={ A with depth:=A.depth + 1,units:=A.units + 1 }) (s:=⟨(hh.push emptyDict).push (instObj (T.ca C) hh.objs.size),g,d,t,os⟩) (Q:=fun v s'=>v=.none∧Q (.ref (hh.objs.size + 1)) s') (E:=E)
     (as:=.loc σ.length :: as) (vs:=.ref (hh.objs.size + 1) :: vs) (by show A.depth + 1 + 4 * n≤904;exact rm0 h1 rfl) (by show A.units + 1 + 32 * n≤9032;exact rm0 h2 rfl) h3 h4 h5 R₁
     ⟨_,vs,rfl,⟨_,_,by refine rf R.len ?_;exact List.getElem?_concat_length ..,rfl⟩,G₁.repL R ra⟩ ?_) fun r s' z=>?_
   · refine aF.bind (aF.later (s:=⟨hh,g,d,t,os⟩) (tk:=t) G₁ p) fun z σ' e h' tk' S' ι' v G R' rv p'=>?_
     cases z with
     | none =>
       cases rv
       refine ⟨rfl,p' h' tk' S' ι' _ (Go.refl ..) R' ⟨_,_,G.pre _ _ (by refine rf R.len ?_;exact List.getElem?_concat_length ..),rfl⟩⟩
     | _=>exact p'.elim
   · rcases r with e | (v | _ | _ | _)<;>exact z
 | true =>
   replace p:bF T B l [] S ι ⟨hh,g,d,t,os⟩ Q E (if bR as=true then zN σ (cf f (.loc 0 :: as) [.inst C []]) else .stuck):=p
   by_cases hn:bR as=true
   · rw [if_pos hn] at p
     refine KQ (K:=fun r=>bF T B l [] S ι ⟨hh,g,d,t,os⟩ Q E r) (fun p=>p.elim) p fun C' fs e hnf p=>?_
     have R0:Rel T B l S [] [] hh:=R.open false
     refine o01 (R0.make C) fun R₁ G₁=>?_
     refine fU (c (A:={ A with depth:=A.depth + 1,units:=A.units + 1 }) (s:=⟨(hh.push emptyDict).push (instObj (T.ca C) hh.objs.size),g,d,t,os⟩) (Q:=fun v s'=>v=.none∧Q (.ref (hh.objs.size + 1)) s') (E:=E)
       (as:=.loc 0 :: as) (vs:=.ref (hh.objs.size + 1) :: vs) (by show A.depth + 1 + 4 * n≤904;exact rm0 h1 rfl) (by show A.units + 1 + 32 * n≤9032;exact rm0 h2 rfl) h3 h4 h5 R₁
       ⟨_,vs,rfl,⟨_,_,rfl,rfl⟩,G₁.repL R0 (gQ (fun _ _ e=>e) as hn ra)⟩ ?_) fun r s' z=>?_
     · refine re (show cf f (.loc 0 :: as) ([]++[.inst C []])=.ok .none [.inst C' fs] from e) ?_
       intro h' tk' S' ι' v G R' rv
       cases rv
       refine ⟨rfl,?_⟩
       have keep:∀ a o,hh.get? a=some o→a∉frs l→h'.get? a=some o:=fun a o e q =>
         G.step a o (Heap.get?_push_of_some _ (Heap.get?_push_of_some _ e)) (fun m=>by
           have m:a=hh.objs.size:=by simpa [cells] using m
           rw [m,Heap.get?_none_of_le (Nat.le_refl _)] at e;cases e) (by simp) q
       have bk:=R.back (h':=h') keep (fun a m q hn=>G.frm a m (G₁.frm a m hn q (by simp)) q (by simp)) [] (fun _ m=>nomatch m) fun _ m=>nomatch m
       rw [List.append_nil] at bk
       refine p h' tk' S ι _ bk.2 bk.1 ?_
       have hi0:=G.pre 0 _ (show ([]++[(hh.objs.size + 1,hh.objs.size)]:Cel)[0]?=some (hh.objs.size + 1,hh.objs.size) from rfl)
       obtain ⟨g1,es,m,g2,g3⟩:=R'.obj 0 _ _ hi0 rfl
       have sub:∀ a o,off S' h' a=some o→off S h' a=some o:=fun a o e=>by
         refine o01 (aA.mp e) fun q e=>?_
         exact aA.mpr ⟨fun z=>q (G.sub a (.tail _ z)),e⟩
       refine ⟨_,_,es,m,rfl,sub _ _ g1,aA.mpr ⟨fun q=>?_,g2⟩,mJ sub fs hnf g3⟩
       refine o10 (R.live _ q) fun o eo=>?_
       have:=Heap.lt_size eo
       exact Nat.lt_irrefl _ this
     · rcases r with e | (v | _ | _ | _)<;>exact z
   · rw [if_neg hn] at p;exact p.elim
theorem KR (kf:KnowF P T B K) {n:Nat} {cf:Calls} (c:aM T B prog w n cf) (xo:X.Ok n) {func:Expr} {fz:Bool} {C f:Nat} {es:List Expr} {pos:Pos} {rs:Sig→R (List AV)} (hna:∀ o n p,func≠.Attribute o n p) (hst:es.all notStar=true) (hi:P.init C=some f)
   (hf:jt T B prog w X sl ρ func (.ref (T.ca C))) (ha:f9 T B prog w X sl ρ (spliced (bw es X.env)) rs) :
   Sat T B prog w X sl ρ (eval (.Call func es [] pos) X.env) (fun σ=>(rs σ).bind fun vs σ=>Hq cf fz C f vs σ) :=
 jW (cf:=fun vs σ=>Hq cf fz C f vs σ) hna hst hf (fun R=>keeps_K (kf.cls C f hi).1 _ (kf.here R)) ha fun R ra p=>Nu kf c xo.dp xo.un xo.fr xo.gd xo.hd hi R ra p
end
end
section
section
variable {prog:Program} {w:World} {A:Around} {E:Value→Shared→Prop} {s:Shared} {b:Array UInt8} {t:Tok}
theorem pL {it:Addr} {i:Nat} {c:UInt8} {Q:Value→Shared→Prop} (hit:KBw.IsBytesIter s.heap it b t i) (hx:b[i]?=some c)
   (hQ:∀ h',KBw.IsBytesIter h' it b t (i + 1)→Heap.SameBut it s.heap h'→Q (.int (c.toNat:Int) s.toks) { s with heap:=h',toks:=s.toks + 1 }):wpAny (model prog w) A (Builtin.SmallTypes.nextOf (.ref it)) Q E s:=by
 refine o12 (id hit) fun o ho hc hd=>?_
 refine wpAny_bind (wpAny_callSpecial?_slot (name:=PySem.Str.ofString "__next__") (KBw.iter_typeIs hit) KBw.slot_next
   (wpAny_call_entry KBw.slot_next (KBw.iter_typeIs hit) KBw.entry_next ?_ (KBw.args_next _)))
 show wpAny _ _ (field (.ref it) 0 >>= _) _ _ s
 refine wpAny_bind (wpAny_field ho hd (x:=.bytes b t) rfl ?_)
 refine re (if_neg (show ¬ ((Value.bytes b t == Value.none)=true) from Bool.false_ne_true)) ?_
 show wpAny _ _ (field (.ref it) 1 >>= _) _ _ s
 refine wpAny_bind (wpAny_field ho hd (x:=.int i 0) rfl ?_)
 refine wpAny_bind (wpAny_of_eq (a:=b) rfl ?_)
 simp only [Int.toNat_natCast,hx]
 refine wpAny_bind (wpAny_setField ho hd (by simp) (wpAny_bind (wpAny_mkInt (wpAny_pure ⟨_,rfl,wpAny_pure (hQ _ ?_ (Heap.SameBut.update ..))⟩))))
 exact ⟨_,Heap.get?_update_self _ ho (Obj.isFreed_of_fields (Obj.data_mapFields hd _)),(Obj.cls_mapFields ..).trans hc,by
   rw [Obj.data_mapFields hd];simp [rawInt]⟩
theorem qp {it:Addr} {i:Nat} {Q:Value→Shared→Prop} (hh:A.handled=none) (hit:KBw.IsBytesIter s.heap it b t i) (hx:b[i]?=none)
   (hE:∀ h' e,Heap.ExtBut it s.heap h'→(∃ o,h'.get? e=some o∧o.cls=.type "StopIteration")→E (.ref e) { s with heap:=h' }) :
   wpAny (model prog w) A (Builtin.SmallTypes.nextOf (.ref it)) Q E s:=by
 refine o12 (id hit) fun o ho hc hd=>?_
 refine wpAny_bind (wpAny_callSpecial?_slot (name:=PySem.Str.ofString "__next__") (KBw.iter_typeIs hit) KBw.slot_next
   (wpAny_call_entry KBw.slot_next (KBw.iter_typeIs hit) KBw.entry_next ?_ (KBw.args_next _)))
 show wpAny _ _ (field (.ref it) 0 >>= _) _ _ s
 refine wpAny_bind (wpAny_field ho hd (x:=.bytes b t) rfl ?_)
 refine re (if_neg (show ¬ ((Value.bytes b t == Value.none)=true) from Bool.false_ne_true)) ?_
 show wpAny _ _ (field (.ref it) 1 >>= _) _ _ s
 refine wpAny_bind (wpAny_field ho hd (x:=.int i 0) rfl ?_)
 refine wpAny_bind (wpAny_of_eq (a:=b) rfl ?_)
 simp only [Int.toNat_natCast,hx]
 refine wpAny_bind (wpAny_rule (wpAny_bind (wpAny_setField ho hd (by simp) ?_)))
 refine wpAny_bind ?_
 refine wpAny_bind (wpAny_newObj_type ?_ (by size_fits))
 refine wpAny_bind (m:=firstArgMember _ _) (wpAny_of_eq (a:=Value.none) (by first | rfl | (simp only [firstArgMember];rfl)) ?_)
 refine wpAny_newObj_type ?_ (by size_fits)
 refine wpAny_bind (wpAny_handled ?_)
 first | refine re (show A.in1.handled=none from hh) ?_ | rw [hh]
 refine wpAny_bind (wpAny_pure (wpAny_throw ?_))
 exact hE _ _ (((Heap.SameBut.update ..).extBut.push _).push _) ⟨_,Heap.get?_push_size _ rfl,rfl⟩
end
theorem rM {prog:Program} {w:World} {A:Around} (hh:A.handled=none) (it:Addr) (b:Array UInt8) (t:Tok) :
   Draws prog w A it [it] b.size (fun i v=>∃ c u,b[i]?=some c∧v=.int (c.toNat:Int) u) (fun i h=>KBw.IsBytesIter h it b t i) where
 live:=fun _ _ st=>let ⟨o,ho,_⟩:=st;⟨o,ho⟩
 frame:=fun _ _ _ st hk=>let ⟨o,ho,r⟩:=st;⟨o,hk it (by simp) o ho,r⟩
 item:=fun i s Q E hi st hQ=>by
   refine pL st (c:=b[i]) (by simp [hi]) fun h' hit' hs'=>?_
   exact hQ _ h' (s.toks + 1) ⟨_,_,by simp [hi],rfl⟩ hit' hs'
 done:=fun s Q E st hE=>qp hh st (by simp) hE
theorem Hr {M:Model} {A:Around} {E:Value→Shared→Prop} {s:Shared} {Q:Bool→Shared→Prop} {c:Bool} (h:∀ b,Q b s):wpAny M A (pure c) Q E s:=wpAny_pure (h c)
set_option tactic.hygienic true in
set_option maxHeartbeats 4000000 in
theorem mO (b:Array UInt8) (t:Tok) :
   Meets (Builtin.«enumerate.__new__» ⟨[.type "enumerate",.bytes b t],[]⟩) (fun _ R s =>
     R (.ok (.ret (.ref (s.heap.push { cls:=.type "bytes_iterator",data:=.fields #[.bytes b t,.int 0 0] }).objs.size)))
       { s with heap:=(s.heap.push { cls:=.type "bytes_iterator",data:=.fields #[.bytes b t,.int 0 0] }).push { cls:=.type "enumerate",data:=.fields #[.none,.bool false,.ref s.heap.objs.size,rawInt 0,.none,.none] } }) :=
 .of_wp fun prog w A R s h=>by
   obtain ⟨hp,g,d,tk,os⟩:=s
   have hsub:=sub_enumerate
   wp_walk
   refine wpAny_stack_any fun st=>Hr fun c=>?_
   cases c
   · wp_walk using KBw.pyIter_bytes
     exact ⟨_,rfl,h⟩
   · wp_walk using KBw.pyIter_bytes
     exact ⟨_,rfl,h⟩
theorem mQ {prog:Program} {w:World} {A:Around} {E:Value→Shared→Prop} {s:Shared} {x:Array UInt8} {t:Tok} {Q:Value→Shared→Prop}
   (h:∀ h',IsEnum h' (s.heap.objs.size + 1) s.heap.objs.size 0 .none→KBw.IsBytesIter h' s.heap.objs.size x t 0→h'.objs.size=s.heap.objs.size + 2 →
     (∀ b o,s.heap.get? b=some o→h'.get? b=some o)→Q (.ref (s.heap.objs.size + 1)) { s with heap:=h' }) :
   wpAny (model prog w) A (call (.type "enumerate") [.bytes x t]) Q E s:=by
 refine callType_new F.called_enumerate (rfl) (F.typeCall_enumerate_1 _) (F.newCall_enumerate_1 _) (fun obj=>F.args_object_init_2 obj _) F.entry_enumerate_new
   (mO x t) ?_
 have hz:(s.heap.push { cls:=.type "bytes_iterator",data:=.fields #[.bytes x t,.int 0 0] }).objs.size=s.heap.objs.size + 1:=Heap.size_push ..
 refine re hz ?_
 have he:IsEnum ((s.heap.push { cls:=.type "bytes_iterator",data:=.fields #[.bytes x t,.int 0 0] }).push
     { cls:=.type "enumerate",data:=.fields #[.none,.bool false,.ref s.heap.objs.size,rawInt 0,.none,.none] }) (s.heap.objs.size + 1) s.heap.objs.size 0 .none:=by
   have:=Heap.get?_push_size (s.heap.push { cls:=.type "bytes_iterator",data:=.fields #[.bytes x t,.int 0 0] })
     (o:={ cls:=.type "enumerate",data:=.fields #[.none,.bool false,.ref s.heap.objs.size,rawInt 0,.none,.none] }) rfl
   rw [hz] at this;exact this
 refine ⟨⟨_,he,rfl⟩,h _ he ⟨_,Heap.get?_push_of_some _ (Heap.get?_push_size _ rfl),rfl,rfl⟩ (by exact re (Heap.size_push ..) (re hz rfl)) fun b o y=>Heap.get?_push_of_some _ (Heap.get?_push_of_some _ y)⟩
structure Turns (prog:Program) (w:World) (T:Tabs) (tg:Expr) (k:IK) (src:AV) (val:Value) (I:Addr) (own:List Addr) (Cur:Nat→Heap→Prop):Prop where
 frame:∀ j h h',Cur j h→(∀ b∈own,∀ o,h.get? b=some o→h'.get? b=some o)→Cur j h'
 live:∀ j h,Cur j h→∀ b∈own,∃ o,h.get? b=some o
 self:∀ {A:Around} {j:Nat} {s:Shared} {Q E:Value→Shared→Prop},A.handled=none→Cur j s.heap→Q (.ref I) s→wpAny (model prog w) A (pyIter (.ref I)) Q E s
 item:∀ {A:Around} {B:Heap} {l:List PySem.Env} {S:List Addr} {ι:Cel} {σ:Sig} {s:Shared} {Q:Option Value→Shared→Prop} {E:Value→Shared→Prop} {j:Nat} {x:AV},A.handled=none→Rel T B l S ι σ s.heap→(∀ b∈own,b∈S) →
   au T (off S s.heap) ι src val→Cur j s.heap→aU σ k src j=some (some x) →
   (∀ u h₁ tk₁,(∀ (Q':Unit→Shared→Prop) (E':Value→Shared→Prop),(∀ h₂ tk₂,(∀ b o,b∉own→s.heap.get? b=some o→h₂.get? b=some o)→au T (off S h₂) ι x u→Cur (j + 1) h₂→Q' () { s with heap:=h₂,toks:=tk₂ }) →
     wpAny (model prog w) A (letOwnedTupleGo tg (.ref I) u) Q' E' { s with heap:=h₁,toks:=tk₁ })→Q (some u) { s with heap:=h₁,toks:=tk₁ }) →
   wpAny (model prog w) A (pyNext (.ref I)) Q E s
 done:∀ {A:Around} {B:Heap} {l:List PySem.Env} {S:List Addr} {ι:Cel} {σ:Sig} {s:Shared} {Q:Option Value→Shared→Prop} {E:Value→Shared→Prop} {j:Nat},A.handled=none→Rel T B l S ι σ s.heap →
   au T (off S s.heap) ι src val→Cur j s.heap→aU σ k src j=some none →
   (∀ h₁ tk₁,(∀ b o,b∉own→s.heap.get? b=some o→h₁.get? b=some o)→Q none { s with heap:=h₁,toks:=tk₁ })→wpAny (model prog w) A (pyNext (.ref I)) Q E s
theorem wD {C:Sem Unit→Prop} {tg:Expr} {i u:Value} (h:C (pure ())) (h2:∀ a b c,C (letOwnedTupleGo (.Tuple a b c) i u)):C (letOwnedTupleGo tg i u):=by
 cases tg with
 | Tuple=>exact h2 _ _ _
 | List a b=>exact h2 a 0 b
 | _=>exact h
set_option tactic.hygienic true in
theorem Dr {M:Model} {A:Around} {E:Value→Shared→Prop} {s:Shared} {Q:Unit→Shared→Prop} {tg:Expr} {I:Addr} {u:Value} (hu:∀ a,u≠.ref a) (h:Q () s):wpAny M A (letOwnedTupleGo tg (.ref I) u) Q E s:=by
 refine wD (C:=fun m=>wpAny M A m Q E s) (wpAny_pure h) fun a b c=>?_
 cases u with
 | ref a=>exact absurd rfl (hu a)
 | _=>exact wpAny_pure h
set_option tactic.hygienic true in
theorem pX {M:Model} {A:Around} {E:Value→Shared→Prop} {s:Shared} {Q:Unit→Shared→Prop} {tg:Expr} {I:Addr} {o:Obj} {n:String} {u:Value} (ho:s.heap.get? I=some o) (hc:o.cls=.type n)
   (hn:["enumerate", "zip", "dict_itemiterator", "dict_reverseitemiterator", "odict_iterator", "itertools.zip_longest", "itertools.pairwise"].contains n=false) (h:Q () s):wpAny M A (letOwnedTupleGo tg (.ref I) u) Q E s:=by
 refine wD (C:=fun m=>wpAny M A m Q E s) (wpAny_pure h) fun a b c=>?_
 cases u with
 | ref a =>
   refine wpAny_bind (wpAny_load ho ?_)
   obtain ⟨c,x,d,y⟩:=o
   cases hc
   cases d with
   | fields vs =>
     show wpAny M A (if (List.contains _ n && _)=true then _ else _) Q E s
     refine re hn ?_
     exact wpAny_pure h
   | _=>exact wpAny_pure h
 | _=>exact wpAny_pure h
section
variable {prog:Program} {w:World} {T:Tabs} {tg:Expr}
theorem lW {S own:List Addr} {h h':Heap} (hS:∀ b∈own,b∈S) (hk:∀ b o,b∉own→h.get? b=some o→h'.get? b=some o):∀ a o,off S h a=some o→off S h' a=some o:=fun a o e=>by
 refine o01 (aA.mp e) fun n e=>?_
 exact aA.mpr ⟨n,hk a o (fun m=>n (hS a m)) e⟩
theorem fX {σ:Sig} {src:AV} {j:Nat} {o:Option AV} (e:aU σ .of src j=some o):∃ xs,items σ src=some xs∧xs.length≤2 ^ 20∧xs[j]?=o:=by
 refine o11 (Option.bind_eq_some_iff.mp e) fun xs h1 h2=>?_
 split at h2
 · rename_i hz;cases h2;exact ⟨xs,h1,szb hz,rfl⟩
 · cases h2
theorem eV {φ:Phi} {ι:Cel} {σ:Sig} {src:AV} {xs:List AV} (hl:(∃ ys,src=.list ys)∨∃ i,src=.loc i) (e:items σ src=some xs):listItems σ src=some xs:=by
 rcases hl with ⟨ys,rfl⟩ | ⟨i,rfl⟩
 · exact e
 · exact e
theorem An {src:AV} {I ax:Addr} (hne:ax≠I) (hl:(∃ ys,src=.list ys)∨∃ i,src=.loc i):Turns prog w T tg .of src (.ref ax) I [I] (fun j h=>h.IsListIter I ax j) where
 frame:=fun j h h' st hk=>st.at fun o e=>hk I (by simp) o e
 live:=fun j h st b hb=>by refine re (List.mem_singleton.mp hb) ?_;refine o11 st fun o e _=>?_;exact ⟨o,e⟩
 self:=fun _ st q=>wpAny_pyIter_listiter st q
 item:=fun {A B l S ι σ s Q E j x} hh R hS rs st e hQ=>by
   refine o12 (fX e) fun xs e1 hz e2=>?_
   refine o22 (R.listAt rs (eV (φ:=off S s.heap) (ι:=ι) hl e1)) fun a vs ea hL rl=>?_
   cases ea
   refine o11 (rl.get e2) fun u hu ru=>?_
   refine wpAny_pyNext_list_item st hL (x:=u) (by simpa using hu) fun h' hit' hs'=>?_
   refine hQ u h' s.toks fun Q' E' q=>?_
   refine o12 (id hit') fun o ho hc _=>?_
   refine pX ho hc (rfl) (q h' s.toks (fun b o hb e=>(hs'.2 b fun z=>hb (by simp [z])).trans e) (ru.mono (lW hS fun b o hb e=>(hs'.2 b fun z=>hb (by simp [z])).trans e) fun _ _ e=>e) hit')
 done:=fun {A B l S ι σ s Q E j} hh R rs st e hQ=>by
   refine o12 (fX e) fun xs e1 hz e2=>?_
   refine o22 (R.listAt rs (eV (φ:=off S s.heap) (ι:=ι) hl e1)) fun a vs ea hL rl=>?_
   cases ea
   refine wpAny_pyNext_list_end hh st hL ?_ fun h' he'=>hQ h' s.toks fun b o hb e=>he' b o (fun z=>hb (z▸.head _)) e
   have:=aH.length rl
   have e2:xs.length≤j:=by simpa using e2
   simp only [List.getElem?_toArray,List.getElem?_eq_none_iff]
   exact eql this e2
theorem yD {xs:List AV} {I ax:Addr} (hne:ax≠I):Turns prog w T tg .of (.tuple xs) (.ref ax) I [I] (fun j h=>h.IsTupleIter I ax j) where
 frame:=fun j h h' st hk=>st.at fun o e=>hk I (by simp) o e
 live:=fun j h st b hb=>by refine re (List.mem_singleton.mp hb) ?_;refine o11 st fun o e _=>?_;exact ⟨o,e⟩
 self:=fun _ st q=>wpAny_pyIter_tupleiter st q
 item:=fun {A B l S ι σ s Q E j x} hh R hS rs st e hQ=>by
   refine o12 (fX e) fun ys e1 hz e2=>?_
   cases e1
   refine o22 rs fun a vs ea hL rl=>?_
   cases ea
   refine o11 (rl.get e2) fun u hu ru=>?_
   refine wpAny_pyNext_tuple_item st hL.isTup (x:=u) (by simpa using hu) fun h' hit' hs'=>?_
   refine hQ u h' s.toks fun Q' E' q=>?_
   refine o12 (id hit') fun o ho hc _=>?_
   refine pX ho hc (rfl) (q h' s.toks (fun b o hb e=>(hs'.2 b fun z=>hb (by simp [z])).trans e) (ru.mono (lW hS fun b o hb e=>(hs'.2 b fun z=>hb (by simp [z])).trans e) fun _ _ e=>e) hit')
 done:=fun {A B l S ι σ s Q E j} hh R rs st e hQ=>by
   refine o12 (fX e) fun ys e1 hz e2=>?_
   cases e1
   refine o22 rs fun a vs ea hL rl=>?_
   cases ea
   refine wpAny_pyNext_tuple_end hh st hL.isTup ?_ fun h' he'=>hQ h' s.toks fun b o hb e=>he' b o (fun z=>hb (z▸.head _)) e
   have:=aH.length rl
   have e2:xs.length≤j:=by simpa using e2
   simp only [List.getElem?_toArray,List.getElem?_eq_none_iff]
   exact eql this e2
theorem lH {k:IK} {src:AV} {val:Value} {I:Addr} {n:Nat} {P:Nat→Value→Prop} {St:Nat→Heap→Prop} (lv:∀ j h,St j h→∃ o,h.get? I=some o) (W:∀ A':Around,A'.handled=none→Walks prog w A' I [I] [I] n P St)
   (h1:∀ σ j x,aU σ k src j=some (some x)→j < n∧∀ v,P j v→(∀ a,v≠.ref a)∧∀ φ ι,au T φ ι x v) (h2:∀ σ j,aU σ k src j=some none→n≤j) :
   Turns prog w T tg k src val I [I] (fun j h=>j≤n∧St j h) where
 frame:=fun j h h' st hk=>⟨st.1,(W {} rfl).frame j h h' st.2 hk⟩
 live:=fun j h st b hb=>by refine re (List.mem_singleton.mp hb) ?_;exact lv j h st.2
 self:=fun hh st q=>(W _ hh).self _ _ _ _ st.2 q
 item:=fun {A B l S ι σ s Q E j x} hh R hS rs st e hQ=>by
   refine o01 (h1 σ j x e) fun hj hp=>?_
   refine (W A hh).item j s _ _ hj st.2 fun v h' tk hv st' hk=>?_
   refine o01 (hp v hv) fun hr hx=>?_
   exact hQ v h' tk fun Q' E' q=>Dr hr (q h' tk hk (hx _ _) ⟨hj,st'⟩)
 done:=fun {A B l S ι σ s Q E j} hh R rs st e hQ=>by
   have:j=n:=Nat.le_antisymm st.1 (h2 σ j e)
   subst this
   exact (W A hh).done s _ _ st.2 fun h' tk hk=>hQ h' tk hk
theorem uK {x:List Nat} {t:Tok} {I:Addr} (hx:∀ c∈x,c < 1114112) {St:Nat→Heap→Prop} (lv:∀ j h,St j h→∃ o,h.get? I=some o) (W:∀ A':Around,A'.handled=none→Walks prog w A' I [I] [I] (⟨x.toArray⟩:Str).cps.size (SignAt ⟨x.toArray⟩) St) :
   Turns prog w T tg .of (.str x) (.str ⟨x.toArray⟩ t) I [I] (fun j h=>j≤(⟨x.toArray⟩:Str).cps.size∧St j h):=by
 refine lH lv W (fun σ j y e=>?_) fun σ j e=>?_
 · refine o12 (fX e) fun xs e1 hz e2=>?_
   cases e1
   rw [List.getElem?_map] at e2
   obtain ⟨c,e3,rfl⟩:=Option.map_eq_some_iff.mp e2
   have hj:=(List.getElem?_eq_some_iff.mp e3).1
   refine ⟨by simpa using hj,fun v ⟨c',u,e4,ev⟩=>⟨fun a q=>(by rw [ev] at q;cases q),fun φ ι=>?_⟩⟩
   subst ev
   have:c'=c:=by
     have:x[j]?=some c':=by simpa using e4
     rw [e3] at this
     exact (Option.some.inj this).symm
   subst this
   exact ⟨u,rfl,fun d hd=>by refine re (List.mem_singleton.mp hd) ?_;exact hx _ (List.mem_of_getElem? e3)⟩
 · refine o12 (fX e) fun xs e1 hz e2=>?_
   cases e1
   simpa using e2
theorem yE {x:List Nat} {t:Tok} {I:Addr} (hx:∀ c∈x,c < 256) :
   Turns prog w T tg .of (.bytes x) (.bytes (x.map fun n=>UInt8.ofNat n).toArray t) I [I] (fun j h=>j≤(x.map fun n=>UInt8.ofNat n).toArray.size∧KBw.IsBytesIter h I (x.map fun n=>UInt8.ofNat n).toArray t j):=by
 refine lH (fun j h st=>let ⟨o,e,_⟩:=st;⟨o,e⟩) (fun A' hh=>KBw.walks hh I _ t) (fun σ j y e=>?_) fun σ j e=>?_
 · refine o12 (fX e) fun xs e1 hz e2=>?_
   cases e1
   rw [List.getElem?_map] at e2
   obtain ⟨c,e3,rfl⟩:=Option.map_eq_some_iff.mp e2
   have hj:=(List.getElem?_eq_some_iff.mp e3).1
   refine ⟨by simpa using hj,fun v ⟨c',u,e4,ev⟩=>⟨fun a q=>(by rw [ev] at q;cases q),fun φ ι=>?_⟩⟩
   subst ev
   have:c'=UInt8.ofNat c:=by
     rw [List.getElem?_toArray,List.getElem?_map,e3] at e4
     exact (Option.some.inj e4).symm
   subst this
   have hc:=hx c (List.mem_of_getElem? e3)
   exact ⟨u,by simp [UInt8.toNat_ofNat',Nat.mod_eq_of_lt hc]⟩
 · refine o12 (fX e) fun xs e1 hz e2=>?_
   cases e1
   simpa using e2
theorem yF {n:Int} {val:Value} {I:Addr}:Turns prog w T tg .rng (.int n) val I [I] (fun j h=>j≤n.toNat∧IsRangeIter h I (0 + (j:Nat) * 1) ((n.toNat:Int) - (j:Nat)) 1):=by
 refine lH (fun j h st=>⟨_,st⟩) (fun A' hh=>Walks.range hh I 0 1 n.toNat) (fun σ j y e=>?_) fun σ j e=>?_
 · simp only [aU] at e
   split at e
   · split at e
     · rename_i h1 h2
       cases e
       simp only [Bool.and_eq_true,decide_eq_true_eq] at h1
       refine ⟨by exact Px h2,fun v ⟨t,ev⟩=>⟨fun a q=>(by rw [ev] at q;cases q),fun φ ι=>⟨t,by refine re ev ?_;congr 1;exact re (Int.mul_one ..) (re (Int.zero_add ..) rfl)⟩⟩⟩
     · cases e
   · cases e
 · simp only [aU] at e
   split at e
   · split at e
     · cases e
     · exact Py ‹_›
   · cases e
theorem tM {σ:Sig} {src:AV} {j:Nat} {o:Option AV} (e:aU σ .enum src j=some o):∃ xs,items σ src=some xs∧xs.length≤2 ^ 20∧(xs[j]?).map (fun x=>.tuple [.int j,x])=o:=by
 simp only [aU] at e
 split at e
 · cases e
 · cases e
 · refine o11 (Option.bind_eq_some_iff.mp e) fun xs h1 h2=>?_
   split at h2
   · rename_i hz;cases h2;exact ⟨xs,h1,szb hz,rfl⟩
   · cases h2
theorem rN {src:AV} {val:Value} {elts:List Expr} {x1:Nat} {pos:Pos} {e it:Addr} (hei:e≠it) {Cur0:Nat→Heap→Prop} (lv:∀ j h,Cur0 j h→∃ o,h.get? it=some o)
   (fr:∀ j h h',Cur0 j h→(∀ o,h.get? it=some o→h'.get? it=some o)→Cur0 j h')
   (dr:∀ {A:Around} {B:Heap} {l:List PySem.Env} {S:List Addr} {ι:Cel} {σ:Sig} {s:Shared} {xs:List AV},A.handled=none→Rel T B l S ι σ s.heap→au T (off S s.heap) ι src val→items σ src=some xs→∃ fp St P,Draws prog w A it fp xs.length P St∧e∉fp ∧
     (∀ j h,(∀ b∈fp,b≠it→∀ o,s.heap.get? b=some o→h.get? b=some o)→j≤xs.length→Cur0 j h→St j h)∧(∀ j h,j≤xs.length→St j h→Cur0 j h)∧∀ j v x,P j v→xs[j]?=some x→au T (off S s.heap) ι x v)
   (dn:∀ {A:Around} {B:Heap} {l:List PySem.Env} {S:List Addr} {ι:Cel} {σ:Sig} {s:Shared} {Q:Option Value→Shared→Prop} {E:Value→Shared→Prop} {j:Nat} {old:Value} {xs:List AV},A.handled=none→Rel T B l S ι σ s.heap→au T (off S s.heap) ι src val→items σ src=some xs→xs[j]?=none →
     IsEnum s.heap e it j old→Cur0 j s.heap→(∀ h₁,Heap.ExtBut it s.heap h₁→Q none { s with heap:=h₁ })→wpAny (model prog w) A (pyNext (.ref e)) Q E s) :
   Turns prog w T (.Tuple elts x1 pos) .enum src val e [e,it] (fun j h=>(∃ old,IsEnum h e it j old)∧Cur0 j h) where
 frame:=fun j h h' st hk=>by
   obtain ⟨⟨old,he⟩,hc⟩:=st
   exact ⟨⟨old,hk e (by simp) _ he⟩,fr j h h' hc fun o x=>hk it (by simp) o x⟩
 live:=fun j h st b hb=>by
   obtain ⟨⟨old,he⟩,hc⟩:=st
   rcases List.mem_cons.mp hb with rfl | hb
   · exact ⟨_,he⟩
   · refine re (List.mem_singleton.mp hb) ?_;exact lv j h hc
 self:=fun _ st q=>by
   obtain ⟨⟨old,he⟩,_⟩:=st
   exact wpAny_pyIter_enum he q
 item:=fun {A B l S ι σ s Q E j x} hh R hS rs st ee hQ=>by
   refine o12 (tM ee) fun xs e1 hz e2=>?_
   obtain ⟨y,e3,rfl⟩:=Option.map_eq_some_iff.mp e2
   have hj:=(List.getElem?_eq_some_iff.mp e3).1
   obtain ⟨⟨old,he⟩,hc⟩:=st
   refine o34 (dr (A:=A.in1) hh R rs e1) fun fp St P D hef hst hst' hP=>?_
   refine wpAny_pyNext_enum_itemD D he (hst j s.heap (fun b _ _ o z=>z) (Nat.le_of_lt hj) hc) hj hei hef fun v h' tk hv ho hs' hT hsz hk=>?_
   refine hQ _ h' (tk + 1) fun Q' E' q=>wpAny_letOwnedTupleGo_enum ho fun h₂ he₂ hs₂=>?_
   have hTe:s.heap.objs.size≠e:=Nat.ne_of_gt (Heap.lt_size he)
   have hTS:s.heap.objs.size∉S:=R.fresh
   have kept:∀ b o,b∉[e,it]→s.heap.get? b=some o→h₂.get? b=some o:=fun b o hb z=>(hs₂.2 b fun q=>hb (by simp [q])).trans (hk b o (fun q=>hb (by simp [q])) (fun q=>hb (by simp [q])) z)
   refine q h₂ (tk + 1) kept ⟨_,[.int j tk,v],rfl,⟨_,aA.mpr ⟨hTS,(hs₂.2 _ hTe).trans hT⟩,rfl,_,rfl⟩,_,_,rfl,⟨tk,rfl⟩,v,[],rfl,(hP j v y hv e3).mono (lW hS kept) (fun _ _ e=>e),rfl⟩
     ⟨⟨v,by simpa using he₂⟩,fr _ h' _ (hst' _ _ hj hs') fun o z=>(hs₂.2 it hei.symm).trans z⟩
 done:=fun {A B l S ι σ s Q E j} hh R rs st ee hQ=>by
   refine o12 (tM ee) fun xs e1 hz e2=>?_
   obtain ⟨⟨old,he⟩,hc⟩:=st
   have e3:xs[j]?=none:=by
     cases q:xs[j]? with
     | none=>rfl
     | some y=>rw [q] at e2;cases e2
   exact dn hh R rs e1 e3 he hc fun h₁ hk=>hQ h₁ s.toks fun b o hb z=>hk b o (fun q=>hb (by simp [q])) z
theorem rO {src:AV} {elts:List Expr} {x1:Nat} {pos:Pos} {e it ax:Addr} (hei:e≠it) (hax:ax≠it) (hae:ax≠e) (hl:(∃ ys,src=.list ys)∨∃ i,src=.loc i) :
   Turns prog w T (.Tuple elts x1 pos) .enum src (.ref ax) e [e,it] (fun j h=>(∃ old,IsEnum h e it j old)∧h.IsListIter it ax j):=by
 refine rN hei (fun j h st=>let ⟨o,e,_⟩:=st;⟨o,e⟩) (fun j h h' st hk=>st.at hk) ?_ ?_
 · intro A B l S ι σ s xs hh R rs e1
   refine o22 (R.listAt rs (eV (φ:=off S s.heap) (ι:=ι) hl e1)) fun a vs ea hL rl=>?_
   cases ea
   have hn:vs.toArray.size=xs.length:=by exact re List.size_toArray (re (aH.length rl) rfl)
   refine ⟨[it,ax],_,_,hn▸Draws.list hh it ax hax vs.toArray,by simp [hei,hae.symm],fun j h hk _ st=>⟨st,hL.at fun o z=>hk ax (by simp) hax o z⟩,fun j h _ st=>st.1,fun j v x hv hx=>?_⟩
   refine o11 (rl.get hx) fun u hu ru=>?_
   have hv:vs.toArray[j]?=some v:=hv
   rw [List.getElem?_toArray,hu] at hv
   cases hv
   exact ru
 · intro A B l S ι σ s Q E j old xs hh R rs e1 e3 he hc hQ
   refine o22 (R.listAt rs (eV (φ:=off S s.heap) (ι:=ι) hl e1)) fun a vs ea hL rl=>?_
   cases ea
   refine wpAny_pyNext_enum_end hh he hc hL ?_ hQ
   have:=aH.length rl
   have e3:xs.length≤j:=by simpa using e3
   simp only [List.getElem?_toArray,List.getElem?_eq_none_iff]
   exact eql this e3
theorem qt {x:List Nat} {t:Tok} {elts:List Expr} {x1:Nat} {pos:Pos} {e it:Addr} (hei:e≠it) (hx:∀ c∈x,c < 256) :
   Turns prog w T (.Tuple elts x1 pos) .enum (.bytes x) (.bytes (x.map fun n=>UInt8.ofNat n).toArray t) e [e,it] (fun j h=>(∃ old,IsEnum h e it j old)∧j≤x.length∧KBw.IsBytesIter h it (x.map fun n=>UInt8.ofNat n).toArray t j):=by
 have frb:∀ {j h h'},KBw.IsBytesIter h it (x.map fun n=>UInt8.ofNat n).toArray t j→(∀ o,h.get? it=some o→h'.get? it=some o)→KBw.IsBytesIter h' it (x.map fun n=>UInt8.ofNat n).toArray t j :=
   fun st hk=>let ⟨o,ho,r⟩:=st;⟨o,hk o ho,r⟩
 have hn:(x.map fun n=>UInt8.ofNat n).toArray.size=x.length:=by simp
 refine rN hei (fun j h st=>let ⟨o,e,_⟩:=st.2;⟨o,e⟩) (fun j h h' st hk=>⟨st.1,frb st.2 hk⟩) ?_ ?_
 · intro A B l S ι σ s xs hh R rs e1
   cases e1
   have D:=rM (prog:=prog) (w:=w) (A:=A) hh it (x.map fun n=>UInt8.ofNat n).toArray t
   have hl:(x.map fun (n:Nat)=>AV.int (n:Int)).length=(x.map fun n=>UInt8.ofNat n).toArray.size:=by simp
   refine re hl ?_
   refine ⟨[it],_,_,D,by simpa using hei,fun j h hk _ st=>st.2,fun j h hj st=>⟨by refine rf hn ?_;exact hj,st⟩,fun j v y hv hy=>?_⟩
   obtain ⟨c,u,e4,rfl⟩:=hv
   rw [List.getElem?_map] at hy
   obtain ⟨d,e5,rfl⟩:=Option.map_eq_some_iff.mp hy
   rw [List.getElem?_toArray,List.getElem?_map,e5] at e4
   cases e4
   have hc:=hx d (List.mem_of_getElem? e5)
   exact ⟨u,by simp [UInt8.toNat_ofNat',Nat.mod_eq_of_lt hc]⟩
 · intro A B l S ι σ s Q E j old xs hh R rs e1 e3 he hc hQ
   cases e1
   have hj:j=x.length:=Nat.le_antisymm hc.1 (by simpa using e3)
   subst hj
   refine wpAny_pyNext_enum_endD (rM (A:=A.in1) hh it (x.map fun n=>UInt8.ofNat n).toArray t) he ?_ hQ
   refine re hn ?_
   exact hc.2
end
end
section
noncomputable def lX (prog:Program) (w:World) (T:Tabs) (S:List Addr) (ι:Cel) (tg:Expr) (k:IK) (src:AV) (s:Shared) (Q:Value→Shared→Prop):Prop :=
 ∀ h' tk' I own Cur val,dX s.heap h'→(∀ b∈own,s.heap.get? b=none∧∃ o,h'.get? b=some o)→Turns prog w T tg k src val I own Cur→au T (off S s.heap) ι src val→Cur 0 h'→Q (.ref I) { s with heap:=h',toks:=tk' }
section
variable {prog:Program} {w:World} {T:Tabs} {tg:Expr} {B:Heap} {l:List PySem.Env} {S:List Addr} {ι:Cel} {σ:Sig} {s:Shared} {A:Around} {Q E:Value→Shared→Prop}
theorem dN (h:Heap):h.get? h.objs.size=none:=Heap.get?_none_of_le (Nat.le_refl _)
theorem qu (hh:A.handled=none) (R:Rel T B l S ι σ s.heap) {src:AV} {v:Value} {o:Option AV} (rv:au T (off S s.heap) ι src v) (e:aU σ .of src 0=some o) (h:lX prog w T S ι tg .of src s Q):wpAny (model prog w) A (pyIter v) Q E s:=by
 refine o12 (fX e) fun xs e1 hz e2=>?_
 have go_list:((∃ ys,src=.list ys)∨∃ i,src=.loc i)→wpAny (model prog w) A (pyIter v) Q E s:=fun hl=>by
   obtain ⟨a,vs,rfl,hL,rl⟩:=R.listAt rv (eV (φ:=off S s.heap) (ι:=ι) hl e1)
   have hlt:a < s.heap.objs.size:=by refine o11 hL fun _ q _=>?_;exact Heap.lt_size q
   exact wpAny_pyIter_list hL (h _ s.toks _ [s.heap.objs.size] _ _ (dm _ _) (fun b hb=>by refine re (List.mem_singleton.mp hb) ?_;exact ⟨dN _,_,Heap.get?_push_size _ rfl⟩)
     (An (Nat.ne_of_lt hlt) hl) rv ⟨_,Heap.get?_push_size _ rfl,rfl,rfl⟩)
 cases src with
 | list ys=>exact go_list (.inl ⟨ys,rfl⟩)
 | loc i=>exact go_list (.inr ⟨i,rfl⟩)
 | tuple ys =>
   obtain ⟨a,vs,rfl,hT,rl⟩:=id rv
   have hlt:a < s.heap.objs.size:=by refine o11 hT.isTup fun _ q _=>?_;exact Heap.lt_size q
   exact wpAny_pyIter_tuple hT.isTup (h _ s.toks _ [s.heap.objs.size] _ _ (dm _ _) (fun b hb=>by refine re (List.mem_singleton.mp hb) ?_;exact ⟨dN _,_,Heap.get?_push_size _ rfl⟩)
     (yD (Nat.ne_of_lt hlt)) rv ⟨_,Heap.get?_push_size _ rfl,rfl,rfl⟩)
 | str x =>
   obtain ⟨t,rfl,hx⟩:=id rv
   refine wpAny_pyIter_strU ?_
   have hI:((s.heap.push { cls:=.type (strIterType ⟨x.toArray⟩),data:=.fields #[.str ⟨x.toArray⟩ t,.int 0 0] }).IsStrIter s.heap.objs.size (strIterType ⟨x.toArray⟩) ⟨x.toArray⟩ t 0):=⟨_,Heap.get?_push_size _ rfl,rfl,rfl⟩
   have hn:∀ b∈[s.heap.objs.size],s.heap.get? b=none∧∃ o,(s.heap.push { cls:=.type (strIterType ⟨x.toArray⟩),data:=.fields #[.str ⟨x.toArray⟩ t,.int 0 0] }).get? b=some o :=
     fun b hb=>by refine re (List.mem_singleton.mp hb) ?_;exact ⟨dN _,_,Heap.get?_push_size _ rfl⟩
   unfold strIterType at *
   split at hI
   · rename_i q
     simp only [q,if_true] at hn ⊢
     exact h _ s.toks _ _ _ _ (dm _ _) hn (uK (t:=t) hx (fun j h st=>let ⟨o,e,_⟩:=st;⟨o,e⟩) fun A' hA=>Walks.strAscii hA s.heap.objs.size _ t) rv ⟨Nat.zero_le _,hI⟩
   · rename_i q
     simp only [q,if_false] at hn ⊢
     exact h _ s.toks _ _ _ _ (dm _ _) hn (uK (t:=t) hx (fun j h st=>let ⟨o,e,_⟩:=st;⟨o,e⟩) fun A' hA=>Walks.strWide hA s.heap.objs.size _ t) rv ⟨Nat.zero_le _,hI⟩
 | bytes x =>
   obtain ⟨t,rfl,hx⟩:=id rv
   exact KBw.pyIter_bytes (h _ s.toks _ [s.heap.objs.size] _ _ (dm _ _) (fun b hb=>by refine re (List.mem_singleton.mp hb) ?_;exact ⟨dN _,_,Heap.get?_push_size _ rfl⟩)
     (yE hx) rv ⟨Nat.zero_le _,_,Heap.get?_push_size _ rfl,rfl,rfl⟩)
 | _=>cases e1
theorem Ao (hh:A.handled=none) {elts:List Expr} {x1:Nat} {pos:Pos} (R:Rel T B l S ι σ s.heap) {src:AV} {v:Value} {o:Option AV} (rv:au T (off S s.heap) ι src v) (e:aU σ .enum src 0=some o) (h:lX prog w T S ι (.Tuple elts x1 pos) .enum src s Q):wpAny (model prog w) A (call (.type "enumerate") [v]) (fun xv s₁=>wpAny (model prog w) A (pyIter xv) Q E s₁) E s:=by
 refine o12 (tM e) fun xs e1 hz e2=>?_
 have go_list:((∃ ys,src=.list ys)∨∃ i,src=.loc i)→wpAny (model prog w) A (call (.type "enumerate") [v]) (fun xv s₁=>wpAny (model prog w) A (pyIter xv) Q E s₁) E s:=fun hl=>by
   obtain ⟨a,vs,rfl,hL,rl⟩:=R.listAt rv (eV (φ:=off S s.heap) (ι:=ι) hl e1)
   have hlt:a < s.heap.objs.size:=by refine o11 hL fun _ q _=>?_;exact Heap.lt_size q
   refine call_enumerate_list hL fun h' he hi hsz hk=>wpAny_pyIter_enum he ?_
   refine h h' s.toks _ [s.heap.objs.size + 1,s.heap.objs.size] _ _ hk (fun b hb=>?_) (rO (Nat.succ_ne_self _) (Nat.ne_of_lt hlt) (Nat.ne_of_lt (Nat.lt_succ_of_lt hlt)) hl) rv ⟨⟨_,he⟩,hi⟩
   rcases List.mem_cons.mp hb with rfl | hb
   · exact ⟨Heap.get?_none_of_le (Nat.le_succ _),_,he⟩
   · refine re (List.mem_singleton.mp hb) ?_
     refine o11 hi fun o ho _=>?_
     exact ⟨dN _,o,ho⟩
 cases src with
 | list ys=>exact go_list (.inl ⟨ys,rfl⟩)
 | loc i=>exact go_list (.inr ⟨i,rfl⟩)
 | tuple ys=>cases e
 | str x=>cases e
 | bytes x =>
   obtain ⟨t,rfl,hx⟩:=id rv
   refine mQ fun h' he hi hsz hk=>wpAny_pyIter_enum he ?_
   refine h h' s.toks _ [s.heap.objs.size + 1,s.heap.objs.size] _ _ hk (fun b hb=>?_) (qt (Nat.succ_ne_self _) hx) rv ⟨⟨_,he⟩,Nat.zero_le _,hi⟩
   rcases List.mem_cons.mp hb with rfl | hb
   · exact ⟨Heap.get?_none_of_le (Nat.le_succ _),_,he⟩
   · refine re (List.mem_singleton.mp hb) ?_
     refine o11 hi fun o ho _=>?_
     exact ⟨dN _,o,ho⟩
 | _=>cases e1
theorem Ds:∀ m:Fin 1025,Builtin.Range.small 0 (m.1:Int) 1=true:=by decide +kernel
set_option tactic.hygienic true in
theorem Dt (hh:A.handled=none) (R:Rel T B l S ι σ s.heap) {src:AV} {v:Value} {o:Option AV} (rv:au T (off S s.heap) ι src v) (e:aU σ .rng src 0=some o)
   (h:lX prog w T S ι tg .rng src s Q):wpAny (model prog w) A (call (.type "range") [v]) (fun xv s₁=>wpAny (model prog w) A (pyIter xv) Q E s₁) E s:=by
 simp only [aU] at e
 split at e
 · split at e
   · rename_i n hn
     simp only [Bool.and_eq_true,decide_eq_true_eq] at hn
     obtain ⟨t,rfl⟩:=id rv
     refine call_range_1 (wpAny_pyIter_range (Heap.get?_push_size _ rfl) ?_ ?_)
     · have:=Ds ⟨n.toNat,Nat.lt_succ_of_le (Int.toNat_le.mpr hn.2)⟩
       simpa [Int.toNat_of_nonneg hn.1] using this
     · have hsz:(s.heap.push { cls:=.type "range",data:=.fields #[.int 0 s.toks,.int n t,.int 1 (s.toks + 1)] }).objs.size=s.heap.objs.size + 1:=Heap.size_push ..
       have hr:Builtin.Range.rangeSize 0 n 1=(n.toNat:Int):=by
         unfold Builtin.Range.rangeSize
         refine re (if_pos (by decide)) ?_
         split
         · refine re (Int.ediv_one ..) ?_;refine re (Int.sub_zero ..) (re (Int.sub_add_cancel ..) ?_);exact (Int.toNat_of_nonneg hn.1).symm
         · exact congrArg Nat.cast (Int.toNat_of_nonpos (Int.not_lt.mp ‹_›)).symm
       refine h _ (s.toks + 1 + 1) _ [(s.heap.push { cls:=.type "range",data:=.fields #[.int 0 s.toks,.int n t,.int 1 (s.toks + 1)] }).objs.size] _ _ (fun a o e=>Heap.get?_push_of_some _ (Heap.get?_push_of_some _ e)) (fun b hb=>?_) (yF (n:=n)) rv ⟨Nat.zero_le _,?_⟩
       · refine re (List.mem_singleton.mp hb) ?_
         exact ⟨by refine re hsz ?_;exact Heap.get?_none_of_le (Nat.le_succ _),_,Heap.get?_push_size _ rfl⟩
       · have:=Heap.get?_push_size (s.heap.push { cls:=.type "range",data:=.fields #[.int 0 s.toks,.int n t,.int 1 (s.toks + 1)] }) (o:={ cls:=.type "range_iterator",data:=.fields #[rawInt 0,rawInt (Builtin.Range.rangeSize 0 n 1),rawInt 1] }) rfl
         rw [hr] at this ⊢
         simpa [IsRangeIter] using this
   · cases e
 · cases e
end
end
section
section
variable {M:Model} {A:Around} {E:Value→Shared→Prop} {s:Shared} {env:PySem.Env}
noncomputable def oM (M:Model) (A:Around) (E:Value→Shared→Prop) (use:Option (Value→Sem Unit)) (Q:Value→Shared→Prop) (acc:Value) (C:Addr) (r:Result) (s':Shared):Prop :=
 match r,use with
 | .ok _,none=>∃ m,s'.heap.Ns C m∧∀ h',Heap.SameBut C s'.heap h'→(∃ m',h'.Ns C m')→Q acc { s' with heap:=h' }
 | .ok _,some u=>wpD M A (u acc) (fun _ s''=>∃ m,s''.heap.Ns C m∧∀ h',Heap.SameBut C s''.heap h'→(∃ m',h'.Ns C m')→Q .none { s'' with heap:=h' }) E s'
 | .error _,_=>False
theorem Jy {e:Expr} {scope:Scope} {pos:Pos} {newAcc first:Sem Value} {g:Comprehension} {gs:List Comprehension} {cl:List (Str×Addr)} {use:Option (Value→Sem Unit)} {Q:Value→Shared→Prop}
   (hcl:clausesOf e=g :: gs) (hs:∀ x,foldedSetIterable g.iter env x=pure x) (hclos:closureFor scope env=pure cl)
   (hkind:scope.kind=.function) (hnames:∀ x∈scope.names,x.2=.local→scope.names.lookup x.1=some .local)
   (h:wpD M A first (fun x s₁=>wpD M A (pyIter x) (fun it s₂=>wpD M A newAcc (fun acc s₃ =>
     wpD M A (newFunctionEnv scope env.globals cl [] env.qual none .none (some env)) (fun cenv s₄ =>
       bj M A (.compStart e 0 it acc { cenv with scope:=relabel scope env }) (oM M A E use Q acc cenv.locals) s₄) E s₃) E s₂) E s₁) E s) :
   wpD M A (comprehension e scope env pos newAcc false first use) Q E s:=by
 have standIf:∀ {c:Prop} [Decidable c] {pos:Pos} {k:PUnit→Sem Value} {Q:Value→Shared→Prop} {s:Shared},wpD M A (k ()) Q E s→wpD M A (if c then (standAt pos >>= k) else k ()) Q E s:=by
   intro c _ pos k Q s h
   split
   · exact aa (aq h)
   · exact h
 unfold comprehension
 refine re hclos (re hcl ?_)
 refine aa (aV h (fun x s₁ h₁=>aa (aq (aa (ut (hs x) (aa (ao (aV h₁ (fun it s₂ h₂ =>
   standIf (aa (aV h₂ (fun acc s₃ h₃=>aa (aj (aa (aV h₃ (fun cenv s₄ h₄=>?_) fun _ _ h'=>h')))) fun _ _ h'=>h')))
     fun _ _ h'=>h'))))))) fun _ _ h'=>h')
 dsimp only
 have hv:∀ x∈(scope.names.filter fun x=>(x.2 == .local || x.2 == .cell) && x.1 != (".0":Str)).reverse,x.2=.local →
     Env.kindOf { cenv with scope:=relabel scope env } x.1=some .local:=fun x hx hl=>lookup_relabel_local (hnames x (List.mem_filter.mp (List.mem_reverse.mp hx)).1 hl)
 have hv':∀ x∈(scope.names.filter fun x=>(x.2 == .local || x.2 == .cell) && x.1 != (".0":Str)).reverse.drop 1++(scope.names.filter fun x=>(x.2 == .local || x.2 == .cell) && x.1 != (".0":Str)).reverse.take 1,
     x.2=.local→Env.kindOf { cenv with scope:=relabel scope env } x.1=some .local:=fun x hx hl=>by
   rcases List.mem_append.mp hx with h1 | h1
   · exact hv x (List.mem_of_mem_drop h1) hl
   · exact hv x (List.mem_of_mem_take h1) hl
 refine ao (aa (pM (ao (s8 (A:=A) (fU h₄ fun r s' hr=>?_) (by intro x;cases x)))))
 cases r with
 | ok f =>
   cases use with
   | none =>
     refine o11 hr fun m hn hr=>?_
     exact aa (ao (D (wpAny_comp_letGo (cenv:={ cenv with scope:=relabel scope env }) hkind _ s' m hv hn fun h' m' hm' hs'=>aj (hr h' hs' ⟨m',hm'⟩))))
   | some u =>
     refine aa (vI (aa (ao (aV hr (fun _ s'' hr'=>?_) fun _ _ h'=>h'))))
     refine o11 hr' fun m hn hr'=>?_
     exact aa (D (wpAny_comp_letGo (cenv:={ cenv with scope:=relabel scope env }) hkind _ s'' m hv' hn fun h' m' hm' hs'=>aj (hr' h' hs' ⟨m',hm'⟩)))
 | error x=>cases use<;>exact hr.elim
end
section
variable {prog:Program} {w:World} {A:Around} {E:Value→Shared→Prop} {R:Result→Shared→Prop} {s:Shared}
theorem Aq {elt target iter:Expr} {ifs:List Expr} {scope:Scope} {pos:Pos} {I:Addr} {acc:Value} {env:PySem.Env}
   (self:∀ {Q E:Value→Shared→Prop},Q (.ref I) s→wpAny (model prog w) A (pyIter (.ref I)) Q E s)
   (h:bj (model prog w) A (.compLoop (.ListComp elt [⟨target,iter,ifs,0⟩] scope pos) 0 (.ref I) acc env) R s) :
   bj (model prog w) A (.compStart (.ListComp elt [⟨target,iter,ifs,0⟩] scope pos) 0 (.ref I) acc env) R s:=by
 refine gj (c':=.compLoop (.ListComp elt [⟨target,iter,ifs,0⟩] scope pos) 0 (.ref I) acc env) ?_ rfl
 show wpAny _ _ ((compStart (.ListComp elt [⟨target,iter,ifs,0⟩] scope pos) 0 (.ref I) acc env).onRaise (fun x=>do noteFrame x env;standAt theWindowsPlace)) _ _ s
 refine wpAny_onRaise ?_
 refine wpAny_bind (wpAny_askSetting (wpAny_ite ?_))
 split
 · first
     | exact wpAny_bind (wpAny_pure (wpAny_pure ⟨rfl,rfl,h⟩))
     | exact wpAny_pure ⟨rfl,rfl,h⟩
 · first
     | exact wpAny_bind (wpAny_rule (wpAny_bind (wpAny_standAt (wpAny_bind (self (wpAny_pure ⟨rfl,rfl,h⟩))))))
     | (refine wpAny_bind (wpAny_rule ?_);show wpAny _ A (standAt iter.pos >>= _) _ _ s;exact wpAny_bind (wpAny_standAt (wpAny_bind (self (wpAny_pure ⟨rfl,rfl,h⟩)))))
noncomputable def Hs (prog:Program) (w:World) (A:Around) (elt:Expr) (acc:Value) (env:PySem.Env) (K:Shared→Prop) (ok:Bool) (s₃:Shared):Prop :=
 if ok=true then wpD (model prog w) A (eval elt env) (fun x s₄=>wpD (model prog w) A (call (.builtin "list.append") [acc,x]) (fun _ s₅=>K s₅) (fun _ _=>False) s₄) (fun _ _=>False) s₃ else K s₃
noncomputable def wF (prog:Program) (w:World) (A:Around) (target elt:Expr) (ifs:List Expr) (it acc:Value) (env:PySem.Env) (N K:Shared→Prop) (r:Option Value) (s₁:Shared):Prop:=match r with
 | none=>N s₁
 | some v=>wpD (model prog w) A (letOwnedTupleGo target it v) (fun _ s₂=>wpD (model prog w) A (assign target env v) (fun _ s₂ =>
     wpD (model prog w) A (forIn ifs true fun c r=>if r=true then do let ok ← isTrue c env (eval c env);pure (ForInStep.yield ok) else pure (ForInStep.yield r)) (Hs prog w A elt acc env K) (fun _ _=>False) s₂) (fun _ _=>False) s₂) (fun _ _=>False) s₁
theorem Du {elt target iter:Expr} {ifs:List Expr} {scope:Scope} {pos:Pos} {it acc:Value} {env:PySem.Env} (I:Nat→Shared→Prop)
   (turn:∀ n s,I n s→wpD (model prog w) A (pyNext it) (wF prog w A target elt ifs it acc env (R (.ok .next)) fun s=>∃ m,m < n∧I m s) (fun _ _=>False) s)
   (n:Nat) (h:I n s) :
   bj (model prog w) A (.compLoop (.ListComp elt [⟨target,iter,ifs,0⟩] scope pos) 0 it acc env) R s:=by
 refine zK rfl I (fun n s hI=>?_) n h
 show wpD _ A ((compTurn (.ListComp elt [⟨target,iter,ifs,0⟩] scope pos) 0 it acc env).onRaise (fun x=>do noteFrame x env;theTreesLotGoes x)) _ _ s
 refine cA (aV (E:=fun _ _=>False) ?_ (fun _ _ q=>q) fun _ _ x=>x.elim)
 refine re (compTurn_list ..) ?_
 refine aa (aq (aa (aV (turn n s hI) (fun r s₁ h₁=>?_) fun _ _ h'=>h')))
 cases r with
 | none=>exact aj h₁
 | some v =>
   refine aa (aV h₁ (fun _ s₂ h₂=>aa (aV h₂ (fun _ s₂ h₂=>aa (aV h₂ (fun ok s₃ h₃=>?_) fun _ _ h'=>h')) fun _ _ h'=>h')) fun _ _ h'=>h')
   cases ok with
   | false=>exact aj ⟨rfl,h₃⟩
   | true =>
     exact aa (aa (aV h₃ (fun x s₄ h₄=>aa (aV h₄ (fun _ s₅ h₅=>aj (aj ⟨rfl,h₅⟩)) fun _ _ h'=>h')) fun _ _ h'=>h'))
end
end
section
section
variable {env:PySem.Env}
noncomputable def bL (env:PySem.Env):List (Str×NameKind)→List (Str×Addr)→List (Str×Addr)
 | [],acc=>acc
 | (n,k) :: r,acc=>bL env r (if k == .free then (n,(env.cells.lookup n).getD 0) :: acc else acc)
theorem mR (f:Str×NameKind→List (Str×Addr)→Sem (ForInStep (List (Str×Addr)))) (hf:∀ n k acc,f (n,k) acc=if k == .free then (cellOf env n >>= fun c=>pure (.yield ((n,c) :: acc))) else pure (.yield acc)) :
   ∀ (names:List (Str×NameKind)) (acc:List (Str×Addr)),(∀ x∈names,x.2=.free→∃ c,env.cells.lookup x.1=some c)→forIn names acc f=pure (bL env names acc)
 | [],acc,_=>List.forIn_nil ..
 | (n,k) :: r,acc,h=>by
   refine re (List.forIn_cons ..) (re (hf ..) ?_)
   unfold bL
   by_cases hk:k=.free
   · subst hk
     refine o10 (h (n,.free) (by simp) rfl) fun c hc=>?_
     have e:cellOf env n=pure c:=by unfold cellOf;exact re hc rfl
     simp only [beq_self_eq_true,if_true,e,hc,Option.getD_some]
     exact mR f hf r _ fun x hx=>h x (List.mem_cons_of_mem _ hx)
   · have:(k == NameKind.free)=false:=by simpa using hk
     simp only [this,Bool.false_eq_true,if_false]
     exact mR f hf r _ fun x hx=>h x (List.mem_cons_of_mem _ hx)
theorem Ar {scope:Scope} (h:∀ x∈scope.names,x.2=.free→∃ c,env.cells.lookup x.1=some c):closureFor scope env=pure (bL env scope.names []):=by
 unfold closureFor
 refine (congrArg (· >>= fun cs=>pure cs) (mR (env:=env) _ (fun n k acc=>?_) scope.names [] h)).trans rfl
 by_cases hk:k=.free
 · subst hk;rfl
 · have:(k == NameKind.free)=false:=by simpa using hk
   simp only [this,Bool.false_eq_true,if_false]
structure ClOk (env:PySem.Env) (cl:List (Str×Addr)):Prop where
 cell:∀ n c,(n,c)∈cl→env.cells.lookup n=some c
 apart:cl.Pairwise fun x y=>x.2≠y.2
theorem Av (ha:env.cells.Pairwise fun x y=>x.2≠y.2):∀ (names:List (Str×NameKind)) (acc:List (Str×Addr)),(∀ x∈names,x.2=.free→∃ c,env.cells.lookup x.1=some c)→(names.map (·.1)).Nodup→(∀ x∈names,x.1∉acc.map (·.1))→ClOk env acc →
   ClOk env (bL env names acc)∧(∀ x∈names,x.2=.free→x.1∈(bL env names acc).map (·.1))∧∀ n∈acc.map (·.1),n∈(bL env names acc).map (·.1)
 | [],acc,_,_,_,ok=>⟨ok,(fun x hx=>by cases hx),fun _ h=>h⟩
 | (n,k) :: r,acc,h,hn,hna,ok=>by
   rw [List.map_cons,List.nodup_cons] at hn
   unfold bL
   by_cases hk:k=.free
   · subst hk
     refine o10 (h (n,.free) (by simp) rfl) fun c hc=>?_
     simp only [beq_self_eq_true,if_true,hc,Option.getD_some]
     have hnn:n∉acc.map (·.1):=hna (n,.free) (by simp)
     have ok':ClOk env ((n,c) :: acc):=⟨fun n' c' hm=>by
         rcases List.mem_cons.mp hm with e | hm
         · cases e;exact hc
         · exact ok.cell _ _ hm,
       List.pairwise_cons.mpr ⟨fun y hy e=>by
         have h1:=ok.cell y.1 y.2 hy
         have e':c=y.2:=e
         have:n=y.1:=name_of_addr ha (mem_of_lookup hc) (e'▸mem_of_lookup h1)
         exact hnn (this▸List.mem_map_of_mem hy),ok.apart⟩⟩
     obtain ⟨g1,g2,g3⟩:=Av ha r ((n,c) :: acc) (fun x hx=>h x (List.mem_cons_of_mem _ hx)) hn.2 (fun x hx hm=>by
       rcases List.mem_cons.mp (show x.1∈n :: acc.map (·.1) from hm) with e | hm
       · exact hn.1 (by refine rf e ?_;exact List.mem_map.mpr ⟨x,hx,rfl⟩)
       · exact hna x (List.mem_cons_of_mem _ hx) hm) ok'
     refine ⟨g1,fun x hx hf=>?_,fun m hm=>g3 m (List.mem_cons_of_mem _ hm)⟩
     rcases List.mem_cons.mp hx with e | hx
     · subst e;exact g3 _ (by simp)
     · exact g2 x hx hf
   · have hkf:(k == NameKind.free)=false:=by simpa using hk
     simp only [hkf,Bool.false_eq_true,if_false]
     refine o02 (Av ha r acc (fun x hx=>h x (List.mem_cons_of_mem _ hx)) hn.2 (fun x hx=>hna x (List.mem_cons_of_mem _ hx)) ok) fun g1 g2 g3=>?_
     refine ⟨g1,fun x hx hf=>?_,g3⟩
     rcases List.mem_cons.mp hx with e | hx
     · subst e;exact absurd hf hk
     · exact g2 x hx hf
theorem iD {α:Type}:∀ {l:List (Str×α)} {n:Str},n∈l.map (·.1)→∃ c,l.lookup n=some c
 | [],_,h=>nomatch h
 | (k,v) :: r,n,h=>by
   refine re List.lookup_cons ?_
   cases hb:n == k with
   | true=>exact ⟨v,rfl⟩
   | false =>
     rcases List.mem_cons.mp (show n∈k :: r.map (·.1) from h) with e | h
     · rw [e] at hb;simp at hb
     · exact iD h
theorem uL {cl:List (Str×Addr)} (ok:ClOk env cl) {n:Str} (h:n∈cl.map (·.1)):∃ c,cl.lookup n=some c∧env.cells.lookup n=some c:=by
 refine o10 (iD h) fun c hc=>?_
 exact ⟨c,hc,ok.cell _ _ (mem_of_lookup hc)⟩
end
end
section
noncomputable def Under (ρ ρ':Env):Prop:=ρ.length=ρ'.length∧∀ (i:Nat) a,ρ[i]?=some (some a)→ρ'[i]?=some (some a)
theorem Under.refl (ρ:Env):Under ρ ρ:=⟨rfl,fun _ _ e=>e⟩
theorem Under.set {ρ ρ':Env} (u:Under ρ ρ') {x:Nat} {v:AV} (h:∀ a,ρ[x]?≠some (some a)):Under ρ (ρ'.set x (some v)):=by
 refine ⟨by refine re List.length_set ?_;exact u.1,fun i a e=>?_⟩
 have q:x≠i:=fun q=>by subst q;exact h a e
 refine re (List.getElem?_set_ne q) ?_
 exact u.2 i a e
section
variable {T:Tabs} {B:Heap} {l:List PySem.Env} {S S₁ S₂ W W₂ own N:List Addr} {ι ι₁ ι₂:Cel} {σ:Sig} {h h' h₁ h₂:Heap} {env:PySem.Env} {sl:List Str} {ρ ρ':Env}
theorem Loc.weak (L:Loc T env sl ρ' S ι h) (u:Under ρ ρ'):Loc T env sl ρ S ι h where
 len:=u.1.trans L.len
 kind:=L.kind
 own:=L.own
 apart:=L.apart
 nd:=L.nd
 ns:=by
   refine o11 L.ns fun m hm hs=>?_
   refine ⟨m,hm,fun i x hx=>?_⟩
   have o:∀ {ov:Option Value},qg T (off S h) ι ρ'[i]? ov→qg T (off S h) ι ρ[i]? ov:=fun o a e=>o a (u.2 i a e)
   rcases hs i x hx with ⟨h1,h2⟩ | ⟨h1,c,v,h2,h3,h4⟩
   · exact .inl ⟨h1,o h2⟩
   · exact .inr ⟨h1,c,v,h2,h3,o h4⟩
theorem Go.fresh (x:Go l W S ι h S₁ ι₁ h₁) (y:Go l W₂ S₁ ι₁ h₁ S₂ ι₂ h₂) (hW:∀ a∈W₂,h.get? a=none∨a∈W):Go l W S ι h S₂ ι₂ h₂ where
 step:=fun a o e n w f=>y.step a o (x.step a o e n w f) (fun m=>by rw [x.cel a m n] at e;cases e) (fun m=>by
   rcases hW a m with q | q
   · rw [q] at e;cases e
   · exact w q) f
 frm:=fun a o e m w=>y.frm a o (x.frm a o e m w) m (fun q=>by
   rcases hW a q with q | q
   · obtain ⟨_,e⟩:=cT e;rw [q] at e;cases e
   · exact w q)
 alive:=fun a o e=>let ⟨o',e'⟩:=x.alive a o e;y.alive a o' e'
 pre:=fun i p e=>y.pre i p (x.pre i p e)
 sub:=fun a m=>y.sub a (x.sub a m)
 new:=fun a m n=>by
   by_cases q:a∈S₁
   · exact x.new a q n
   · exact x.back (y.new a m q)
 cel:=fun a m n=>by
   by_cases q:a∈cells ι₁
   · exact x.cel a q n
   · exact x.back (y.cel a m q)
theorem Rel.owns (R:Rel T B l S ι σ h) (ho:∀ b∈own,b∈S∧b∉cells ι∧b∉frs l) (hk:∀ b o,b∉own→h.get? b=some o→h'.get? b=some o) (hl:∀ b∈own,∃ o,h'.get? b=some o) :
   Rel T B l S ι σ h'∧Go l own S ι h S ι h':=by
 have kp:∀ b o,off S h b=some o→off S h' b=some o:=fun b o e=>by
   refine o01 (aA.mp e) fun n e=>?_
   exact aA.mpr ⟨n,hk b o (fun q=>n (ho b q).1) e⟩
 have alive:∀ a o,h.get? a=some o→∃ o',h'.get? a=some o':=fun a o e=>by
   by_cases q:a∈own
   · exact hl a q
   · exact ⟨o,hk a o q e⟩
 have ns:∀ {a m},h.Ns a m→a∉own→h'.Ns a m:=fun x n=>by
   refine o31 x fun o es ep e r=>?_
   exact ⟨o,es,ep,hk _ o n e,r⟩
 constructor
 · exact {
     base:=fun b o e=>hk b o (fun q=>by have:=R.bS _ (ho b q).1;rw [e] at this;cases this) (R.base b o e)
     bS:=R.bS
     live:=fun b m=>let ⟨o,e⟩:=R.live b m;alive b o e
     sub:=R.sub
     nodup:=R.nodup
     len:=R.len
     obj:=fun j q m' e1 e2=>(R.obj j q m' e1 e2).keep kp (fun _ _ e=>e) fun o e=>hk _ o (fun z=>(ho _ z).2.1 (cN e1)) e
     stk:=fun e he=>by
       obtain ⟨h1,L,m,h2,h3,h4,h5⟩:=R.stk e he
       exact ⟨h1,L,m,h2,h3,h4,ns h5 fun q=>(ho _ q).2.2 (List.mem_filterMap.mpr ⟨e,he,h2⟩)⟩ }
 · exact {
     step:=fun b o e _ w _=>hk b o w e
     frm:=fun b m e _ w=>ns e w
     alive:=alive
     pre:=fun _ _ e=>e
     sub:=fun _ m=>m
     new:=fun _ m n=>absurd m n
     cel:=fun _ m n=>absurd m n }
noncomputable def less (S N:List Addr):List Addr:=S.filter fun a=>!N.contains a
theorem dD {a:Addr}:a∈less S N↔a∈S∧a∉N:=by
 unfold less
 rw [List.mem_filter]
 simp
theorem Rel.less (R:Rel T B l S ι σ h) (hoS:∀ b∈own,b∈S) (hoN:∀ b∈own,b∈N) (hN:∀ b∈N,b∉cells ι∧b∉frs l) (hk:∀ b o,b∉own→h.get? b=some o→h'.get? b=some o) :
   Rel T B l (less S N) ι σ h'∧∀ b o,off S h b=some o→off (less S N) h' b=some o:=by
 have kp:∀ b o,off S h b=some o→off (Mine.less S N) h' b=some o:=fun b o e=>by
   refine o01 (aA.mp e) fun n e=>?_
   exact aA.mpr ⟨fun q=>n (dD.mp q).1,hk b o (fun q=>n (hoS b q)) e⟩
 refine ⟨{
     base:=fun b o e=>hk b o (fun q=>by have:=R.bS _ (hoS b q);rw [e] at this;cases this) (R.base b o e)
     bS:=fun a m=>R.bS a (dD.mp m).1
     live:=fun b m=>by
       refine o10 (R.live b (dD.mp m).1) fun o e=>?_
       exact ⟨o,hk b o (fun q=>(dD.mp m).2 (hoN b q)) e⟩
     sub:=fun a m=>dD.mpr ⟨R.sub a m,fun q=>(hN a q).1 m⟩
     nodup:=R.nodup
     len:=R.len
     obj:=fun j q m' e1 e2=>(R.obj j q m' e1 e2).keep kp (fun _ _ e=>e) fun o e=>hk _ o (fun z=>(hN _ (hoN _ z)).1 (cN e1)) e
     stk:=fun e he=>by
       obtain ⟨h1,L,m,h2,h3,h4,h5⟩:=R.stk e he
       have hf:L∈frs l:=List.mem_filterMap.mpr ⟨e,he,h2⟩
       refine ⟨h1,L,m,h2,dD.mpr ⟨h3,fun q=>(hN L q).2 hf⟩,h4,?_⟩
       refine o31 h5 fun o es ep ho r=>?_
       exact ⟨o,es,ep,hk _ o (fun q=>(hN L (hoN L q)).2 hf) ho,r⟩ },kp⟩
theorem Go.less (x:Go l W S ι h S₁ ι₁ h₁) (hS:∀ a∈S,∃ o,h.get? a=some o) (hN:∀ b∈N,h.get? b=none) (hoN:∀ b∈own,b∈N) (hk:∀ b o,b∉own→h₁.get? b=some o→h₂.get? b=some o):Go l W S ι h (less S₁ N) ι₁ h₂ where
 step:=fun a o e n w f=>hk a o (fun q=>by rw [hN a (hoN a q)] at e;cases e) (x.step a o e n w f)
 frm:=fun a m e q w=>by
   refine o31 (x.frm a m e q w) fun o es ep ho r=>?_
   exact ⟨o,es,ep,hk a o (fun z=>by refine o10 (cT e) fun _ e=>?_;rw [hN a (hoN a z)] at e;cases e) ho,r⟩
 alive:=fun a o e=>by
   refine o10 (x.alive a o e) fun o' e'=>?_
   exact ⟨o',hk a o' (fun z=>by rw [hN a (hoN a z)] at e;cases e) e'⟩
 pre:=x.pre
 sub:=fun a m=>dD.mpr ⟨x.sub a m,fun q=>by refine o10 (hS a m) fun o e=>?_;rw [hN a q] at e;cases e⟩
 new:=fun a m n=>x.new a (dD.mp m).1 n
 cel:=x.cel
end
end
section
structure CompOk (scope:Scope) (env:PySem.Env) (sl:List Str) (onames:List Str) (caps:List Nat) (cn:List Str):Prop where
 kind:scope.kind=.function
 nocell:∀ x∈scope.names,x.2≠.cell
 loc:∀ x∈scope.names,x.2=.local→scope.names.lookup x.1=some .local
 own:∀ n∈onames,scope.names.lookup n=some .local
 len:cn.length=caps.length
 cap:∀ (i:Nat) x,cn[i]?=some x→∃ c,caps[i]?=some c∧sl[c]?=some x∧scope.names.lookup x=some .free∧(env.kindOf x=some .cell∨env.kindOf x=some .free)
 free:∀ x∈scope.names,x.2=.free→x.1∈cn
 nd:(onames++cn).Nodup
 names:(scope.names.map (·.1)).Nodup
noncomputable def dY (onames:List Str) (caps:List Nat) (ρ:Env):Env:=onames.map (fun _=>none)++caps.map fun c=>(ρ[c]?).getD none
theorem ig {env:PySem.Env}:∀ {names:List (Str×NameKind)} {x:Str},names.lookup x=some .free →
   (names.map fun (n,k)=>if (k == NameKind.free && env.scope.kind == .function && env.kindOf n == some .cell) then (n,NameKind.cell) else (n,k)).lookup x=some .cell ∨
   (names.map fun (n,k)=>if (k == NameKind.free && env.scope.kind == .function && env.kindOf n == some .cell) then (n,NameKind.cell) else (n,k)).lookup x=some .free
 | [],_,h=>by simp at h
 | (n,k) :: r,x,h=>by
   have ih:=@ig env r x
   show List.lookup x ((if (k == NameKind.free && env.scope.kind == .function && env.kindOf n == some .cell)=true then (n,NameKind.cell) else (n,k)) :: _)=_∨List.lookup x ((if (k == NameKind.free && env.scope.kind == .function && env.kindOf n == some .cell)=true then (n,NameKind.cell) else (n,k)) :: _)=_
   cases hx:x == n with
   | true =>
     simp only [List.lookup_cons,hx] at h
     cases h
     by_cases hc:(NameKind.free == NameKind.free && env.scope.kind == .function && env.kindOf n == some .cell)=true
     · refine re (if_pos hc) ?_;exact .inl (by simp [List.lookup_cons,hx])
     · refine re (if_neg hc) ?_;exact .inr (by simp [List.lookup_cons,hx])
   | false =>
     simp only [List.lookup_cons,hx] at h
     by_cases hc:(k == NameKind.free && env.scope.kind == .function && env.kindOf n == some .cell)=true
     · refine re (if_pos hc) ?_;simp only [List.lookup_cons,hx];exact ih h
     · refine re (if_neg hc) ?_;simp only [List.lookup_cons,hx];exact ih h
section
variable {T:Tabs} {B:Heap} {l:List PySem.Env} {S:List Addr} {ι:Cel} {σ:Sig} {h:Heap} {env:PySem.Env} {scope:Scope} {sl onames cn:List Str} {caps:List Nat} {ρ:Env}
theorem CompOk.kindOf_own (k:CompOk scope env sl onames caps cn) {cl:List (Str×Addr)} {C:Addr} {n:Str} (m:n∈onames):(compEnvC scope cl C env).kindOf n=some .local:=lookup_relabel_local (k.own n m)
theorem CompOk.cells (k:CompOk scope env sl onames caps cn) (L:Loc T env sl ρ S ι h):∀ x∈scope.names,x.2=.free→∃ c,env.cells.lookup x.1=some c:=fun x hx hf=>by
 refine o10 (List.getElem?_of_mem (k.free x hx hf)) fun i hi=>?_
 refine o13 (k.cap i _ hi) fun c h1 h2 h3 h4=>?_
 refine o11 L.ns fun m hm hs=>?_
 rcases hs c _ h2 with ⟨g1,_⟩ | ⟨_,a,v,g2,_⟩
 · rw [g1] at h4;rcases h4 with q | q<;>cases q
 · exact ⟨a,g2⟩
theorem CompOk.cl (k:CompOk scope env sl onames caps cn) (L:Loc T env sl ρ S ι h):closureFor scope env=pure (bL env scope.names [])∧ClOk env (bL env scope.names [])∧∀ x∈scope.names,x.2=.free→x.1∈(bL env scope.names []).map (·.1):=by
 refine o02 (Av L.apart scope.names [] (k.cells L) k.names (fun _ _ m=>by cases m) ⟨(fun _ _ m=>nomatch m),List.Pairwise.nil⟩) fun h1 h2 _=>?_
 exact ⟨Ar (k.cells L),h1,h2⟩
theorem CompOk.locs (k:CompOk scope env sl onames caps cn) (L:Loc T env sl ρ S ι h) {C:Addr} {m':Str→Option Value} (hn:h.Ns C m') (hC:C∈S∧C∉Mine.cells ι) :
   Loc T (compEnvC scope (bL env scope.names []) C env) (onames++cn) (dY onames caps ρ) S ι h where
 len:=by simp [dY,k.len]
 kind:=k.kind
 own:=fun a ha=>by
   rcases List.mem_cons.mp ha with rfl | ha
   · exact hC
   · obtain ⟨y,hy,rfl⟩:=List.mem_map.mp ha
     exact L.own _ (gP ((k.cl L).2.1.cell y.1 y.2 hy))
 apart:=(k.cl L).2.1.apart
 nd:=k.nd
 ns:=by
   refine ⟨m',hn,fun i x hx=>?_⟩
   by_cases q:i < onames.length
   · rw [List.getElem?_append_left q] at hx
     refine .inl ⟨k.kindOf_own (List.mem_of_getElem? hx),fun a e=>?_⟩
     unfold dY at e
     rw [List.getElem?_append_left (by simpa using q),List.getElem?_map,hx] at e
     cases e
   · have q:=Nat.le_of_not_lt q
     rw [List.getElem?_append_right q] at hx
     refine o13 (k.cap _ x hx) fun c h1 h2 h3 h4=>?_
     refine o11 L.ns fun m hm hs=>?_
     rcases hs c x h2 with ⟨g1,_⟩ | ⟨_,a,v,g2,g3,g4⟩
     · rw [g1] at h4;rcases h4 with z | z<;>cases z
     · refine o11 (uL (k.cl L).2.1 ((k.cl L).2.2 (x,.free) (mem_of_lookup h3) rfl)) fun a' z1 z2=>?_
       rw [g2] at z2
       cases z2
       refine .inr ⟨ig h3,a,v,z1,g3,fun b e=>g4 b ?_⟩
       unfold dY at e
       rw [List.getElem?_append_right (by simpa using q),List.getElem?_map,List.length_map,h1] at e
       simp only [Option.map_some,Option.some.injEq] at e
       cases hr:ρ[c]? with
       | none=>rw [hr] at e;cases e
       | some o=>rw [hr] at e;simp only [Option.getD_some] at e;exact re e rfl
end
noncomputable def Qd:Expr→Option (List Expr)
 | .Tuple ts _ _=>some ts
 | _=>none
noncomputable def gq (on:List Str) (g:Mine.T) (t:Expr):Bool:=match g with
 | .n x=>match nameOf t with
   | some id=>on[x]? == some id
   | none=>false
 | .tu xs=>match Qd t with
   | some ts=>match cU ts with
     | some ids=>cj on xs ids
     | none=>false
   | none=>false
theorem Dv {C:Prop} {on:List Str} {g:Mine.T} {t:Expr} (e:gq on g t=true) (h1:∀ x id p,g=.n x→t=.Name id p→on[x]?=some id→C) (h2:∀ xs ts x1 p ids,g=.tu xs→t=.Tuple ts x1 p→cU ts=some ids→cj on xs ids=true→C):C:=by
 cases g with
 | n x =>
   replace e:(match nameOf t with | some id=>on[x]? == some id | none=>false)=true:=e
   cases q:nameOf t with
   | none=>rw [q] at e;exact ffE e
   | some id=>rw [q] at e;exact uH q fun p q=>h1 x id p rfl q (beq_iff_eq.mp e)
 | tu xs =>
   cases t with
   | Tuple ts x1 p =>
     replace e:(match cU ts with | some ids=>cj on xs ids | none=>false)=true:=e
     cases q:cU ts with
     | none=>rw [q] at e;exact ffE e
     | some ids=>rw [q] at e;exact h2 xs ts x1 p ids rfl rfl q e
   | _=>exact ffE e
theorem wG {C:Prop} {ρ ρ':Env} {x:Nat} {v:AV} (e:target ρ (.n x) v=some ρ') (h:ρ'=ρ.set x (some v)→C):C:=by
 replace e:(if x < ρ.length then some (ρ.set x (some v)) else none)=some ρ':=e
 by_cases q:x < ρ.length
 · rw [if_pos q] at e;exact h (Option.some.inj e).symm
 · rw [if_neg q] at e;exact aC e
theorem uM {C:Prop} {ρ ρ':Env} {xs:List Nat} {v:AV} (e:target ρ (.tu xs) v=some ρ') (h:∀ vs,v=.tuple vs→stores ρ xs vs=some ρ'→C):C:=by
 cases v with
 | tuple vs=>exact h vs rfl e
 | _=>exact aC e
theorem wH {xs:List Nat} {vs:List AV} {ρ₀ ρ ρ':Env} (u:Under ρ₀ ρ) (hx:∀ x∈xs,∀ a,ρ₀[x]?≠some (some a)) (e:stores ρ xs vs=some ρ'):Under ρ₀ ρ':=by
 revert u hx
 exact fV (P:=fun xs _ ρ ρ'=>Under ρ₀ ρ→(∀ x∈xs,∀ a,ρ₀[x]?≠some (some a))→Under ρ₀ ρ') (fun _ u _=>u) (fun x _ _ _ _ _ _ _ ih u hx=>ih (u.set (hx x (.head _))) fun y m=>hx y (.tail _ m)) e
theorem Dw {sl:List Str} {xs:List Nat} {ids:List Str} (h:cj sl xs ids=true):(∀ x∈xs,∃ id∈ids,sl[x]?=some id)∧∀ id∈ids,id∈sl:=by
 refine jc (P:=fun xs ids=>(∀ x∈xs,∃ id∈ids,sl[x]?=some id)∧∀ id∈ids,id∈sl) ⟨nofun,nofun⟩ (fun x xs i ids h _ ih=>⟨fun y m=>?_,fun y m=>?_⟩) h
 · rcases List.mem_cons.mp m with rfl | m
   · exact ⟨i,.head _,h⟩
   · exact (ih.1 y m).imp fun id q=>⟨.tail _ q.1,q.2⟩
 · rcases List.mem_cons.mp m with rfl | m
   · exact List.mem_of_getElem? h
   · exact ih.2 y m
theorem Dy {sl sl':List Str} {xs:List Nat} {ids:List Str} (h:cj sl xs ids=true):cj (sl++sl') xs ids=true :=
 jc (P:=fun xs ids=>cj (sl++sl') xs ids=true) rfl (fun x xs i ids h _ ih=>Ak (by refine re (List.getElem?_append_left (List.getElem?_eq_some_iff.mp h).1) ?_;exact h) ih) h
section
variable {T:Tabs} {B:Heap} {l:List PySem.Env} {S:List Addr} {ι:Cel} {σ:Sig} {env:PySem.Env} {sl:List Str} {ρ ρ₁:Env} {prog:Program} {w:World} {A:Around} {E:Value→Shared→Prop} {Q:Unit→Shared→Prop} {s:Shared}
theorem Dz (hh:A.handled=none) {onames cn:List Str} {tgt:Mine.T} {t:Expr} (ht:gq onames tgt t=true) (hk:∀ n∈onames,env.kindOf n=some .local) (ho:∀ (i:Nat),i < onames.length→∀ a,ρ[i]?≠some (some a))
   (R:Rel T B l S ι σ s.heap) (L:Loc T env (onames++cn) ρ₁ S ι s.heap) (u:Under ρ ρ₁) {x:AV} {v:Value} (rv:au T (off S s.heap) ι x v) {ρ':Env} (e:target ρ tgt x=some ρ')
   (h:∀ h' tk',Go l [env.locals] S ι s.heap S ι h'→Rel T B l S ι σ h'→Loc T env (onames++cn) ρ' S ι h'→Under ρ ρ'→Q () { s with heap:=h',toks:=tk' }) :
   wpAny (model prog w) A (assign t env v) Q E s:=by
 have L:=L.weak u
 refine Dv ht (fun i id p q1 q2 hi=>?_) fun xs ts x1 p ids q1 q2 hids g=>?_
 · subst q1 q2
   have hlt:=(List.getElem?_eq_some_iff.mp hi).1
   refine wG e fun e=>?_
   subst e
   exact wpAny_bind (wpAny_standAt (jU R L (by refine re (List.getElem?_append_left hlt) ?_;exact hi) (uF (hk _ (List.mem_of_getElem? hi))) rv fun h' tk' G R' L'=>h h' tk' G R' L' ((Under.refl ρ).set (ho i hlt))))
 · subst q1 q2
   refine uM e fun vs q e=>?_
   subst q
   have sm:=Dw g
   refine mH hh R L rv e hids (Dy g) (W:=[env.locals]) (fun a m=>by refine re (List.mem_singleton.mp m) ?_;exact fH env) (fun id m=>uF (hk _ (sm.2 id m))) fun h' tk' G R' L'=>h h' tk' G R' L' (wH (Under.refl ρ) (fun x m a=>?_) e)
   refine o11 (sm.1 x m) fun id _ hx=>?_
   exact ho x (List.getElem?_eq_some_iff.mp hx).1 a
end
end
section
section
variable {T:Tabs} {B:Heap} {l:List PySem.Env} {S S' W own:List Addr} {ι ι':Cel} {σ:Sig} {h h':Heap} {env:PySem.Env} {sl:List Str} {ρ:Env}
theorem Loc.goW (L:Loc T env sl ρ S ι h) (R:Rel T B l S ι σ h) (G:Go l W S ι h S' ι' h') (hW:∀ a∈W,a∈S∧a∉Wof env):Loc T env sl ρ S' ι' h' where
 len:=L.len
 kind:=L.kind
 own:=fun a q=>⟨G.sub a (L.own a q).1,fun m=>by
   refine o10 (R.live a (L.own a q).1) fun o e=>?_
   rw [G.cel a m (L.own a q).2] at e;cases e⟩
 apart:=L.apart
 nd:=L.nd
 ns:=by
   refine o11 L.ns fun m hm hs=>?_
   have kp:=G.phi (R.inW fun a m=>(hW a m).1)
   refine ⟨m,?_,fun i x hx=>?_⟩
   · by_cases q:env.locals∈frs l
     · exact G.frm _ m hm q fun z=>(hW _ z).2 (fH env)
     · refine o31 hm fun o es ep ho r=>?_
       exact ⟨o,es,ep,G.step _ o ho (L.own _ (fH env)).2 (fun z=>(hW _ z).2 (fH env)) q,r⟩
   · rcases hs i x hx with ⟨h1,h2⟩ | ⟨h1,c,v,h2,h3,h4⟩
     · exact .inl ⟨h1,h2.mono kp G.pre⟩
     · refine .inr ⟨h1,c,v,h2,?_,h4.mono kp G.pre⟩
       have q:c∉frs l:=fun q=>by
         refine o11 (jL q) fun env' he hf=>?_
         obtain ⟨_,L',m',hL,_,_,hn⟩:=R.stk env' he
         rw [hf] at hL
         cases hL
         exact lO hn h3
       refine o11 h3 fun o ho r=>?_
       exact ⟨o,G.step c o ho (L.own _ (gP h2)).2 (fun z=>(hW _ z).2 (gP h2)) q,r⟩
theorem Go.off_cells (R:Rel T B l S ι σ h) (G:Go l W S ι h S' ι' h') {a:Addr} (m:a∈S) (n:a∉cells ι):a∈S'∧a∉cells ι':=⟨G.sub a m,fun q=>by
 refine o10 (R.live a m) fun o e=>?_
 rw [G.cel a q n] at e;cases e⟩
theorem Go.plain {a:Addr} {ys:Array Value} (G:Go l W S ι h S' ι' h') (n:a∉cells ι) (w:a∉W) (f:a∉frs l) (p:h.PlainList a ys):h'.PlainList a ys:=let ⟨k,e⟩:=p;⟨k,G.step a _ e n w f⟩
end
noncomputable def eH (ri:Env→Sig→R Bool) (re:Env→Sig→R AV) (ρ0:Env) (ik:IK) (tgt:Mine.T) (src:AV) (j:Nat) (acc:List AV) (σ:Sig):R (Option (List AV)) :=
 match aU σ ik src j with
 | none=>.stuck
 | some none=>.ok none σ
 | some (some x)=>match target ρ0 tgt x with
   | none=>.stuck
   | some ρ'=>(ri ρ' σ).bind fun b σ=>if b then (re ρ' σ).bind fun y σ=>.ok (some (acc++[y])) σ else .ok (some acc) σ
set_option tactic.hygienic true in
theorem wI {step:Nat→List AV→Sig→R (Option (List AV))} {n j:Nat} {acc vs:List AV} {σ σf:Sig} (e:cV step n j acc σ=.ok vs σf):∃ m,n=m + 1 ∧
   ((step j acc σ=.ok none σf∧vs=acc)∨∃ acc' σ',step j acc σ=.ok (some acc') σ'∧cV step m (j + 1) acc' σ'=.ok vs σf):=by
 cases n with
 | zero=>cases e
 | succ m =>
   refine ⟨m,rfl,?_⟩
   unfold cV at e
   split at e
   · rename_i acc' σ' h;exact .inr ⟨acc',σ',h,e⟩
   · rename_i σ' h;cases e;exact .inl ⟨h,rfl⟩
   · cases e
   · cases e
theorem pC {α β:Type} {r:Mine.R α} {f:α→Sig→Mine.R β} {b:β} {σ':Sig} (e:r.bind f=.ok b σ'):∃ a σ,r=.ok a σ∧f a σ=.ok b σ':=by
 cases r with
 | ok a σ=>exact ⟨a,σ,rfl,e⟩
 | err c σ=>cases e
 | stuck=>cases e
set_option tactic.hygienic true in
theorem mU {ri:Env→Sig→R Bool} {re:Env→Sig→R AV} {ρ0:Env} {ik:IK} {tgt:Mine.T} {src:AV} {j:Nat} {acc:List AV} {σ σ':Sig} {o:Option (List AV)} (e:eH ri re ρ0 ik tgt src j acc σ=.ok o σ') :
   (o=none∧σ'=σ∧aU σ ik src j=some none)∨∃ x ρ' b σ₁,aU σ ik src j=some (some x)∧target ρ0 tgt x=some ρ'∧ri ρ' σ=.ok b σ₁ ∧
     ((b=false∧o=some acc∧σ'=σ₁)∨∃ y,b=true∧re ρ' σ₁=.ok y σ'∧o=some (acc++[y])):=by
 unfold eH at e
 split at e
 · cases e
 · rename_i h;cases e;exact .inl ⟨rfl,rfl,h⟩
 · rename_i x h
   split at e
   · cases e
   · rename_i ρ' h2
     refine o21 (pC e) fun b σ₁ h3 h4=>?_
     refine .inr ⟨x,ρ',b,σ₁,h,h2,h3,?_⟩
     cases b with
     | false=>cases h4;exact .inl ⟨rfl,rfl,rfl⟩
     | true =>
       refine o21 (pC h4) fun y σ₂ h5 h6=>?_
       cases h6
       exact .inr ⟨y,rfl,h5,rfl⟩
section
variable {T:Tabs} {B:Heap} {prog:Program} {w:World} {X:Cx} {sl onames cn:List Str} {caps:List Nat} {ρ:Env} {ri:Env→Sig→R Bool} {re:Env→Sig→R AV} {ik:IK} {tgt:Mine.T} {src:AV} {scope:Scope} {cl:List (Str×Addr)} {C D:Addr} {own:List Addr} {I:Addr} {val:Value} {Cur:Nat→Heap→Prop}
 {t elt iter:Expr} {ifs:List Expr} {pos:Pos} {vs:List AV} {σf:Sig} {S₀:List Addr} {ι₀:Cel} {s:Shared}
structure Turning (T:Tabs) (B:Heap) (X:Cx) (cenv:PySem.Env) (slc:List Str) (ρ0:Env) (step:Nat→List AV→Sig→R (Option (List AV))) (src:AV) (val:Value) (own:List Addr) (Cur:Nat→Heap→Prop) (C D:Addr) (S₀:List Addr) (ι₀:Cel) (h₀:Heap) (vs:List AV) (σf:Sig)
   (n:Nat) (S:List Addr) (ι:Cel) (σ:Sig) (h:Heap) (j:Nat) (acc:List AV) (ys:List Value) (ρ₁:Env):Prop where
 rel:Rel T B X.l S ι σ h
 loc:Loc T cenv slc ρ₁ S ι h
 und:Under ρ0 ρ₁
 go:Go X.l (D :: C :: own) S₀ ι₀ h₀ S ι h
 lst:h.PlainList D ys.toArray
 racc:aH T (off S h) ι acc ys
 rsrc:au T (off S h) ι src val
 cur:Cur j h
 run:cV step n j acc σ=.ok vs σf
 room:acc.length + n≤200
end
end
section
section
variable {T:Tabs} {B:Heap} {prog:Program} {w:World} {X:Cx} {onames cn:List Str} {ρ0:Env} {ri:Env→Sig→R Bool} {re:Env→Sig→R AV} {ik:IK} {tgt:Mine.T} {src:AV} {cenv:PySem.Env} {C Dd:Addr} {own:List Addr} {I:Addr} {val:Value} {Cur:Nat→Heap→Prop}
 {t elt iter:Expr} {ifs:List Expr} {scope:Scope} {pos:Pos} {vs:List AV} {σf:Sig} {S₀:List Addr} {ι₀:Cel} {s₀:Shared} {R:Result→Shared→Prop} {σ₀:Sig}
theorem DG {N K:Shared→Prop} (hh:X.A.handled=none) (tr:Turns prog w T t ik src val I own Cur) (ht:gq onames tgt t=true) (hk:∀ n∈onames,cenv.kindOf n=some .local) (ho:∀ (i:Nat),i < onames.length→∀ a,ρ0[i]?≠some (some a))
   (hri:∀ ρ',bW T B prog w ⟨cenv,X.A,X.l⟩ (onames++cn) ρ' (forIn ifs true fun c r=>if r=true then do let ok ← isTrue c cenv (eval c cenv);pure (ForInStep.yield ok) else pure (ForInStep.yield r)) (ri ρ'))
   (hre:∀ ρ',Sat T B prog w ⟨cenv,X.A,X.l⟩ (onames++cn) ρ' (eval elt cenv) (re ρ'))
   (hC:cenv.locals=C) (R₀:Rel T B X.l S₀ ι₀ σ₀ s₀.heap) (fo:∀ b∈own,b∈S₀∧b∉cells ι₀∧b∉frs X.l∧b∉Wof cenv) (fD:Dd∈S₀∧Dd∉cells ι₀∧Dd∉frs X.l∧Dd∉Wof cenv) (fC:C∈S₀∧C∉cells ι₀∧C∉frs X.l) (hDo:Dd∉own)
   (hR:∀ h h₁ tk S ι ys ρ₁,Rel T B X.l S ι σf h→Loc T cenv (onames++cn) ρ₁ S ι h→Go X.l (Dd :: C :: own) S₀ ι₀ s₀.heap S ι h→h.PlainList Dd ys.toArray→aH T (off S h) ι vs ys→(∀ b o,b∉own→h.get? b=some o→h₁.get? b=some o)→N { s₀ with heap:=h₁,toks:=tk })
   {n:Nat} {S:List Addr} {ι:Cel} {σ:Sig} {h:Heap} {tk:Nat} {j:Nat} {acc:List AV} {ys:List Value} {ρ₁:Env}
   (hK:∀ {m S ι σ h tk j acc ys ρ₁},m < n→Turning T B X cenv (onames++cn) ρ0 (eH ri re ρ0 ik tgt src) src val own Cur C Dd S₀ ι₀ s₀.heap vs σf m S ι σ h j acc ys ρ₁→K { s₀ with heap:=h,toks:=tk })
   (st:Turning T B X cenv (onames++cn) ρ0 (eH ri re ρ0 ik tgt src) src val own Cur C Dd S₀ ι₀ s₀.heap vs σf n S ι σ h j acc ys ρ₁) :
   wpD (model prog w) X.A (pyNext (.ref I)) (wF prog w X.A t elt ifs (.ref I) (.ref Dd) cenv N K) (fun _ _=>False) { s₀ with heap:=h,toks:=tk }:=by
 have oc:∀ {a:Addr},a∈S₀→a∉cells ι₀→a∈S∧a∉cells ι:=fun m n=>st.go.off_cells R₀ m n
 have fo':∀ b∈own,b∈S∧b∉cells ι∧b∉frs X.l:=fun b m=>⟨(oc (fo b m).1 (fo b m).2.1).1,(oc (fo b m).1 (fo b m).2.1).2,(fo b m).2.2.1⟩
 obtain ⟨m,rfl,⟨hd,rfl⟩ | ⟨acc',σ',hs,hr⟩⟩:=wI st.run
 · rcases mU hd with ⟨_,e,hi⟩ | ⟨x,ρ',b,σ₁,_,_,_,⟨_,q,_⟩ | ⟨_,_,_,q⟩⟩
   · subst e
     exact D (tr.done hh st.rel st.rsrc st.cur hi fun h₁ tk₁ hk₁=>hR h h₁ tk₁ S ι ys ρ₁ st.rel st.loc st.go st.lst st.racc hk₁)
   · cases q
   · cases q
 · rcases mU hs with ⟨q,_⟩ | ⟨x,ρ',b,σ₁,hi,htg,hb,rest⟩
   · cases q
   · refine D (tr.item hh st.rel (fun b m=>(fo' b m).1) st.rsrc st.cur hi fun u h₁ tk₁ k=>D (k _ _ fun h₂ tk₂ hk₂ ru hc₂=>?_))
     obtain ⟨R₂,G₂⟩:=st.rel.owns fo' hk₂ (tr.live _ _ hc₂)
     have L₂:=st.loc.goW st.rel G₂ fun a m=>⟨(fo' a m).1,(fo a m).2.2.2⟩
     refine D (Dz hh ht hk ho R₂ L₂ st.und ru htg fun h₃ tk₃ G₃ R₃ L₃ u₃=>?_)
     rw [hC] at G₃
     refine hri ρ' R₃ L₃ ?_
     rw [hb]
     intro h₄ tk₄ S₄ ι₄ b' G₄ R₄ eb
     subst eb
     have L₄:=Loc.go L₃ R₃ G₄
     have kp₂:∀ a o,off S h a=some o→off S h₂ a=some o:=lW (fun b m=>(fo' b m).1) hk₂
     have kp₃:=G₃.phi (R₂.inW fun a m=>by rw [List.mem_singleton.mp m];exact (oc fC.1 fC.2.1).1)
     have kp₄:=G₄.phi R₃.in0
     have kp:∀ a o,off S h a=some o→off S₄ h₄ a=some o:=fun a o e=>kp₄ a o (kp₃ a o (kp₂ a o e))
     have gt:Go X.l (Dd :: C :: own) S₀ ι₀ s₀.heap S₄ ι₄ h₄:=((st.go.fresh G₂ fun a m=>.inr (by simp [m])).fresh G₃ fun a m=>.inr (by simp [List.mem_singleton.mp m])).fresh G₄ fun a m=>nomatch m
     have hDC:Dd≠C:=fun e=>fD.2.2.2 (by rw [e,← hC];exact fH cenv)
     have d1:=oc fD.1 fD.2.1
     have pl₂:h₂.PlainList Dd ys.toArray:=let ⟨k,e⟩:=st.lst;⟨k,hk₂ _ _ hDo e⟩
     have pl₄:h₄.PlainList Dd ys.toArray:=(pl₂.elim fun k e=>(⟨k,G₄.step _ _ (G₃.step _ _ e d1.2 (by simp [hDC]) fD.2.2.1) d1.2 (by simp) fD.2.2.1⟩:h₄.PlainList Dd ys.toArray))
     have cu:∀ h',(∀ b∈own,∀ o,h₂.get? b=some o→h'.get? b=some o)→Cur (j + 1) h':=fun h' k=>tr.frame _ _ _ hc₂ k
     have ow:∀ b∈own,∀ o,h₂.get? b=some o→h₄.get? b=some o:=fun b m o e=>G₄.step _ _ (G₃.step _ _ e (fo' b m).2.1 (fun q=>by rw [List.mem_singleton.mp q,← hC] at m;exact (fo _ m).2.2.2 (fH cenv)) (fo' b m).2.2) (fo' b m).2.1 (by simp) (fo' b m).2.2
     cases b with
     | false =>
       rcases rest with ⟨_,q,e⟩ | ⟨_,q,_⟩
       · cases q
         subst e
         exact hK (Nat.lt_succ_self m) ⟨R₄,L₄,u₃,gt,pl₄,st.racc.mono kp G₄.pre,au.mono kp G₄.pre _ st.rsrc,cu _ ow,hr,by have:=st.room;exact Nat.le_of_lt this⟩
       · cases q
     | true =>
       rcases rest with ⟨q,_⟩ | ⟨y,_,hy,q⟩
       · cases q
       · cases q
         refine hre ρ' R₄ L₄ ?_
         rw [hy]
         intro h₅ tk₅ S₅ ι₅ v G₅ R₅ rv
         have gt₅:=gt.fresh G₅ fun a m=>nomatch m
         have d5:=gt₅.off_cells R₀ fD.1 fD.2.1
         have d4:=gt.off_cells R₀ fD.1 fD.2.1
         have pl₅:h₅.PlainList Dd ys.toArray:=pl₄.elim fun k e=>(⟨k,G₅.step _ _ e d4.2 (by simp) fD.2.2.1⟩:h₅.PlainList Dd ys.toArray)
         refine D (wpAny_list_append_plain pl₅ (fun h₆ pl₆ hsb=>?_) ?_)
         · obtain ⟨R₆,G₆⟩:=R₅.owns (own:=[Dd]) (h':=h₆) (fun b m=>by rw [List.mem_singleton.mp m];exact ⟨d5.1,d5.2,fD.2.2.1⟩) (fun b o n e=>(hsb.2 b fun q=>n (q▸.head _)).trans e) fun b m=>by rw [List.mem_singleton.mp m];exact pl₆.elim fun k e=>⟨_,e⟩
           have k6:∀ a o,off S₅ h₅ a=some o→off S₅ h₆ a=some o:=pB d5.1 hsb
           have k5:=G₅.phi R₄.in0
           have kq:∀ a o,off S h a=some o→off S₅ h₆ a=some o:=fun a o e=>k6 a o (k5 a o (kp a o e))
           have pre:∀ (i:Nat) p,ι[i]?=some p→ι₅[i]?=some p:=fun i p e=>G₅.pre i p (G₄.pre i p e)
           refine hK (acc:=acc++[y]) (ys:=ys++[v]) (Nat.lt_succ_self m) ⟨R₆,?_,u₃,gt₅.fresh G₆ fun a m=>.inr (by simp [List.mem_singleton.mp m]),by simpa using pl₆,(st.racc.mono kq pre).append ⟨v,[],rfl,rv.mono k6 fun _ _ e=>e,rfl⟩,au.mono kq pre _ st.rsrc,cu _ fun b mb o e=>?_,hr,by have:=st.room;rw [List.length_append,List.length_singleton];exact rm0 (Nat.le_of_lt_succ this) rfl⟩
           · exact (Loc.go L₄ R₄ G₅).goW R₅ G₆ fun a m=>by rw [List.mem_singleton.mp m];exact ⟨d5.1,fD.2.2.2⟩
           · exact (hsb.2 b fun q=>hDo (q▸mb)).trans (G₅.step _ _ (ow b mb o e) (gt.off_cells R₀ (fo b mb).1 (fo b mb).2.1).2 (by simp) (fo b mb).2.2.1)
         · have:=st.room
           rw [sizeLine_eq,List.size_toArray,aH.length st.racc];exact szl (Nat.le_trans (Nat.le_add_right _ _) this) rfl
theorem Aw (hh:X.A.handled=none) (tr:Turns prog w T t ik src val I own Cur) (ht:gq onames tgt t=true) (hk:∀ n∈onames,cenv.kindOf n=some .local) (ho:∀ (i:Nat),i < onames.length→∀ a,ρ0[i]?≠some (some a))
   (hri:∀ ρ',bW T B prog w ⟨cenv,X.A,X.l⟩ (onames++cn) ρ' (forIn ifs true fun c r=>if r=true then do let ok ← isTrue c cenv (eval c cenv);pure (ForInStep.yield ok) else pure (ForInStep.yield r)) (ri ρ'))
   (hre:∀ ρ',Sat T B prog w ⟨cenv,X.A,X.l⟩ (onames++cn) ρ' (eval elt cenv) (re ρ'))
   (hC:cenv.locals=C) (R₀:Rel T B X.l S₀ ι₀ σ₀ s₀.heap) (fo:∀ b∈own,b∈S₀∧b∉cells ι₀∧b∉frs X.l∧b∉Wof cenv) (fD:Dd∈S₀∧Dd∉cells ι₀∧Dd∉frs X.l∧Dd∉Wof cenv) (fC:C∈S₀∧C∉cells ι₀∧C∉frs X.l) (hDo:Dd∉own)
   (hR:∀ h h₁ tk S ι ys ρ₁,Rel T B X.l S ι σf h→Loc T cenv (onames++cn) ρ₁ S ι h→Go X.l (Dd :: C :: own) S₀ ι₀ s₀.heap S ι h→h.PlainList Dd ys.toArray→aH T (off S h) ι vs ys→(∀ b o,b∉own→h.get? b=some o→h₁.get? b=some o)→R (.ok .next) { s₀ with heap:=h₁,toks:=tk })
   {n:Nat} {S:List Addr} {ι:Cel} {σ:Sig} {h:Heap} {tk:Nat} {j:Nat} {acc:List AV} {ys:List Value} {ρ₁:Env}
   (st:Turning T B X cenv (onames++cn) ρ0 (eH ri re ρ0 ik tgt src) src val own Cur C Dd S₀ ι₀ s₀.heap vs σf n S ι σ h j acc ys ρ₁) :
   bj (model prog w) X.A (.compLoop (.ListComp elt [⟨t,iter,ifs,0⟩] scope pos) 0 (.ref I) (.ref Dd) cenv) R { s₀ with heap:=h,toks:=tk }:=by
 refine Du (fun n s'=>∃ h tk S ι σ j acc ys ρ₁,s'={ s₀ with heap:=h,toks:=tk }∧Turning T B X cenv (onames++cn) ρ0 (eH ri re ρ0 ik tgt src) src val own Cur C Dd S₀ ι₀ s₀.heap vs σf n S ι σ h j acc ys ρ₁) ?_ n ⟨h,tk,S,ι,σ,j,acc,ys,ρ₁,rfl,st⟩
 clear st
 rintro n _ ⟨h,tk,S,ι,σ,j,acc,ys,ρ₁,rfl,st⟩
 exact DG hh tr ht hk ho hri hre hC R₀ fo fD fC hDo hR (fun hm st=>⟨_,hm,_,_,_,_,_,_,_,_,_,rfl,st⟩) st
end
end
section
section
variable {T:Tabs} {B:Heap} {prog:Program} {w:World} {X:Cx} {sl onames cn:List Str} {caps:List Nat} {ρ:Env} {ri:Env→Sig→R Bool} {re:Env→Sig→R AV} {ik:IK} {tgt:Mine.T} {src:AV} {own:List Addr} {I:Addr} {val:Value} {Cur:Nat→Heap→Prop}
 {t elt iter:Expr} {ifs:List Expr} {scope:Scope} {pos:Pos} {vs:List AV} {σf:Sig} {S₀:List Addr} {ι₀:Cel} {s₀:Shared} {σ₀:Sig}
theorem yG {i:Nat} (h:i < onames.length) (a:AV):(dY onames caps ρ)[i]?≠some (some a):=fun e=>by
 unfold dY at e
 rw [List.getElem?_append_left (by simpa using h),List.getElem?_map,List.getElem?_eq_getElem h] at e
 cases e
theorem uN {RR:Value→Addr→Result→Shared→Prop} {E:Value→Shared→Prop} (hh:X.A.handled=none) (ck:CompOk scope X.env sl onames caps cn) (ht:gq onames tgt t=true)
   (hri:∀ C ρ',bW T B prog w ⟨compEnvC scope (bL X.env scope.names []) C X.env,X.A,X.l⟩ (onames++cn) ρ' (forIn ifs true fun c r=>if r=true then do let ok ← isTrue c (compEnvC scope (bL X.env scope.names []) C X.env) (eval c (compEnvC scope (bL X.env scope.names []) C X.env));pure (ForInStep.yield ok) else pure (ForInStep.yield r)) (ri ρ'))
   (hre:∀ C ρ',Sat T B prog w ⟨compEnvC scope (bL X.env scope.names []) C X.env,X.A,X.l⟩ (onames++cn) ρ' (eval elt (compEnvC scope (bL X.env scope.names []) C X.env)) (re ρ'))
   (R₀:Rel T B X.l S₀ ι₀ σ₀ s₀.heap) (L₀:Loc T X.env sl ρ S₀ ι₀ s₀.heap) {h':Heap} {tk':Nat} (kp:dX s₀.heap h') (hown:∀ b∈own,s₀.heap.get? b=none∧∃ o,h'.get? b=some o) (tr:Turns prog w T t ik src val I own Cur)
   (rv:au T (off S₀ s₀.heap) ι₀ src val) (hc:Cur 0 h') (hrun:cV (eH ri re (dY onames caps ρ) ik tgt src) turns 0 [] σ₀=.ok vs σf)
   (hRR:∀ D C h tk S ι,Go X.l [] S₀ ι₀ s₀.heap S ι h→Rel T B X.l S ι σf h→au T (off S h) ι (.list vs) (.ref D)→C∈S→C∉cells ι→s₀.heap.get? C=none→(∃ m,h.Ns C m)→RR (.ref D) C (.ok .next) { s₀ with heap:=h,toks:=tk }) :
   wpD (model prog w) X.A (newList []) (fun acc s₃=>wpD (model prog w) X.A (newFunctionEnv scope X.env.globals (bL X.env scope.names []) [] X.env.qual none .none (some X.env)) (fun cenv s₄ =>
     bj (model prog w) X.A (.compStart (.ListComp elt [⟨t,iter,ifs,0⟩] scope pos) 0 (.ref I) acc { cenv with scope:=relabel scope X.env }) (RR acc cenv.locals) s₄) E s₃) E { s₀ with heap:=h',toks:=tk' }:=by
 refine D (wpAny_newObj_type (D (wpAny_newFunctionEnv ck.nocell (by intro y hy;simp at hy) (fun h₂ hns hsb=>?_) ck.kind)))
 dsimp only at hns hsb ⊢
 generalize hH:h'.push { cls:=.type "list",dict:=none,data:=.seq ([]:List Value).toArray }=H at hns hsb ⊢
 have hz:H.objs.size=h'.objs.size + 1:=by rw [← hH,Heap.size_push]
 have hDC:h'.objs.size≠H.objs.size:=by rw [hz];exact Nat.ne_of_lt (Nat.lt_succ_self _)
 have below:∀ {b o},h'.get? b=some o→b≠H.objs.size∧b≠h'.objs.size:=fun e=>by
   have hb:=Heap.lt_size e
   exact ⟨by rw [hz];exact Nat.ne_of_lt (Nat.lt_succ_of_lt hb),Nat.ne_of_lt hb⟩
 have old:dX h' h₂:=fun b o e=>hsb.extBut b o (below e).1 (Heap.get?_push_of_some _ (hH▸Heap.get?_push_of_some _ e))
 have hD:h₂.PlainList h'.objs.size ([]:List Value).toArray:=⟨0,hsb.extBut _ _ hDC (Heap.get?_push_of_some _ (hH▸Heap.get?_push_size _ rfl))⟩
 have nw:∀ {a},h'.get? a=none→s₀.heap.get? a=none:=fun e=>none_of fun o q=>by rw [kp _ _ q] at e;cases e
 have nD:s₀.heap.get? h'.objs.size=none:=nw (Heap.get?_none_of_le (Nat.le_refl _))
 have nC:s₀.heap.get? H.objs.size=none:=nw (Heap.get?_none_of_le (by rw [hz];exact Nat.le_succ _))
 have hNn:∀ a∈h'.objs.size :: H.objs.size :: own,s₀.heap.get? a=none:=fun a m=>by
   rcases List.mem_cons.mp m with rfl | m
   · exact nD
   · rcases List.mem_cons.mp m with rfl | m
     · exact nC
     · exact (hown a m).1
 have hNl:∀ a∈h'.objs.size :: H.objs.size :: own,∃ o,h₂.get? a=some o:=fun a m=>by
   rcases List.mem_cons.mp m with rfl | m
   · exact hD.elim fun k e=>⟨_,e⟩
   · rcases List.mem_cons.mp m with rfl | m
     · exact cT hns
     · refine o10 ((hown a m).2) fun o e=>?_;exact ⟨o,old _ _ e⟩
 have all:dX s₀.heap h₂:=fun b o e=>old b o (kp b o e)
 refine o01 (R₀.back (fun a o e _=>all a o e) (fun a m _ e=>e.keeps all) (h'.objs.size :: H.objs.size :: own) hNn hNl) fun R₂ G₂=>?_
 have L₂:=L₀.go R₀ G₂
 have nS:∀ {a},s₀.heap.get? a=none→a∉S₀:=fun e q=>by refine o10 (R₀.live _ q) fun o e'=>?_;rw [e] at e';cases e'
 have nfr:∀ {a},s₀.heap.get? a=none→a∉frs X.l:=fun e q=>nS e (R₀.frS q).1
 have nce:∀ {a},s₀.heap.get? a=none→a∉cells ι₀:=fun e q=>nS e (R₀.sub _ q)
 have nW:∀ {a},s₀.heap.get? a=none→a≠H.objs.size→a∉Wof (compEnvC scope (bL X.env scope.names []) H.objs.size X.env):=fun e n q=>by
   rcases List.mem_cons.mp q with q | q
   · exact n q
   · obtain ⟨y,hy,rfl⟩:=List.mem_map.mp q
     exact nS e (L₀.own _ (gP ((ck.cl L₀).2.1.cell y.1 y.2 hy))).1
 have Lc:=ck.locs L₂ hns ⟨List.mem_append_right _ (by simp),nce nC⟩
 have cu:Cur 0 h₂:=tr.frame _ _ _ hc fun b _ o e=>old b o e
 have hno:∀ b∈own,b≠h'.objs.size∧b≠H.objs.size:=fun b m=>by refine o10 ((hown b m).2) fun o e=>?_;exact ⟨(below e).2,(below e).1⟩
 refine Aq (env:=compEnvC scope (bL X.env scope.names []) H.objs.size X.env) (fun q=>tr.self hh cu q) ?_
 refine Aw (s₀:={ s₀ with heap:=h₂ }) (C:=H.objs.size) hh tr ht (fun n m=>ck.kindOf_own m) (fun i hi a=>yG hi a) (hri _) (hre _) rfl R₂
   (fun b m=>⟨List.mem_append_right _ (by simp [m]),nce (hown b m).1,nfr (hown b m).1,nW (hown b m).1 (hno b m).2⟩) ⟨List.mem_append_right _ (by simp),nce nD,nfr nD,nW nD hDC⟩ ⟨List.mem_append_right _ (by simp),nce nC,nfr nC⟩ (fun q=>(hno _ q).1 rfl) ?_
   (n:=turns) (ys:=[]) (acc:=[]) ⟨R₂,Lc,Under.refl _,Go.refl ..,hD,rfl,au.mono (G₂.phi R₀.in0) G₂.pre _ rv,cu,hrun,by decide⟩
 intro h h₁ tk S ι ys ρ₁ Rf Lf Gf pf rf hk
 have G:=G₂.fresh Gf fun a m=>.inl (hNn a m)
 have hsub:∀ b∈own,b∈h'.objs.size :: own:=fun b m=>List.mem_cons_of_mem _ m
 have hN2:∀ b∈h'.objs.size :: own,b∈h'.objs.size :: H.objs.size :: own:=fun b m=>by
   rcases List.mem_cons.mp m with rfl | m<;>simp [*]
 have oc:∀ b∈h'.objs.size :: H.objs.size :: own,b∈S∧b∉cells ι:=fun b m=>Gf.off_cells R₂ (List.mem_append_right _ m) (nce (hNn b m))
 refine o01 (Rf.less (own:=own) (N:=h'.objs.size :: own) (h':=h₁) (fun b m=>(oc b (hN2 b (hsub b m))).1) hsub (fun b m=>⟨(oc b (hN2 b m)).2,nfr (hNn b (hN2 b m))⟩) hk) fun R' k'=>?_
 have G':=G.less (N:=h'.objs.size :: own) (own:=own) (h₂:=h₁) R₀.live (fun b m=>hNn b (hN2 b m)) hsub hk
 have hCo:H.objs.size∉own:=fun q=>(hno _ q).2 rfl
 refine hRR _ _ h₁ tk _ ι G' R' ?_ (dD.mpr ⟨(oc H.objs.size (by simp)).1,fun q=>?_⟩) (oc H.objs.size (by simp)).2 nC ?_
 · refine o10 pf fun k e=>?_
   exact ⟨_,ys,rfl,⟨_,aA.mpr ⟨fun q=>(dD.mp q).2 (by simp),hk _ _ (fun q=>(hno _ q).1 rfl) e⟩,rfl,k,rfl⟩,rf.mono k' fun _ _ e=>e⟩
 · rcases List.mem_cons.mp q with q | q
   · exact hDC q.symm
   · exact hCo q
 · refine o11 Lf.ns fun m hm _=>?_
   refine o31 hm fun o es ep e r=>?_
   exact ⟨m,o,es,ep,hk _ _ hCo e,r⟩
end
end
section
section
variable {T:Tabs} {B:Heap} {prog:Program} {w:World} {X:Cx} {sl:List Str} {ρ:Env}
noncomputable def lr (T:Tabs) (B:Heap) (prog:Program) (w:World) (X:Cx) (sl:List Str) (ρ:Env) (tg:Expr) (it:Expr) (ik:IK) (r:Sig→R AV):Prop :=
 ∀ {S:List Addr} {ι:Cel} {σ:Sig} {s:Shared} {Q:Value→Shared→Prop} {E:Value→Shared→Prop} {α:Type} {f:AV→Sig→R α} {β:Type} {P:List Addr→Cel→Heap→α→β→Prop} {Q':β→Shared→Prop} {W:List Addr},Rel T B X.l S ι σ s.heap→Loc T X.env sl ρ S ι s.heap →
   (∀ src σ',f src σ'≠.stuck→∃ o,aU σ' ik src 0=some o) →
   aF T B X.l W S ι s P Q' E ((r σ).bind f) →
   (∀ src σ' S₁ ι₁ h₁ tk₁,r σ=.ok src σ'→Go X.l [] S ι s.heap S₁ ι₁ h₁→Rel T B X.l S₁ ι₁ σ' h₁→aF T B X.l W S₁ ι₁ { s with heap:=h₁,toks:=tk₁ } P Q' E (f src σ') →
     lX prog w T S₁ ι₁ tg ik src { s with heap:=h₁,toks:=tk₁ } Q) →
   wpD (model prog w) X.A (eval it X.env) (fun xv s₁=>wpD (model prog w) X.A (pyIter xv) Q E s₁) E s
theorem Ht (hh:X.A.handled=none) {tg it:Expr} {r:Sig→R AV} (h:Sat T B prog w X sl ρ (eval it X.env) r):lr T B prog w X sl ρ tg it .of r:=by
 intro S ι σ s Q E α f β P Q' W R L hf p k
 refine h R L (aF.bindE p fun z σ₁ e h₁ tk₁ S₁ ι₁ v G₁ R₁ r₁ p₁=>?_)
 obtain ⟨o,ho⟩:=hf z σ₁ fun q=>by rw [q] at p₁;exact p₁
 exact D (qu hh R₁ r₁ ho (k z σ₁ S₁ ι₁ h₁ tk₁ e G₁ R₁ p₁))
theorem rP {tg func e:Expr} {nm:String} {ik:IK} {pos:Pos} {r:Sig→R AV} (hna:∀ o n p,func≠.Attribute o n p) (hst:notStar e=true) (hf:jt T B prog w X sl ρ func (.type nm))
   (hs:∀ {S:List Addr} {ι:Cel} {σ:Sig} {s:Shared} {Q E:Value→Shared→Prop} {src:AV} {v:Value} {o:Option AV},Rel T B X.l S ι σ s.heap→au T (off S s.heap) ι src v→aU σ ik src 0=some o→lX prog w T S ι tg ik src s Q →
     wpAny (model prog w) X.A (call (.type nm) [v]) (fun xv s₁=>wpAny (model prog w) X.A (pyIter xv) Q E s₁) E s)
   (h:Sat T B prog w X sl ρ (eval e X.env) r):lr T B prog w X sl ρ tg (.Call func [e] [] pos) ik r:=by
 intro S ι σ s Q E α f β P Q' W R L hf' p k
 have e':eval (.Call func [e] [] pos) X.env=(do callWith pos (← eval func X.env) [] (backTo pos (starEach [e] X.env)) (backToKw pos (keywordEach [] X.env))):=by
   cases func<;>first | rfl | exact absurd rfl (hna _ _ _)
 refine re e' (re (bT (by simp [hst])) ?_)
 refine az (hf R L ?_)
 refine dq (P:=fun _=>True) (plain_any _) (fun h _=>yZ h) ?_
 show wpD _ _ (spliced [(false,eval e X.env)]) _ _ _
 rw [spliced]
 refine aa (h R L (aF.bindE p fun z σ₁ ee h₁ tk₁ S₁ ι₁ v G₁ R₁ r₁ p₁=>?_))
 refine aa (aj (aa (ao ?_)))
 rw [spliced]
 obtain ⟨o,ho⟩:=hf' z σ₁ fun q=>by rw [q] at p₁;exact p₁
 refine aj (aj ⟨trivial,D (wpAny_mono (hs R₁ r₁ ho (k z σ₁ S₁ ι₁ h₁ tk₁ ee G₁ R₁ p₁)) (fun xv s₁ q=>D q) fun _ _ x=>x)⟩)
theorem iU {ri:Env→Sig→R Bool} {re:Env→Sig→R AV} {ρ0:Env} {ik:IK} {tgt:Mine.T} {src:AV} {σ:Sig} {α:Type} {g:List AV→Sig→R α} (h:(cV (eH ri re ρ0 ik tgt src) turns 0 [] σ).bind g≠.stuck):∃ vs σf,cV (eH ri re ρ0 ik tgt src) turns 0 [] σ=.ok vs σf∧∃ o,aU σ ik src 0=some o:=by
 have ne:∀ n j acc σ c σ',cV (eH ri re ρ0 ik tgt src) n j acc σ≠.err c σ':=by
   intro n
   induction n with
   | zero=>intro j acc σ c σ' q;cases q
   | succ n ih =>
     intro j acc σ c σ' q
     unfold cV at q
     split at q
     · exact ih _ _ _ _ _ q
     · cases q
     · cases q
     · cases q
 cases e:cV (eH ri re ρ0 ik tgt src) turns 0 [] σ with
 | err c σ'=>exact absurd e (ne _ _ _ _ _ _)
 | stuck=>rw [e] at h;exact absurd rfl h
 | ok vs σf =>
   refine ⟨vs,σf,rfl,?_⟩
   obtain ⟨m,_,⟨hd,_⟩ | ⟨acc',σ',hs,_⟩⟩:=wI e
   · rcases mU hd with ⟨_,_,hi⟩ | ⟨x,_,_,_,hi,_⟩<;>exact ⟨_,hi⟩
   · rcases mU hs with ⟨_,_,hi⟩ | ⟨x,_,_,_,hi,_⟩<;>exact ⟨_,hi⟩
end
end
section
section
variable {T:Tabs} {B:Heap} {prog:Program} {w:World} {X:Cx} {sl onames cn:List Str} {caps:List Nat} {ρ:Env} {ri:Env→Sig→R Bool} {re:Env→Sig→R AV} {r:Sig→R AV} {ik:IK} {tgt:Mine.T} {t elt iter:Expr} {ifs:List Expr} {scope:Scope} {pos:Pos}
noncomputable abbrev cJ (scope:Scope) (X:Cx) (C:Addr):PySem.Env:=compEnvC scope (bL X.env scope.names []) C X.env
noncomputable def eX (ifs:List Expr) (env:PySem.Env):Sem Bool:=forIn ifs true fun c r=>if r=true then do let ok ← isTrue c env (eval c env);pure (ForInStep.yield ok) else pure (ForInStep.yield r)
theorem Hu (hh:X.A.handled=none) (ck:CompOk scope X.env sl onames caps cn) (ht:gq onames tgt t=true) (hfs:∀ x,foldedSetIterable iter X.env x=pure x)
   (hri:∀ C ρ',bW T B prog w ⟨cJ scope X C,X.A,X.l⟩ (onames++cn) ρ' (eX ifs (cJ scope X C)) (ri ρ'))
   (hre:∀ C ρ',Sat T B prog w ⟨cJ scope X C,X.A,X.l⟩ (onames++cn) ρ' (eval elt (cJ scope X C)) (re ρ'))
   (hit:lr T B prog w X sl ρ t iter ik r) :
   Sat T B prog w X sl ρ (eval (.ListComp elt [⟨t,iter,ifs,0⟩] scope pos) X.env) (fun σ=>(r σ).bind fun src σ=>(cV (eH ri re (dY onames caps ρ) ik tgt src) turns 0 [] σ).bind fun vs σ=>.ok (.list vs) σ):=by
 intro S ι σ s Q E R L p
 rw [eval_ListComp]
 refine Jy (use:=none) rfl hfs (ck.cl L).1 ck.kind ck.loc ?_
 refine hit R L (fun src σ' q=>by refine o21 (iU q) fun _ _ _ h=>?_;exact h) p fun src σ₁ S₁ ι₁ h₁ tk₁ e G₁ R₁ p₁=>?_
 refine o21 (iU (fun q=>by rw [q] at p₁;exact p₁)) fun vs σf hrun _=>?_
 rw [hrun] at p₁
 intro h' tk' I own Cur val kp hown tr rv hc
 refine uN (s₀:={ s with heap:=h₁,toks:=tk₁ }) (RR:=fun acc C=>oM (model prog w) X.A E none Q acc C) hh ck ht hri hre R₁ (L.go R G₁) kp hown tr rv hc hrun fun Dd C h tk S₂ ι₂ G R₂ rd hC hCc hn hm=>?_
 refine o10 hm fun m hm=>?_
 refine ⟨m,hm,fun h'' hsb hm'=>?_⟩
 have hfr:C∉frs X.l:=fun q=>by refine o10 (R₁.live _ (R₁.frS q).1) fun o e=>?_;rw [hn] at e;cases e
 refine o01 (R₂.own (W:=[C]) hC hCc (by simp) hsb (hm'.elim fun _ x=>cT x) fun q=>absurd q hfr) fun R₃ G₃=>?_
 exact p₁ h'' tk S₂ ι₂ _ (G.fresh G₃ fun a ma=>.inl (by rw [List.mem_singleton.mp ma];exact hn)) R₃ (rd.mono (pB hC hsb) fun _ _ e=>e)
end
end
section
section
variable {T:Tabs} {B:Heap} {prog:Program} {w:World} {X:Cx} {sl onames cn:List Str} {caps:List Nat} {ρ:Env} {ri:Env→Sig→R Bool} {re:Env→Sig→R AV} {r:Sig→R AV} {ik:IK} {tgt:Mine.T} {t elt iter:Expr} {ifs:List Expr} {scope:Scope} {pos spos:Pos}
theorem wJ (hh:X.A.handled=none) (ck:CompOk scope X.env sl onames caps cn) (ht:gq onames tgt t=true) (hfs:∀ x,foldedSetIterable iter X.env x=pure x)
   (hri:∀ C ρ',bW T B prog w ⟨cJ scope X C,X.A,X.l⟩ (onames++cn) ρ' (eX ifs (cJ scope X C)) (ri ρ'))
   (hre:∀ C ρ',Sat T B prog w ⟨cJ scope X C,X.A,X.l⟩ (onames++cn) ρ' (eval elt (cJ scope X C)) (re ρ'))
   (hit:lr T B prog w X sl ρ t iter ik r) {x:Nat} {id:Str} {py:Pos} (hx:sl[x]?=some id)
   (hsw:swapsWith (.ListComp elt [⟨t,iter,ifs,0⟩] scope pos) (some (.Name id py)) spos.line X.env=pure true) :
   cO T B prog w X sl ρ (exec (.Assign [.Name id py] (.ListComp elt [⟨t,iter,ifs,0⟩] scope pos) spos) X.env)
     (fun σ=>((r σ).bind fun src σ=>(cV (eH ri re (dY onames caps ρ) ik tgt src) turns 0 [] σ).bind fun vs σ=>.ok (.list vs) σ).bind fun v σ=>if x < ρ.length then .ok (.nxt (ρ.set x (some v))) σ else .stuck):=by
 intro S ι σ s Q E R L p
 rw [exec_Assign_Name_used _ _ _ _ hsw]
 refine aa (aq (aa ?_))
 show wpD _ X.A (do let _ ← comprehension (.ListComp elt [⟨t,iter,ifs,0⟩] scope pos) scope X.env _ (newList []) false (eval iter X.env) (some (assign (.Name id py) X.env))) _ _ s
 refine aa (aV (Jy (use:=some (assign (.Name id py) X.env)) (Q:=fun _ s'=>Q .next s') rfl hfs (ck.cl L).1 ck.kind ck.loc ?_) (fun _ s' hq=>aj (aj hq)) fun _ _ e=>e)
 have p':Ah T B X sl S ι s Q E ((r σ).bind fun src σ=>(cV (eH ri re (dY onames caps ρ) ik tgt src) turns 0 [] σ).bind fun vs σ=>if x < ρ.length then .ok (.nxt (ρ.set x (some (.list vs)))) σ else .stuck):=by
   dsimp only at p
   cases e:r σ with
   | err=>rw [e] at p;exact p
   | stuck=>rw [e] at p;exact p
   | ok src σ₁ =>
     rw [e] at p
     simp only [Mine.R.bind] at p ⊢
     cases e2:cV (eH ri re (dY onames caps ρ) ik tgt src) turns 0 [] σ₁ with
     | err=>rw [e2] at p;exact p
     | stuck=>rw [e2] at p;exact p
     | ok vs σ₂=>rw [e2] at p;exact p
 refine hit R L (fun src σ' q=>by refine o21 (iU q) fun _ _ _ h=>?_;exact h) p' fun src σ₁ S₁ ι₁ h₁ tk₁ e G₁ R₁ p₁=>?_
 refine o21 (iU (fun q=>by rw [q] at p₁;exact p₁)) fun vs σf hrun _=>?_
 rw [hrun] at p₁
 intro h' tk' I own Cur val kp hown tr rv hc
 have L₁:=L.go R G₁
 refine uN (s₀:={ s with heap:=h₁,toks:=tk₁ }) (RR:=fun acc C=>oM (model prog w) X.A E (some (assign (.Name id py) X.env)) (fun _ s'=>Q .next s') acc C) hh ck ht hri hre R₁ L₁ kp hown tr rv hc hrun fun Dd C h tk S₂ ι₂ G R₂ rd hC hCc hn hm=>?_
 refine o10 hm fun m hm=>?_
 have L₂:=L₁.go R₁ G
 have hfr:C∉frs X.l:=fun q=>by refine o10 (R₁.live _ (R₁.frS q).1) fun o e=>?_;rw [hn] at e;cases e
 have hW:C∉Wof X.env:=fun q=>by refine o10 (R₁.live _ (L₁.own C q).1) fun o e=>?_;rw [hn] at e;cases e
 simp only [Mine.R.bind] at p₁
 split at p₁
 · refine aa (aq (D (jU R₂ L₂ hx (iz _ id) rd fun h₃ tk₃ G₃ R₃ L₃=>?_)))
   refine o31 hm fun o es ep ho hr=>?_
   refine ⟨m,⟨o,es,ep,G₃.step _ _ ho hCc hW hfr,hr⟩,fun h₄ hsb hm'=>?_⟩
   refine o01 (R₃.own (W:=[C]) (G₃.sub _ hC) (G₃.off_cells R₂ hC hCc).2 (by simp) hsb (hm'.elim fun _ x=>cT x) fun q=>absurd q hfr) fun R₄ G₄=>?_
   refine p₁ h₄ tk₃ S₂ ι₂ .next ((G.wide.trans G₃).fresh G₄ fun a ma=>.inl (by rw [List.mem_singleton.mp ma];exact hn)) R₄ ⟨rfl,L₃.goW R₃ G₄ fun a ma=>by rw [List.mem_singleton.mp ma];exact ⟨hC,hW⟩⟩
 · exact p₁.elim
theorem yH:bW T B prog w X sl ρ (eX [] X.env) (fun σ=>.ok true σ):=by
 intro S ι σ s Q E R L p
 exact aj (tG R p)
theorem yI {c:Expr} {rt:Sig→R AV} (h:bW T B prog w X sl ρ (isTrue c X.env (eval c X.env)) (tst rt)) :
   bW T B prog w X sl ρ (eX [c] X.env) (fun σ=>(rt σ).bind fun v σ=>match truthy v with | some true=>.ok true σ | some false=>.ok false σ | none=>.stuck):=by
 intro S ι σ s Q E R L p
 unfold eX
 refine re (List.forIn_cons ..) ?_
 have e:((rt σ).bind fun x σ=>match truthy x with | some true=>.ok true σ | some false=>.ok false σ | none=>.stuck)=tst rt σ:=by
   unfold tst
   cases rt σ with
   | ok v σ' =>
     simp only [Mine.R.bind]
     cases truthy v with
     | none=>rfl
     | some c=>cases c<;>rfl
   | err=>rfl
   | stuck=>rfl
 (try dsimp only at p);rw [e] at p
 refine aa (aa (h R L ?_))
 cases e2:tst rt σ with
 | err c σ'=>rw [e2] at p;exact p
 | stuck=>rw [e2] at p;exact p
 | ok b σ' =>
   rw [e2] at p
   intro h' tk' S' ι' v G R' ev
   exact aj (aj (p h' tk' S' ι' v G R' ev))
end
end
section
noncomputable def wK (env:PySem.Env) (x:Value):Sem Unit:=do
 if (← field x 1) == .none then unsupported "frame.own-activation:exception-without-traceback"
 setFlight x env.frame
noncomputable def jC (h:Heap) (e:Addr):Prop:=∃ oe vs tb,h.get? e=some oe∧oe.data=.fields vs∧vs[1]?=some (.ref tb)
noncomputable def jM (N:List Addr) (l:List PySem.Env):Prop:=∀ x∈l,x.scope.kind≠.module∧∃ a∈N,x.frame=some a
section
variable {T:Tabs} {N:List Addr} {hr h:Heap} {e:Addr} {c:Nat}
theorem qw {a:Addr} {o:Obj}:(hideAll hr N).get? a=some o→hr.get? a=some o∧a∉N:=fun q =>
 ⟨of_hideAll _ q,fun m=>by rw [hideAll_none _ m] at q;cases q⟩
theorem DK {a:Addr} (q:hr.get? a=none):(hideAll hr N).get? a=none:=none_of fun o e=>by rw [(qw e).1] at q;cases q
theorem zc {a:Addr} {m:Str→Option Value} (x:h.Ns a m):∃ o,h.get? a=some o∧∀ vs,o.data≠.fields vs:=by
 refine o32 x fun o es ep ho hd r=>?_
 exact ⟨o,ho,fun vs q=>by rw [hd] at q;cases q⟩
theorem Fly.stays (F:Fly T N hr h e c):(hideAll hr N).StaysIn h:=fun b o q=>F.keep b o (qw q).1 (qw q).2
theorem Fly.frames (F:Fly T N hr h e c):∀ {l:List PySem.Env},jM N l→h.FunFrames (hideAll hr N) l
 | [],_=>trivial
 | x :: r,q=>by
   obtain ⟨k,a,m,ha⟩:=q x (by simp)
   refine o10 (F.isNs a m) fun f hf=>?_
   refine o11 (zc (F.frm a f hf m)) fun o ho hd=>?_
   exact ⟨k,⟨a,o,ha,hideAll_none _ m,ho,hd⟩,Fly.frames F fun y z=>q y (List.mem_cons_of_mem _ z)⟩
theorem Nv {fl a0:Value} {l:List PySem.Env} {h':Heap} (F:Fly T N hr h e c) (n:Heap.NotedW (hideAll hr N) l e (.ref (T.ea c)) a0 fl h h') (hne:∀ t,(hideAll hr N).get? t=none→hr.get? t=none∨∃ o,h.get? t=some o∧∀ vs,o.data≠.fields vs)
  :Fly T N hr h' e c∧jC h' e:=by
 obtain ⟨k1,k2,⟨oe,vs,tb,oT,ts,he,hc,hd,h1,hnT,hTe,hT,hdT,h3⟩,k4⟩:=n
 refine ⟨⟨fun a o q n=>k1 a o (hideAll_get _ q n),fun a m q n=>Heap.UpToSlots.ns k4 (F.frm a m q n),F.isNs,F.new,oe,vs,he,hc.1,hd,.inr ⟨tb,oT,ts,h1,?_,hTe,hT,hdT,(Array.getElem?_eq_some_iff.mp h3).1⟩⟩,oe,vs,tb,he,hd,h1⟩
 rcases hne tb hnT with q | ⟨o,q,hd'⟩
 · exact q
 · obtain ⟨sl,hs⟩:=k4 tb o q hd'
   rw [hs] at hT
   cases hT
   exact absurd hdT (hd' ts)
theorem Hv (F:Fly T N hr h e c) (t:Addr) (q:(hideAll hr N).get? t=none):hr.get? t=none∨∃ o,h.get? t=some o∧∀ vs,o.data≠.fields vs:=by
 cases z:hr.get? t with
 | none=>exact .inl rfl
 | some o =>
   by_cases m:t∈N
   · refine o10 (F.isNs t m) fun f hf=>?_
     exact .inr (zc (F.frm t f hf m))
   · rw [hideAll_get _ z m] at q;cases q
end
section
variable {T:Tabs} {M:Model} {A:Around} {E:Value→Shared→Prop} {s:Shared} {Q:Unit→Shared→Prop} {N:List Addr} {hr:Heap} {e L:Addr} {c:Nat} {env:PySem.Env} {outer:List PySem.Env}
theorem uO {oe:Obj} {vs:Array Value} {head:Value} {hadNext:Bool} (hfr:A.frames=some (env :: outer)) (hf:env.frame=some L) (hl:jM N (env :: outer)) (F:Fly T N hr s.heap e c)
   (he:s.heap.get? e=some oe) (hc:oe.cls=.ref (T.ea c)) (hd:oe.data=.fields vs) (hsz:1 < vs.size) (h:∀ h',Fly T N hr h' e c→jC h' e→Q () { s with heap:=h' }) :
   wpAny M A (do let a ← frameOf env;let pl ← entryPlaceOf L hadNext;let b ← EntryCells.newEntry head a .none (rawInt L) .none pl;setField (.ref e) 1 b) Q E s:=by
 refine wpAny_entryW (a0:=vs[0]'(by exact Nat.le_of_lt hsz)) hfr (F.frames hl) hf he F.stays (DK F.new) hd hsz (by simp) fun h' n=>?_
 rw [hc] at n
 refine o01 (Nv F n (Hv F)) fun F' n'=>?_
 exact h h' F' n'
theorem Fly.turnT {h':Heap} {tb:Addr} {oe oT:Obj} {vs ts:Array Value} {v:Value} (F:Fly T N hr s.heap e c) (he:s.heap.get? e=some oe) (hd:oe.data=.fields vs) (hT:s.heap.get? tb=some oT) (hdT:oT.data=.fields ts) (hn:hr.get? tb=none) (h1:vs[1]?=some (.ref tb)) (hte:tb≠e) (hc:oe.cls=.ref (T.ea c)) (hsz:3 < ts.size) :
   Fly T N hr (s.heap.update tb (Obj.mapFields (·.setIfInBounds 3 v))) e c:=by
 have other:∀ b,b≠tb→(s.heap.update tb (Obj.mapFields (·.setIfInBounds 3 v))).get? b=s.heap.get? b:=fun b hb=>Heap.get?_update_other _ _ (Ne.symm hb)
 have hT':=Heap.get?_update_self (Obj.mapFields (·.setIfInBounds 3 v)) hT (Obj.isFreed_of_fields (Obj.data_mapFields hdT _))
 refine ⟨fun a o q n=>(other a fun z=>by rw [z,hn] at q;cases q).trans (F.keep a o q n),fun a m q n=>?_,F.isNs,F.new,oe,vs,(other e hte.symm).trans he,hc,hd,.inr ⟨tb,_,_,h1,hn,hte,hT',Obj.data_mapFields hdT _,by simpa using hsz⟩⟩
 refine o31 (F.frm a m q n) fun o es ep ho r=>?_
 refine ⟨o,es,ep,(other a fun z=>?_).trans ho,r⟩
 refine o10 (cT q) fun o' e'=>?_
 rw [z,hn] at e';cases e'
theorem qy (hfr:A.frames=some (env :: outer)) (hl:jM N (env :: outer)) (F:Fly T N hr s.heap e c) (h:∀ h',Fly T N hr h' e c→jC h' e→Q () { s with heap:=h' }) :
   wpAny M A (noteFrame (.ref e) env) Q E s:=by
 obtain ⟨_,L,mL,hf⟩:=hl env (by simp)
 obtain ⟨oe,vs,he,hc,hd,h1 | ⟨tb,oT,ts,h1,hn,hte,hT,hdT,hsz⟩⟩:=F.exc
 · unfold noteFrame
   simp only [hf]
   refine wpAny_bind (wpAny_field he hd h1 ?_)
   refine re (if_neg (by decide)) ?_
   exact uO hfr hf hl F he hc hd (Array.getElem?_eq_some_iff.mp h1).1 h
 · unfold noteFrame
   simp only [hf]
   refine wpAny_bind (wpAny_field he hd h1 ?_)
   refine re (if_pos (show (Value.ref tb != Value.none)=true from by simp)) ?_
   refine wpAny_bind (wpAny_field hT hdT (x:=ts[3]) (by simp [hsz]) ?_)
   split
   · exact wpAny_pure (h s.heap F ⟨oe,vs,tb,he,hd,h1⟩)
   · refine wpAny_bind (wpAny_setField hT hdT hsz ?_)
     have F':=F.turnT (v:=.none) (s:=s) (h':=s.heap) he hd hT hdT hn h1 hte hc hsz
     refine uO (s:={ s with heap:=_ }) hfr hf hl F' ((Heap.get?_update_other _ _ hte).trans he) hc hd (Array.getElem?_eq_some_iff.mp h1).1 h
theorem jD {fr:Option Addr} (F:Fly T N hr s.heap e c) (n:jC s.heap e) (h:∀ h',Fly T N hr h' e c→jC h' e→Q () { s with heap:=h' }):wpAny M A (setFlight (.ref e) fr) Q E s:=by
 refine o32 n fun oe' vs' tb' he' hd' h1'=>?_
 obtain ⟨oe,vs,he,hc,hd,h1 | ⟨tb,oT,ts,h1,hn,hte,hT,hdT,hsz⟩⟩:=F.exc
 · rw [he] at he';cases he'
   rw [hd] at hd';cases hd'
   rw [h1] at h1';cases h1'
 · unfold setFlight
   refine wpAny_bind (wpAny_field he hd h1 ?_)
   refine re (if_pos (show (Value.ref tb != Value.none)=true from by simp)) ?_
   refine wpAny_setField hT hdT hsz (h _ (F.turnT (s:=s) (h':=s.heap) he hd hT hdT hn h1 hte hc hsz) ⟨oe,vs,tb,(Heap.get?_update_other _ _ hte).trans he,hd,h1⟩)
theorem uP (hfr:A.frames=some (env :: outer)) (hl:jM N (env :: outer)) (F:Fly T N hr s.heap e c) (h:∀ h',Fly T N hr h' e c→jC h' e→Q () { s with heap:=h' }) :
   wpAny M A (leaving env (.ref e)) Q E s:=by
 unfold leaving
 exact wpAny_bind (qy hfr hl F fun h' F' n=>jD (s:={ s with heap:=h' }) F' n h)
theorem Hw (F:Fly T N hr s.heap e c) (n:jC s.heap e) (h:∀ h',Fly T N hr h' e c→jC h' e→Q () { s with heap:=h' }) :
   wpAny M A (wK env (.ref e)) Q E s:=by
 refine o32 (id n) fun oe vs tb he hd h1=>?_
 refine wpAny_bind (wpAny_field he hd h1 ?_)
 refine re (if_neg (show ¬ ((Value.ref tb == Value.none)=true) from by simp)) ?_
 exact jD F n h
end
section
variable {T:Tabs} {B:Heap} {prog:Program} {w:World} {X:Cx} {sl:List Str} {ρ:Env}
theorem Rel.onStack {l:List PySem.Env} {S:List Addr} {ι:Cel} {σ:Sig} {h:Heap} {N:List Addr} (R:Rel T B l S ι σ h) (n:∀ a∈frs l,a∈N):jM N l:=fun x hx=>by
 obtain ⟨k,L,m,hL,_⟩:=R.stk x hx
 exact ⟨k,L,n L (List.mem_filterMap.mpr ⟨x,hx,hL⟩),hL⟩
theorem cI.via {l:List PySem.Env} {W S:List Addr} {ι:Cel} {s:Shared} {E E':Value→Shared→Prop} {c:Nat} {σ':Sig} (x:cI T B l W S ι s E c σ')
   (k:∀ {N:List Addr} {hr:Heap} {s':Shared} {e:Addr},jM N l→Fly T N hr s'.heap e c→(∀ h',Fly T N hr h' e c→E (.ref e) { s' with heap:=h' })→E' (.ref e) s'):cI T B l W S ι s E' c σ' :=
 fun h' tk' S' ι' hr N e g r f n1 n2=>k (r.onStack n1) f fun h'' f'=>x h'' tk' S' ι' hr N e g r f' n1 n2
noncomputable def wL (M:Model) (A:Around) (env:PySem.Env) (E:Value→Shared→Prop):Value→Shared→Prop:=fun x s' =>
 wpD M A (noteFrame x env >>= fun _=>theTreesLotGoes x) (fun _ s''=>wpD M A (wK env x) (fun _ s₃=>E x s₃) E s'') (fun _ _=>False) s'
theorem cI.noted {M:Model} {l:List PySem.Env} {A:Around} {env:PySem.Env} {outer:List PySem.Env} {W S:List Addr} {ι:Cel} {s:Shared} {E:Value→Shared→Prop} {c:Nat} {σ':Sig} (hl:l=env :: outer) (hfr:A.frames=some l) (x:cI T B l W S ι s E c σ') :
   cI T B l W S ι s (wL M A env E) c σ':=by
 subst hl
 refine x.via fun {N hr s' e} hs F k=>?_
 refine az (qy hfr hs F fun h' F' n=>D (wpAny_theTreesLotGoes (D (Hw (s:={ s' with heap:=h' }) F' n fun h'' F'' _=>k h'' F''))))
section
variable {l:List PySem.Env} {W S:List Addr} {ι:Cel} {s:Shared} {E E':Value→Shared→Prop} {α α' β β':Type} {P:List Addr→Cel→Heap→α→β→Prop} {P':List Addr→Cel→Heap→α'→β'→Prop}
   {Q:β→Shared→Prop} {Q':β'→Shared→Prop} {r:R α} {f:α→Sig→R α'}
theorem aF.bindX (x:aF T B l W S ι s P' Q' E (r.bind f)) (hE:∀ c σ',cI T B l W S ι s E c σ'→cI T B l W S ι s E' c σ')
   (k:∀ z σ',r=.ok z σ'→∀ h' tk' S' ι' v,Go l W S ι s.heap S' ι' h'→Rel T B l S' ι' σ' h'→P S' ι' h' z v→aF T B l W S' ι' { s with heap:=h',toks:=tk' } P' Q' E (f z σ')→Q v { s with heap:=h',toks:=tk' }) :
   aF T B l W S ι s P Q E' r:=by
 cases r with
 | ok z σ'=>exact fun h' tk' S' ι' v g r p=>k z σ' rfl h' tk' S' ι' v g r p (aF.later g x)
 | err c σ'=>exact hE c σ' x
 | stuck=>exact x
theorem aF.bindEX (x:aF T B l W S ι s P' Q' E (r.bind f)) (hE:∀ c σ',cI T B l W S ι s E c σ'→cI T B l W S ι s E' c σ')
   (k:∀ z σ',r=.ok z σ'→∀ h' tk' S' ι' v,Go l [] S ι s.heap S' ι' h'→Rel T B l S' ι' σ' h'→P S' ι' h' z v→aF T B l W S' ι' { s with heap:=h',toks:=tk' } P' Q' E (f z σ')→Q v { s with heap:=h',toks:=tk' }) :
   aF T B l [] S ι s P Q E' r:=by
 cases r with
 | ok z σ'=>exact fun h' tk' S' ι' v g r p=>k z σ' rfl h' tk' S' ι' v g r p (aF.later g.wide x)
 | err c σ'=>exact cI.narrow (hE c σ' x)
 | stuck=>exact x
end
noncomputable def Jz (rt:Env→Sig→R AV) (ρ:Env) (σ:Sig):R Bool:=(rt ρ σ).bind fun v σ=>R.of (truthy v) σ
theorem mV (hl:∃ outer,X.l=X.env :: outer) (hfr:X.A.frames=some X.l) {t:Expr} {b:List Stmt} {rt:Env→Sig→R AV} {rb:Env→Sig→R Fl} (ht:∀ ρ,bW T B prog w X sl ρ (isTrue t X.env (eval t X.env)) (tst (rt ρ)))
   (hb:∀ ρ,cO T B prog w X sl ρ (execs b X.env) (rb ρ)) {Q:Flow→Shared→Prop} {E:Value→Shared→Prop} :
   ∀ (n:Nat) {ρ:Env} {S:List Addr} {ι:Cel} {σ:Sig} {s:Shared},Rel T B X.l S ι σ s.heap→Loc T X.env sl ρ S ι s.heap→Ah T B X sl S ι s Q E (cF (Jz rt) rb n ρ σ) →
     bj (model prog w) X.A (.whileLoop t b [] X.env) (fun r s'=>match r with | .ok f=>Q f s' | .error e=>wpD (model prog w) X.A (wK X.env e) (fun _ s₃=>E e s₃) E s') s
 | 0,_,_,_,_,_,_,_,p=>p.elim
 | n + 1,ρ,S,ι,σ,s,R,L,p=>by
   refine o10 hl fun outer hl'=>?_
   refine bQ ?_
   show wpD _ X.A ((whileTurn t b [] X.env).onRaise (fun x=>do noteFrame x X.env;theTreesLotGoes x)) _ _ s
   refine cA (aV (E:=wL (model prog w) X.A X.env E) ?_ (fun _ _ q=>q) fun e s' q=>aV q (fun _ _ z=>z) fun _ _ z=>z.elim)
   simp only [whileTurn]
   have hE:∀ {S:List Addr} {ι:Cel} {s:Shared} c σ',cI T B X.l (Wof X.env) S ι s E c σ'→cI T B X.l (Wof X.env) S ι s (wL (model prog w) X.A X.env E) c σ':=fun c σ' x=>cI.noted hl' hfr x
   unfold cF at p
   refine aa (ht ρ R L (aF.bindEX p hE fun z σ₁ _ h₁ tk₁ S₁ ι₁ v G₁ R₁ r₁ p₁=>?_))
   subst r₁
   have L₁:=L.go R G₁
   cases hz:z with
   | false =>
     subst hz
     exact aa (aj (aj (p₁ h₁ tk₁ S₁ ι₁ _ (Go.refl ..) R₁ ⟨rfl,L₁⟩)))
   | true =>
     subst hz
     refine aa (hb ρ R₁ L₁ (aF.bindX p₁ hE fun fl σ₂ _ h₂ tk₂ S₂ ι₂ f G₂ R₂ r₂ p₂=>?_))
     cases fl with
     | nxt ρ' =>
       obtain ⟨rfl,L₂⟩:=r₂
       exact aj ⟨rfl,mV ⟨outer,hl'⟩ hfr ht hb n R₂ L₂ p₂⟩
     | cont ρ' =>
       obtain ⟨rfl,L₂⟩:=r₂
       exact aj ⟨rfl,mV ⟨outer,hl'⟩ hfr ht hb n R₂ L₂ p₂⟩
     | ret a =>
       obtain ⟨v,rfl,rv⟩:=r₂
       exact aj (p₂ h₂ tk₂ S₂ ι₂ _ (Go.refl ..) R₂ ⟨v,rfl,rv⟩)
theorem Ax (hl:∃ outer,X.l=X.env :: outer) (hfr:X.A.frames=some X.l) {t:Expr} {b:List Stmt} {pos:Pos} {rt:Env→Sig→R AV} {rb:Env→Sig→R Fl} (ht:∀ ρ,bW T B prog w X sl ρ (isTrue t X.env (eval t X.env)) (tst (rt ρ)))
   (hb:∀ ρ,cO T B prog w X sl ρ (execs b X.env) (rb ρ)) (n:Nat):cO T B prog w X sl ρ (exec (.While t b [] pos) X.env) (fun σ=>cF (Jz rt) rb n ρ σ):=by
 intro S ι σ s Q E R L p
 refine re (exec_While ..) ?_
 refine aa (aq ?_)
 refine cA (s8 ?_ (by intro x;cases x))
 refine re (Around.mark_none ..) ?_
 exact mV hl hfr ht hb n R L p
end
end
section
section
variable {T:Tabs} {B:Heap} {prog:Program} {w:World} {X:Cx} {sl:List Str} {ρ:Env}
set_option tactic.hygienic true in
theorem Ay {l:List PySem.Env} {S:List Addr} {ι:Cel} {σ:Sig} {env:PySem.Env} {A:Around} {E:Value→Shared→Prop} {Q:Unit→Shared→Prop} {s:Shared} (hh:A.handled=none) {tgt:Mine.T} {t:Expr} (ht:gq sl tgt t=true)
   (R:Rel T B l S ι σ s.heap) (L:Loc T env sl ρ S ι s.heap) {x:AV} {v:Value} (rv:au T (off S s.heap) ι x v) {ρ':Env} (e:target ρ tgt x=some ρ')
   (h:∀ h' tk',Go l (Wof env) S ι s.heap S ι h'→Rel T B l S ι σ h'→Loc T env sl ρ' S ι h'→Q () { s with heap:=h',toks:=tk' }) :
   wpAny (model prog w) A (assign t env v) Q E s:=by
 refine Dv ht (fun i id p q1 q2 hi=>?_) fun xs ts x1 p ids q1 q2 hids g=>?_
 · subst q1 q2
   refine wG e fun e=>?_
   subst e
   exact wpAny_bind (wpAny_standAt (jU R L hi (iz _ _) rv h))
 · subst q1 q2
   refine uM e fun vs q e=>?_
   subst q
   exact mH hh R L rv e hids g (fun _ m=>m) (fun id m=>iz _ id) h
theorem oN {at_:Sig→Nat→Option (Option AV)} {tgt:Mine.T} {body:Env→Sig→R Fl}:∀ (n j:Nat) {ρ:Env} {σ σ':Sig} {c:Nat},cg at_ tgt body n j ρ σ≠.err c σ'
 | 0,_,_,_,_,_,q=>by cases q
 | n + 1,j,ρ,σ,σ',c,q=>by
   unfold cg at q
   split at q
   · cases q
   · cases q
   · split at q
     · cases q
     · split at q
       · exact oN _ _ q
       · exact oN _ _ q
       · cases q
       · cases q
set_option tactic.hygienic true in
theorem qz {at_:Sig→Nat→Option (Option AV)} {tgt:Mine.T} {body:Env→Sig→R Fl} {n j:Nat} {ρ:Env} {σ σf:Sig} {fl:Fl} (e:cg at_ tgt body n j ρ σ=.ok fl σf):∃ m,n=m + 1 ∧
   ((at_ σ j=some none∧fl=.nxt ρ∧σf=σ)∨∃ x ρ₁ f₁ σ₁,at_ σ j=some (some x)∧target ρ tgt x=some ρ₁∧body ρ₁ σ=.ok f₁ σ₁ ∧
     ((∃ ρ',f₁=.nxt ρ'∧cg at_ tgt body m (j + 1) ρ' σ₁=.ok fl σf)∨(∃ ρ',f₁=.cont ρ'∧cg at_ tgt body m (j + 1) ρ' σ₁=.ok fl σf)∨∃ v,f₁=.ret v∧fl=.ret v∧σf=σ₁)):=by
 cases n with
 | zero=>cases e
 | succ m =>
   refine ⟨m,rfl,?_⟩
   unfold cg at e
   split at e
   · cases e
   · rename_i h;cases e;exact .inl ⟨h,rfl,rfl⟩
   · rename_i x h
     split at e
     · cases e
     · rename_i ρ₁ h1
       split at e
       · rename_i ρ' σ₁ h2;exact .inr ⟨x,ρ₁,_,σ₁,h,h1,h2,.inl ⟨ρ',rfl,e⟩⟩
       · rename_i ρ' σ₁ h2;exact .inr ⟨x,ρ₁,_,σ₁,h,h1,h2,.inr (.inl ⟨ρ',rfl,e⟩)⟩
       · rename_i v σ₁ h2;cases e;exact .inr ⟨x,ρ₁,_,_,h,h1,h2,.inr (.inr ⟨_,rfl,rfl,rfl⟩)⟩
       · cases e
theorem Loc.lessen {S own:List Addr} {ι:Cel} {h h':Heap} {env:PySem.Env} (L:Loc T env sl ρ S ι h) (oW:∀ b∈own,b∉Wof env) (k':∀ b o,off S h b=some o→off (less S own) h' b=some o) (hk:∀ b o,b∉own→h.get? b=some o→h'.get? b=some o) :
   Loc T env sl ρ (less S own) ι h' where
 len:=L.len
 kind:=L.kind
 own:=fun a q=>⟨dD.mpr ⟨(L.own a q).1,fun z=>oW a z q⟩,(L.own a q).2⟩
 apart:=L.apart
 nd:=L.nd
 ns:=by
   obtain ⟨m,⟨o,es,ep,ho,r⟩,hs⟩:=L.ns
   refine ⟨m,⟨o,es,ep,hk _ o (fun z=>oW _ z (fH env)) ho,r⟩,fun i x hx=>?_⟩
   rcases hs i x hx with ⟨h1,h2⟩ | ⟨h1,c,v,h2,⟨o',ho',r'⟩,h4⟩
   · exact .inl ⟨h1,h2.mono k' fun _ _ e=>e⟩
   · exact .inr ⟨h1,c,v,h2,⟨o',hk _ o' (fun z=>oW _ z (gP h2)) ho',r'⟩,h4.mono k' fun _ _ e=>e⟩
theorem Hx {ik:IK} {src:AV} {val:Value} {I:Addr} {own:List Addr} {Cur:Nat→Heap→Prop} {t:Expr} {tgt:Mine.T} {b:List Stmt} {rb:Env→Sig→R Fl} {S₀:List Addr} {ι₀:Cel} {σ₀:Sig} {h₀:Heap} {fl:Fl} {σf:Sig} {Rr:Result→Shared→Prop}
   (hh:X.A.handled=none) (tr:Turns prog w T t ik src val I own Cur) (ht:gq sl tgt t=true) (hb:∀ ρ,cO T B prog w X sl ρ (execs b X.env) (rb ρ)) (R₀:Rel T B X.l S₀ ι₀ σ₀ h₀) (L₀:∀ a∈Wof X.env,a∈S₀∧a∉cells ι₀)
   (fo:∀ b∈own,h₀.get? b=none) :
   ∀ (n:Nat) {j:Nat} {ρ:Env} {S:List Addr} {ι:Cel} {σ:Sig} {s:Shared},Rel T B X.l S ι σ s.heap→Loc T X.env sl ρ S ι s.heap→Go X.l (Wof X.env) S₀ ι₀ h₀ S ι s.heap→(∀ b∈own,b∈S∧b∉cells ι)→au T (off S s.heap) ι src val→Cur j s.heap →
     cg (fun σ j=>aU σ ik src j) tgt rb n j ρ σ=.ok fl σf →
     (∀ h' tk' S' ι' f,Go X.l (Wof X.env) S₀ ι₀ h₀ S' ι' h'→Rel T B X.l S' ι' σf h'→Jx T X.env sl S' ι' h' fl f→Rr (.ok f) { s with heap:=h',toks:=tk' }) →
     bj (model prog w) X.A (.forLoop t (.ref I) b [] X.env) Rr s:=by
 intro n
 induction n with
 | zero =>
   intro j ρ S ι σ s R L G ow rs cu e k
   refine o11 (qz e) fun m q _=>?_
   cases q
 | succ n ih =>
   intro j ρ S ι σ s R L G ow rs cu e k
   have nS:∀ {a},h₀.get? a=none→a∉S₀:=fun e q=>by refine o10 (R₀.live _ q) fun o e'=>?_;rw [e] at e';cases e'
   have ofr:∀ b∈own,b∉frs X.l:=fun b m q=>nS (fo b m) (R₀.frS q).1
   have oW:∀ b∈own,b∉Wof X.env:=fun b m q=>nS (fo b m) (L₀ b q).1
   obtain ⟨m,q,⟨hi,hfl,hσ⟩ | ⟨x,ρ₁,f₁,σ₁,hi,htg,hbd,rest⟩⟩:=qz e<;>cases q
   · subst hfl
     subst hσ
     refine bQ ?_
     show wpD _ X.A ((forTurn t (.ref I) b [] X.env).onRaise (fun x=>do noteFrame x X.env;theTreesLotGoes x)) _ _ s
     refine cA (aV (E:=fun _ _=>False) ?_ (fun _ _ q=>q) fun _ _ z=>z.elim)
     refine aa (aq (aa (cA (aV (E:=fun _ _=>False) (D (tr.done (E:=fun _ _=>False) hh R rs cu hi fun h₁ tk₁ hk=>?_)) (fun _ _ q=>q) fun _ _ z=>z.elim))))
     refine aj ⟨rfl,bQ ?_⟩
     refine o01 (R.less (own:=own) (N:=own) (h':=h₁) (fun b m=>(ow b m).1) (fun _ m=>m) (fun b m=>⟨(ow b m).2,ofr b m⟩) hk) fun R' k'=>?_
     have G':=G.less (N:=own) (own:=own) (h₂:=h₁) R₀.live fo (fun _ m=>m) hk
     show wpD _ _ ((do return Fin.done (← (execs [] X.env).onRaise (fun x=>do noteFrame x X.env;theTreesLotGoes x))):Sem Fin) _ _ _
     refine aa (cA (aj ?_))
     refine aj (k h₁ tk₁ _ ι _ G' R' ⟨rfl,L.lessen oW k' hk⟩)
   · refine bQ ?_
     show wpD _ X.A ((forTurn t (.ref I) b [] X.env).onRaise (fun x=>do noteFrame x X.env;theTreesLotGoes x)) _ _ s
     refine cA (aV (E:=fun _ _=>False) ?_ (fun _ _ q=>q) fun _ _ z=>z.elim)
     refine aa (aq (aa (cA (aV (E:=fun _ _=>False) (D (tr.item (E:=fun _ _=>False) hh R (fun b m=>(ow b m).1) rs cu hi fun u h₁ tk₁ kk=>?_)) (fun _ _ q=>q) fun _ _ z=>z.elim))))
     refine az (kk _ _ fun h₂ tk₂ hk₂ ru hc₂=>?_)
     refine o01 (R.owns (fun b m=>⟨(ow b m).1,(ow b m).2,ofr b m⟩) hk₂ (tr.live _ _ hc₂)) fun R₂ G₂=>?_
     have L₂:=L.goW R G₂ fun a m=>⟨(ow a m).1,oW a m⟩
     refine az (Ay (s:={ s with heap:=h₂,toks:=tk₂ }) hh ht R₂ L₂ ru htg fun h₃ tk₃ G₃ R₃ L₃=>?_)
     refine aa (hb ρ₁ (s:={ s with heap:=h₃,toks:=tk₃ }) R₃ L₃ ?_)
     refine re hbd ?_
     intro h₄ tk₄ S₄ ι₄ f G₄ R₄ rf
     have kp₂:∀ a o,off S s.heap a=some o→off S h₂ a=some o:=lW (fun b m=>(ow b m).1) hk₂
     have kp₃:=G₃.phi (R₂.inW fun a m=>(L₂.own a m).1)
     have kp₄:=G₄.phi (R₃.inW fun a m=>(L₃.own a m).1)
     have kp:∀ a o,off S s.heap a=some o→off S₄ h₄ a=some o:=fun a o e=>kp₄ a o (kp₃ a o (kp₂ a o e))
     have gt:Go X.l (Wof X.env) S₀ ι₀ h₀ S₄ ι₄ h₄:=((G.fresh G₂ fun a m=>.inl (fo a m)).fresh G₃ fun a m=>.inr m).fresh G₄ fun a m=>.inr m
     have ow₄:∀ b∈own,b∈S₄∧b∉cells ι₄:=fun b m=>G₄.off_cells R₃ (ow b m).1 (ow b m).2
     have cu₄:Cur (j + 1) h₄:=tr.frame _ _ _ hc₂ fun b m o e=>G₄.step _ _ (G₃.step _ _ e (ow b m).2 (oW b m) (ofr b m)) (ow b m).2 (oW b m) (ofr b m)
     have rs₄:=au.mono kp G₄.pre _ rs
     rcases rest with ⟨ρ',rfl,e'⟩ | ⟨ρ',rfl,e'⟩ | ⟨v,rfl,rfl,rfl⟩
     · obtain ⟨rfl,L₄⟩:=rf
       exact aj ⟨rfl,ih (s:={ s with heap:=h₄,toks:=tk₄ }) R₄ L₄ gt ow₄ rs₄ cu₄ e' k⟩
     · obtain ⟨rfl,L₄⟩:=rf
       exact aj ⟨rfl,ih (s:={ s with heap:=h₄,toks:=tk₄ }) R₄ L₄ gt ow₄ rs₄ cu₄ e' k⟩
     · obtain ⟨u',rfl,ru'⟩:=rf
       exact aj (k h₄ tk₄ S₄ ι₄ _ gt R₄ ⟨u',rfl,ru'⟩)
theorem Hy (hh:X.A.handled=none) {t it:Expr} {tgt:Mine.T} {ik:IK} {b:List Stmt} {pos:Pos} {r:Sig→R AV} {rb:Env→Sig→R Fl} (ht:gq sl tgt t=true) (hfs:∀ x,foldedSetIterable it X.env x=pure x) (hb:∀ ρ,cO T B prog w X sl ρ (execs b X.env) (rb ρ)) (hit:lr T B prog w X sl ρ t it ik r) (n:Nat) :
   cO T B prog w X sl ρ (exec (.For t it b [] pos) X.env) (fun σ=>(r σ).bind fun src σ=>cg (fun σ j=>aU σ ik src j) tgt rb n 0 ρ σ):=by
 intro S ι σ s Q E R L p
 show wpD _ _ (do standAt pos;let x ← foldedSetIterable it X.env (← eval it X.env);standAt it.pos;runOwn (.forLoop t (← holding [x] (pyIter x)) b [] X.env) X.env) _ _ s
 have ne:∀ src σ',cg (fun σ j=>aU σ ik src j) tgt rb n 0 ρ σ'≠.stuck→∃ fl σf,cg (fun σ j=>aU σ ik src j) tgt rb n 0 ρ σ'=.ok fl σf:=fun src σ' q=>by
   cases e:cg (fun σ j=>aU σ ik src j) tgt rb n 0 ρ σ' with
   | ok fl σf=>exact ⟨fl,σf,rfl⟩
   | err c σ''=>exact absurd e (oN _ _)
   | stuck=>exact absurd e q
 refine aa (aq ?_)
 have key:=hit (Q:=fun it' s'=>wpD (model prog w) X.A (runOwn (.forLoop t it' b [] X.env) X.env) Q E s') R L (fun src σ' q=>?_) p fun src σ₁ S₁ ι₁ h₁ tk₁ e G₁ R₁ p₁=>?_
 · refine aa (aV key (fun xv s₁ h₁=>?_) fun _ _ z=>z)
   exact aa (ut (hfs xv) (aa (aq (aa (ao h₁)))))
 · obtain ⟨fl,σf,e⟩:=ne src σ' q
   obtain ⟨m,_,⟨hi,_⟩ | ⟨x,_,_,_,hi,_⟩⟩:=qz e
   · exact ⟨_,hi⟩
   · exact ⟨_,hi⟩
 · obtain ⟨fl,σf,e⟩:=ne src σ₁ fun q=>by rw [q] at p₁;exact p₁
   rw [e] at p₁
   intro h' tk' I own Cur val kp hown tr rv hc
   have L₁:=L.go R G₁
   obtain ⟨R₂,G₂⟩:=R₁.back (h':=h') (fun a o e _=>kp a o e) (fun a m _ e=>e.keeps kp) own (fun a m=>(hown a m).1) fun a m=>(hown a m).2
   have nce:∀ b∈own,b∉cells ι₁:=fun b m q=>by obtain ⟨o,e⟩:=R₁.live _ (R₁.sub _ q);rw [(hown b m).1] at e;cases e
   refine cA (s8 ?_ (by intro x;cases x))
   refine re (Around.mark_none ..) ?_
   refine Hx hh tr ht hb R₁ (L₁.own) (fun b m=>(hown b m).1) n (s:={ s with heap:=h',toks:=tk' }) R₂ (L₁.go R₁ G₂) G₂.wide (fun b m=>⟨List.mem_append_right _ m,nce b m⟩) (au.mono (G₂.phi R₁.in0) G₂.pre _ rv) hc e fun h'' tk'' S' ι' f G R' rf=>?_
   exact p₁ h'' tk'' S' ι' f G R' rf
end
end
section
section
variable {kindOf:Str→Option NameKind}
theorem pY {x:Str}:∀ (bs:List (Str×Value)) (m:Str→Option Value),x∉bs.map (·.1)→bindL kindOf bs m x=m x
 | [],_,_=>rfl
 | (n,v) :: r,m,h=>by
   rw [List.map_cons,List.mem_cons,not_or] at h
   show bindL kindOf r _ x=m x
   refine re (pY r _ h.2) ?_
   split
   · exact if_neg h.1
   · rfl
theorem uQ {x:Str} {v:Value} (hx:kindOf x=some .local):∀ (bs:List (Str×Value)) (m:Str→Option Value),(bs.map (·.1)).Nodup→(x,v)∈bs→bindL kindOf bs m x=some v
 | [],_,_,h=>nomatch h
 | (n,u) :: r,m,nd,h=>by
   rw [List.map_cons,List.nodup_cons] at nd
   show bindL kindOf r _ x=some v
   rcases List.mem_cons.mp h with e | h
   · cases e
     refine re (pY r _ nd.1) (re (if_pos hx) ?_)
     exact if_pos rfl
   · exact uQ hx r _ nd.2 h
theorem pZ {x:Str}:∀ (bs:List (Str×Value)) (m:Str→Option Value),x∉bs.map (·.1)→bindC kindOf bs m x=m x
 | [],_,_=>rfl
 | (n,v) :: r,m,h=>by
   rw [List.map_cons,List.mem_cons,not_or] at h
   show bindC kindOf r _ x=m x
   refine re (pZ r _ h.2) ?_
   split
   · rfl
   · exact if_neg h.1
theorem uR {x:Str} {v:Value} (hx:kindOf x≠some .local):∀ (bs:List (Str×Value)) (m:Str→Option Value),(bs.map (·.1)).Nodup→(x,v)∈bs→bindC kindOf bs m x=some v
 | [],_,_,h=>nomatch h
 | (n,u) :: r,m,nd,h=>by
   rw [List.map_cons,List.nodup_cons] at nd
   show bindC kindOf r _ x=some v
   rcases List.mem_cons.mp h with e | h
   · cases e
     refine re (pZ r _ nd.1) (re (if_neg hx) ?_)
     exact if_pos rfl
   · exact uR hx r _ nd.2 h
theorem jw {x:Str}:∀ (names:List (Str×NameKind)) (n:Nat) (acc:List (Str×Addr)),(x∈acc.map (·.1)∨(x,NameKind.cell)∈names)→x∈(cellsFrom n names acc).map (·.1)
 | [],n,acc,h=>by
   rcases h with h | h
   · exact h
   · cases h
 | (y,k) :: r,n,acc,h=>by
   unfold cellsFrom
   split
   · refine jw r _ _ ?_
     rcases h with h | h
     · exact .inl (List.mem_cons_of_mem _ h)
     · rcases List.mem_cons.mp h with e | h
       · cases e;exact .inl List.mem_cons_self
       · exact .inr h
   · rename_i hk
     refine jw r _ _ ?_
     rcases h with h | h
     · exact .inl h
     · rcases List.mem_cons.mp h with e | h
       · cases e;simp at hk
       · exact .inr h
end
structure FrameOf (B:Heap) (a:Addr) (o:Obj) (fd:FuncData) (fb:FuncBody):Prop where
 get:B.get? a=some o
 data:o.data=.func fd
 body:fd.body=fb
 glob:fd.globals=mainGlobals
 bins:fd.builtins=builtinsNs
 clo:fd.closure=[]
 rec':B.CodeRec fd.code fd.qualname
structure RcOf (K:Frag) (fn:Fn) (fd:FuncData) (scope:Scope) (dv:List Value) (cd:Value) (qn:Str):Prop where
 sc:fd.scope=scope
 code:fd.code=cd
 qual:fd.qualname=qn
 bind:∀ vals:List Value,fn.ar vals.length=true→∀ S,peek K S (bindArgs fd ⟨vals,[]⟩)=some (((fn.slots.take fn.nparams).zip (vals++dv.drop (vals.length + fn.defaults.length - fn.nparams))))
structure FnIs (B:Heap) (K:Frag) (fn:Fn) (f:Addr) (body:List Stmt) (scope:Scope) (dv:List Value) (cd:Value) (qn:Str):Prop where
 rc:∃ o fd,FrameOf B f o fd (.stmts body)∧RcOf K fn fd scope dv cd qn
 kind:scope.kind=.function
 co:scope.isCoroutine=false
 gen:scope.isGenerator=false
 slots:∀ x∈fn.slots,scope.names.lookup x=some .local∨scope.names.lookup x=some .cell
 nd:fn.slots.Nodup
 np:fn.nparams≤fn.slots.length
 cnd:((cellsFrom 0 scope.names []).map (·.1)).Nodup
 dl:∀ (T:Tabs) (φ:Phi) (ι:Cel),aH T φ ι fn.defaults dv
section
variable {T:Tabs} {B:Heap} {l:List PySem.Env} {S S' W N:List Addr} {ι ι':Cel} {σ σ':Sig} {h h₁ h':Heap} {env:PySem.Env}
theorem Rel.push (R:Rel T B l S ι σ h) {L:Addr} {m:Str→Option Value} (hk:env.scope.kind≠.module) (hf:env.frame=some L) (hS:L∈S) (hc:L∉cells ι) (hn:h.Ns L m):Rel T B (env :: l) S ι σ h :=
 ⟨R.base,R.bS,R.live,R.sub,R.nodup,R.len,R.obj,fun e he=>by
   rcases List.mem_cons.mp he with rfl | he
   · exact ⟨hk,L,m,hf,hS,hc,hn⟩
   · exact R.stk e he⟩
theorem Rel.pop (R:Rel T B (env :: l) S ι σ h):Rel T B l S ι σ h:=⟨R.base,R.bS,R.live,R.sub,R.nodup,R.len,R.obj,fun e he=>R.stk e (List.mem_cons_of_mem _ he)⟩
theorem dg {L a:Addr} (hf:env.frame=some L):a∈frs (env :: l)↔a=L∨a∈frs l:=by
 unfold frs
 refine re List.filterMap_cons (re hf ?_)
 simp
theorem Go.pop {L:Addr} (hf:env.frame=some L) (x:Go l [] S ι h (S++N) ι h₁) (y:Go (env :: l) W (S++N) ι h₁ S' ι' h') (hL:h.get? L=none) (hW:∀ a∈W,h.get? a=none):Go l [] S ι h S' ι' h' where
 step:=fun a o e n w f=>y.step a o (x.step a o e n w f) n (fun m=>by rw [hW a m] at e;cases e) fun m=>by
   rcases (dg hf).mp m with rfl | m
   · rw [hL] at e;cases e
   · exact f m
 frm:=fun a m e q w=>y.frm a m (x.frm a m e q w) ((dg hf).mpr (.inr q)) fun z=>by obtain ⟨o,e⟩:=cT e;rw [hW a z] at e;cases e
 alive:=fun a o e=>let ⟨o',e'⟩:=x.alive a o e;y.alive a o' e'
 pre:=fun i p e=>y.pre i p e
 sub:=fun a m=>y.sub a (x.sub a m)
 new:=fun a m n=>by
   by_cases q:a∈S++N
   · exact x.new a q n
   · exact x.back (y.new a m q)
 cel:=fun a m n=>x.back (y.cel a m n)
end
section
variable {P:Prog} {T:Tabs} {B:Heap} {K:Frag} {prog:Program} {w:World}
noncomputable def BodyOk (T:Tabs) (B:Heap) (prog:Program) (w:World) (P:Prog) (n:Nat) (cf:Calls) (fn:Fn) (body:List Stmt) (scope:Scope) (cd:Value) (qn:Str):Prop :=
 ∀ X:Cx,X.env.scope=scope→X.env.code=cd→X.env.qual=qn++".<locals>."→X.Env→X.Ok n→X.A.depth + 4 * n≤901→X.A.units + 32 * n≤9003→(∃ outer,X.l=X.env :: outer)→∀ ρ,cO T B prog w X fn.slots ρ (execs body X.env) (fun σ=>exs P cf fn.body ρ σ)
noncomputable def QF:Fl→Sig→R AV:=fun fl σ=>match fl with
 | .ret v=>.ok v σ
 | .nxt _=>.ok .none σ
 | .cont _=>.stuck
theorem eZ {A:Around} {R:Result→Shared→Prop} {s:Shared} {a:Addr} {args:Args} {o:Obj} {fd:FuncData} {body:List Stmt} (hroom:A.depth < recursionLimit)
   (ho:s.heap.get? a=some o) (hd':o.data=.func fd) (hco:fd.scope.isCoroutine=false) (hgen:fd.scope.isGenerator=false) (hbody:fd.body=.stmts body) (hcd:s.heap.CodeRec fd.code fd.qualname)
   (h:wpAny (model prog w) A.in1 (bindArgs fd args) (fun binds s₁ =>
     wpAny (model prog w) A.in1 (newFunctionEnv fd.scope fd.globals fd.closure binds (fd.qualname++".<locals>.") (some a) fd.code none fd.builtins)
       (fun env s₂=>s₂.heap.NoLimit∧bj (model prog w) A (.func body env) R s₂) (fun e s'=>R (.error e) s') s₁) (fun e s'=>R (.error e) s') s) :
   bj (model prog w) A (.call (.ref a) args) R s:=by
 refine bQ (D ?_)
 show wpAny _ A.in1 (callAny (.ref a) args) _ _ s
 refine wpAny_bind (wpAny_load ho ?_)
 refine o43 hcd fun c oc vs tq hc hoc hdc hq=>?_
 simp only [hd',callFunction,hco,hgen,hbody,hc]
 rw [hc] at h
 refine wpAny_bind (m:=field (.ref c) 1) (wpAny_field hoc hdc hq (wpAny_bind (wpAny_pure ?_)))
 exact wpAny_bind (wpAny_mono h (fun binds s₁ h₁=>wpAny_bind (wpAny_mono h₁ (fun env s₂ h₂=>wpAny_bind (wpAny_enterFrame h₂.1 hroom
   (wpAny_pure (And.intro rfl h₂.2)))) fun _ _ h'=>h')) fun _ _ h'=>h')
set_option backward.match.sparseCases true in
theorem mW {A:Around} {R:Result→Shared→Prop} {s:Shared} {body:List Stmt} {env:PySem.Env}
   (h:wpD (model prog w) (A.deeper env) (execs body env) (fun f s'=>R (.ok (.ret (match f with | .ret v=>v | _=>.none))) s')
     (fun e s'=>wpD (model prog w) (A.deeper env) (leaving env e) (fun _ s''=>R (.error e) s'') (fun e' s''=>R (.error e') s'') s') s) :
   bj (model prog w) A (.func body env) R s:=by
 refine bQ ?_
 show wpD _ (A.deeper env) (do point;match ← (execs body env).onRaise (leaving env) with | .ret v=>ret v | _=>ret .none) _ _ s
 refine az (wpAny_point (aa (cA (aV h (fun f s' h'=>?_) fun _ _ h'=>h'))))
 cases f<;>exact aj h'
theorem qC {α β:Type}:∀ (xs:List α) (ys:List β),xs.length≤ys.length→(xs.zip ys).map (·.1)=xs
 | [],_,_=>rfl
 | x :: xs,[],h=>by simp at h
 | x :: xs,y :: ys,h=>by
   exact re List.zip_cons_cons (re List.map_cons (re (qC xs ys (by simpa using h)) rfl))
theorem KY {S:List Addr} {ι:Cel} {σ:Sig} {s s₁:Shared} {l:List PySem.Env} {fn:Fn} {scope:Scope} {env:PySem.Env} {avs:List AV} {vals:List Value} {N:List Addr} {bs:List (Str×Value)} (R:Rel T B l S ι σ s.heap)
   (hk:scope.kind=.function) (hsc:env.scope=scope) (hslots:∀ x∈fn.slots,scope.names.lookup x=some .local∨scope.names.lookup x=some .cell) (hnd:fn.slots.Nodup) (hnp:fn.nparams≤fn.slots.length)
   (x:InCallC s env.locals (bindL env.kindOf bs fun _=>none) env.cells (bindC env.kindOf bs fun _=>none) s₁)
   (hbs:bs=(fn.slots.take fn.nparams).zip vals) (hn:avs.length=fn.nparams) (ra:aH T (off (S++N) s₁.heap) ι avs vals) (hcell:∀ y,scope.names.lookup y=some .cell→∃ c,env.cells.lookup y=some c)
   (hN:∀ a∈Wof env,a∈N∧s.heap.get? a=none) :
   Loc T env fn.slots (avs.map some++(fn.slots.drop fn.nparams).map fun _=>none) (S++N) ι s₁.heap where
 len:=by simp only [List.length_append,List.length_map,List.length_drop];exact re hn (re (Nat.add_sub_of_le hnp) rfl)
 kind:=by refine re hsc ?_;exact hk
 own:=fun a m=>⟨List.mem_append_right _ (hN a m).1,fun q=>by refine o10 (R.live a (R.sub a q)) fun o e=>?_;rw [(hN a m).2] at e;cases e⟩
 apart:=x.apart
 nd:=hnd
 ns:=by
   have hlen:=aH.length ra
   have keys:bs.map (·.1)=fn.slots.take fn.nparams:=by refine re hbs ?_;exact qC _ _ (by refine re List.length_take ?_;exact Nat.le_trans (Nat.min_le_left _ _) (Nat.le_of_eq (hlen.trans hn).symm))
   have knd:(bs.map (·.1)).Nodup:=by refine re keys ?_;exact (List.take_sublist _ _).nodup hnd
   have mem:∀ (i:Nat) y a,fn.slots[i]?=some y→(avs.map some++(fn.slots.drop fn.nparams).map fun _=>none)[i]?=some (some a)→∃ v,(y,v)∈bs∧au T (off (S++N) s₁.heap) ι a v:=fun i y a hy e=>by
     by_cases q:i < avs.length
     · rw [List.getElem?_append_left (by simpa using q),List.getElem?_map] at e
       refine o11 (Option.map_eq_some_iff.mp e) fun a' e1 e2=>?_
       cases e2
       refine o11 (ra.get e1) fun v hv rv=>?_
       refine ⟨v,?_,rv⟩
       refine re hbs ?_
       refine List.mem_of_getElem? (i:=i) ?_
       rw [List.getElem?_zip_eq_some]
       exact ⟨by refine re (List.getElem?_take_of_lt (by exact Nat.le_trans q (eql hn (Nat.le_refl _)))) ?_;exact hy,hv⟩
     · rw [List.getElem?_append_right (by simpa using q),List.getElem?_map] at e
       refine o11 (Option.map_eq_some_iff.mp e) fun _ _ e=>?_
       cases e
   refine ⟨_,x.toInCall.ns,fun i y hy=>?_⟩
   rcases hslots y (List.mem_of_getElem? hy) with h | h
   · have hky:env.kindOf y=some .local:=by unfold Env.kindOf;refine re hsc ?_;exact h
     refine .inl ⟨hky,fun a e=>?_⟩
     refine o11 (mem i y a hy e) fun v m rv=>?_
     exact ⟨v,uQ hky bs _ knd m,rv⟩
   · have hky:env.kindOf y=some .cell:=by unfold Env.kindOf;refine re hsc ?_;exact h
     refine o10 (hcell y h) fun c hc=>?_
     refine .inr ⟨.inl hky,c,_,hc,x.cell y c hc,fun a e=>?_⟩
     refine o11 (mem i y a hy e) fun v m rv=>?_
     exact ⟨v,uR (by refine re hky ?_;decide) bs _ knd m,rv⟩
theorem JB {fn:Fn} {n:Nat} (h:fn.ar n=true):n≤fn.nparams∧fn.nparams≤n + fn.defaults.length:=by
 have:=Bool.and_eq_true_iff.mp (Bool.and_eq_true_iff.mp h).1
 exact ⟨of_decide_eq_true this.1,of_decide_eq_true this.2⟩
theorem KZ (hB:B.NoLimit) (hK:K.In B) {fn:Fn} {f:Addr} {body:List Stmt} {scope:Scope} {dv:List Value} {cd:Value} {qn:Str} (fi:FnIs B K fn f body scope dv cd qn) {n:Nat} {cf:Calls} (bo:BodyOk T B prog w P n cf fn body scope cd qn)
   {A:Around} {l:List PySem.Env} {S:List Addr} {ι:Cel} {σ:Sig} {s:Shared} {Q E:Value→Shared→Prop} {as:List AV} {vs:List Value} (h1:A.depth + 4 * n + 4≤904) (h2:A.units + 32 * n + 32≤9032) (h3:A.frames=some l) (h4:A.guards=some []) (h5:A.handled=none)
   (R:Rel T B l S ι σ s.heap) (ra:aH T (off S s.heap) ι as vs) (har:fn.ar as.length=true)
   (p:bF T B l [] S ι s Q E ((exs P cf fn.body ((as++fn.defaults.drop (as.length + fn.defaults.length - fn.nparams)).map some++(fn.slots.drop fn.nparams).map fun _=>none) σ).bind QF)) :
   bj (model prog w) A (.call (.ref f) ⟨vs,[]⟩) (wants Q E) s:=by
 refine o21 fi.rc fun o fd F' N'=>?_
 have hvl:=aH.length ra
 have hdl:=aH.length (fi.dl T (off S s.heap) ι)
 have hbind:=N'.bind vs (by refine re hvl ?_;exact har)
 refine o01 (JB har) fun hl1 hl2=>?_
 have X:=hK.keeps R.base
 have hkk:=fi.kind
 refine eZ (by show A.depth < 1000;exact rma h1 rfl) (R.base _ _ F'.get) F'.data (by refine re N'.sc ?_;exact fi.co) (by refine re N'.sc ?_;exact fi.gen) F'.body (F'.rec'.keeps R.base) (kp_binds X hbind _ _ _ _ ?_)
 refine re F'.clo (re F'.glob (re F'.bins (re N'.sc ?_)))
 have hnp:=fi.np
 have hbl:((fn.slots.take fn.nparams).zip (vs++dv.drop (vs.length + fn.defaults.length - fn.nparams))).map (·.1)=fn.slots.take fn.nparams:=qC _ _ (by simp only [List.length_take,List.length_append,List.length_drop];exact cf1 hvl hdl hl1 hl2)
 have hcl2:∀ n y,scope.names.lookup y=some .cell→∃ c,(cellsFrom n scope.names []).lookup y=some c:=fun n y hy=>iD (jw _ _ _ (.inr (mem_of_lookup hy)))
 refine wpAny_newFunctionEnv_cells fi.kind (fun y hy=>?_) fun env he s₁ x=>?_
 · have:y.1∈fn.slots:=List.mem_of_mem_take (i:=fn.nparams) (by refine rf hbl ?_;exact List.mem_map_of_mem hy)
   rcases fi.slots _ this with q | q
   · exact .inl q
   · refine o10 (hcl2 (s.heap.objs.size + 1) _ q) fun c hc=>?_
     exact .inr ⟨q,by refine re hc ?_;rfl⟩
 have hf:env.frame=some s.heap.objs.size:=by refine re he ?_;rfl
 have hloc:env.locals=s.heap.objs.size:=by refine re he ?_;rfl
 have hes:env.scope=scope:=by refine re he ?_;rfl
 have hec:env.cells=cellsFrom (s.heap.objs.size + 1) scope.names []:=by refine re he ?_;rfl
 obtain ⟨h₁,tk,rfl,hk₁⟩:=x.done
 refine ⟨(hB.keeps R.base).keeps hk₁,mW ?_⟩
 have hWn:∀ a∈Wof env,s.heap.get? a=none:=fun a m=>by
   rcases List.mem_cons.mp m with e | m
   · refine re e (re hloc ?_);exact dN _
   · obtain ⟨y,hy,rfl⟩:=List.mem_map.mp m
     have:=x.above y.1 y.2 hy
     rw [hloc] at this
     exact Heap.get?_none_of_le (Nat.le_of_lt this)
 have hWl:∀ a∈Wof env,∃ o,h₁.get? a=some o:=fun a m=>by
   rcases List.mem_cons.mp m with e | m
   · refine re e ?_;exact cT x.toInCall.ns
   · obtain ⟨y,hy,rfl⟩:=List.mem_map.mp m
     have nd:(env.cells.map (·.1)).Nodup:=by refine re hec (re (cellsFrom_names scope.names (s.heap.objs.size + 1) 0 [] [] rfl) ?_);exact fi.cnd
     exact uE (x.cell y.1 y.2 (lookup_of_mem_nodup nd hy))
 refine o01 (R.back (h':=h₁) (fun a o e _=>hk₁ a o e) (fun a m _ e=>e.keeps hk₁) (Wof env) hWn hWl) fun R₁ G₁=>?_
 have hLn:s.heap.get? s.heap.objs.size=none:=dN _
 have hLc:s.heap.objs.size∉cells ι:=fun q=>by refine o10 (R.live _ (R.sub _ q)) fun o e=>?_;rw [hLn] at e;cases e
 have R₂:Rel T B (env :: l) (S++Wof env) ι σ h₁:=R₁.push (by refine re hes (re fi.kind ?_);decide) hf (List.mem_append_right _ (by refine rf hloc ?_;exact fH env)) hLc (by refine rf hloc ?_;exact x.toInCall.ns)
 have L₂:Loc T env fn.slots ((as++fn.defaults.drop (as.length + fn.defaults.length - fn.nparams)).map some++(fn.slots.drop fn.nparams).map fun _=>none) (S++Wof env) ι h₁ :=
   KY (s₁:={ s with heap:=h₁,toks:=tk }) (N:=Wof env) R fi.kind hes fi.slots fi.nd fi.np x rfl (by simp only [List.length_append,List.length_drop];exact cf2 hl1 hl2)
     ((ra.mono (G₁.phi R.in0) fun _ _ e=>e).append (by refine re hvl ?_;exact aH.drop _ (fi.dl T _ ι))) (fun y hy=>by refine re hec ?_;exact hcl2 _ y hy) fun a m=>⟨m,hWn a m⟩
 have xo:Cx.Ok ⟨env,A.deeper env,env :: l⟩ n:=⟨by show A.depth + 1 + 4 * n≤903;exact rm h1 rfl,by show A.units + 3 + 32 * n≤9028;exact rm h2 rfl,by show A.frames.map _=_;refine re h3 ?_;rfl,h4,h5⟩
 refine bo ⟨env,A.deeper env,env :: l⟩ hes (by refine rf N'.code (re he ?_);rfl) (by refine rf N'.qual (re he ?_);rfl) ⟨by refine re he ?_;rfl,by refine re he ?_;rfl⟩ xo (by show A.depth + 1 + 4 * n≤901;exact rm h1 rfl) (by show A.units + 3 + 32 * n≤9003;exact rm h2 rfl) ⟨l,rfl⟩ _ R₂ L₂ ?_
 dsimp only
 generalize exs P cf fn.body ((as++fn.defaults.drop (as.length + fn.defaults.length - fn.nparams)).map some++(fn.slots.drop fn.nparams).map fun _=>none) σ=r at p
 cases r with
 | stuck=>exact p
 | ok fl σ' =>
   intro h' tk' S' ι' f' G R' rf
   have G':=Go.pop hf G₁ G hLn hWn
   have R'':=R'.pop
   cases fl with
   | nxt ρ' =>
     obtain ⟨rfl,_⟩:=rf
     exact p h' tk' S' ι' _ G' R'' rfl
   | cont ρ'=>exact p.elim
   | ret a =>
     obtain ⟨v,rfl,rv⟩:=rf
     exact p h' tk' S' ι' _ G' R'' rv
 | err c σ' =>
   intro h' tk' S' ι' hr N e G R' F n1 n2
   refine D (uP (outer:=l) (s:={ s with heap:=h',toks:=tk' }) xo.fr (R'.onStack n1) F fun h'' F' _=>?_)
   refine p h'' tk' S' ι' hr N e (Go.pop hf G₁ G hLn hWn) R'.pop F' (fun a m=>n1 a ((dg hf).mpr (.inr m))) fun a m=>?_
   rcases n2 a m with q | ⟨q1,q2,q3⟩
   · rcases (dg hf).mp q with rfl | q
     · have:=R'.frS ((dg hf).mpr (.inl rfl))
       exact .inr ⟨hLn,this.1,this.2⟩
     · exact .inl q
   · exact .inr ⟨G₁.back q1,q2,q3⟩
end
end
section
open PySem PySem.W PyProof.Rows PySem.Calls Builtin Builtin.ObjectAttr
noncomputable def rQ:List Value:=[.type "Exception",.type "BaseException",.type "object"]
noncomputable def DN:Value→Bool
 | .ref _=>true
 | _=>false
theorem oO {M:Value→Prop} {v:Value} (h:DN v=true) (H:∀ a,M (.ref a)):M v:=by
 cases v with
 | ref=>exact H _
 | _=>exact absurd h Bool.false_ne_true
noncomputable def iG:List Value→Bool
 | []=>false
 | v :: r=>(DN v && iG r) || (v :: r) == rQ
theorem Qe {M:List Value→Prop} {l:List Value} (h:iG l=true) (h1:M rQ) (h2:∀ c r,iG r=true→M (.ref c :: r)):M l:=by
 cases l with
 | nil=>exact absurd h Bool.false_ne_true
 | cons v r =>
   rcases Bool.or_eq_true_iff.mp h with q | q
   · obtain ⟨q1,q2⟩:=Bool.and_eq_true_iff.mp q
     exact oO (M:=fun v=>M (v :: r)) q1 fun a=>h2 a r q2
   · exact eq_of_beq q▸h1
theorem Az (self:Value) {l:List Value}:iG l=true→refuseLoop self "__setattr__" l=pure ():=by
 induction l with
 | nil=>exact fun e=>ffE e
 | cons x r ih =>
   intro e
   rcases Bool.or_eq_true_iff.mp e with q | q
   · refine o01 (Bool.and_eq_true_iff.mp q) fun q1 q2=>?_
     exact oO (M:=fun x=>refuseLoop self "__setattr__" (x :: r)=pure ()) q1 fun c=>by refine re (refuseLoop_ref ..) ?_;exact ih q2
   · refine re (eq_of_beq q) ?_;exact PySem.F.store_Exception.passes self
theorem jN {n:String} {l:List Value}:iG l=true→l.contains (.type n)=rQ.contains (.type n):=by
 induction l with
 | nil=>exact fun e=>ffE e
 | cons x r ih =>
   intro e
   rcases Bool.or_eq_true_iff.mp e with q | q
   · refine o01 (Bool.and_eq_true_iff.mp q) fun q1 q2=>?_
     refine oO (M:=fun x=>(x :: r).contains (.type n)=rQ.contains (.type n)) q1 fun c=>?_
     refine re List.contains_cons (re (ih q2) ?_)
     rfl
   · exact re (eq_of_beq q) rfl
noncomputable def excIn (K:Frag) (fi C:Addr):Bool:=match K.lookup C with
 | some ⟨_,_,.cls cd,sl⟩=>!cd.abstract && !cd.hasDel && (sl.toList[4]?).join == some (.builtin "Exception.__new__") && !cd.mro.isEmpty && cd.mro.contains (.ref C) && iG cd.mro && cd.hasDict &&
     specialIn K (.ref C) "__call__" == some (some (.builtin "type.__call__")) && instIn K (.ref C) (.type "type") == some true && typeIn K (.ref C) == some (.type "type") && findIn K (.ref C) "__init__" == some (some (.ref fi)) &&
     typeIn K (.ref fi) == some (.type "function") && findIn K (.ref C) "__setattr__" == some (some (.builtin "object.__setattr__")) && takerIn K C "why" == some none && keepIn K (.ref C)
 | _=>false
structure ObjX (K:Frag) (h:Heap) (C:Addr) (oc:Value) (od:Option Addr) (cd:ClassData) (sl:Array (Option Value)):Prop where
 get:h.get? C=some ⟨oc,od,.cls cd,sl⟩
 isIn:clsIn K C=some cd
 abs:cd.abstract=false
 del:cd.hasDel=false
 mt:cd.mro.isEmpty=false
 hd:cd.hasDict=true
 only:iG cd.mro=true
structure MakesX (M:Model) (K:Frag) (h:Heap) (fi C:Addr):Prop where
 obj:∃ oc od cd sl,ObjX K h C oc od cd sl
 made:Looks M h (Bind.madeBy (.ref C)) (some "Exception.__new__")
 base:Looks M h (Bind.staticBase (.ref C)) (.ref C)
 self:Looks M h (isSubtype (.ref C) (.ref C)) true
 exc:Looks M h (isSubtype (.ref C) (.type "Exception")) true
 bexc:Looks M h (isSubtype (.ref C) (.type "BaseException")) true
 obje:Looks M h (isSubtype (.ref C) (.type "object")) true
 attr:Looks M h (isSubtype (.ref C) (.type "AttributeError")) false
 name:Looks M h (isSubtype (.ref C) (.type "NameError")) false
 call:Looks M h (specialOf (.ref C) "__call__") (some (.builtin "type.__call__"))
 typ:Looks M h (isInstance (.ref C) (.type "type")) true
 isT:Looks M h (isType (.ref C)) true
 ty:Looks M h (typeOf (.ref C)) (.type "type")
 init:Looks M h (typeLookup (.ref C) "__init__") (some (.ref fi))
 bind:∀ self,Looks M h (bindSpecial (.ref fi) self) (.ref fi,[self])
 setA:findIn K (.ref C) "__setattr__"=some (some (.builtin "object.__setattr__"))
 tak:takerIn K C "why"=some none
 keep:keepIn K (.ref C)=true
set_option tactic.hygienic true in
theorem jd {K:Frag} {M:Model} {h:Heap} (X:K.In h) {fi C:Addr} (e:excIn K fi C=true):MakesX M K h fi C:=by
 unfold excIn at e
 cases ho:K.lookup C with
 | none=>rw [ho] at e;exact ffE e
 | some o =>
 rw [ho] at e
 obtain ⟨oc,od,data,sl⟩:=o
 cases data with
 | cls cd =>
   refine jK e fun e e9 e10 e11 e12 e13 e14 e15=>jK e fun e1 e2 e3 e4 e5 e6 e7 e8=>?_
   replace e1:cd.abstract=false:=(Bool.not_eq_true' _).mp e1
   replace e2:cd.hasDel=false:=(Bool.not_eq_true' _).mp e2
   replace e4:cd.mro.isEmpty=false:=(Bool.not_eq_true' _).mp e4
   replace e3:=eq_of_beq e3
   replace e8:=eq_of_beq e8
   replace e9:=eq_of_beq e9
   replace e10:=eq_of_beq e10
   replace e11:=eq_of_beq e11
   replace e12:=eq_of_beq e12
   replace e13:=eq_of_beq e13
   replace e14:=eq_of_beq e14
   have hc:clsIn K C=some cd:=by unfold clsIn;rw [ho]
   have hm:Looks M h (mroOf (.ref C)) cd.mro:=(looks_clsIn X hc).andThen .now
   obtain ⟨c,l,hl⟩:∃ c l,cd.mro=c :: l:=by cases q:cd.mro with | nil=>rw [q] at e4;cases e4 | cons c l=>exact ⟨c,l,rfl⟩
   have made:Looks M h (Bind.madeBy (.ref C)) (some "Exception.__new__"):=by
     intro A Q E s k q
     refine wpAny_bind (hm A _ E s k ?_)
     rw [hl,List.forIn_cons]
     refine wpAny_bind (wpAny_bind (wpAny_bind (wpAny_bind (wpAny_loadPart (k _ _ (X _ _ ho)) (wpAny_pure ?_)))))
     rw [← Array.getElem?_toList,e3]
     exact wpAny_pure (wpAny_pure (wpAny_pure q))
   have sub:∀ {b:Value} {r:Bool},cd.mro.contains b=r→Looks M h (isSubtype (.ref C) b) r:=fun q=>looks_mroIn X (by unfold mroIn;rw [hc,Option.bind_some,if_neg (by rw [e4];decide),q])
   refine ⟨⟨oc,od,cd,sl,⟨X _ _ ho,hc,e1,e2,e4,e7,e6⟩⟩,made,?_,sub e5,sub ((jN e6).trans (by decide +kernel)),sub ((jN e6).trans (by decide +kernel)),sub ((jN e6).trans (by decide +kernel)),sub ((jN e6).trans (by decide +kernel)),sub ((jN e6).trans (by decide +kernel)),
     looks_specialIn X e8,looks_instIn X e9,?_,looks_typeIn X e10,looks_findIn X e11,fun self=>bind_fn X self e12,e13,e14,e15⟩
   · intro A Q E s k q
     refine wpAny_bind (hm A _ E s k ?_)
     rw [hl,List.forIn_cons]
     exact wpAny_bind (wpAny_bind (wpAny_bind (made A _ E s k (wpAny_pure (wpAny_pure (wpAny_pure q))))))
   · intro A Q E s k q
     exact wpAny_bind (wpAny_loadPart (k _ _ (X _ _ ho)) (wpAny_pure q))
 | _=>exact ffE e
noncomputable abbrev fK (C t:Addr):Obj:={ cls:=.ref C,data:=.fields #[.ref t,.none,.none,.none,.bool false,.none] }
section
variable {prog:Program} {w:World} {A:Around} {K:Frag} {C fi:Addr} {R:Result→Shared→Prop} {h:Heap} {g:Array GenState} {d:Drawn} {t:Nat} {os:OsState}
theorem K1 (Y:MakesX (model prog w) K h fi C) {rest:List Value}
   (hq:R (.ok (.ret (.ref (h.objs.size + 1)))) ⟨(h.push { cls:=.type "tuple",data:=.seq rest.toArray }).push (fK C h.objs.size),g,d,t,os⟩) (hrest:rest.length≤sizeLine) :
   codeAny (model prog w) A (.call (.builtin "Exception.__new__") ⟨.ref C :: rest,[]⟩) R ⟨h,g,d,t,os⟩:=by
 refine o40 Y.obj fun oc od cd sl O=>?_
 have made:=Y.made
 have base:=Y.base
 have exc:=Y.exc
 have bexc:=Y.bexc
 have obje:=Y.obje
 have attr:=Y.attr
 have name:=Y.name
 have typ:=Y.typ
 have isT:=Y.isT
 have F:=PySem.F.excBase_Exception
 refine codeAny_call_builtin_code (Code.quiet_builtin _ F.quiet) ?_
 · simp only [checkBuiltinCall,F.newKind,F.newSplit,F.newRow]
   repeat (first | simp only [bne_self_eq_false,Bool.false_eq_true,if_false] | lk)
   have here:Looks (model prog w) h (Bind.madeHere "BaseException.__new__" (.ref C)) ():=base.andThen (made.andThen (Looks.of_pure (by simp only [Option.map_some,F.canon,bne_self_eq_false,Bool.false_eq_true,if_false])))
   have hends:=F.ends
   refine codeAny_builtinAt F.entry ?_
   refine PySem.wpAt_bind ?_
   show PySem.wpAt _ _ _ (stack >>= _) _ _ _
   refine PySem.wpAt_bind (PySem.wpAt_stack fun p below=>PySem.wpAt_of_wpAny ?_)
   wp_walk
   refine PySem.wpAt_of_wpAny ?_
   rw [F.owner]
   repeat (first | simp only [Bool.not_true,Bool.false_eq_true,if_false] | lk)
   rw [if_neg (by rw [List.size_toArray];exact Nat.not_lt_of_le hrest)]
   unfold newObjAsIs
   refine wpAny_bind (wpAny_alloc' (wpAny_pure ?_))
   refine wpAny_bind ?_
   show wpAny _ _ (newObjAsIs (.ref C) _ _) _ _ _
   refine wpAny_bind (wpAny_alloc' (wpAny_bind (wpAny_bind (wpAny_load' (Heap.get?_push_of_some _ (Heap.get?_push_of_some _ O.get)) (wpAny_pure ?_)))))
   rw [O.del]
   refine wpAny_pure (wpAny_pure ?_)
   show R _ _
   rw [Heap.size_push]
   exact hq
theorem QG (Y:MakesX (model prog w) K h fi C) {rest:List Value} (hrest:rest.length≤sizeLine)
   (hq:bj (model prog w) (A.under (.builtin "type.__call__" ⟨.ref C :: rest,[]⟩)) (.call (.ref fi) ⟨.ref (h.objs.size + 1) :: rest,[]⟩) (InitBack (h.objs.size + 1) R) ⟨(h.push { cls:=.type "tuple",data:=.seq rest.toArray }).push (fK C h.objs.size),g,d,t,os⟩) :
   bj (model prog w) A (.call (.ref C) ⟨rest,[]⟩) R ⟨h,g,d,t,os⟩:=by
 refine o40 Y.obj fun oc od cd sl O=>?_
 refine gj (c':=.call (.builtin "type.__call__") ⟨.ref C :: rest,[]⟩) ?_ rfl
 refine nd_load O.get ?_
 show wpAny _ _ (callAny.viaDunder (.ref C) _) _ _ _
 refine wpAny_bind (Y.call.at ?_)
 dsimp only
 refine re (tc_bind ..) ?_
 refine wpAny_bind (wpAny_pure (wpAny_bind (wpAny_pure ?_)))
 refine wpAny_pure (a:=Fin.again (.call (.builtin "type.__call__") ⟨.ref C :: rest,[]⟩)) ⟨rfl,rfl,?_⟩
 refine cQ (Code.quiet_builtin _ (by decide +kernel)) (check_slot tc_kind tc_split Y.typ (tc_args _ _ _) ?_)
 refine eQ entry_typeCall ?_ (by decide +kernel)
 have hm:Looks (model prog w) h (mroOf (.ref C)) cd.mro:=((Looks.ld (part:=none) O.get).andThen .now).andThen .now
 refine az (hm.at ?_)
 simp only [O.mt,Bool.false_eq_true,if_false]
 refine az (Y.made.at ?_)
 refine aa (aj ?_)
 refine aa (ao (D (wpAny_call (K1 Y ?_ hrest))))
 have k:∀ b o,h.get? b=some o→((h.push { cls:=.type "tuple",data:=.seq rest.toArray }).push (fK C h.objs.size)).get? b=some o:=fun b o e=>Heap.get?_push_of_some _ (Heap.get?_push_of_some _ e)
 have hx:((h.push { cls:=.type "tuple",data:=.seq rest.toArray }).push (fK C h.objs.size)).get? (h.objs.size + 1)=some (fK C h.objs.size):=by heap_get
 have t1:Looks (model prog w) ((h.push { cls:=.type "tuple",data:=.seq rest.toArray }).push (fK C h.objs.size)) (typeOf (.ref (h.objs.size + 1))) (.ref C):=(Looks.ld hx).andThen .now
 have s1:=Y.self.keeps k
 have i1:=Y.init.keeps k
 have b1:=(Y.bind (.ref (h.objs.size + 1))).keeps k
 refine az ((show Looks (model prog w) _ (isInstance (.ref (h.objs.size + 1)) (.ref C)) true from t1.andThen s1).at ?_)
 refine aa (ao ?_)
 refine az ((show Looks (model prog w) _ (specialOf (.ref (h.objs.size + 1)) "__init__") (some (.ref fi)) from t1.andThen i1).at ?_)
 refine ao (az (b1.at ?_))
 refine aa (cH (fU hq fun r s' z=>?_))
 rcases r with e | (v | _ | _ | _)<;>first | exact z | exact z.elim | skip
 obtain ⟨rfl,z⟩:=z
 exact aj (aj z)
end
section
variable {prog:Program} {w:World} {A:Around} {K:Frag} {C fi e:Addr} {E:Value→Shared→Prop} {s:Shared}
theorem DP (Y:MakesX (model prog w) K s.heap fi C) {t0:Addr} {od:Option Addr} {sl:Array (Option Value)} {v:Value} {Q:Value→Shared→Prop} (he:s.heap.get? e=some { cls:=.ref C,dict:=od,data:=.fields #[.ref t0,.none,.none,.none,.bool false,.none],slots:=sl })
   (h:∀ h' t1,(∀ b o,b≠e→s.heap.get? b=some o→h'.get? b=some o)→h'.get? e=some { cls:=.ref C,dict:=od,data:=.fields #[.ref t1,.none,.none,.none,.bool false,.none],slots:=sl }→Q .none { s with heap:=h' }) :
   wpAny (model prog w) A (call (.builtin "Exception.__init__") [.ref e,v]) Q E s:=by
 refine o40 Y.obj fun oc od' cd sl' O=>?_
 have hC:=O.get
 have made:=Y.made
 have self:=Y.self
 have base:=Y.base
 have exc:=Y.exc
 have bexc:=Y.bexc
 have obje:=Y.obje
 have attr:=Y.attr
 have name:=Y.name
 have typ:=Y.typ
 have isT:=Y.isT
 have F:=PySem.F.excBase_Exception
 have t1:Looks (model prog w) s.heap (typeOf (.ref e)) (.ref C):=(Looks.ld he).andThen .now
 have i1:Looks (model prog w) s.heap (isInstance (.ref e) (.type "Exception")) true:=t1.andThen exc
 obtain ⟨hp,g,d,tk,os⟩:=s
 refine wpAny_call (codeAny_call_builtin F.init.plain F.initEntry ?_)
 have hshort:=F.noStar
 simp only [checkBuiltinCall,F.initKind,F.initSplit,F.initRow]
 repeat (first | simp only [Bool.not_true,Bool.false_eq_true,if_false] | lk)
 have he':(hp.push { cls:=.type "tuple",data:=.seq [v].toArray }).get? e=some { cls:=.ref C,dict:=od,data:=.fields #[.ref t0,.none,.none,.none,.bool false,.none],slots:=sl }:=Heap.get?_push_of_some _ he
 refine nd_load he' ?_
 refine wpAny_pure (wpAny_pure (wpAny_pure (wpAny_bind ?_)))
 refine wpAny_setField he' rfl (by simp) (wpAny_letGo (wpAny_pure ?_))
 refine h _ hp.objs.size (fun b o hb q=>?_) ?_
 · exact (Heap.get?_update_other _ _ hb.symm).trans (Heap.get?_push_of_some _ q)
 · exact Heap.get?_update_self _ he' rfl
end
end
section
open PySem PySem.W PyProof.Rows PySem.Calls Builtin Builtin.ObjectAttr
section
variable {prog:Program} {w:World} {A:Around} {K:Frag} {C fi e:Addr} {E:Value→Shared→Prop} {s:Shared}
theorem K3 {M:Model} (X:K.In s.heap) (Y:MakesX M K s.heap fi C) {vs:Array Value} {sl:Array (Option Value)} {v:Value} {Q:Unit→Shared→Prop} (he:s.heap.get? e=some { cls:=.ref C,dict:=none,data:=.fields vs,slots:=sl })
   (h:∀ h' d tk',(∀ b o,b≠e→s.heap.get? b=some o→h'.get? b=some o)→h'.get? e=some { cls:=.ref C,dict:=some d,data:=.fields vs,slots:=sl }→Q () { s with heap:=h',toks:=tk' }) :
   wpAny (model prog w) A (setAttr (.ref e) "why" v) Q E s:=by
 refine o40 Y.obj fun oc od' cd sl' O=>?_
 have I:InstAt s.heap e { cls:=.ref C,dict:=none,data:=.fields vs,slots:=sl } C none:=⟨he,rfl,rfl,trivial⟩
 refine set_plain X I Y.setA ?_
 have SF:=PySem.F.store_object
 have sub:Looks (model prog w) s.heap (isInstance (.ref e) (.type "object")) true:=I.type.andThen (looks_mroIn X (by unfold mroIn;rw [O.isIn,Option.bind_some,if_neg (by rw [O.mt];decide),jN O.only];decide +kernel))
 refine codeAny_call_builtin SF.slot.plain SF.entry (@check_slot (model prog w) _ _ { s with toks:=s.toks + 1 } "object.__setattr__" "object" "__setattr__" (.ref e) [.str "why" s.toks,v] [] _ SF.kind SF.split sub (SF.args (.ref e) (.str "why" s.toks) v) ?_)
 refine o11 (Option.bind_eq_some_iff.mp Y.tak) fun attr ha hr=>?_
 have hm:Looks (model prog w) s.heap (mroOf (.ref C)) cd.mro:=(looks_clsIn X O.isIn).andThen .now
 have L3:Looks (model prog w) s.heap (storeTaker? attr) none:=by
   cases attr with
   | none=>exact .now
   | some a =>
     refine o11 (Option.map_eq_some_iff.mp hr) fun b hb hq=>?_
     refine (looks_takesIn X hb).andThen ?_
     cases b<;>first | exact .now | cases hq
 rw [osa_eq,refuse_eq]
 refine wpAny_bind (wpAny_bind (I.type.here (s:={ s with toks:=s.toks + 1 }) (wpAny_bind (hm.here (s:={ s with toks:=s.toks + 1 }) ?_))))
 rw [Az _ O.only]
 refine wpAny_pure (wpAny_bind (I.type.here (s:={ s with toks:=s.toks + 1 }) (wpAny_bind ((looks_findIn X ha).here (s:={ s with toks:=s.toks + 1 }) (wpAny_bind (L3.here (s:={ s with toks:=s.toks + 1 }) ?_))))))
 dsimp only
 obtain ⟨hp,g,d,tk,os⟩:=s
 dsimp only at *
 refine wpAny_bind (wpAny_pure (wpAny_bind (wpAny_bind (wpAny_loadPart he (wpAny_bind ((looks_clsIn X O.isIn).at ?_))))))
 rw [O.hd]
 rw [if_neg (by simp [typeHasDict])]
 have hx₁:(hp.push { cls:=.type "dict",data:=.dict #[] }).get? e=some { cls:=.ref C,dict:=none,data:=.fields vs,slots:=sl }:=Heap.get?_push_of_some _ he
 have hxs:e≠hp.objs.size:=Nat.ne_of_lt (Heap.lt_size he)
 refine wpAny_bind (wpAny_alloc' ?_)
 refine wpAny_bind (wpAny_update' hx₁ ?_)
 refine wpAny_pure ?_
 have hgd:((hp.push { cls:=.type "dict",data:=.dict #[] }).update e fun o=>{ cls:=o.cls,dict:=some hp.objs.size,data:=o.data,slots:=o.slots }).get? hp.objs.size
    =some { cls:=.type "dict",data:=.dict #[] } :=
   (Heap.get?_update_ne _ _ _ _ hxs.symm).trans (Heap.get?_push_at rfl rfl)
 have hnd:((hp.push { cls:=.type "dict",data:=.dict #[] }).update e fun o=>{ cls:=o.cls,dict:=some hp.objs.size,data:=o.data,slots:=o.slots }).Ns hp.objs.size (fun _=>none) :=
   ⟨_,#[],_,hgd,rfl,fun e he=>absurd he (by simp),fun _=>rfl⟩
 show wpAny _ _ (storeInDict hp.objs.size (.str "why" tk) "why" v) _ _ _
 refine wpAny_bind (wpAny_pure (wpAny_bind (wpAny_nsSet1 (Heap.Ns1.of_empty hnd) fun h' hn' hs=>?_)))
 refine o32 (hn'.count (Within.cons "why" v Within.nil)) fun oD esD epD hoD hdD hcD=>?_
 refine wpAny_bind (wpAny_lookBehind hoD (by rw [hdD];exact pastItsLine_dict (Nat.le_trans hcD (by rw [List.length_cons,List.length_nil,sizeLine_eq];exact Nat.le_add_left _ _))) ?_)
 refine wpAny_pure (h h' hp.objs.size _ (fun b o hb q=>?_) ?_)
 · exact (hs.2 b (Nat.ne_of_lt (Heap.lt_size q))).trans ((Heap.get?_update_ne _ _ _ _ hb).trans (Heap.get?_push_of_some _ q))
 · exact (hs.2 e hxs).trans (Heap.get?_update_self _ hx₁ rfl)
end
end
section
noncomputable def xp1:Pos:=⟨8,8,8,17⟩
noncomputable def xp2:Pos:=⟨8,8,8,26⟩
noncomputable def xp3:Pos:=⟨8,27,8,31⟩
noncomputable def xp4:Pos:=⟨8,33,8,36⟩
noncomputable def xp5:Pos:=⟨8,8,8,37⟩
noncomputable def xp6:Pos:=⟨8,8,8,37⟩
noncomputable def xp7:Pos:=⟨9,8,9,12⟩
noncomputable def xp8:Pos:=⟨9,8,9,16⟩
noncomputable def xp9:Pos:=⟨9,19,9,22⟩
noncomputable def Nx:Pos:=⟨9,8,9,22⟩
noncomputable def wM:List Stmt :=
 [.Expr (.Call (.Attribute (.Name "Exception" xp1) "__init__" xp2) [.Name "self" xp3,.Name "why" xp4] [] xp5) xp6,.Assign [.Attribute (.Name "self" xp7) "why" xp8] (.Name "why" xp9) Nx]
structure NamesOf (fd:FuncData) (locs glbs:List String):Prop where
 kind:fd.scope.kind=.function
 co:fd.scope.isCoroutine=false
 gen:fd.scope.isGenerator=false
 loc:∀ x∈locs,fd.scope.names.lookup (Str.ofString x)=some .local
 glb:∀ x∈glbs,fd.scope.names.lookup (Str.ofString x)=some .globalImplicit
 nc:∀ x∈fd.scope.names,x.2≠.cell
structure KnowX (T:Tabs) (B:Heap) (K:Frag) (NN:Names) (fi:Addr):Prop where
 cls:∀ c,c < 4→excIn K fi (T.ea c)=true
 fn:∃ o fd,FrameOf B fi o fd (.stmts wM)∧NamesOf fd ["self", "why"] ["Exception"]∧∀ a v:Value,bindArgs fd ⟨[a,v],[]⟩=pure [(("self":Str),a),(("why":Str),v)]
 exc:NN.blt "Exception"=some (.type "Exception")
section
variable {prog:Program} {w:World} {A:Around} {K:Frag} {C fi e:Addr} {E:Value→Shared→Prop} {s:Shared} {T:Tabs} {B:Heap} {NN:Names}
theorem Ba {pl:Sem Bool} {Q:Value×List Value→Shared→Prop} (X:K.In s.heap) (h:Q (.builtin "Exception.__init__",[]) { s with toks:=s.toks + 1 }):wpAny (model prog w) A (getMethod (.type "Exception") "__init__" pl) Q E s:=by
 have hstub:opaqueClassAbove (.type "Exception")=pure none:=by unfold opaqueClassAbove;dsimp only;refine re (show Manifest.isStub "Exception"=false by decide +kernel) ?_;rfl
 have ht:typeOf (.type "Exception")=pure (.type "type"):=by first | rfl | kernel_rfl
 have L0:Looks (model prog w) s.heap (typeOf (.type "Exception")) (.type "type"):=Looks.of_pure ht
 have hg:findIn K (.type "type") "__getattribute__"=some (some (.builtin "type.__getattribute__")):=type_tga
 have e:findCls K (.type "Exception") (.type "type") "__init__"=some (.val (.builtin "Exception.__init__")):=(by kernel_rfl:findCls [] (.type "Exception") (.type "type") "__init__"=some (.val (.builtin "Exception.__init__")))
 refine wpAny_bind (wpAny_bind (L0.here ((looks_findIn X hg).here ?_)))
 dsimp only
 refine re (if_pos canon_tga) ?_
 refine wpAny_bind (wpAny_mono (Q:=fun v=>Q (v,[])) (E:=E) ?_ (fun _ _ z=>wpAny_pure z) fun _ _ z=>z)
 have LO:Looks (model prog w) s.heap (opaqueClassAbove (.type "Exception")) none:=Looks.of_pure hstub
 refine cls_open X LO L0 hg (looks_hook X (r:=none) (by rfl)) (by show subIn K _ _=_;rfl) e
   (wpAny_pure (by show wpAny _ _ (handedOut (.builtin "Exception.__init__")) _ _ _;refine re (handedOut_of (rfl)) ?_;exact wpAny_pure h))
theorem Hz (kx:KnowX T B K NN fi) (kn:KnowN T B NN) (hB:B.NoLimit) (hK:K.In B) (k:∀ a o,B.get? a=some o→s.heap.get? a=some o) (hC:excIn K fi C=true) {t0:Addr} (he:s.heap.get? e=some (fK C t0)) (hnew:B.get? e=none) (hroom:A.depth < 1000) {v:Value} {R:Result→Shared→Prop}
   (h:∀ h' tk',(∀ b o,b≠e→s.heap.get? b=some o→h'.get? b=some o)→(∃ d t1,h'.get? e=some { cls:=.ref C,dict:=some d,data:=.fields #[.ref t1,.none,.none,.none,.bool false,.none] })→R (.ok (.ret .none)) { s with heap:=h',toks:=tk' }) :
   bj (model prog w) A (.call (.ref fi) ⟨[.ref e,v],[]⟩) R s:=by
 refine o22 kx.fn fun o fd F' N' hbind=>?_
 have hs1:fd.scope.names.lookup ("self":Str)=some .local:=N'.loc "self" (.head _)
 have hs2:fd.scope.names.lookup ("why":Str)=some .local:=N'.loc "why" (.tail _ (.head _))
 have hs3:fd.scope.names.lookup ("Exception":Str)=some .globalImplicit:=N'.glb "Exception" (.head _)
 refine o12 kn.main fun mg n1 n2 n3=>?_
 refine o11 kn.bins fun mb n4 n5=>?_
 refine eZ hroom (k _ _ F'.get) F'.data N'.co N'.gen F'.body (F'.rec'.keeps k) ?_
 rw [hbind,F'.glob,F'.bins,F'.clo]
 refine wpAny_pure (wpAny_newFunctionEnv N'.nc (fun y hy=>?_) (fun h₁ hns hsb=>?_) N'.kind)
 · rcases List.mem_cons.mp hy with rfl | hy
   · exact hs1
   · rw [List.mem_singleton.mp hy];exact hs2
 have keep₁:∀ b o,s.heap.get? b=some o→h₁.get? b=some o:=fun b o q=>(hsb.2 b (Nat.ne_of_lt (Heap.lt_size q))).trans (Heap.get?_push_of_some _ q)
 have he₁:=keep₁ _ _ he
 have k₁:∀ a o,B.get? a=some o→h₁.get? a=some o:=fun a o q=>keep₁ a o (k a o q)
 refine ⟨hB.keeps k₁,mW ?_⟩
 generalize henv:newEnv fd.scope s.heap.objs.size mainGlobals [] (fd.qualname++".<locals>.") (some fi) fd.code none builtinsNs=env
 have v1:env.scope=fd.scope:=by rw [← henv];rfl
 have v2:env.globals=mainGlobals:=by rw [← henv];rfl
 have v3:env.builtins=builtinsNs:=by rw [← henv];rfl
 have v4:env.locals=s.heap.objs.size:=by rw [← henv];rfl
 have hkf:env.scope.kind=.function:=by rw [v1];exact N'.kind
 have kS:env.kindOf "self"=some .local:=by unfold Env.kindOf;rw [v1];exact hs1
 have kW:env.kindOf "why"=some .local:=by unfold Env.kindOf;rw [v1];exact hs2
 have kE:env.kindOf "Exception"=some .globalImplicit:=by unfold Env.kindOf;rw [v1];exact hs3
 rw [← v4] at hns
 have nameS:∀ {h':Heap} {tk:Nat} {m:Str→Option Value} {p:Pos} {Q E:Value→Shared→Prop},h'.Ns env.locals m→m "self"=some (.ref e)→Q (.ref e) { s with heap:=h',toks:=tk }→wpAny (model prog w) (A.deeper env) (eval (.Name "self" p) env) Q E { s with heap:=h',toks:=tk } :=
   fun hn hm q=>wpAny_Name (wpAny_loadName_local hkf kS hn hm q) (rfl)
 have nameW:∀ {h':Heap} {tk:Nat} {m:Str→Option Value} {p:Pos} {Q E:Value→Shared→Prop},h'.Ns env.locals m→m "why"=some v→Q v { s with heap:=h',toks:=tk }→wpAny (model prog w) (A.deeper env) (eval (.Name "why" p) env) Q E { s with heap:=h',toks:=tk } :=
   fun hn hm q=>wpAny_Name (wpAny_loadName_local hkf kW hn hm q) (rfl)
 have hm1:(fun x=>List.lookup x [(("self":Str),Value.ref e),(("why":Str),v)].reverse) "self"=some (.ref e):=by
   show List.lookup ("self":Str) [(("why":Str),v),(("self":Str),Value.ref e)]=_
   rw [List.lookup_cons,show (("self":Str) == ("why":Str))=false by decide]
   simp [List.lookup_cons]
 have hm2:(fun x=>List.lookup x [(("self":Str),Value.ref e),(("why":Str),v)].reverse) "why"=some v:=by
   show List.lookup ("why":Str) [(("why":Str),v),(("self":Str),Value.ref e)]=_
   simp [List.lookup_cons]
 generalize (fun x=>List.lookup x [(("self":Str),Value.ref e),(("why":Str),v)].reverse)=m at hns hm1 hm2
 have Y:=jd (M:=model prog w) (hK.keeps k₁) hC
 show wpD _ _ (exec (.Expr (.Call (.Attribute (.Name "Exception" xp1) "__init__" xp2) [.Name "self" xp3,.Name "why" xp4] [] xp5) xp6) env >>= _) _ _ _
 rw [exec_Expr env _ xp6 (by unfold interactive;rw [hkf];rfl) (by rfl)]
 refine aa (aa (aq (aa ?_)))
 rw [arm_eval_Call,lQ (by rfl)]
 refine az (Name_function_global hkf kE (loadGlobal_builtin (by rw [v2];exact n1.keeps k₁) (n3 _ _ kx.exc) (by rw [v3];exact n4.keeps k₁) (n5 _ _ kx.exc) ?_) (rfl))
 refine aa (aq ?_)
 rw [bT (by rfl)]
 unfold methodCall
 rw [show methodCallForm ([Expr.Name "self" xp3,Expr.Name "why" xp4].length + [].length) (bw [.Name "self" xp3,.Name "why" xp4] env) (backToKw xp5 (keywordEach [] env))=true from rfl]
 refine aa (ao (D ?_))
 refine Ba (hK.keeps k₁) ?_
 dsimp only
 have e2:methodCallPos true (.Name "Exception" xp1) env xp2 xp5=pure xp5:=by
   rfl
 rw [e2]
 refine aa (aj (dq (P:=fun _=>True) (plain_any _) (fun h _=>lV h) ?_))
 show wpD _ _ (spliced [(false,eval (.Name "self" xp3) env),(false,eval (.Name "why" xp4) env)]) _ _ _
 rw [spliced]
 refine az (nameS hns hm1 ?_)
 refine aa (aj (aa (ao ?_)))
 rw [spliced]
 refine az (nameW hns hm2 ?_)
 refine aa (aj (aa (ao ?_)))
 rw [spliced]
 refine aj (aj (aj ⟨trivial,D (DP (s:={ s with heap:=h₁,toks:=_ }) Y he₁ fun h₂ t1 keep₂ he₂=>?_)⟩))
 refine D (wpAny_dropValue ?_)
 have hLe:env.locals≠e:=fun q=>by rw [v4] at q;rw [← q] at he;exact Nat.lt_irrefl _ (Heap.lt_size he)
 have hns₂:h₂.Ns env.locals m:=by
   refine o31 hns fun oo es ep q r=>?_
   exact ⟨oo,es,ep,keep₂ _ _ hLe q,r⟩
 have k₂:∀ a o,B.get? a=some o→h₂.get? a=some o:=fun a o q=>keep₂ a o (fun z=>by rw [z,hnew] at q;cases q) (k₁ a o q)
 show wpD _ _ (exec (.Assign [.Attribute (.Name "self" xp7) "why" xp8] (.Name "why" xp9) Nx) env >>= _) _ _ _
 rw [exec_Assign_arm]
 refine aa (aa (aq ?_))
 rw [jV rfl]
 refine aa (aj ?_)
 rw [if_neg (by decide)]
 refine az (nameW hns₂ hm2 ?_)
 rw [show swappedStores [.Attribute (.Name "self" xp7) "why" xp8] (.Name "why" xp9) env=pure none from rfl]
 refine aa (aj ?_)
 show wpD _ _ (do assignAll v [assign (.Attribute (.Name "self" xp7) "why" xp8) env];pure Flow.next) _ _ _
 refine aa ?_
 show wpD _ _ (assign (.Attribute (.Name "self" xp7) "why" xp8) env v) _ _ _
 show wpD _ _ (do let ov ← holding [v] (eval (.Name "self" xp7) env);standAt xp8.atName;holding [v,ov] (setAttr ov "why" v);release [v,ov] []) _ _ _
 refine aa (ao (D (nameS hns₂ hm1 ?_)))
 refine aa (aq (aa (ao (D (K3 (s:={ s with heap:=h₂,toks:=_ }) (hK.keeps k₂) (jd (M:=model prog w) (hK.keeps k₂) hC) he₂ fun h₃ d tk₃ keep₃ he₃=>?_)))))
 refine gf (aj (aj ?_))
 exact h h₃ tk₃ (fun b o hb q=>keep₃ b o hb (keep₂ b o hb (keep₁ b o q))) ⟨d,t1,he₃⟩
end
end
section
section
variable {prog:Program} {w:World} {A:Around} {K:Frag} {C fi e:Addr} {E:Value→Shared→Prop} {s:Shared} {T:Tabs} {B:Heap} {NN:Names} {X:Cx} {sl:List Str} {ρ:Env}
theorem HB (kx:KnowX T B K NN fi) (kn:KnowN T B NN) (hB:B.NoLimit) (hK:K.In B) (k:∀ a o,B.get? a=some o→s.heap.get? a=some o) (hC:excIn K fi C=true) (hroom:A.depth < 990) {v:Value} {Q:Value→Shared→Prop}
   (h:∀ h' tk' e,dX s.heap h'→s.heap.get? e=none→(∃ d t1,h'.get? e=some { cls:=.ref C,dict:=some d,data:=.fields #[.ref t1,.none,.none,.none,.bool false,.none] })→Q (.ref e) { s with heap:=h',toks:=tk' }) :
   wpD (model prog w) A (call (.ref C) [v]) Q E s:=by
 refine cH ?_
 obtain ⟨hp,g,d,t,os⟩:=s
 dsimp only at k h
 refine QG (jd (M:=model prog w) (hK.keeps k) hC) (by refine re sizeLine_eq ?_;simp) ?_
 have k':∀ a o,hp.get? a=some o→((hp.push { cls:=.type "tuple",data:=.seq [v].toArray }).push (fK C hp.objs.size)).get? a=some o:=fun b o q=>Heap.get?_push_of_some _ (Heap.get?_push_of_some _ q)
 have hx:((hp.push { cls:=.type "tuple",data:=.seq [v].toArray }).push (fK C hp.objs.size)).get? (hp.objs.size + 1)=some (fK C hp.objs.size):=by heap_get
 have hn:hp.get? (hp.objs.size + 1)=none:=Heap.get?_none_of_le (Nat.le_succ _)
 refine Hz (s:=⟨(hp.push { cls:=.type "tuple",data:=.seq [v].toArray }).push (fK C hp.objs.size),g,d,t,os⟩) kx kn hB hK (fun a o q=>k' a o (k a o q)) hC hx (none_of fun o q=>by have:=k _ _ q;rw [hn] at this;cases this) ?_ fun h' tk' hk he=>?_
 · refine re (rK ..) ?_
   show A.depth + 1 < 1000
   exact szt hroom rfl
 · exact ⟨rfl,h h' tk' _ (fun b o q=>hk b o (fun z=>by rw [z,hn] at q;cases q) (k' b o q)) hn he⟩
theorem Bb (kx:KnowX T B K NN fi) (kn:KnowN T B NN) (hB:B.NoLimit) (hK:K.In B) (xe:X.Env) {n:Nat} (xo:X.Ok n) {id:Str} {c:Nat} {msg:Expr} {np cpos pos:Pos} {rm:Sig→R AV} (hc:c < 4) (hk:X.env.kindOf id=some .globalImplicit) (hv:NN.glob id=some (.ref (T.ea c))) (hd:(id == ("__debug__":Str))=false)
   (hst:notStar msg=true) (hm:Sat T B prog w X sl ρ (eval msg X.env) rm) :
   cO T B prog w X sl ρ (exec (.Raise (some (.Call (.Name id np) [msg] [] cpos)) none pos) X.env) (fun σ=>(rm σ).bind fun _ σ=>.err c σ):=by
 intro S ι σ s Q E R L p
 refine re (arm_exec_Raise ..) ?_
 refine aa (aq ?_)
 show wpD _ _ (raiseStmt X.env (some (eval (.Call (.Name id np) [msg] [] cpos) X.env >>= fun v=>standAt pos >>= fun _=>pure v)) none) _ _ _
 have e:eval (.Call (.Name id np) [msg] [] cpos) X.env=(do callWith cpos (← eval (.Name id np) X.env) [] (backTo cpos (starEach [msg] X.env)) (backToKw cpos (keywordEach [] X.env))):=rfl
 refine re e (re (bT (by simp [hst])) ?_)
 refine aa (aa (az (lg kn xe hk hv hd R L ?_)))
 refine dq (P:=fun h=>K.In h) (plain_any _) (fun h Xh=>keeps_K (jd (M:=model prog w) hK (kx.cls c hc)).keep h Xh) ?_
 show wpD _ _ (spliced [(false,eval msg X.env)]) _ _ _
 rw [spliced]
 refine aa (hm R L (aF.bindE p fun z σ₁ _ h₁ tk₁ S₁ ι₁ v G₁ R₁ r₁ p₁=>?_))
 refine aa (aj (aa (ao ?_)))
 rw [spliced]
 have hB₁:∀ a o,B.get? a=some o→h₁.get? a=some o:=R₁.base
 refine aj (aj ⟨hK.keeps hB₁,?_⟩)
 refine HB (s:={ s with heap:=h₁,toks:=tk₁ }) kx kn hB hK hB₁ (kx.cls c hc) (by have:=xo.dp;exact szt (Nat.le_trans (Nat.le_add_right _ _) this) rfl) fun h' tk' e hkeep hn he=>?_
 refine o20 he fun d t1 he=>?_
 have Y:=jd (M:=model prog w) (hK.keeps fun a o q=>hkeep a o (hB₁ a o q)) (kx.cls c hc)
 have t1':Looks (model prog w) h' (typeOf (.ref e)) (.ref (T.ea c)):=(Looks.ld he).andThen .now
 have i1:Looks (model prog w) h' (isInstance (.ref e) (.type "BaseException")) true:=t1'.andThen Y.bexc
 have ty:=Y.ty
 have isT:Looks (model prog w) h' (isType (.ref e)) false:=by
   intro A Q E s k q
   exact wpAny_bind (wpAny_loadPart (k _ _ he) (wpAny_pure q))
 have isX:Looks (model prog w) h' (isExcClass (.ref e)) false:=by
   intro A Q E s k q
   exact wpAny_bind (isT A _ E s k (wpAny_pure q))
 have fin:E (.ref e) { s with heap:=h',toks:=tk' }:=p₁ h' tk' S₁ ι₁ h₁ (frs X.l) e (Go.refl ..) R₁
   ⟨fun a o q _=>hkeep a o q,fun a m q _=>q.keeps hkeep,fun a m=>by
     refine o11 (jL m) fun env he' hf=>?_
     obtain ⟨_,L',m',hL,_,_,hns⟩:=R₁.stk env he'
     rw [hf] at hL;cases hL
     exact ⟨m',hns⟩,hn,_,_,he,rfl,rfl,.inl rfl⟩ (fun _ m=>m) fun _ m=>.inl m
 refine aa (aq (aj ?_))
 refine aa (aj ?_)
 refine aa (ao ?_)
 refine az (isX.here (s:={ s with heap:=h',toks:=tk' }) ?_)
 refine az (i1.here (s:={ s with heap:=h',toks:=tk' }) ?_)
 refine aj ?_
 refine az (isT.here (s:={ s with heap:=h',toks:=tk' }) ?_)
 refine aa (az (t1'.here (s:={ s with heap:=h',toks:=tk' }) (az (ty.here (s:={ s with heap:=h',toks:=tk' }) ?_))))
 refine re (if_pos (by decide)) ?_
 refine aj ?_
 refine az (wpAny_bind (wpAny_field he rfl (x:=.none) (by rfl) ?_))
 refine re (if_neg (by decide)) ?_
 exact wpAny_pure (D (wpAny_raiseNew_none xo.hd fin))
end
end
section
theorem Bc {a b:Int} {t u:Tok} {pos:Pos} {c cv:Value} (l:List Value) (h:TriplesOk l) (e:codeAmong pos (l++[.int a t,.int b u,c])=some cv):codeAmong pos l=some cv∨cv=c:=by
 fun_induction TriplesOk l with
 | case1 =>
   simp only [List.nil_append,codeAmong] at e
   split at e
   · exact .inr (Option.some.inj e).symm
   · cases e
 | case2 x t' y u' z rest ih =>
   simp only [List.cons_append,codeAmong] at e ⊢
   split at e
   · rename_i q;refine re (if_pos q) ?_;exact .inl e
   · rename_i q;refine re (if_neg q) ?_;exact ih h e
 | case3=>exact h.elim
theorem wN {a b:Int} {t u:Tok} {c:Value} (l:List Value) (h:TriplesOk l):TriplesOk (l++[.int a t,.int b u,c]):=by
 fun_induction TriplesOk l with
 | case1=>exact trivial
 | case2 x t' y u' z rest ih=>exact ih h
 | case3=>exact h.elim
section
variable {T:Tabs} {B:Heap} {l:List PySem.Env} {S W:List Addr} {ι:Cel} {σ:Sig} {h h':Heap}
theorem Rel.turnX (R:Rel T B l S ι σ h) {i:Nat} {p:Addr×Addr} {m:MO} (hi:ι[i]?=some p) (hs:Heap.ExtBut p.2 h h') (hl:∃ o,h'.get? p.2=some o) (hm:qe T (off S h') ι h' p m) :
   Rel T B l S ι (σ.set i m) h'∧Go l W S ι h S ι h':=by
 have hc:=cN hi
 have hS:=R.sub _ hc
 have ne:∀ a,a∉S→a≠p.2:=fun a n e=>n (by refine re e ?_;exact hS)
 have kp:∀ a o,off S h a=some o→off S h' a=some o:=fun a o e=>by
   refine o01 (aA.mp e) fun n e=>?_
   exact aA.mpr ⟨n,hs a o (ne a n) e⟩
 have ns:∀ {a m},h.Ns a m→a≠p.2→h'.Ns a m:=fun x n=>by
   refine o31 x fun o es ep e r=>?_
   exact ⟨o,es,ep,hs _ o n e,r⟩
 constructor
 · exact {
     base:=fun a o e=>hs a o (fun q=>by have:=R.bS _ hS;rw [← q,e] at this;cases this) (R.base a o e)
     bS:=R.bS
     live:=fun a m=>by
       by_cases q:a=p.2
       · refine re q ?_;exact hl
       · refine o10 (R.live a m) fun o e=>?_;exact ⟨o,hs a o q e⟩
     sub:=R.sub
     nodup:=R.nodup
     len:=by simp [R.len]
     obj:=fun j q m' e1 e2=>by
       by_cases hj:i=j
       · subst hj
         rw [hi] at e1
         cases e1
         rw [List.getElem?_set_self (by refine rf R.len ?_;exact (List.getElem?_eq_some_iff.mp hi).1)] at e2
         cases e2
         exact hm
       · rw [List.getElem?_set_ne hj] at e2
         refine (R.obj j q m' e1 e2).keep kp (fun _ _ e=>e) fun o e=>hs _ o (fun z=>hj ?_) e
         have h1:(cells ι)[i]?=some p.2:=by simp [cells,hi]
         have h2:(cells ι)[j]?=some q.2:=by simp [cells,e1]
         rw [z] at h2
         refine o10 (List.getElem?_eq_some_iff.mp h1) fun hi' h1=>?_
         refine o10 (List.getElem?_eq_some_iff.mp h2) fun hj' h2=>?_
         have nd:=List.pairwise_iff_getElem.mp R.nodup
         rcases Nat.lt_trichotomy i j with q' | q' | q'
         · exact absurd (h1.trans h2.symm) (nd i j hi' hj' q')
         · exact q'
         · exact absurd (h2.trans h1.symm) (nd j i hj' hi' q')
     stk:=fun env he=>by
       obtain ⟨h1,L,m,h2,h3,h4,h5⟩:=R.stk env he
       exact ⟨h1,L,m,h2,h3,h4,ns h5 fun q=>h4 (by refine re q ?_;exact hc)⟩ }
 · exact {
     step:=fun a o e n _ _=>hs a o (fun q=>n (by refine re q ?_;exact hc)) e
     frm:=fun a m e ma _=>ns e fun q=>(R.frS ma).2 (by refine re q ?_;exact hc)
     alive:=fun a o e=>by
       by_cases q:a=p.2
       · refine re q ?_;exact hl
       · exact ⟨o,hs a o q e⟩
     pre:=fun _ _ e=>e
     sub:=fun _ m=>m
     new:=fun _ m n=>absurd m n
     cel:=fun _ m n=>absurd m n }
end
structure KnowL (T:Tabs) (B:Heap):Prop where
 hd:CodeHd B T.lc T.tabP
 bl:∃ mg,B.Ns mainGlobals mg∧B.BuiltinsAt mg T.tabP
noncomputable abbrev dz:Arguments:={ posonlyargs:=[],args:=[],vararg:=none,kwonlyargs:=[],kw_defaults:=[],kwarg:=none,defaults:=[] }
section
variable {T:Tabs} {B:Heap} {prog:Program} {w:World} {l:List PySem.Env} {S:List Addr} {ι:Cel} {σ:Sig} {s:Shared} {env:PySem.Env} {A:Around} {E:Value→Shared→Prop} {M:Model}
theorem HD (kl:KnowL T B) (R:Rel T B l S ι σ s.heap) (h0:σ[0]?=some .tab) (hcode:env.code=.ref T.lc) (hg:env.globals=mainGlobals) {scope:Scope} {cl:List (Str×Addr)} (hcl:closureFor scope env=pure cl) (hq:env.qual++"<lambda>"=T.lq) {body:Expr} {pos:Pos} {Q:Value→Shared→Prop}
   (h:∀ h' tk' lam pm cdv ctv,Go l [] S ι s.heap S ι h'→Rel T B l S ι σ h'→lam∉S→h'.get? lam=some { cls:=.type "function",data:=.func (kla_fn "<lambda>" T.lq dz body scope cl pm cdv ctv) }→h'.CodeRec cdv T.lq→Q (.ref lam) { s with heap:=h',toks:=tk' }) :
   wpAny M A (eval (.Lambda dz body scope pos) env) Q E s:=by
 refine o11 kl.bl fun mg hmg hba=>?_
 have h0':(0:Nat) < ι.length:=by refine re R.len ?_;exact (List.getElem?_eq_some_iff.mp h0).1
 obtain ⟨p,hi⟩:∃ p,ι[0]?=some p:=⟨ι[0],by simp [h0']⟩
 obtain ⟨e1,e2,ps,hP,ht,hcs⟩:=R.obj 0 p _ hi h0
 rw [e2] at hP
 have hPS:T.tabP∈S:=by refine rf e2 ?_;exact R.sub _ (cN hi)
 have hB:=R.base
 have hmg':s.heap.Ns mainGlobals mg:=hmg.keeps hB
 have hba':s.heap.BuiltinsAt mg T.tabP:=by
   refine o25 hba fun bm ob b1 b2 b3 b4 b5 b6=>?_
   exact ⟨bm,ob,b1,b2,b3,b4,hB _ _ b5,b6⟩
 have hC:=kl.hd.keeps hB
 have fr:∀ a,s.heap.objs.size≤a→a∉S:=fun a ha m=>by
   refine o10 (R.live a m) fun o e=>?_
   exact absurd (Heap.lt_size e) (Nat.not_lt.mpr ha)
 refine re (arm_eval_Lambda ..) ?_
 refine wpAny_bind (wpAny_pure ?_)
 refine wpAny_bind (wpAny_holding (wpAny_pure ?_))
 show wpAny M A (makeFunction "<lambda>" (env.qual++"<lambda>") dz (.expr body) scope env [] [] [] pos pos.line) Q E s
 refine re hq ?_
 cases hf:codeAmong pos ps.toList with
 | some cv =>
   refine kla_makeFunctionHit hcl hg hmg' hcode hC hP ht hf hba' fun ctv h' tk k hsz=>?_
   have k2:dX s.heap (h'.push { cls:=.type "function",data:=.func (kla_fn "<lambda>" T.lq dz body scope cl ((mg "__name__").getD .none) cv ctv) }):=fun b o q=>Heap.get?_push_of_some _ (k b o q)
   refine h _ tk _ _ cv ctv (Go.grow _ _ _ _ k2) (R.grow k2) (fr _ hsz) (Heap.get?_push_size _ rfl) ?_
   refine o43 (hcs pos cv hf) fun c oc vs tq q1 q2 q3 q4=>?_
   exact ⟨c,oc,vs,tq,q1,k2 _ _ (aA.mp q2).2,q3,q4⟩
 | none =>
   have hgP:mainGlobals≠T.tabP:=fun q=>by
     refine o10 (cT hmg) fun o e=>?_
     rw [q,R.bS _ hPS] at e;cases e
   refine kla_makeFunction hcl hg hmg' hcode hC hP ht hf hgP hba' fun c' ctv h' tk hx hge hlt hrec hP'=>?_
   have hx2:Heap.ExtBut T.tabP s.heap (h'.push (kla_obj "<lambda>" T.lq dz body scope cl ((mg "__name__").getD .none) c' ctv)):=fun b o n q=>Heap.get?_push_of_some _ (hx b o n q)
   have hc':c'∉S:=fr _ hge
   obtain ⟨R',G'⟩:=R.turnX (W:=[]) hi (m:=.tab) (by refine re e2 ?_;exact hx2) (by refine re e2 ?_;exact ⟨_,Heap.get?_push_of_some _ hP'⟩) ⟨e1,e2,_,by refine re e2 ?_;exact Heap.get?_push_of_some _ hP',by
     refine re Array.toList_append ?_;exact wN _ ht,fun pos' cv hcv=>by
       rw [Array.toList_append] at hcv
       rcases Bc _ ht hcv with q | q
       · refine (hcs pos' cv q).mono fun a o z=>?_
         refine o01 (aA.mp z) fun n z=>?_
         exact aA.mpr ⟨n,hx2 a o (fun y=>n (by refine re y ?_;exact hPS)) z⟩
       · subst q
         refine o43 hrec fun c oc vs tq q1 q2 q3 q4=>?_
         cases q1
         exact ⟨c',oc,vs,tq,rfl,aA.mpr ⟨hc',Heap.get?_push_of_some _ q2⟩,q3,q4⟩⟩
   have hset:σ.set 0 .tab=σ:=by
     refine o10 (List.getElem?_eq_some_iff.mp h0) fun hl e=>?_
     refine rf e ?_;exact List.set_getElem_self hl
   rw [hset] at R'
   refine h _ tk _ _ (.ref c') ctv G' R' (fr _ (Nat.le_trans hge (Nat.le_of_lt hlt))) (Heap.get?_push_size _ rfl) ?_
   refine o43 hrec fun c oc vs tq q1 q2 q3 q4=>?_
   exact ⟨c,oc,vs,tq,q1,Heap.get?_push_of_some _ q2,q3,q4⟩
end
end
section
section
variable {T:Tabs} {B:Heap} {K:Frag} {NN:Names} {prog:Program} {w:World} {A:Around} {E:Value→Shared→Prop} {s:Shared} {env:PySem.Env} {N:List Addr} {hr:Heap} {e:Addr} {c fi:Nat}
theorem DQ {M:Model} (kn:KnowN T B NN) (k:∀ a o,B.get? a=some o→s.heap.get? a=some o) (hf:env.scope.kind=.function) (hg:env.globals=mainGlobals) {id:Str} {v:Value} {pos:Pos} {Q:Value→Shared→Prop} (hk:env.kindOf id=some .globalImplicit) (hv:NN.glob id=some v) (hd:(id == ("__debug__":Str))=false) (q:Q v s) :
   wpAny M A (eval (.Name id pos) env) Q E s:=by
 refine o12 kn.main fun mg h1 h2 h3=>?_
 exact Name_function_global hf hk (loadGlobal_global (by refine re hg ?_;exact h1.keeps k) (h2 _ _ hv) q) hd
noncomputable abbrev P4:=Pos×Pos×Pos×Pos
noncomputable def handlerOf (x:Nat×Str×Str×P4):ExceptHandler:=.ExceptHandler (some (.Name x.2.1 x.2.2.2.1)) none [.Return (some (.Constant (.str x.2.2.1) 0 x.2.2.2.2.1)) x.2.2.2.2.2.1] x.2.2.2.2.2.2
structure HandOk (T:Tabs) (NN:Names) (env:PySem.Env) (x:Nat×Str×Str×P4):Prop where
 lt:x.1 < 4
 kind:env.kindOf x.2.1=some .globalImplicit
 glob:NN.glob x.2.1=some (.ref (T.ea x.1))
 nd:(x.2.1 == ("__debug__":Str))=false
theorem wO {f0:Addr} (kx:KnowX T B K NN f0) (km:∀ c c',c < 4→c' < 4→exmOne K (.ref (T.ea c)) (.ref (T.ea c'))=some (c == c')) (kn:KnowN T B NN) (hK:K.In B) (hc:c < 4) (hf:env.scope.kind=.function) (hg:env.globals=mainGlobals) (hb:∀ h',Fly T N hr h' e c→∀ a o,B.get? a=some o→h'.get? a=some o)
   {w':Str} {Q:Flow→Shared→Prop}:∀ (hs:List (Nat×Str×Str×P4)),(∀ x∈hs,HandOk T NN env x)→(∀ x∈hs,x.1=c→x.2.2.1=w')→(∃ x∈hs,x.1=c)→∀ {s:Shared},Fly T N hr s.heap e c→jC s.heap e →
     (∀ h' tk' t,Fly T N hr h' e c→Q (.ret (.str w' t)) { s with heap:=h',toks:=tk' })→wpAny (model prog w) A (handleBy (.ref e) env (hs.map handlerOf)) Q E s
 | [],_,_,⟨_,m,_⟩,_,_,_,_=>nomatch m
 | x :: hs,ok,hw,ex,s,F,n,h=>by
   have kB:=hb _ F
   have X:=hK.keeps kB
   have o:=ok x (by simp)
   refine o23 F.exc fun oe vs he hcl hd _=>?_
   have LT:Looks (model prog w) s.heap (typeOf (.ref e)) (.ref (T.ea c)):=by
     have:=(Looks.ld (M:=model prog w) (part:=some headPart) he).andThen (f:=fun o:Obj=>(pure o.cls:Sem Value)) .now
     rw [hcl] at this
     exact this
   have hx:=exm_one X LT (km c x.1 hc o.lt)
   refine re List.map_cons ?_
   refine wpAny_handleBy_cons (codeAny_handlers_test (DQ kn kB hf hg o.kind o.glob o.nd (hx.here ?_))) (by intro q;cases q)
   by_cases q:x.1=c
   · have:(c == x.1)=true:=by refine re q ?_;simp
     refine re this ?_
     simp only [if_true]
     refine codeAny_handlers_suite (jD F n fun h' F' _=>?_)
     show wpAny _ _ (exec (.Return (some (.Constant (.str x.2.2.1) 0 x.2.2.2.2.1)) x.2.2.2.2.2.1) env >>= _) _ _ _
     refine re (exec_Return_some ..) (re (arm_eval_Constant ..) ?_)
     refine wpAny_bind (wpAny_bind (wpAny_standAt (wpAny_bind (wpAny_mkText (wpAny_pure (wpAny_pure ?_))))))
     refine re (hw x (by simp) q) ?_
     exact h h' _ _ F'
   · have:(c == x.1)=false:=by simpa using fun z=>q z.symm
     refine re this ?_
     refine wO kx km kn hK hc hf hg hb hs (fun y m=>ok y (List.mem_cons_of_mem _ m)) (fun y m=>hw y (List.mem_cons_of_mem _ m)) ?_ F n h
     refine o11 ex fun y m z=>?_
     rcases List.mem_cons.mp m with rfl | m
     · exact absurd z q
     · exact ⟨y,m,z⟩
end
section
variable {T:Tabs} {B:Heap} {l:List PySem.Env} {S S' N:List Addr} {ι ι':Cel} {σ':Sig} {h hr h':Heap} {e:Addr} {c:Nat}
theorem Fly.land (G:Go l [] S ι h S' ι' hr) (R:Rel T B l S' ι' σ' hr) (F:Fly T N hr h' e c) (n1:∀ a∈frs l,a∈N) (n2:∀ a∈N,a∈frs l∨h.get? a=none∧a∈S'∧a∉cells ι'):Rel T B l S' ι' σ' h'∧Go l [] S ι h S' ι' h':=by
 have NS:∀ a∈N,a∈S'∧a∉cells ι':=fun a m=>by
   rcases n2 a m with q | ⟨_,q⟩
   · exact R.frS q
   · exact q
 have kp:∀ a o,off S' hr a=some o→off S' h' a=some o:=fun a o q=>by
   refine o01 (aA.mp q) fun n q=>?_
   exact aA.mpr ⟨n,F.keep a o q fun m=>n (NS a m).1⟩
 have alive:∀ a o,hr.get? a=some o→∃ o',h'.get? a=some o':=fun a o q=>by
   by_cases m:a∈N
   · refine o10 (F.isNs a m) fun f hf=>?_
     exact cT (F.frm a f hf m)
   · exact ⟨o,F.keep a o q m⟩
 constructor
 · exact {
     base:=fun a o q=>F.keep a o (R.base a o q) fun m=>by have:=R.bS a (NS a m).1;rw [q] at this;cases this
     bS:=R.bS
     live:=fun a m=>let ⟨o,q⟩:=R.live a m;alive a o q
     sub:=R.sub
     nodup:=R.nodup
     len:=R.len
     obj:=fun i p m e1 e2=>(R.obj i p m e1 e2).keep kp (fun _ _ q=>q) fun o q=>F.keep _ o q fun z=>(NS _ z).2 (cN e1)
     stk:=fun env he=>by
       obtain ⟨h1,L,m,h2,h3,h4,h5⟩:=R.stk env he
       exact ⟨h1,L,m,h2,h3,h4,F.frm L m h5 (n1 L (List.mem_filterMap.mpr ⟨env,he,h2⟩))⟩ }
 · exact {
     step:=fun a o q n w f=>F.keep a o (G.step a o q n w f) fun m=>by
       rcases n2 a m with z | ⟨z,_⟩
       · exact f z
       · rw [z] at q;cases q
     frm:=fun a m q k w=>F.frm a m (G.frm a m q k w) (n1 a k)
     alive:=fun a o q=>let ⟨o',q'⟩:=G.alive a o q;alive a o' q'
     pre:=G.pre
     sub:=G.sub
     new:=G.new
     cel:=G.cel }
end
section
variable {P:Prog} {T:Tabs} {B:Heap} {K:Frag} {NN:Names} {prog:Program} {w:World}
theorem Bd {A:Around} {R:Result→Shared→Prop} {s:Shared} {x:Expr} {env:PySem.Env}
   (h:wpD (model prog w) (A.deeper env) (eval x env) (fun v s'=>R (.ok (.ret v)) s')
     (fun e s'=>wpD (model prog w) (A.deeper env) (leaving env e) (fun _ s''=>R (.error e) s'') (fun e' s''=>R (.error e') s'') s') s) :
   bj (model prog w) A (.expr x env) R s:=by
 refine bQ ?_
 show wpD _ (A.deeper env) (do point;ret (← (eval x env).onRaise (leaving env))) _ _ s
 exact az (wpAny_point (aa (cA (aV h (fun v s' h'=>aj h') fun _ _ h'=>h'))))
theorem tQ {A:Around} {R:Result→Shared→Prop} {s:Shared} {a:Addr} {args:Args} {o:Obj} {fd:FuncData} {body:Expr} (hroom:A.depth < recursionLimit)
   (ho:s.heap.get? a=some o) (hd':o.data=.func fd) (hco:fd.scope.isCoroutine=false) (hgen:fd.scope.isGenerator=false) (hbody:fd.body=.expr body) (hcd:s.heap.CodeRec fd.code fd.qualname)
   (h:wpAny (model prog w) A.in1 (bindArgs fd args) (fun binds s₁ =>
     wpAny (model prog w) A.in1 (newFunctionEnv fd.scope fd.globals fd.closure binds (fd.qualname++".<locals>.") (some a) fd.code none fd.builtins)
       (fun env s₂=>s₂.heap.NoLimit∧bj (model prog w) A (.expr body env) R s₂) (fun e s'=>R (.error e) s') s₁) (fun e s'=>R (.error e) s') s) :
   bj (model prog w) A (.call (.ref a) args) R s:=by
 refine bQ (D ?_)
 show wpAny _ A.in1 (callAny (.ref a) args) _ _ s
 refine wpAny_bind (wpAny_load ho ?_)
 refine o43 hcd fun c oc vs tq hc hoc hdc hq=>?_
 simp only [hd',callFunction,hco,hgen,hbody,hc]
 rw [hc] at h
 refine wpAny_bind (m:=field (.ref c) 1) (wpAny_field hoc hdc hq (wpAny_bind (wpAny_pure ?_)))
 exact wpAny_bind (wpAny_mono h (fun binds s₁ h₁=>wpAny_bind (wpAny_mono h₁ (fun env s₂ h₂=>wpAny_bind (wpAny_enterFrame h₂.1 hroom
   (wpAny_pure (And.intro rfl h₂.2)))) fun _ _ h'=>h')) fun _ _ h'=>h')
end
end
section
section
variable {P:Prog} {T:Tabs} {B:Heap} {K:Frag} {NN:Names} {prog:Program} {w:World}
noncomputable def fL (caps:List Nat) (ρ:Env):Env:=caps.map fun c=>(ρ[c]?).getD none
theorem HF {S:List Addr} {ι:Cel} {h:Heap} {scope:Scope} {env env2:PySem.Env} {sl cn:List Str} {caps:List Nat} {ρ:Env} (k:CompOk scope env sl [] caps cn) (L:Loc T env sl ρ S ι h) {m':Str→Option Value} (hn:h.Ns env2.locals m') (hC:env2.locals∈S∧env2.locals∉cells ι)
   (hs:env2.scope=scope) (hc:env2.cells=bL env scope.names []):Loc T env2 cn (fL caps ρ) S ι h where
 len:=by simp [fL,k.len]
 kind:=by refine re hs ?_;exact k.kind
 own:=fun a ha=>by
   rcases List.mem_cons.mp ha with rfl | ha
   · exact hC
   · obtain ⟨y,hy,rfl⟩:=List.mem_map.mp ha
     rw [hc] at hy
     exact L.own _ (gP ((k.cl L).2.1.cell y.1 y.2 hy))
 apart:=by refine re hc ?_;exact (k.cl L).2.1.apart
 nd:=by have:=k.nd;rw [List.nil_append] at this;exact this
 ns:=by
   refine ⟨m',hn,fun i x hx=>?_⟩
   refine o13 (k.cap _ x hx) fun c h1 h2 h3 h4=>?_
   refine o11 L.ns fun m hm hs'=>?_
   rcases hs' c x h2 with ⟨g1,_⟩ | ⟨_,a,v,g2,g3,g4⟩
   · rw [g1] at h4;rcases h4 with z | z<;>cases z
   · refine o11 (uL (k.cl L).2.1 ((k.cl L).2.2 (x,.free) (mem_of_lookup h3) rfl)) fun a' z1 z2=>?_
     rw [g2] at z2
     cases z2
     refine .inr ⟨.inr (by unfold Env.kindOf;refine re hs ?_;exact h3),a,v,by refine re hc ?_;exact z1,g3,fun b e=>g4 b ?_⟩
     unfold fL at e
     rw [List.getElem?_map,h1] at e
     simp only [Option.map_some,Option.some.injEq] at e
     cases hr:ρ[c]? with
     | none=>rw [hr] at e;cases e
     | some o=>rw [hr] at e;simp only [Option.getD_some] at e;exact re e rfl
noncomputable def tR (T:Tabs) (B:Heap) (prog:Program) (w:World) (n:Nat) (scope:Scope) (cn:List Str) (ρ2:Env) (body:Expr) (rb:Sig→R AV):Prop :=
 ∀ X2:Cx,X2.env.scope=scope→X2.Env→X2.Ok n→Sat T B prog w X2 cn ρ2 (eval body X2.env) rb
theorem HH (hB:B.NoLimit) {n:Nat} {scope:Scope} {env:PySem.Env} {sl cn:List Str} {caps:List Nat} {ρ:Env} {body:Expr} {rb:Sig→R AV} (k:CompOk scope env sl [] caps cn) (hco:scope.isCoroutine=false) (hgen:scope.isGenerator=false) (hb:tR T B prog w n scope cn (fL caps ρ) body rb)
   {A:Around} {l:List PySem.Env} {S:List Addr} {ι:Cel} {σ:Sig} {s:Shared} {Q E:Value→Shared→Prop} {lam:Addr} {pm cdv ctv:Value} {q:Str} (h1:A.depth + 4 * n + 1≤903) (h2:A.units + 32 * n + 3≤9028) (h3:A.frames=some l) (h4:A.guards=some []) (h5:A.handled=none)
   (R:Rel T B l S ι σ s.heap) (L:Loc T env sl ρ S ι s.heap) (ho:s.heap.get? lam=some { cls:=.type "function",data:=.func (kla_fn "<lambda>" q dz body scope (bL env scope.names []) pm cdv ctv) }) (hcr:s.heap.CodeRec cdv q) (p:bF T B l [] S ι s Q E (rb σ)) :
   bj (model prog w) A (.call (.ref lam) ⟨[],[]⟩) (wants Q E) s:=by
 refine tQ (by show A.depth < 1000;exact szl (Nat.lt_of_le_of_lt (Nat.le_add_right _ _) h1) rfl) ho rfl hco hgen rfl hcr ?_
 have hbind:bindArgs (kla_fn "<lambda>" q dz body scope (bL env scope.names []) pm cdv ctv) ⟨[],[]⟩=pure []:=by first | rfl | kernel_rfl
 refine re hbind ?_
 refine wpAny_pure (wpAny_newFunctionEnv k.nocell (fun y hy=>nomatch hy) (fun h₁ hns hsb=>?_) k.kind)
 have keep₁:∀ b o,s.heap.get? b=some o→h₁.get? b=some o:=fun b o q=>(hsb.2 b (Nat.ne_of_lt (Heap.lt_size q))).trans (Heap.get?_push_of_some _ q)
 refine ⟨(hB.keeps R.base).keeps keep₁,Bd ?_⟩
 generalize henv:newEnv scope s.heap.objs.size mainGlobals (bL env scope.names []) (q++".<locals>.") (some lam) cdv none builtinsNs=env2
 have hf:env2.frame=some s.heap.objs.size:=by refine rf henv ?_;rfl
 have hloc:env2.locals=s.heap.objs.size:=by refine rf henv ?_;rfl
 have hes:env2.scope=scope:=by refine rf henv ?_;rfl
 have hec:env2.cells=bL env scope.names []:=by refine rf henv ?_;rfl
 have hLn:s.heap.get? s.heap.objs.size=none:=dN _
 have hLc:s.heap.objs.size∉cells ι:=fun q=>by refine o10 (R.live _ (R.sub _ q)) fun o e=>?_;rw [hLn] at e;cases e
 refine o01 (R.back (h':=h₁) (fun a o e _=>keep₁ a o e) (fun a m _ e=>e.keeps keep₁) [s.heap.objs.size] (fun a m=>by refine re (List.mem_singleton.mp m) ?_;exact hLn) (fun a m=>by refine re (List.mem_singleton.mp m) ?_;exact cT hns)) fun R₁ G₁=>?_
 have R₂:Rel T B (env2 :: l) (S++[s.heap.objs.size]) ι σ h₁:=R₁.push (by refine re hes (re k.kind ?_);decide) hf (List.mem_append_right _ (by simp)) hLc hns
 have L₁:=L.go R G₁
 have L₂:Loc T env2 cn (fL caps ρ) (S++[s.heap.objs.size]) ι h₁:=HF k L₁ (by refine re hloc ?_;exact hns) ⟨by refine re hloc ?_;exact List.mem_append_right _ (by simp),by refine re hloc ?_;exact hLc⟩ hes hec
 have xo:Cx.Ok ⟨env2,A.deeper env2,env2 :: l⟩ n:=⟨by show A.depth + 1 + 4 * n≤903;exact rm h1 rfl,by show A.units + 3 + 32 * n≤9028;exact rm h2 rfl,by show A.frames.map _=_;refine re h3 ?_;rfl,h4,h5⟩
 refine hb ⟨env2,A.deeper env2,env2 :: l⟩ hes ⟨by refine rf henv ?_;rfl,by refine rf henv ?_;rfl⟩ xo R₂ L₂ ?_
 generalize rb σ=r at p
 cases r with
 | stuck=>exact p
 | ok v σ' =>
   intro h' tk' S' ι' f' G R' rv
   exact p h' tk' S' ι' _ (Go.pop hf G₁ G hLn fun _ m=>nomatch m) R'.pop rv
 | err c σ' =>
   intro h' tk' S' ι' hr N e G R' F n1 n2
   refine D (uP (outer:=l) (s:={ s with heap:=h',toks:=tk' }) xo.fr (R'.onStack n1) F fun h'' F' _=>?_)
   refine p h'' tk' S' ι' hr N e (Go.pop hf G₁ G hLn fun _ m=>nomatch m) R'.pop F' (fun a m=>n1 a ((dg hf).mpr (.inr m))) fun a m=>?_
   rcases n2 a m with q | ⟨q1,q2,q3⟩
   · rcases (dg hf).mp q with rfl | q
     · have:=R'.frS ((dg hf).mpr (.inl rfl))
       exact .inr ⟨hLn,this.1,this.2⟩
     · exact .inl q
   · exact .inr ⟨G₁.back q1,q2,q3⟩
end
end
section
noncomputable def tp1:Pos:=⟨418,15,418,19⟩
noncomputable def tp2:Pos:=⟨418,15,418,21⟩
noncomputable def tp3:Pos:=⟨418,8,418,21⟩
noncomputable def tp4:Pos:=⟨417,4,426,21⟩
structure HandOf (T:Tabs) (NN:Names) (fd:FuncData) (x:Nat×Str×Str×P4):Prop where
 lt:x.1 < 4
 look:fd.scope.names.lookup x.2.1=some .globalImplicit
 glob:NN.glob x.2.1=some (.ref (T.ea x.1))
 dbg:(x.2.1 == ("__debug__":Str))=false
 word:cX x.1=some x.2.2.1.cps.toList
structure TryOf (T:Tabs) (NN:Names) (fd:FuncData) (hs:List (Nat×Str×Str×P4)):Prop where
 bind:∀ a:Value,bindArgs fd ⟨[a],[]⟩=pure [(("call":Str),a)]
 each:∀ x∈hs,HandOf T NN fd x
 all:∀ c,c < 4→∃ x∈hs,x.1=c
structure KnowT (T:Tabs) (B:Heap) (K:Frag) (NN:Names) (ft:Addr):Prop where
 fn:∃ (o:Obj) (fd:FuncData) (hs:List (Nat×Str×Str×P4)),FrameOf B ft o fd (.stmts [.Try [.Return (some (.Call (.Name "call" tp1) [] [] tp2)) tp3] (hs.map handlerOf) [] [] tp4])∧NamesOf fd ["call"] []∧TryOf T NN fd hs
 keep:keepIn K (.ref ft)=true
 mat:∀ c c',c < 4→c' < 4→exmOne K (.ref (T.ea c)) (.ref (T.ea c'))=some (c == c')
noncomputable def oU:R AV→R AV
 | .ok v σ'=>.ok v σ'
 | .err c σ'=>match cX c with
   | some w=>.ok (.str w) σ'
   | none=>.stuck
 | .stuck=>.stuck
section
variable {P:Prog} {T:Tabs} {B:Heap} {K:Frag} {NN:Names} {prog:Program} {w:World} {f0 ft:Addr}
theorem vq {A:Around} {env:PySem.Env} {E:Value→Shared→Prop} {s:Shared} {body:List Stmt} {h₀:ExceptHandler} {hs:List ExceptHandler} {pos:Pos} {Q:Flow→Shared→Prop}
   (h:wpD (model prog w) A (execs body env) (fun f s₁=>match f with | .next=>wpD (model prog w) A (execs [] env) Q E s₁ | f=>Q f s₁)
     (fun e s₁=>wpD (model prog w) A (noteFrame e env) (fun _ s₂=>wpD (model prog w) A (setFlight e none) (fun _ s₃=>wpD (model prog w) A (handleBy e env (h₀ :: hs)) Q E s₃) E s₂) E s₁) s) :
   wpD (model prog w) A (exec (.Try body (h₀ :: hs) [] [] pos) env) Q E s:=by
 refine re (arm_exec_Try ..) ?_
 refine aa (aq ?_)
 refine aa (pM (aV h (fun f s₁ h₁=>?_) fun e s₁ h₁=>?_))
 · cases f<;>first | exact h₁ | exact aj h₁
 · exact aa (aV h₁ (fun _ s₂ h₂=>aa h₂) fun _ _ q=>q)
theorem K4 {c:Nat} {w:List Nat} (h:cX c=some w):c < 4∧∀ d∈w,d < 1114112:=by
 unfold cX at h
 split at h<;>first | (cases h;exact ⟨by decide,by decide⟩) | cases h
theorem Be (kx:KnowX T B K NN f0) (kt:KnowT T B K NN ft) (kn:KnowN T B NN) (hB:B.NoLimit) (hK:K.In B) {n:Nat} {scope:Scope} {env:PySem.Env} {sl cn:List Str} {caps:List Nat} {ρ:Env} {body:Expr} {rb:Sig→R AV} (k:CompOk scope env sl [] caps cn) (hco:scope.isCoroutine=false) (hgen:scope.isGenerator=false)
   (hb:tR T B prog w n scope cn (fL caps ρ) body rb) {A:Around} {l:List PySem.Env} {S:List Addr} {ι:Cel} {σ:Sig} {s:Shared} {Q E:Value→Shared→Prop} {lam:Addr} {pm cdv ctv:Value} {q:Str} (h1:A.depth + 4 * n≤901) (h2:A.units + 32 * n≤9020) (h3:A.frames=some l) (h4:A.guards=some []) (h5:A.handled=none)
   (R:Rel T B l S ι σ s.heap) (L:Loc T env sl ρ S ι s.heap) (hlS:lam∉S) (ho:s.heap.get? lam=some { cls:=.type "function",data:=.func (kla_fn "<lambda>" q dz body scope (bL env scope.names []) pm cdv ctv) }) (hcr:s.heap.CodeRec cdv q) (p:bF T B l [] S ι s Q E (oU (rb σ))) :
   bj (model prog w) A (.call (.ref ft) ⟨[.ref lam],[]⟩) (wants Q E) s:=by
 refine o32 kt.fn fun o fd hs F' N' H'=>?_
 have fcall:fd.scope.names.lookup ("call":Str)=some .local:=N'.loc "call" (.head _)
 refine eZ (by show A.depth < 1000;exact szt (Nat.le_trans (Nat.le_add_right _ _) h1) rfl) (R.base _ _ F'.get) F'.data N'.co N'.gen F'.body (F'.rec'.keeps R.base) ?_
 refine re (H'.bind ..) (re F'.glob (re F'.bins (re F'.clo ?_)))
 refine wpAny_pure (wpAny_newFunctionEnv N'.nc (fun y hy=>by refine re (List.mem_singleton.mp hy) ?_;exact fcall) (fun h₁ hns hsb=>?_) N'.kind)
 have keep₁:∀ b o,s.heap.get? b=some o→h₁.get? b=some o:=fun b o q=>(hsb.2 b (Nat.ne_of_lt (Heap.lt_size q))).trans (Heap.get?_push_of_some _ q)
 refine ⟨(hB.keeps R.base).keeps keep₁,mW ?_⟩
 generalize henv:newEnv fd.scope s.heap.objs.size mainGlobals [] (fd.qualname++".<locals>.") (some ft) fd.code none builtinsNs=env1
 have hf:env1.frame=some s.heap.objs.size:=by refine rf henv ?_;rfl
 have hloc:env1.locals=s.heap.objs.size:=by refine rf henv ?_;rfl
 have hes:env1.scope=fd.scope:=by refine rf henv ?_;rfl
 have heg:env1.globals=mainGlobals:=by refine rf henv ?_;rfl
 have hkf:env1.scope.kind=.function:=by refine re hes ?_;exact N'.kind
 have kC:env1.kindOf "call"=some .local:=by unfold Env.kindOf;refine re hes ?_;exact fcall
 have hLn:s.heap.get? s.heap.objs.size=none:=dN _
 have hLc:s.heap.objs.size∉cells ι:=fun q=>by refine o10 (R.live _ (R.sub _ q)) fun o e=>?_;rw [hLn] at e;cases e
 refine o01 (R.back (h':=h₁) (fun a o e _=>keep₁ a o e) (fun a m _ e=>e.keeps keep₁) [s.heap.objs.size] (fun a m=>by refine re (List.mem_singleton.mp m) ?_;exact hLn) (fun a m=>by refine re (List.mem_singleton.mp m) ?_;exact cT hns)) fun R₁ G₁=>?_
 have R₂:Rel T B (env1 :: l) (S++[s.heap.objs.size]) ι σ h₁:=R₁.push (by refine re hes (re N'.kind ?_);decide) hf (List.mem_append_right _ (by simp)) hLc hns
 have L₁:=L.go R G₁
 have fr1:(A.deeper env1).frames=some (env1 :: l):=by show A.frames.map _=_;refine re h3 ?_;rfl
 have hwd:∀ c w',cX c=some w'→∀ x∈hs,x.1=c→x.2.2.1=⟨w'.toArray⟩:=fun c w' hw x m q=>by
   have:=(H'.each x m).word
   rw [q,hw] at this
   have:=Option.some.inj this
   exact re this rfl
 obtain ⟨y0,hs',rfl⟩:∃ y0 hs',hs=y0 :: hs':=by
   refine o11 (H'.all 0 (by decide)) fun x m _=>?_
   cases hs with
   | nil=>cases m
   | cons y r=>exact ⟨y,r,rfl⟩
 show wpD _ _ (exec (.Try [.Return (some (.Call (.Name "call" tp1) [] [] tp2)) tp3] (handlerOf y0 :: hs'.map handlerOf) [] [] tp4) env1 >>= _) _ _ _
 refine aa (vq ?_)
 show wpD _ _ (exec (.Return (some (.Call (.Name "call" tp1) [] [] tp2)) tp3) env1 >>= _) _ _ _
 refine re (exec_Return_some ..) ?_
 have e:eval (.Call (.Name "call" tp1) [] [] tp2) env1=(do callWith tp2 (← eval (.Name "call" tp1) env1) [] [] []):=rfl
 refine re e ?_
 have hm:(fun x=>List.lookup x [(("call":Str),Value.ref lam)].reverse) "call"=some (.ref lam):=by simp
 refine aa (aa (aq (aa (az (wpAny_Name (wpAny_loadName_local hkf kC (by refine re hloc ?_;exact hns) hm ?_) (by decide))))))
 have ho₁:=keep₁ _ _ ho
 refine dq (P:=fun h=>∃ o fd,h.get? lam=some o∧o.data=.func fd) rfl (fun h ⟨o,fd,q1,q2⟩=>⟨.frame,.inl rfl,fun A Q E s k q=>?_⟩) ?_
 · unfold keeperOf
   refine wpAny_bind (wpAny_load (k _ _ q1) ?_)
   refine re q2 ?_
   exact wpAny_pure q
 rw [spliced]
 refine aj ⟨⟨_,_,ho₁,rfl⟩,?_⟩
 refine cH (HH (A:=A.deeper env1) (l:=env1 :: l) (s:={ s with heap:=h₁,toks:=_ }) hB k hco hgen hb (by show A.depth + 1 + 4 * n + 1≤903;exact rm1 h1 rfl) (by show A.units + 3 + 32 * n + 3≤9028;exact rm1 h2 rfl) fr1 h4 h5 R₂ L₁ ho₁ (hcr.keeps keep₁) ?_)
 unfold oU at p
 generalize rb σ=r at p
 cases r with
 | stuck=>exact p
 | ok v σ' =>
   intro h' tk' S' ι' f' G R' rv
   exact aj (aj (aj (p h' tk' S' ι' _ (Go.pop hf G₁ G hLn fun _ m=>nomatch m) R'.pop rv)))
 | err c σ' =>
   intro h' tk' S' ι' hr N e G R' F n1 n2
   dsimp only at p
   cases hw:cX c with
   | none=>rw [hw] at p;exact p.elim
   | some w' =>
     rw [hw] at p
     refine o01 (K4 hw) fun hc4 hcp=>?_
     have Gp:=Go.pop hf G₁ G hLn (fun _ m=>nomatch m)
     have hn2:∀ a∈N,a∈frs l∨s.heap.get? a=none∧a∈S'∧a∉cells ι':=fun a m=>by
       rcases n2 a m with q | ⟨q1,q2,q3⟩
       · rcases (dg hf).mp q with rfl | q
         · have:=R'.frS ((dg hf).mpr (.inl rfl))
           exact .inr ⟨hLn,this.1,this.2⟩
         · exact .inl q
       · exact .inr ⟨G₁.back q1,q2,q3⟩
     have hn1:∀ a∈frs l,a∈N:=fun a m=>n1 a ((dg hf).mpr (.inr m))
     have hbase:∀ h'',Fly T N hr h'' e c→∀ a o,B.get? a=some o→h''.get? a=some o:=fun h'' F''=>(Fly.land Gp R'.pop F'' hn1 hn2).1.base
     refine D (qy (outer:=l) (s:={ s with heap:=h',toks:=tk' }) fr1 (R'.onStack n1) F fun h₂ F₂ nt₂=>D (jD (s:={ s with heap:=h₂,toks:=tk' }) F₂ nt₂ fun h₃ F₃ nt₃=>D ?_))
     refine wO (s:={ s with heap:=h₃,toks:=tk' }) (w':=⟨w'.toArray⟩) kx kt.mat kn hK hc4 hkf heg hbase (y0 :: hs') (fun x m=>?_) (hwd c w' hw) (H'.all c hc4) F₃ nt₃ fun h₄ tk₄ t F₄=>?_
     · have g:=H'.each x m
       exact ⟨g.lt,by unfold Env.kindOf;refine re hes ?_;exact g.look,g.glob,g.dbg⟩
     · refine o01 (Fly.land Gp R'.pop F₄ hn1 hn2) fun Rf Gf=>?_
       exact aj (p h₄ tk₄ S' ι' _ Gf Rf ⟨t,rfl,hcp⟩)
variable {X:Cx} {sl cn:List Str} {caps:List Nat} {ρ:Env}
theorem DR (kx:KnowX T B K NN f0) (kt:KnowT T B K NN ft) (kl:KnowL T B) (kn:KnowN T B NN) (hB:B.NoLimit) (hK:K.In B) (xe:X.Env) {n:Nat} (xo:X.Ok n) (x1:X.A.depth + 4 * n≤901) (x2:X.A.units + 32 * n≤9003) (hcode:X.env.code=.ref T.lc) (hq:X.env.qual++"<lambda>"=T.lq)
   {id:Str} {np cpos lpos:Pos} {scope:Scope} {body:Expr} {rb:Sig→R AV} (hk:X.env.kindOf id=some .globalImplicit) (hv:NN.glob id=some (.ref ft)) (hd:(id == ("__debug__":Str))=false) (k:CompOk scope X.env sl [] caps cn) (hco:scope.isCoroutine=false) (hgen:scope.isGenerator=false)
   (hb:tR T B prog w n scope cn (fL caps ρ) body rb) :
   Sat T B prog w X sl ρ (eval (.Call (.Name id np) [.Lambda dz body scope lpos] [] cpos) X.env) (fun σ=>match (σ[0]?:Option MO) with | some .tab=>oU (rb σ) | _=>.stuck):=by
 intro S ι σ s Q E R L p
 dsimp only at p
 split at p
 · rename_i h0
   have e:eval (.Call (.Name id np) [.Lambda dz body scope lpos] [] cpos) X.env=(do callWith cpos (← eval (.Name id np) X.env) [] (backTo cpos (starEach [.Lambda dz body scope lpos] X.env)) (backToKw cpos (keywordEach [] X.env))):=rfl
   refine re e (re (bT (by rfl)) ?_)
   refine az (lg kn xe hk hv hd R L ?_)
   refine dq (P:=fun h=>K.In h) (plain_any _) (fun h Xh=>keeps_K kt.keep h Xh) ?_
   show wpD _ _ (spliced [(false,eval (.Lambda dz body scope lpos) X.env)]) _ _ _
   rw [spliced]
   refine az (HD kl R h0 hcode xe.glob (k.cl L).1 hq fun h' tk' lam pm cdv ctv G R' hnS ho hcr=>?_)
   refine aa (aj (aa (ao ?_)))
   rw [spliced]
   refine aj (aj ⟨hK.keeps R'.base,cH (Be (s:={ s with heap:=h',toks:=tk' }) kx kt kn hB hK k hco hgen hb x1 (by exact szl x2 rfl) xo.fr xo.gd xo.hd R' (L.go R G) hnS ho hcr (aF.later G p))⟩)
 · exact p.elim
end
end
section
noncomputable def wQ (h:Heap) (L:Addr):List (Addr×Obj):=(List.range h.objs.size).filterMap fun a=>if a=L then none else (h.get? a).map (a,·)
theorem jE {h:Heap} {L:Addr} {p:Addr×Obj}:p∈wQ h L↔p.1≠L∧h.get? p.1=some p.2:=by
 unfold wQ
 rw [List.mem_filterMap]
 constructor
 · rintro ⟨a,_,e⟩
   split at e
   · cases e
   · rename_i n
     refine o11 (Option.map_eq_some_iff.mp e) fun o h1 h2=>?_
     subst h2
     exact ⟨n,h1⟩
 · rintro ⟨n,e⟩
   exact ⟨p.1,List.mem_range.mpr (Heap.lt_size e),by refine re (if_neg n) (re e ?_);rfl⟩
noncomputable def wR:Heap:={ objs:=#[] }
theorem rR (a:Addr):wR.get? a=none:=rfl
noncomputable def cM {α:Type} (lt:Nat→Nat→Bool):KasT α→α
 | .ret a=>a
 | .ask i j k=>cM lt (k (lt i j))
noncomputable def lu {α:Type} (n:Nat):KasT α→Bool
 | .ret _=>true
 | .ask i j k=>decide (i < n) && decide (j < n) && decide (i≠j) && lu n (k true) && lu n (k false)
theorem wU {α:Type} {n:Nat} {cmp:Nat→Nat→(Bool→Shared→Prop)→Shared→Prop} {lt:Nat→Nat→Bool} {s:Shared} (hc:∀ i j (C:Bool→Shared→Prop),i < n→j < n→i≠j→C (lt i j) s→cmp i j C s) {Q:α→Shared→Prop}:∀ t:KasT α,lu n t=true→Q (cM lt t) s→t.kasWp cmp Q s
 | .ret _,_,h=>h
 | .ask i j k,hi,h=>by
   simp only [lu,Bool.and_eq_true,decide_eq_true_eq] at hi
   obtain ⟨⟨⟨⟨h1,h2⟩,h3⟩,h4⟩,h5⟩:=hi
   exact hc i j _ h1 h2 h3 (wU hc (k (lt i j)) (by cases lt i j<;>assumption) h)
theorem DW:lu 2 (kas_sort 2)=true:=by decide +kernel
theorem DX:lu 3 (kas_sort 3)=true:=by decide +kernel
noncomputable def rT (h:Heap) (p:List Nat×Int) (v:Value):Prop:=∃ a t u,v=.ref a∧IsTup h a #[.str ⟨p.1.toArray⟩ t,.int p.2 u]
noncomputable def dF (h:Heap):List (List Nat×Int)→List Value→Prop
 | [],[]=>True
 | p :: ps,v :: vs=>rT h p v∧dF h ps vs
 | _,_=>False
theorem dF.length {h:Heap}:∀ {ps:List (List Nat×Int)} {vs:List Value},dF h ps vs→ps.length=vs.length
 | [],[],_=>rfl
 | _ :: _,_ :: _,q=>by exact re List.length_cons (re List.length_cons (re (dF.length q.2) rfl))
 | [],_ :: _,q=>q.elim
 | _ :: _,[],q=>q.elim
theorem dF.get {h:Heap}:∀ {ps:List (List Nat×Int)} {vs:List Value},dF h ps vs→∀ i,i < ps.length→∃ p,ps[i]?=some p∧rT h p (vs.getD i .none)
 | [],[],_,i,hi=>by simp at hi
 | p :: _,v :: _,q,0,_=>⟨p,rfl,q.1⟩
 | _ :: ps,_ :: vs,q,i + 1,hi=>by
   refine o11 (dF.get q.2 i (by simpa using hi)) fun p h1 h2=>?_
   exact ⟨p,by simpa using h1,by simpa using h2⟩
 | [],_ :: _,q,_,_=>q.elim
 | _ :: _,[],q,_,_=>q.elim
theorem rT.keeps {h h':Heap} {p:List Nat×Int} {v:Value} (x:rT h p v) {L:Addr} {m:Str→Option Value} (hn:h.Ns L m) (k:∀ b o,b≠L→h.get? b=some o→h'.get? b=some o):rT h' p v:=by
 obtain ⟨a,t,u,e,o,ho,hc,n,hd⟩:=x
 refine ⟨a,t,u,e,o,k a o (fun q=>?_) ho,hc,n,hd⟩
 refine o32 hn fun o' es ep ho' hd' _=>?_
 rw [q,ho'] at ho
 cases ho
 rw [hd'] at hd;cases hd
theorem dF.keeps {h h':Heap} {L:Addr} {m:Str→Option Value} (hn:h.Ns L m) (k:∀ b o,b≠L→h.get? b=some o→h'.get? b=some o):∀ {ps:List (List Nat×Int)} {vs:List Value},dF h ps vs→dF h' ps vs
 | [],[],_=>trivial
 | _ :: _,_ :: _,q=>⟨q.1.keeps hn k,dF.keeps hn k q.2⟩
 | [],_ :: _,q=>q.elim
 | _ :: _,[],q=>q.elim
theorem dF.tups {h:Heap} {ps:List (List Nat×Int)} {vs:List Value} (q:dF h ps vs):∃ fs,KatTups h vs fs∧fs.length=ps.length∧∀ f∈fs,∃ x t,f=.str x t:=by
 induction ps generalizing vs with
 | nil =>
   cases vs with
   | nil=>exact ⟨[],trivial,rfl,fun _ m=>nomatch m⟩
   | cons=>exact q.elim
 | cons p ps ih =>
   cases vs with
   | nil=>exact q.elim
   | cons v vs =>
     obtain ⟨⟨a,t,u,e,o,ho,hc,n,hd⟩,q⟩:=q
     refine o12 (ih q) fun fs h1 h2 h3=>?_
     refine ⟨.str ⟨p.1.toArray⟩ t :: fs,⟨⟨a,o,_,n,e,ho,hc,hd,rfl⟩,h1⟩,congrArg (· + 1) h2,fun f m=>?_⟩
     rcases List.mem_cons.mp m with rfl | m
     · exact ⟨_,_,rfl⟩
     · exact h3 f m
noncomputable def gk (ps:List (List Nat×Int)) (i j:Nat):Bool:=decide (((ps.map (·.1)).getD i []) < ((ps.map (·.1)).getD j []))
section
variable {prog:Program} {w:World} {A:Around} {E:Value→Shared→Prop} {s:Shared}
theorem yJ {L l:Addr} {m:Str→Option Value} {ps:List (List Nat×Int)} {vs:List Value} {Q:Value→Shared→Prop} (hn:s.heap.Ns L m) (hl:s.heap.IsList l vs.toArray) (hr:dF s.heap ps vs) (hnd:(ps.map (·.1)).Nodup) (h2:ps.length=2∨ps.length=3)
   (h:∀ D h' c,(∀ b o,b≠L→s.heap.get? b=some o→h'.get? b=some o)→h'.Ns L m→s.heap.get? D=none →
     h'.get? D=some (listOf (List.toArray ((cM (gk ps) (kas_sort ps.length)).toList.map fun i=>vs.getD i Value.none)) c)→Q (.ref D) { s with heap:=h' }) :
   wpAny (model prog w) A (call (.builtin "sorted") [.ref l]) Q E s:=by
 have hlen:=hr.length
 have F:Fr wR L s.heap m:=⟨hn,(fun b o e=>by rw [rR] at e;cases e),Nat.zero_le _⟩
 have N:News wR L s.heap (wQ s.heap L):=fun p hp=>by
   refine o01 (jE.mp hp) fun a b=>?_
   exact ⟨b,a,rR _⟩
 refine kat_sorted F N hl (by lia) (by lia) fun D e1 h' F' N' hD=>?_
 have keep:∀ b o,b≠L→s.heap.get? b=some o→h'.get? b=some o:=fun b o n e=>(N' (b,o) (List.mem_cons_of_mem _ (jE.mpr ⟨n,e⟩))).1
 have hr':=hr.keeps hn keep
 refine o12 hr'.tups fun fs t1 t2 t3=>?_
 refine kat_kind (T:=.type "str") t1 (by lia) (fun f hf=>?_) (by rfl) ?_
 · obtain ⟨x,t,rfl⟩:=t3 f hf
   exact Looks.of_pure rfl
 have hDn:s.heap.get? D=none:=none_of fun o e=>by
   by_cases q:D=L
   · exact (N' _ List.mem_cons_self).2.1 q
   · exact Nat.lt_irrefl _ (hD (D,o) (jE.mpr ⟨q,e⟩))
 refine rf hlen ?_
 refine wU (n:=ps.length) (lt:=gk ps) (fun i j C hi hj hij hC=>?_) _ ?_ ?_
 · unfold kas_ask
   obtain ⟨p,e1,a,t,u,ev,o,ho,hc,n,hd⟩:=hr'.get i hi
   obtain ⟨q,e2,a2,t2,u2,ev2,o2,ho2,hc2,n2,hd2⟩:=hr'.get j hj
   refine re ev (re ev2 ?_)
   have hne:((⟨p.1.toArray⟩:Str) == ⟨q.1.toArray⟩)=false:=by
     refine re (str_beq ..) ?_
     refine beq_eq_false_iff_ne.mpr fun z=>hij ?_
     have n1:(ps.map (·.1))[i]?=some p.1:=by refine re (List.getElem?_map) (re e1 ?_);rfl
     have n2:(ps.map (·.1))[j]?=some q.1:=by refine re (List.getElem?_map) (re e2 ?_);rfl
     rw [z] at n1
     refine o10 (List.getElem?_eq_some_iff.mp n1) fun hi' n1=>?_
     refine o10 (List.getElem?_eq_some_iff.mp n2) fun hj' n2=>?_
     have nd:=List.pairwise_iff_getElem.mp hnd
     rcases Nat.lt_trichotomy i j with q' | q' | q'
     · exact absurd (n1.trans n2.symm) (nd i j hi' hj' q')
     · exact q'
     · exact absurd (n2.trans n1.symm) (nd j i hj' hi' q')
   refine kat_lt (s:={ s with heap:=h' }) ho hd ho2 hd2 (kat_cons (eqBool_str ?_))
   refine re hne ?_
   refine kat_no (oneLt_str ?_)
   have g1:(ps.map (·.1)).getD i []=p.1:=by refine re (List.getD_eq_getElem?_getD) (re (List.getElem?_map) (re e1 ?_));rfl
   have g2:(ps.map (·.1)).getD j []=q.1:=by refine re (List.getD_eq_getElem?_getD) (re (List.getElem?_map) (re e2 ?_));rfl
   unfold gk at hC
   rw [g1,g2] at hC
   exact hC
 · rcases h2 with q | q<;>refine re q ?_
   · exact DW
   · exact DX
 · refine KasFin.intro F' N' (UpdF.head fun p hp=>Nat.ne_of_lt (hD p hp)) fun h'' c F'' N''=>?_
   exact h D h'' c (fun b o n e=>(N'' (b,o) (List.mem_cons_of_mem _ (jE.mpr ⟨n,e⟩))).1) F''.ns hDn (N'' _ List.mem_cons_self).1
theorem wV {l:Addr} {vs:List Value} {Q:Value→Shared→Prop} (hl:s.heap.IsList l vs.toArray) (h2:vs.length < 2)
   (h:∀ D h' c,(∀ b o,s.heap.get? b=some o→h'.get? b=some o)→s.heap.get? D=none→h'.get? D=some (seqObj "list" vs.toArray c)→Q (.ref D) { s with heap:=h' }) :
   wpAny (model prog w) A (call (.builtin "sorted") [.ref l]) Q E s:=by
 refine Calls.call_function_entry kind_sorted plain_sorted entry_sorted (args_sorted1 _) ?_
 refine wpAny_bind (m:=checkCount "sorted" 1 1 _) (wpAny_pure ?_)
 refine wpAny_bind (collect_list hl ?_ (by rw [sizeLine_eq];exact szl (Nat.le_of_lt h2) rfl))
 refine wpAny_bind (wpAny_newList ?_ (by rw [sizeLine_eq];exact szl (Nat.le_of_lt h2) rfl))
 have hsz:((s.heap.push (seqObj "list" #[] 0)).update s.heap.objs.size (Obj.mapSeq (·++vs.toArray))).objs.size=s.heap.objs.size + 1:=by
   rw [Heap.size_update,size_push']
 have hoL:(((s.heap.push (seqObj "list" #[] 0)).update s.heap.objs.size (Obj.mapSeq (·++vs.toArray))).push (seqObj "list" vs.toArray 0)).get? (s.heap.objs.size + 1)=some (seqObj "list" vs.toArray 0):=by
   rw [← hsz];exact Heap.get?_push_size _ rfl
 have keep:∀ b o,s.heap.get? b=some o→(((s.heap.push (seqObj "list" #[] 0)).update s.heap.objs.size (Obj.mapSeq (·++vs.toArray))).push (seqObj "list" vs.toArray 0)).get? b=some o:=fun b o q=>by
   have hlt:b < s.heap.objs.size:=Heap.lt_size q
   rw [Heap.get?_push_ne _ _ _ (by rw [hsz];exact Nat.ne_of_lt (Nat.lt_succ_of_lt hlt)),Heap.get?_update_ne _ _ _ _ (Nat.ne_of_lt hlt),Heap.get?_push_ne _ _ _ (Nat.ne_of_lt hlt)]
   exact q
 show wpAny _ _ _ _ _ { s with heap:=((s.heap.push (seqObj "list" #[] 0)).update s.heap.objs.size (Obj.mapSeq (·++vs.toArray))).push (seqObj "list" vs.toArray 0) }
 rw [hsz]
 generalize hH:((s.heap.push (seqObj "list" #[] 0)).update s.heap.objs.size (Obj.mapSeq (·++vs.toArray))).push (seqObj "list" vs.toArray 0)=H at hoL keep ⊢
 refine wpAny_bind (wpAny_holding (wpAny_call_entry slot_list_sort ⟨_,hoL,rfl⟩ entry_list_sort ?body (args_list_sort _)))
 case body =>
   have ha:s.heap.objs.size + 1 < H.objs.size:=Heap.lt_size hoL
   obtain ⟨e1,ho1⟩:∃ e1,(H.update (s.heap.objs.size + 1) (Obj.mapSeq fun _=>(#[]:Array Value))).get? (s.heap.objs.size + 1)=some (seqObj "list" #[] e1):=⟨_,get?_update_seq hoL fun _=>#[]⟩
   rw [list_sort_plain]
   refine wpAny_bind (listItems_at hoL rfl ?_)
   refine wpAny_bind (listUpdate_at hoL rfl ?_ (by rw [List.size_toArray,sizeLine_eq];exact szl (Nat.le_of_lt h2) rfl) (Nat.zero_le _))
   refine wpAny_bind (seqEpoch_at ho1 rfl ?_)
   refine wpAny_bind (wpAny_newTuple ?_ (by show vs.length≤_;rw [sizeLine_eq];exact szl (Nat.le_of_lt h2) rfl))
   refine wpAny_bind (wpAny_newList ?_ (Nat.zero_le _))
   refine wpAny_holding ?_
   dsimp only
   have hn2:vs.toArray.size < 2:=by rw [List.size_toArray];exact h2
   rw [if_pos hn2,if_pos hn2]
   refine wpAny_bind (wpAny_pure ?_)
   refine wpAny_bind (wpAny_pure (a:=((),SortSt.mk' general' (vs.toArray.zip vs.toArray) #[] 7 none)) ?_)
   have ho2:(((H.update (s.heap.objs.size + 1) (Obj.mapSeq fun _=>(#[]:Array Value))).push { cls:=.type "tuple",data:=.seq vs.toArray }).push { cls:=.type "list",data:=.seq #[] }).get? (s.heap.objs.size + 1)=some (seqObj "list" #[] e1) :=
     Heap.get?_push_of_some _ (Heap.get?_push_of_some _ ho1)
   have hz:(vs.toArray.zip vs.toArray).map (·.2)=vs.toArray:=by
     apply Array.toList_inj.mp
     rw [Array.toList_map,Array.toList_zip]
     simp [List.map_snd_zip]
   refine wpAny_bind (seqEpoch_at ho2 rfl ?_)
   refine wpAny_bind (listUpdate_at ho2 rfl ?_ (Nat.zero_le _) (by
     rw [hz,List.size_toArray,sizeLine_eq];exact szl (Nat.le_of_lt hn2) rfl))
   show wpAny _ _ (if (e1 != e1)=true then _ else ret Value.none) _ _ _
   rw [if_neg (by simp)]
   refine wpAny_pure ⟨_,rfl,wpAny_pure ⟨_,rfl,?_⟩⟩
   obtain ⟨c2,hc2⟩:∃ c2,((((H.update (s.heap.objs.size + 1) (Obj.mapSeq fun _=>(#[]:Array Value))).push { cls:=.type "tuple",data:=.seq vs.toArray }).push { cls:=.type "list",data:=.seq #[] }).update (s.heap.objs.size + 1) (Obj.mapSeq fun _=>(vs.toArray.zip vs.toArray).map (·.2))).get? (s.heap.objs.size + 1) =
     some (seqObj "list" ((vs.toArray.zip vs.toArray).map (·.2)) c2):=⟨_,get?_update_seq ho2 fun _=>_⟩
   rw [hz] at hc2
   refine h _ _ c2 (fun b o q=>?_) (Heap.get?_none_of_le (Nat.le_succ _)) (by
     rw [hz];exact hc2)
   have hne:b≠s.heap.objs.size + 1:=Nat.ne_of_lt (Nat.lt_succ_of_lt (Heap.lt_size q))
   rw [Heap.get?_update_ne _ _ _ _ hne]
   refine Heap.get?_push_of_some _ (Heap.get?_push_of_some _ ?_)
   rw [Heap.get?_update_ne _ _ _ _ hne]
   exact keep b o q
end
end
noncomputable def fB (a b c:Bool):Nat→Nat→Bool
 | 1,0=>a | 0,1=>!a | 2,0=>b | 0,2=>!b | 2,1=>c | 1,2=>!c | _,_=>false
theorem jx {α:Type} {n:Nat} {f g:Nat→Nat→Bool} (h:∀ i j,i < n→j < n→i≠j→f i j=g i j):∀ t:KasT α,lu n t=true→cM f t=cM g t
 | .ret _,_=>rfl
 | .ask i j k,hi=>by
   simp only [lu,Bool.and_eq_true,decide_eq_true_eq] at hi
   obtain ⟨⟨⟨⟨h1,h2⟩,h3⟩,h4⟩,h5⟩:=hi
   show cM f (k (f i j))=cM g (k (g i j))
   refine re (h i j h1 h2 h3) ?_
   exact jx h _ (by cases g i j<;>assumption)
noncomputable def HJ (a b c:Bool):List Nat:=bif b then (bif a then (bif c then [2,1,0] else [1,2,0]) else [2,0,1]) else bif a then [1,0,2] else bif c then [0,2,1] else [0,1,2]
theorem QH:∀ a b c:Bool,(b=false→a=false∨c=false)→(b=true→a=true∨c=true)→(cM (fB a b c) (kas_sort 3)).toList=HJ a b c:=by decide +kernel
theorem QJ:∀ a b c:Bool,(cM (fB a b c) (kas_sort 2)).toList=if a then [1,0] else [0,1]:=by decide +kernel
theorem pD {x y:List Nat} (h:x≠y):decide (x < y)=!decide (y < x):=by
 rcases Std.lt_trichotomy x y with q | q | q
 · have:¬ y < x:=fun z=>Std.lt_irrefl (Std.lt_trans q z)
   simp [q,this]
 · exact absurd q h
 · have:¬ x < y:=fun z=>Std.lt_irrefl (Std.lt_trans q z)
   simp [q,this]
theorem tU {p q:List Nat×Int} {r:List (List Nat×Int)} (h:p.1 < q.1):du p (q :: r)=p :: q :: r:=if_pos h
theorem tV {p q:List Nat×Int} {r:List (List Nat×Int)} (h:¬ p.1 < q.1):du p (q :: r)=q :: du p r:=if_neg h
noncomputable def JC {α:Type} (a b c:Bool) (x y z:α):List α:=bif a then (bif c then [z,y,x] else bif b then [y,z,x] else [y,x,z]) else (bif b then [z,x,y] else bif c then [x,z,y] else [x,y,z])
theorem HN (x y z:List Nat×Int):du z (du y [x])=JC (decide (y.1 < x.1)) (decide (z.1 < x.1)) (decide (z.1 < y.1)) x y z:=by
 by_cases a:y.1 < x.1
 · refine re (tU a) (re (decide_eq_true a) ?_)
   by_cases c:z.1 < y.1
   · refine re (tU c) (re (decide_eq_true c) ?_);rfl
   · refine re (tV c) (re (decide_eq_false c) ?_)
     by_cases b:z.1 < x.1
     · refine re (tU b) (re (decide_eq_true b) ?_);rfl
     · refine re (tV b) (re (decide_eq_false b) ?_);rfl
 · refine re (tV a) (re (decide_eq_false a) (re (show du y []=[y] from rfl) ?_))
   by_cases b:z.1 < x.1
   · refine re (tU b) (re (decide_eq_true b) ?_);rfl
   · refine re (tV b) (re (decide_eq_false b) ?_)
     by_cases c:z.1 < y.1
     · refine re (tU c) (re (decide_eq_true c) ?_);rfl
     · refine re (tV c) (re (decide_eq_false c) ?_);rfl
theorem DY {a b c:Bool} (t1:b=false→a=false∨c=false) (t2:b=true→a=true∨c=true) (x y z:List Nat×Int):JC a b c x y z=(HJ a b c).map fun i=>[x,y,z].getD i ([],0):=by
 cases a<;>cases b<;>cases c<;>first | rfl | exact (t1 rfl).elim (fun h=>nomatch h) fun h=>nomatch h | exact (t2 rfl).elim (fun h=>nomatch h) fun h=>nomatch h
theorem K5:∀ a b c:Bool,∀ i∈HJ a b c,i < 3:=by decide
theorem K6:∀ a:Bool,∀ i∈(if a=true then [1,0] else [0,1]),i < 2:=by decide
theorem by3 {P:Nat→Nat→Prop} (h01:P 0 1) (h10:P 1 0) (h02:P 0 2) (h20:P 2 0) (h12:P 1 2) (h21:P 2 1) (i j:Nat) (hi:i < 3) (hj:j < 3) (h:i≠j):P i j:=by
 have d:∀ i,i < 3→i=0∨i=1∨i=2:=by decide
 rcases d i hi with rfl | rfl | rfl<;>rcases d j hj with rfl | rfl | rfl<;>first | assumption | exact absurd rfl h
theorem by2 {P:Nat→Nat→Prop} (h01:P 0 1) (h10:P 1 0) (i j:Nat) (hi:i < 2) (hj:j < 2) (h:i≠j):P i j:=by
 have d:∀ i,i < 2→i=0∨i=1:=by decide
 rcases d i hi with rfl | rfl<;>rcases d j hj with rfl | rfl<;>first | assumption | exact absurd rfl h
theorem Ny {x y:List Nat×Int} (h:x.1≠y.1):∃ q:List Nat,(cM (gk [x,y]) (kas_sort 2)).toList=q∧(∀ i∈q,i < 2)∧cW [x,y]=q.map fun i=>[x,y].getD i ([],0):=by
 have e:cM (gk [x,y]) (kas_sort 2)=cM (fB (decide (y.1 < x.1)) false false) (kas_sort 2):=jx (n:=2) (by2 (P:=fun i j=>gk [x,y] i j=fB (decide (y.1 < x.1)) false false i j) (pD h) rfl) _ DW
 refine ⟨_,(congrArg Array.toList e).trans (QJ _ _ _),K6 _,?_⟩
 show du y [x]=_
 by_cases q:y.1 < x.1
 · refine re (tU q) (re (decide_eq_true q) ?_);rfl
 · refine re (tV q) (re (decide_eq_false q) ?_);rfl
theorem Nz {x y z:List Nat×Int} (n1:x.1≠y.1) (n2:x.1≠z.1) (n3:y.1≠z.1):∃ q:List Nat,(cM (gk [x,y,z]) (kas_sort 3)).toList=q∧(∀ i∈q,i < 3)∧cW [x,y,z]=q.map fun i=>[x,y,z].getD i ([],0):=by
 have e:cM (gk [x,y,z]) (kas_sort 3)=cM (fB (decide (y.1 < x.1)) (decide (z.1 < x.1)) (decide (z.1 < y.1))) (kas_sort 3):=jx (n:=3) (by3 (P:=fun i j=>gk [x,y,z] i j=fB (decide (y.1 < x.1)) (decide (z.1 < x.1)) (decide (z.1 < y.1)) i j) (pD n1) rfl (pD n2) rfl (pD n3) rfl) _ DX
 have t1:decide (z.1 < x.1)=false→decide (y.1 < x.1)=false∨decide (z.1 < y.1)=false:=fun h=>by
   by_cases q:y.1 < x.1
   · exact .inr (decide_eq_false fun r=>of_decide_eq_false h (Std.lt_trans r q))
   · exact .inl (decide_eq_false q)
 have t2:decide (z.1 < x.1)=true→decide (y.1 < x.1)=true∨decide (z.1 < y.1)=true:=fun h=>by
   rcases Std.lt_trichotomy x.1 y.1 with r | r | r
   · exact .inr (decide_eq_true (Std.lt_trans (of_decide_eq_true h) r))
   · exact absurd r n1
   · exact .inl (decide_eq_true r)
 exact ⟨_,(congrArg Array.toList e).trans (QH _ _ _ t1 t2),K5 _ _ _,(HN x y z).trans (DY t1 t2 x y z)⟩
theorem Bf {ps:List (List Nat×Int)} (hnd:(ps.map (·.1)).Nodup) (h2:ps.length=2∨ps.length=3) :
   ∃ q:List Nat,(cM (gk ps) (kas_sort ps.length)).toList=q∧(∀ i∈q,i < ps.length)∧cW ps=q.map fun i=>ps.getD i ([],0):=by
 rcases ps with _ | ⟨x,_ | ⟨y,_ | ⟨z,_ | _⟩⟩⟩
 · exact h2.elim nofun nofun
 · exact h2.elim nofun nofun
 · exact Ny fun e=>(List.nodup_cons.mp hnd).1 (List.mem_cons.mpr (.inl e))
 · have h1:=List.nodup_cons.mp hnd
   exact Nz (fun e=>h1.1 (List.mem_cons.mpr (.inl e))) (fun e=>h1.1 (List.mem_cons_of_mem _ (List.mem_cons.mpr (.inl e)))) fun e=>(List.nodup_cons.mp h1.2).1 (List.mem_cons.mpr (.inl e))
 · exact h2.elim nofun nofun
section
section
variable {T:Tabs} {B:Heap} {l:List PySem.Env} {S:List Addr} {ι:Cel} {σ:Sig} {h:Heap}
theorem K7 {a:Addr} {m m':Str→Option Value} (x:h.Ns a m) (y:h.Ns a m'):m=m':=by
 refine o33 x fun o es ep ho hd _ hf=>?_
 refine o33 y fun o' es' ep' ho' hd' _ hf'=>?_
 rw [ho] at ho';cases ho'
 rw [hd] at hd';cases hd'
 funext k
 exact rf (hf k) (rf (hf' k) rfl)
theorem K8 {C:Prop} {a:AV} {s:List Nat} {n:Int} (e:pair? a=some (s,n)) (h:a=.tuple [.str s,.int n]→C):C:=by
 cases a with
 | tuple xs =>
   rcases xs with _ | ⟨x,xs⟩
   · exact aC e
   · cases x with
     | str s =>
       rcases xs with _ | ⟨y,xs⟩
       · exact aC e
       · cases y with
         | int n =>
           rcases xs with _ | _
           · cases e;exact h rfl
           · exact aC e
         | _=>exact aC e
     | _=>exact aC e
 | _=>exact aC e
theorem Bg {ps:List (List Nat×Int)} (h:ps.length < 2):cW ps=ps:=by
 rcases ps with _ | ⟨_,_ | ⟨_,_⟩⟩
 · rfl
 · rfl
 · exact absurd h (Nat.not_lt_of_le (Nat.le_add_left 2 _))
theorem Bh {K:R AV→Prop} {G:Prop} {σ:Sig} {a:AV} (hK:K .stuck→G) (p:K (yQ σ a)) (h:∀ xs ps,a=.list xs→pairs? xs=some ps→ps.length≤3→(ps.map (·.1)).Nodup→K (.ok (.list ((cW ps).map fun p=>.tuple [.str p.1,.int p.2])) σ)→G):G:=by
 cases a with
 | list xs =>
   replace p:K (match pairs? xs with
     | some ps=>if ps.length≤3 && (ps.map (·.1)).Nodup then .ok (.list ((cW ps).map fun p=>.tuple [.str p.1,.int p.2])) σ else .stuck
     | none=>.stuck):=p
   cases e:pairs? xs with
   | none=>rw [e] at p;exact hK p
   | some ps =>
     rw [e] at p
     by_cases q:(decide (ps.length≤3) && decide (ps.map (·.1)).Nodup)=true
     · have p:=(congrArg K (if_pos q)).mp p
       have q:=(Bool.and_eq_true _ _).mp q
       exact h xs ps rfl e (of_decide_eq_true q.1) (of_decide_eq_true q.2) p
     · exact hK ((congrArg K (if_neg q)).mp p)
 | _=>exact hK p
theorem K9 {φ:Phi} (hφ:∀ a o,φ a=some o→h.get? a=some o) {xs:List AV} {vs:List Value} {ps:List (List Nat×Int)} (r:aH T φ ι xs vs) (e:pairs? xs=some ps):dF h ps vs∧xs=ps.map fun p=>AV.tuple [.str p.1,.int p.2]:=by
 induction xs generalizing vs ps with
 | nil=>cases e;refine re (show vs=[] from r) ?_;exact ⟨trivial,rfl⟩
 | cons x xs ih =>
   obtain ⟨v,us,rfl,rv,rl⟩:=r
   obtain ⟨⟨s,n⟩,h0,e⟩:=Option.bind_eq_some_iff.mp (show (pair? x).bind (fun p=>(mz pair? xs).map (p :: ·))=some ps from e)
   obtain ⟨ps',e',rfl⟩:=Option.map_eq_some_iff.mp e
   obtain ⟨h1,h2⟩:=ih rl e'
   refine K8 h0 fun h0=>?_
   subst h0
   obtain ⟨a,ws,rfl,⟨o,ho,hc,k,hd⟩,u1,r1,rfl,⟨t1,rfl,_⟩,u2,r2,rfl,⟨t2,rfl⟩,rfl⟩:=rv
   exact ⟨⟨⟨a,t1,t2,rfl,o,hφ _ _ ho,hc,k,hd⟩,h1⟩,by refine re h2 ?_;rfl⟩
theorem uT {φ:Phi} {xs:List AV} {vs:List Value} {α:Type} {ps:List α} {d:α} {f:α→AV} (r:aH T φ ι xs vs) (hx:xs=ps.map f):∀ {q:List Nat},(∀ i∈q,i < ps.length)→aH T φ ι ((q.map fun i=>ps.getD i d).map f) (q.map fun i=>vs.getD i .none)
 | [],_=>rfl
 | i :: q,h=>by
   have hi:=h i (by simp)
   have e:xs[i]?=some (f (ps.getD i d)):=by
     refine re hx (re (List.getElem?_map) (re (List.getD_eq_getElem?_getD) (re (List.getElem?_eq_getElem hi) ?_)));rfl
   refine o11 (r.get e) fun v hv rv=>?_
   refine ⟨v,_,?_,rv,uT r hx fun j m=>h j (List.mem_cons_of_mem _ m)⟩
   show vs.getD i .none :: _=_
   refine re (List.getD_eq_getElem?_getD) (re hv ?_)
   rfl
end
section
variable {T:Tabs} {B:Heap} {l:List PySem.Env} {S:List Addr} {ι:Cel} {σ:Sig} {prog:Program} {w:World} {A:Around} {E:Value→Shared→Prop} {s:Shared} {Q:Value→Shared→Prop}
set_option tactic.hygienic true in
theorem Ea (hl:l≠[]) (R:Rel T B l S ι σ s.heap) {as:List AV} {vs:List Value} (ra:aH T (off S s.heap) ι as vs) (p:bF T B l [] S ι s Q E (builtin σ .sorted as)):wpD (model prog w) A (call (.builtin "sorted") vs) Q E s:=by
 obtain ⟨a0,rfl⟩:∃ a0,as=[a0]:=by
   rcases as with _ | ⟨a0,_ | ⟨_,_ | _⟩⟩
   · exact p.elim
   · exact ⟨a0,rfl⟩
   · exact p.elim
   · exact p.elim
 revert p
 intro p0
 refine Bh (K:=fun r=>bF T B l [] S ι s Q E r) (fun p=>p.elim) p0 fun xs ps ea e hz hnd p=>?_
 clear p0
 subst ea
 obtain ⟨v,r,rfl,⟨a,us,rfl,ha,rl⟩,rfl⟩:=ra
 refine o01 (K9 (h:=s.heap) gD rl e) fun hr hx=>?_
 have hlen:=hr.length
 have nS:∀ {D:Addr},s.heap.get? D=none→D∉S:=fun q m=>by refine o10 (R.live _ m) fun o e=>?_;rw [q] at e;cases e
 by_cases h2:us.length < 2
 · refine D (wV ha.isList h2 fun Dd h' c k hD hd=>?_)
   have hps:=Bg (ps:=ps) (by exact zJ hlen h2)
   rw [hps,← hx] at p
   exact bx R p h' s.toks _ k ⟨_,us,rfl,⟨_,aA.mpr ⟨nS hD,hd⟩,rfl,c,rfl⟩,rl.mono (dX.phi k) fun _ _ e=>e⟩
 · obtain ⟨env,l',rfl⟩:∃ env l',l=env :: l':=by
     cases l with
     | nil=>exact absurd rfl hl
     | cons e r=>exact ⟨e,r,rfl⟩
   obtain ⟨_,L,m,hf,hLS,hLc,hns⟩:=R.stk env (by simp)
   have h23:ps.length=2∨ps.length=3:=QC hz (hlen▸h2)
   refine o12 (Bf hnd h23) fun q e1 e2 e3=>?_
   refine D (yJ hns ha.isList hr hnd h23 fun Dd h' c k hn' hD hd=>?_)
   rw [e1] at hd
   have bk:=R.back (h':=h') (fun a o e n=>k a o (fun z=>n (by refine re z ?_;exact (dg hf).mpr (.inl rfl))) e) (fun a m' _ x=>by
     by_cases z:a=L
     · subst z;refine re (K7 x hns) ?_;exact hn'
     · refine o31 x fun o es ep e r=>?_;exact ⟨o,es,ep,k a o z e,r⟩) [] (fun _ m=>nomatch m) fun _ m=>nomatch m
   rw [List.append_nil] at bk
   rw [e3] at p
   refine p h' s.toks S ι _ bk.2 bk.1 ⟨_,_,rfl,⟨_,aA.mpr ⟨nS hD,hd⟩,rfl,c,rfl⟩,?_⟩
   exact (uT (d:=([],0)) rl hx e2).mono (bk.2.phi R.in0) fun _ _ e=>e
variable {NN:Names} {X:Cx} {sl:List Str} {ρ:Env}
theorem Bj (hl:∃ outer,X.l=X.env :: outer) {func:Expr} {es:List Expr} {pos:Pos} {rs:Sig→R (List AV)} (hna:∀ o n p,func≠.Attribute o n p) (hst:es.all notStar=true)
   (hf:jt T B prog w X sl ρ func (.builtin "sorted")) (ha:f9 T B prog w X sl ρ (spliced (bw es X.env)) rs) :
   Sat T B prog w X sl ρ (eval (.Call func es [] pos) X.env) (fun σ=>(rs σ).bind fun vs σ=>builtin σ .sorted vs) :=
 jW (cf:=fun vs σ=>builtin σ .sorted vs) hna hst hf (fun R=>lV _) ha fun R ra p=>Ea (by obtain ⟨o,e⟩:=hl;refine re e ?_;simp) R ra p
end
end
section
structure Ck where
 T:Tabs
 NN:Names
 P:Prog
 ft:Addr
noncomputable def jY (id:Str):Bool:=!(id == ("__debug__":Str)) && !(id == ("__classdict__":Str)) && !(id == ("__builtins__":Str))
structure Hd where
 hConst:Const→Bool:=fun _=>false
 hName:Str→Bool:=fun _=>false
 hUn:PySem.UnaryOp→Expr→Bool:=fun _ _=>false
 hBin:Expr→Operator→Expr→Bool:=fun _ _ _=>false
 hBo:PySem.BoolOp→(List Expr)→Bool:=fun _ _=>false
 hCmp:Expr→(List PySem.CmpOp)→(List Expr)→Bool:=fun _ _ _=>false
 hIf:Expr→Expr→Expr→Bool:=fun _ _ _=>false
 hSub:Expr→Expr→Bool:=fun _ _=>false
 hTup:(List Expr)→Bool:=fun _=>false
 hList:(List Expr)→Bool:=fun _=>false
 hDict:(List (Option Expr))→(List Expr)→Bool:=fun _ _=>false
 hAttr:Expr→Str→Pos→Bool:=fun _ _ _=>false
 hComp:Expr→(List Comprehension)→Scope→Bool:=fun _ _ _=>false
 hCall:Expr→(List Expr)→(List Keyword)→Pos→Bool:=fun _ _ _ _=>false
 hSlice:(Option Expr)→(Option Expr)→(Option Expr)→Bool:=fun _ _ _=>false
 hLam:Arguments→Expr→Scope→Bool:=fun _ _ _=>false
noncomputable def onE (h:Hd):Expr→Bool
 | .Constant c _ _=>h.hConst c
 | .Name i _=>h.hName i
 | .UnaryOp o a _=>h.hUn o a
 | .BinOp a o b _=>h.hBin a o b
 | .BoolOp o xs _=>h.hBo o xs
 | .Compare a os bs _=>h.hCmp a os bs
 | .IfExp t a b _=>h.hIf t a b
 | .Subscript a i _=>h.hSub a i
 | .Tuple xs _ _=>h.hTup xs
 | .List xs _=>h.hList xs
 | .Dict ks vs _=>h.hDict ks vs
 | .Attribute o n p=>h.hAttr o n p
 | .ListComp e gs s _=>h.hComp e gs s
 | .Call f xs ks p=>h.hCall f xs ks p
 | .Slice a b s _=>h.hSlice a b s
 | .Lambda a b s _=>h.hLam a b s
 | _=>false
theorem di {h:Hd} {M:Expr→Prop} {x:Expr} (e:onE h x=true)
   (cConst:∀ c u0 u1,h.hConst c=true→M (.Constant c u0 u1))
   (cName:∀ i u0,h.hName i=true→M (.Name i u0))
   (cUn:∀ o a u0,h.hUn o a=true→M (.UnaryOp o a u0))
   (cBin:∀ a o b u0,h.hBin a o b=true→M (.BinOp a o b u0))
   (cBo:∀ o xs u0,h.hBo o xs=true→M (.BoolOp o xs u0))
   (cCmp:∀ a os bs u0,h.hCmp a os bs=true→M (.Compare a os bs u0))
   (cIf:∀ t a b u0,h.hIf t a b=true→M (.IfExp t a b u0))
   (cSub:∀ a i u0,h.hSub a i=true→M (.Subscript a i u0))
   (cTup:∀ xs u0 u1,h.hTup xs=true→M (.Tuple xs u0 u1))
   (cList:∀ xs u0,h.hList xs=true→M (.List xs u0))
   (cDict:∀ ks vs u0,h.hDict ks vs=true→M (.Dict ks vs u0))
   (cAttr:∀ o n p,h.hAttr o n p=true→M (.Attribute o n p))
   (cComp:∀ e gs s u0,h.hComp e gs s=true→M (.ListComp e gs s u0))
   (cCall:∀ f xs ks p,h.hCall f xs ks p=true→M (.Call f xs ks p))
   (cSlice:∀ a b s u0,h.hSlice a b s=true→M (.Slice a b s u0))
   (cLam:∀ a b s u0,h.hLam a b s=true→M (.Lambda a b s u0))
  :M x:=by
 cases x with
 | Constant=>exact cConst _ _ _ e
 | Name=>exact cName _ _ e
 | UnaryOp=>exact cUn _ _ _ e
 | BinOp=>exact cBin _ _ _ _ e
 | BoolOp=>exact cBo _ _ _ e
 | Compare=>exact cCmp _ _ _ _ e
 | IfExp=>exact cIf _ _ _ _ e
 | Subscript=>exact cSub _ _ _ e
 | Tuple=>exact cTup _ _ _ e
 | List=>exact cList _ _ e
 | Dict=>exact cDict _ _ _ e
 | Attribute=>exact cAttr _ _ _ e
 | ListComp=>exact cComp _ _ _ _ e
 | Call=>exact cCall _ _ _ _ e
 | Slice=>exact cSlice _ _ _ _ e
 | Lambda=>exact cLam _ _ _ _ e
 | _=>exact ffE e
noncomputable def tW (F:Const→Bool) (x:Expr):Bool:=onE { hConst:=F } x
@[elab_as_elim] theorem rU {F:Const→Bool} {M:Expr→Prop} {x:Expr} (h:tW F x=true) (H:∀ c u0 u1,F c=true→M (.Constant c u0 u1)):M x :=
 di h H (fun _ _ e=>ffE e) (fun _ _ _ e=>ffE e) (fun _ _ _ _ e=>ffE e) (fun _ _ _ e=>ffE e) (fun _ _ _ _ e=>ffE e) (fun _ _ _ _ e=>ffE e) (fun _ _ _ e=>ffE e) (fun _ _ _ e=>ffE e) (fun _ _ e=>ffE e) (fun _ _ _ e=>ffE e) (fun _ _ _ e=>ffE e) (fun _ _ _ _ e=>ffE e) (fun _ _ _ _ e=>ffE e) (fun _ _ _ _ e=>ffE e) (fun _ _ _ _ e=>ffE e)
noncomputable def je (F:Str→Bool) (x:Expr):Bool:=onE { hName:=F } x
@[elab_as_elim] theorem fM {F:Str→Bool} {M:Expr→Prop} {x:Expr} (h:je F x=true) (H:∀ i u0,F i=true→M (.Name i u0)):M x :=
 di h (fun _ _ _ e=>ffE e) H (fun _ _ _ e=>ffE e) (fun _ _ _ _ e=>ffE e) (fun _ _ _ e=>ffE e) (fun _ _ _ _ e=>ffE e) (fun _ _ _ _ e=>ffE e) (fun _ _ _ e=>ffE e) (fun _ _ _ e=>ffE e) (fun _ _ e=>ffE e) (fun _ _ _ e=>ffE e) (fun _ _ _ e=>ffE e) (fun _ _ _ _ e=>ffE e) (fun _ _ _ _ e=>ffE e) (fun _ _ _ _ e=>ffE e) (fun _ _ _ _ e=>ffE e)
noncomputable def HQ (F:PySem.UnaryOp→Expr→Bool) (x:Expr):Bool:=onE { hUn:=F } x
@[elab_as_elim] theorem zf {F:PySem.UnaryOp→Expr→Bool} {M:Expr→Prop} {x:Expr} (h:HQ F x=true) (H:∀ o a u0,F o a=true→M (.UnaryOp o a u0)):M x :=
 di h (fun _ _ _ e=>ffE e) (fun _ _ e=>ffE e) H (fun _ _ _ _ e=>ffE e) (fun _ _ _ e=>ffE e) (fun _ _ _ _ e=>ffE e) (fun _ _ _ _ e=>ffE e) (fun _ _ _ e=>ffE e) (fun _ _ _ e=>ffE e) (fun _ _ e=>ffE e) (fun _ _ _ e=>ffE e) (fun _ _ _ e=>ffE e) (fun _ _ _ _ e=>ffE e) (fun _ _ _ _ e=>ffE e) (fun _ _ _ _ e=>ffE e) (fun _ _ _ _ e=>ffE e)
noncomputable def JD (F:Expr→Operator→Expr→Bool) (x:Expr):Bool:=onE { hBin:=F } x
@[elab_as_elim] theorem HR {F:Expr→Operator→Expr→Bool} {M:Expr→Prop} {x:Expr} (h:JD F x=true) (H:∀ a o b u0,F a o b=true→M (.BinOp a o b u0)):M x :=
 di h (fun _ _ _ e=>ffE e) (fun _ _ e=>ffE e) (fun _ _ _ e=>ffE e) H (fun _ _ _ e=>ffE e) (fun _ _ _ _ e=>ffE e) (fun _ _ _ _ e=>ffE e) (fun _ _ _ e=>ffE e) (fun _ _ _ e=>ffE e) (fun _ _ e=>ffE e) (fun _ _ _ e=>ffE e) (fun _ _ _ e=>ffE e) (fun _ _ _ _ e=>ffE e) (fun _ _ _ _ e=>ffE e) (fun _ _ _ _ e=>ffE e) (fun _ _ _ _ e=>ffE e)
noncomputable def NB (F:PySem.BoolOp→(List Expr)→Bool) (x:Expr):Bool:=onE { hBo:=F } x
@[elab_as_elim] theorem La {F:PySem.BoolOp→(List Expr)→Bool} {M:Expr→Prop} {x:Expr} (h:NB F x=true) (H:∀ o xs u0,F o xs=true→M (.BoolOp o xs u0)):M x :=
 di h (fun _ _ _ e=>ffE e) (fun _ _ e=>ffE e) (fun _ _ _ e=>ffE e) (fun _ _ _ _ e=>ffE e) H (fun _ _ _ _ e=>ffE e) (fun _ _ _ _ e=>ffE e) (fun _ _ _ e=>ffE e) (fun _ _ _ e=>ffE e) (fun _ _ e=>ffE e) (fun _ _ _ e=>ffE e) (fun _ _ _ e=>ffE e) (fun _ _ _ _ e=>ffE e) (fun _ _ _ _ e=>ffE e) (fun _ _ _ _ e=>ffE e) (fun _ _ _ _ e=>ffE e)
noncomputable def JF (F:Expr→(List PySem.CmpOp)→(List Expr)→Bool) (x:Expr):Bool:=onE { hCmp:=F } x
@[elab_as_elim] theorem HS {F:Expr→(List PySem.CmpOp)→(List Expr)→Bool} {M:Expr→Prop} {x:Expr} (h:JF F x=true) (H:∀ a os bs u0,F a os bs=true→M (.Compare a os bs u0)):M x :=
 di h (fun _ _ _ e=>ffE e) (fun _ _ e=>ffE e) (fun _ _ _ e=>ffE e) (fun _ _ _ _ e=>ffE e) (fun _ _ _ e=>ffE e) H (fun _ _ _ _ e=>ffE e) (fun _ _ _ e=>ffE e) (fun _ _ _ e=>ffE e) (fun _ _ e=>ffE e) (fun _ _ _ e=>ffE e) (fun _ _ _ e=>ffE e) (fun _ _ _ _ e=>ffE e) (fun _ _ _ _ e=>ffE e) (fun _ _ _ _ e=>ffE e) (fun _ _ _ _ e=>ffE e)
noncomputable def NK (F:Expr→Expr→Expr→Bool) (x:Expr):Bool:=onE { hIf:=F } x
@[elab_as_elim] theorem Lb {F:Expr→Expr→Expr→Bool} {M:Expr→Prop} {x:Expr} (h:NK F x=true) (H:∀ t a b u0,F t a b=true→M (.IfExp t a b u0)):M x :=
 di h (fun _ _ _ e=>ffE e) (fun _ _ e=>ffE e) (fun _ _ _ e=>ffE e) (fun _ _ _ _ e=>ffE e) (fun _ _ _ e=>ffE e) (fun _ _ _ _ e=>ffE e) H (fun _ _ _ e=>ffE e) (fun _ _ _ e=>ffE e) (fun _ _ e=>ffE e) (fun _ _ _ e=>ffE e) (fun _ _ _ e=>ffE e) (fun _ _ _ _ e=>ffE e) (fun _ _ _ _ e=>ffE e) (fun _ _ _ _ e=>ffE e) (fun _ _ _ _ e=>ffE e)
noncomputable def vA (F:Expr→Expr→Bool) (x:Expr):Bool:=onE { hSub:=F } x
@[elab_as_elim] theorem qD {F:Expr→Expr→Bool} {M:Expr→Prop} {x:Expr} (h:vA F x=true) (H:∀ a i u0,F a i=true→M (.Subscript a i u0)):M x :=
 di h (fun _ _ _ e=>ffE e) (fun _ _ e=>ffE e) (fun _ _ _ e=>ffE e) (fun _ _ _ _ e=>ffE e) (fun _ _ _ e=>ffE e) (fun _ _ _ _ e=>ffE e) (fun _ _ _ _ e=>ffE e) H (fun _ _ _ e=>ffE e) (fun _ _ e=>ffE e) (fun _ _ _ e=>ffE e) (fun _ _ _ e=>ffE e) (fun _ _ _ _ e=>ffE e) (fun _ _ _ _ e=>ffE e) (fun _ _ _ _ e=>ffE e) (fun _ _ _ _ e=>ffE e)
noncomputable def Bk (F:(List Expr)→Bool) (x:Expr):Bool:=onE { hTup:=F } x
@[elab_as_elim] theorem wW {F:(List Expr)→Bool} {M:Expr→Prop} {x:Expr} (h:Bk F x=true) (H:∀ xs u0 u1,F xs=true→M (.Tuple xs u0 u1)):M x :=
 di h (fun _ _ _ e=>ffE e) (fun _ _ e=>ffE e) (fun _ _ _ e=>ffE e) (fun _ _ _ _ e=>ffE e) (fun _ _ _ e=>ffE e) (fun _ _ _ _ e=>ffE e) (fun _ _ _ _ e=>ffE e) (fun _ _ _ e=>ffE e) H (fun _ _ e=>ffE e) (fun _ _ _ e=>ffE e) (fun _ _ _ e=>ffE e) (fun _ _ _ _ e=>ffE e) (fun _ _ _ _ e=>ffE e) (fun _ _ _ _ e=>ffE e) (fun _ _ _ _ e=>ffE e)
noncomputable def Eb (F:(List Expr)→Bool) (x:Expr):Bool:=onE { hList:=F } x
@[elab_as_elim] theorem Ec {F:(List Expr)→Bool} {M:Expr→Prop} {x:Expr} (h:Eb F x=true) (H:∀ xs u0,F xs=true→M (.List xs u0)):M x :=
 di h (fun _ _ _ e=>ffE e) (fun _ _ e=>ffE e) (fun _ _ _ e=>ffE e) (fun _ _ _ _ e=>ffE e) (fun _ _ _ e=>ffE e) (fun _ _ _ _ e=>ffE e) (fun _ _ _ _ e=>ffE e) (fun _ _ _ e=>ffE e) (fun _ _ _ e=>ffE e) H (fun _ _ _ e=>ffE e) (fun _ _ _ e=>ffE e) (fun _ _ _ _ e=>ffE e) (fun _ _ _ _ e=>ffE e) (fun _ _ _ _ e=>ffE e) (fun _ _ _ _ e=>ffE e)
noncomputable def Ed (F:(List (Option Expr))→(List Expr)→Bool) (x:Expr):Bool:=onE { hDict:=F } x
@[elab_as_elim] theorem Ef {F:(List (Option Expr))→(List Expr)→Bool} {M:Expr→Prop} {x:Expr} (h:Ed F x=true) (H:∀ ks vs u0,F ks vs=true→M (.Dict ks vs u0)):M x :=
 di h (fun _ _ _ e=>ffE e) (fun _ _ e=>ffE e) (fun _ _ _ e=>ffE e) (fun _ _ _ _ e=>ffE e) (fun _ _ _ e=>ffE e) (fun _ _ _ _ e=>ffE e) (fun _ _ _ _ e=>ffE e) (fun _ _ _ e=>ffE e) (fun _ _ _ e=>ffE e) (fun _ _ e=>ffE e) H (fun _ _ _ e=>ffE e) (fun _ _ _ _ e=>ffE e) (fun _ _ _ _ e=>ffE e) (fun _ _ _ _ e=>ffE e) (fun _ _ _ _ e=>ffE e)
noncomputable def oV (F:Expr→Str→Pos→Bool) (x:Expr):Bool:=onE { hAttr:=F } x
@[elab_as_elim] theorem lw {F:Expr→Str→Pos→Bool} {M:Expr→Prop} {x:Expr} (h:oV F x=true) (H:∀ o n p,F o n p=true→M (.Attribute o n p)):M x :=
 di h (fun _ _ _ e=>ffE e) (fun _ _ e=>ffE e) (fun _ _ _ e=>ffE e) (fun _ _ _ _ e=>ffE e) (fun _ _ _ e=>ffE e) (fun _ _ _ _ e=>ffE e) (fun _ _ _ _ e=>ffE e) (fun _ _ _ e=>ffE e) (fun _ _ _ e=>ffE e) (fun _ _ e=>ffE e) (fun _ _ _ e=>ffE e) H (fun _ _ _ _ e=>ffE e) (fun _ _ _ _ e=>ffE e) (fun _ _ _ _ e=>ffE e) (fun _ _ _ _ e=>ffE e)
noncomputable def Eg (F:Expr→(List Comprehension)→Scope→Bool) (x:Expr):Bool:=onE { hComp:=F } x
@[elab_as_elim] theorem uU {F:Expr→(List Comprehension)→Scope→Bool} {M:Expr→Prop} {x:Expr} (h:Eg F x=true) (H:∀ e gs s u0,F e gs s=true→M (.ListComp e gs s u0)):M x :=
 di h (fun _ _ _ e=>ffE e) (fun _ _ e=>ffE e) (fun _ _ _ e=>ffE e) (fun _ _ _ _ e=>ffE e) (fun _ _ _ e=>ffE e) (fun _ _ _ _ e=>ffE e) (fun _ _ _ _ e=>ffE e) (fun _ _ _ e=>ffE e) (fun _ _ _ e=>ffE e) (fun _ _ e=>ffE e) (fun _ _ _ e=>ffE e) (fun _ _ _ e=>ffE e) H (fun _ _ _ _ e=>ffE e) (fun _ _ _ _ e=>ffE e) (fun _ _ _ _ e=>ffE e)
noncomputable def gR (F:Expr→(List Expr)→(List Keyword)→Pos→Bool) (x:Expr):Bool:=onE { hCall:=F } x
@[elab_as_elim] theorem d8 {F:Expr→(List Expr)→(List Keyword)→Pos→Bool} {M:Expr→Prop} {x:Expr} (h:gR F x=true) (H:∀ f xs ks p,F f xs ks p=true→M (.Call f xs ks p)):M x :=
 di h (fun _ _ _ e=>ffE e) (fun _ _ e=>ffE e) (fun _ _ _ e=>ffE e) (fun _ _ _ _ e=>ffE e) (fun _ _ _ e=>ffE e) (fun _ _ _ _ e=>ffE e) (fun _ _ _ _ e=>ffE e) (fun _ _ _ e=>ffE e) (fun _ _ _ e=>ffE e) (fun _ _ e=>ffE e) (fun _ _ _ e=>ffE e) (fun _ _ _ e=>ffE e) (fun _ _ _ _ e=>ffE e) H (fun _ _ _ _ e=>ffE e) (fun _ _ _ _ e=>ffE e)
noncomputable def zg (F:(Option Expr)→(Option Expr)→(Option Expr)→Bool) (x:Expr):Bool:=onE { hSlice:=F } x
@[elab_as_elim] theorem Bl {F:(Option Expr)→(Option Expr)→(Option Expr)→Bool} {M:Expr→Prop} {x:Expr} (h:zg F x=true) (H:∀ a b s u0,F a b s=true→M (.Slice a b s u0)):M x :=
 di h (fun _ _ _ e=>ffE e) (fun _ _ e=>ffE e) (fun _ _ _ e=>ffE e) (fun _ _ _ _ e=>ffE e) (fun _ _ _ e=>ffE e) (fun _ _ _ _ e=>ffE e) (fun _ _ _ _ e=>ffE e) (fun _ _ _ e=>ffE e) (fun _ _ _ e=>ffE e) (fun _ _ e=>ffE e) (fun _ _ _ e=>ffE e) (fun _ _ _ e=>ffE e) (fun _ _ _ _ e=>ffE e) (fun _ _ _ _ e=>ffE e) H (fun _ _ _ _ e=>ffE e)
noncomputable def JG (F:Arguments→Expr→Scope→Bool) (x:Expr):Bool:=onE { hLam:=F } x
@[elab_as_elim] theorem HW {F:Arguments→Expr→Scope→Bool} {M:Expr→Prop} {x:Expr} (h:JG F x=true) (H:∀ a b s u0,F a b s=true→M (.Lambda a b s u0)):M x :=
 di h (fun _ _ _ e=>ffE e) (fun _ _ e=>ffE e) (fun _ _ _ e=>ffE e) (fun _ _ _ _ e=>ffE e) (fun _ _ _ e=>ffE e) (fun _ _ _ _ e=>ffE e) (fun _ _ _ _ e=>ffE e) (fun _ _ _ e=>ffE e) (fun _ _ _ e=>ffE e) (fun _ _ e=>ffE e) (fun _ _ _ e=>ffE e) (fun _ _ _ e=>ffE e) (fun _ _ _ _ e=>ffE e) (fun _ _ _ _ e=>ffE e) (fun _ _ _ _ e=>ffE e) H
noncomputable def oX (k:Ck) (nm:List (Str×NameKind)) (f:Expr) (v:Value):Bool:=je (fun id=>nm.lookup id == some .globalImplicit && k.NN.glob id == some v && jY id) f
noncomputable def iV (k:Ck) (nm:List (Str×NameKind)) (f:Expr) (v:Value):Bool:=je (fun id=>nm.lookup id == some .globalImplicit && k.NN.blt id == some v && jY id) f
noncomputable def wX:Expr→Bool
 | .Slice ..=>false
 | _=>true
noncomputable def wY:Expr→Bool
 | .Set ..=>false
 | _=>true
noncomputable def jZ (outer inner:List (Str×NameKind)):List (Str×NameKind):=inner.map fun (n,k)=>if (k == NameKind.free && outer.lookup n == some .cell) then (n,NameKind.cell) else (n,k)
noncomputable def bV (sl:List Str) (caps:List Nat):List Str:=caps.map fun c=>(sl[c]?).getD ""
noncomputable def j0:List Str→Bool
 | []=>true
 | x :: r=>!r.contains x && j0 r
theorem jf:∀ {l:List Str},j0 l=true→l.Nodup
 | [],_=>List.nodup_nil
 | x :: r,h=>by
   simp only [j0,Bool.and_eq_true,Bool.not_eq_true'] at h
   exact List.nodup_cons.mpr ⟨fun m=>by rw [List.contains_iff_mem.mpr m] at h;exact absurd h.1 (by decide),jf h.2⟩
noncomputable def pF (scope:Scope) (nm:List (Str×NameKind)) (sl onames:List Str) (caps:List Nat):Bool :=
 scope.kind == .function && scope.names.all (fun x=>x.2 != .cell) && scope.names.all (fun x=>x.2 != .local || scope.names.lookup x.1 == some .local) && onames.all (fun n=>scope.names.lookup n == some .local) &&
 caps.all (fun c=>match sl[c]? with | some x=>scope.names.lookup x == some .free && (nm.lookup x == some .cell || nm.lookup x == some .free) | none=>false) &&
 scope.names.all (fun x=>x.2 != .free || (bV sl caps).contains x.1) && j0 (onames++bV sl caps) && j0 (scope.names.map (·.1))
theorem mX {scope:Scope} {env:PySem.Env} {sl onames:List Str} {caps:List Nat} (h:pF scope env.scope.names sl onames caps=true):CompOk scope env sl onames caps (bV sl caps):=by
 simp only [pF,Bool.and_eq_true,List.all_eq_true,beq_iff_eq,bne_iff_ne,Bool.or_eq_true] at h
 obtain ⟨⟨⟨⟨⟨⟨⟨h1,h2⟩,h3⟩,h4⟩,h5⟩,h6⟩,h7⟩,h8⟩:=h
 exact {
   kind:=h1
   nocell:=h2
   loc:=fun x hx q=>(h3 x hx).resolve_left fun z=>z q
   own:=h4
   len:=by simp [bV]
   cap:=fun i x hx=>by
     unfold bV at hx
     rw [List.getElem?_map] at hx
     refine o11 (Option.map_eq_some_iff.mp hx) fun c hc e=>?_
     have h5:=h5 c (List.mem_of_getElem? hc)
     split at h5
     · rename_i y hy
       rw [hy] at e
       simp only [Option.getD_some] at e
       subst e
       simp only [Bool.and_eq_true,beq_iff_eq,Bool.or_eq_true] at h5
       exact ⟨c,hc,hy,h5.1,h5.2⟩
     · cases h5
   free:=fun x hx q=>by
     rcases h6 x hx with z | z
     · exact absurd q z
     · exact List.contains_iff_mem.mp z
   nd:=jf h7
   names:=jf h8 }
theorem yK {scope:Scope} {env:PySem.Env} {cl:List (Str×Addr)} {C:Addr} (hk:env.scope.kind=.function):(compEnvC scope cl C env).scope.names=jZ env.scope.names scope.names:=by
 show (relabel scope env).names=_
 unfold relabel jZ
 simp only [hk]
 apply List.map_congr_left
 intro x hx
 simp [Env.kindOf]
theorem Bm {i:Expr} (h:wX i=true):∀ o i',subscripted i false o i'=operate [o,i'] (getItem o i'):=by
 intro o i'
 cases i<;>first | rfl | cases h
theorem j4 {e:Expr} {env:PySem.Env} (h:wY e=true):∀ x,foldedSetIterable e env x=pure x:=by
 intro x
 cases e<;>first | rfl | cases h
noncomputable def Bo (nm:List (Str×NameKind)) (scope:Scope) (cpos:Pos) (id:Str) (py:Pos):Bool:=nm.lookup id == some .local && py.line == cpos.line && !(scope.names.any fun (n,k)=>n == id && (k == .local || k == .cell))
theorem HX {env:PySem.Env} {scope:Scope} {elt:Expr} {gs:List Comprehension} {cpos py:Pos} {id:Str} {n:Nat} (hk:env.scope.kind=.function) (h:Bo env.scope.names scope cpos id py=true):swapsWith (.ListComp elt gs scope cpos) (some (.Name id py)) n env=pure true:=by
 simp only [Bo,Bool.and_eq_true,beq_iff_eq] at h
 obtain ⟨⟨h1,h2⟩,h3⟩:=h
 have:(env.blockKind == .function && env.kindOf id == some .local && py.line == (Expr.ListComp elt gs scope cpos).pos.line && !(scope.names.any fun (n,k)=>n == id && (k == .local || k == .cell)))=true:=by
   simp only [Bool.and_eq_true,beq_iff_eq]
   refine ⟨⟨⟨?_,h1⟩,h2⟩,h3⟩
   unfold Env.blockKind
   refine re hk ?_
   rfl
 show pure _=pure true
 exact re this rfl
set_option backward.match.sparseCases true in
noncomputable def fY (nm:List (Str×NameKind)) (ts:List Expr):List Str:=ts.filterMap fun
 | .Name id pos=>if nm.lookup id == some .local && pos.line == (ts.head?.map (·.pos.line)).getD 0 then some id else none
 | _=>none
set_option backward.match.sparseCases true in
noncomputable def zj (vs:List Expr):Bool:=vs.any fun | .Starred ..=>true | _=>false
set_option backward.match.sparseCases true in
theorem Bp {env:PySem.Env} {ts vs:List Expr} {x1 k:Nat} {p1 p:Pos}:swappedStores [.Tuple ts x1 p1] (.Tuple vs k p) env =
   if (!(ts.length == 2 || ts.length == 3) || vs.length != ts.length || env.blockKind != .function)=true then pure none else
   if zj vs=true then pure none else
   if ((fY env.scope.names ts).length != ts.length || (fY env.scope.names ts).eraseDups.length != (fY env.scope.names ts).length)=true then pure none else
   if vs.all (foldedForSure 8)=true then pure none else
   if vs.all (constantsAlone 8)=true then (do unsupported "assign.tuple-of-constant-expressions:order-of-the-stores";pure (some (fY env.scope.names ts))) else pure (some (fY env.scope.names ts)):=rfl
noncomputable def HY (nm:List (Str×NameKind)) (ts:List Expr) (value:Expr) (ids:List Str):Bool:=match value with
 | .Tuple vs _ _=>(!(ts.length == 2 || ts.length == 3) || vs.length != ts.length) || (zj vs || ((fY nm ts).length != ts.length || (fY nm ts).eraseDups.length != (fY nm ts).length) || vs.all (foldedForSure 8) || (!(vs.all (constantsAlone 8)) && fY nm ts == ids))
 | _=>true
theorem Ld {env:PySem.Env} {ts:List Expr} {value:Expr} {ids:List Str} {x1:Nat} {p1:Pos} (hk:env.scope.kind=.function) (h:HY env.scope.names ts value ids=true) :
   swappedStores [.Tuple ts x1 p1] value env=pure none∨swappedStores [.Tuple ts x1 p1] value env=pure (some ids):=by
 cases value with
 | Tuple vs k p =>
   refine re Bp ?_
   simp only [HY,Bool.or_eq_true,Bool.and_eq_true,Bool.not_eq_true',beq_iff_eq] at h
   split
   · exact .inl rfl
   · rename_i c1
     split
     · exact .inl rfl
     · rename_i c2
       split
       · exact .inl rfl
       · rename_i c3
         split
         · exact .inl rfl
         · rename_i c4
           split
           · rename_i c5
             rcases h with h | ((h | h) | h) | h
             · exact absurd (by refine re (Bool.or_eq_true ..) ?_;exact .inl (by simpa using h)) c1
             · exact absurd h c2
             · exact absurd (by simpa using h) c3
             · exact absurd h c4
             · rw [h.1] at c5;cases c5
           · rcases h with h | ((h | h) | h) | h
             · exact absurd (by refine re (Bool.or_eq_true ..) ?_;exact .inl (by simpa using h)) c1
             · exact absurd h c2
             · exact absurd (by simpa using h) c3
             · exact absurd h c4
             · right;exact re h.2 rfl
 | _=>exact .inl rfl
section
variable {T:Tabs} {B:Heap} {prog:Program} {w:World} {X:Cx} {sl:List Str} {ρ:Env}
end
end
noncomputable def isTup:Expr→Bool
 | .Tuple ..=>true
 | _=>false
noncomputable def Bq (scope:Scope):Bool:=!scope.isCoroutine && !scope.isGenerator
noncomputable def noArgs (a:Arguments):Bool:=a.posonlyargs.isEmpty && a.args.isEmpty && a.vararg.isNone && a.kwonlyargs.isEmpty && a.kw_defaults.isEmpty && a.kwarg.isNone && a.defaults.isEmpty
noncomputable def Br:Expr→Option (Expr×Expr)
 | .Call f [e] [] _=>some (f,e)
 | _=>none
theorem ffO {α:Type} {a:α} {P:Prop} (h:none=some a):P:=nomatch h
noncomputable def Le (f e x:Expr):Prop:=∃ p,x=.Call f [e] [] p
theorem H3 {x f e:Expr} (h:Br x=some (f,e)):Le f e x:=by
 cases x with
 | Call f' as ks p =>
   cases as with
   | nil=>exact ffO h
   | cons a r =>
     cases r with
     | cons _ _=>exact ffO h
     | nil =>
       cases ks with
       | cons _ _=>exact ffO h
       | nil=>cases h;exact ⟨_,rfl⟩
 | _=>exact ffO h
noncomputable def vB (k:Ck) (nm:List (Str×NameKind)) (v:Value) (iter:Expr):Option Expr:=match Br iter with
 | some fe=>if iV k nm fe.1 v && notStar fe.2 then some fe.2 else none
 | none=>none
theorem wZ {k:Ck} {nm:List (Str×NameKind)} {v:Value} {iter e:Expr} (h:vB k nm v iter=some e):∃ f p,iter=.Call f [e] [] p∧iV k nm f v=true∧notStar e=true:=by
 unfold vB at h
 cases q:Br iter with
 | none=>rw [q] at h;cases h
 | some fe =>
   rw [q] at h
   obtain ⟨f,e'⟩:=fe
   obtain ⟨p,rfl⟩:=H3 q
   cases r:(iV k nm f v && notStar e') with
   | false=>dsimp only at h;rw [r] at h;cases h
   | true =>
     dsimp only at h
     rw [r] at h
     cases h
     exact ⟨f,p,rfl,(aG r).1,(aG r).2⟩
noncomputable def rW (k:Ck) (nm:List (Str×NameKind)) (t iter:Expr):IK→Option Expr
 | .of=>some iter
 | .enum=>if isTup t then vB k nm (.type "enumerate") iter else none
 | .rng=>vB k nm (.type "range") iter
noncomputable def oY (f:Expr→Bool):Option Expr→Bool
 | some e=>f e
 | none=>false
noncomputable def JH (i:Int):Option Value→Bool
 | some (.int j _)=>j == i
 | _=>false
theorem H4 {i:Int} {o:Option Value} (h:JH i o=true):∃ t,o=some (.int i t):=by
 cases o with
 | none=>cases h
 | some v =>
   cases v with
   | int j t=>have:=eq_of_beq h;subst this;exact ⟨t,rfl⟩
   | _=>cases h
noncomputable def NP (i:Int):Const→Bool
 | .int j=>j == i
 | _=>false
theorem Lg {i:Int} {c:Const} (h:NP i c=true):c=.int i:=by
 cases c with
 | int j=>have:=eq_of_beq h;subst this;rfl
 | _=>exact absurd h Bool.false_ne_true
noncomputable def zm:AV→Bool
 | .none=>true
 | _=>false
theorem H5 {c:AV} (h:zm c=true):c=.none:=by
 cases c with
 | none=>rfl
 | _=>exact ffE h
noncomputable def tX:Mine.E→Bool
 | .k c=>zm c
 | _=>false
noncomputable def orNone (b:Bool) (f:Expr→Bool):Option Expr→Bool
 | none=>b
 | some x=>f x
noncomputable def on1 {α:Type} (f:α→Bool):List α→Bool
 | [g]=>f g
 | _=>false
theorem QT {α:Type} {f:α→Bool} {l:List α} (h:on1 f l=true):∃ g,l=[g]∧f g=true:=by
 cases l with
 | nil=>cases h
 | cons g r =>
   cases r with
   | nil=>exact ⟨g,rfl,h⟩
   | cons _ _=>cases h
theorem isEmpty_nil {α:Type} {l:List α} (h:l.isEmpty=true):l=[]:=by
 cases l with
 | nil=>rfl
 | cons _ _=>cases h
@[elab_as_elim] theorem jg {α:Type} {f:α→Bool} {M:List α→Prop} {l:List α} (h:on1 f l=true) (H:∀ g,f g=true→M [g]):M l:=by
 cases l with
 | nil=>cases h
 | cons g r =>
   cases r with
   | nil=>exact H g h
   | cons _ _=>cases h
mutual
noncomputable def bZ (k:Ck) (nm:List (Str×NameKind)) (sl:List Str) (md:Nat):Mine.E→Expr→Bool
 | .k c,x=>tW (fun c'=>constOk c' c) x
 | .g _ i,x=>je (fun id=>nm.lookup id == some .globalImplicit && jY id && JH i (k.NN.glob id)) x
 | .v i,x=>je (fun id=>sl[i]? == some id && jY id) x
 | .neg i,x=>HQ (fun o a=>o == .USub && tW (fun c=>NP i c) a) x
 | .bin o a b,x=>JD (fun a' o' b'=>o' == zQ o && bZ k nm sl md a a' && bZ k nm sl md b b') x
 | .not a,x=>HQ (fun o a'=>o == .Not && bZ k nm sl md a a') x
 | .bo isAnd es,x=>NB (fun op xs=>op == bop isAnd && !es.isEmpty && dZ k nm sl md es xs) x
 | .cmp a os bs,x=>JF (fun a' os' bs'=>bZ k nm sl md a a' && os' == os.map rn && os.length == bs.length && !bs.isEmpty && bs'.all rE && dZ k nm sl md bs bs') x
 | .ife t a b,x=>NK (fun t' a' b'=>bZ k nm sl md t t' && bZ k nm sl md a a' && bZ k nm sl md b b') x
 | .sub a i,x=>vA (fun a' i'=>wX i' && bZ k nm sl md a a' && bZ k nm sl md i i') x
 | .slc a lo hi,x=>vA (fun a' s=>bZ k nm sl md a a' && zg (fun lo' hi' st=>st.isNone && orNone (tX lo) (fun x=>bZ k nm sl md lo x) lo' && orNone (tX hi) (fun x=>bZ k nm sl md hi x) hi') s) x
 | .tup es,x=>Bk (fun xs=>xs.all notStar && decide (es.length≤1000) && dZ k nm sl md es xs) x
 | .lst _ es,x=>Eb (fun xs=>xs.all notStar && decide (es.length≤1000) && dZ k nm sl md es xs) x
 | .emptyd,x=>Ed (fun ks vs=>ks.isEmpty && vs.isEmpty) x
 | .attr o f,x=>oV (fun o' n _=>n == k.T.fld f && baseOk o' && bZ k nm sl md o o') x
 | .comp own caps tgt elt ik it ifs,x=>Eg (fun elt' gs scope=>on1 (fun g=>g.is_async == 0 && pF scope nm sl own caps && gq own tgt g.target && wY g.iter && bZ k (jZ nm scope.names) (own++bV sl caps) 0 elt elt' &&
       oY (fun e=>bZ k nm sl md it e) (rW k nm g.target g.iter ik) && decide (ifs.length≤1) && dZ k (jZ nm scope.names) (own++bV sl caps) 0 ifs g.ifs) gs) x
 | .call f es,x=>gR (fun fn xs ks _=>ks.isEmpty && oX k nm fn (.ref (k.T.fa f)) && (k.P.fns f).isSome && xs.all notStar && dZ k nm sl md es xs) x
 | .calls f es,x=>gR (fun fn xs ks _=>ks.isEmpty && oX k nm fn (.ref (k.T.fa f)) && (k.P.fns f).isSome && xs.all notStar && dZ k nm sl md es xs) x
 | .new _ C es,x=>gR (fun fn xs ks _=>ks.isEmpty && oX k nm fn (.ref (k.T.ca C)) && (k.P.init C).isSome && xs.all notStar && dZ k nm sl md es xs) x
 | .meth mt o n es,x=>gR (fun fn xs ks p=>ks.isEmpty && oV (fun o' n' ap=>mt && n' == k.T.mn n && baseOk o' && xs.all notStar && decide (xs.length < 30) && ap.endLine == p.line && bZ k nm sl md o o' && dZ k nm sl md es xs) fn) x
 | .bi b es,x=>gR (fun fn xs ks _=>ks.isEmpty && (match b with
     | .isstr=>(match es with
       | [e]=>(match xs with
         | [e',s']=>iV k nm fn (.builtin "isinstance") && notStar e' && notStar s' && iV k nm s' (.type "str") && dZ k nm sl md es [e']
         | _=>false)
       | _=>false)
     | .sorted=>decide (1≤md) && iV k nm fn (.builtin "sorted") && xs.all notStar && dZ k nm sl md es xs
     | b=>iV k nm fn (biV b) && xs.all notStar && dZ k nm sl md es xs)) x
 | .bm b o es,x=>gR (fun fn xs ks p=>ks.isEmpty && oV (fun o' n' ap=>n' == bmN b && baseOk o' && xs.all notStar && decide (xs.length < 30) && ap.endLine == p.line && bZ k nm sl md o o' && dZ k nm sl md es xs) fn) x
 | .tried caps body,x=>gR (fun fn xs ks _=>ks.isEmpty && on1 (JG (fun args x' scope=>je (fun _=>true) fn && oX k nm fn (.ref k.ft) && md == 2 && noArgs args && Bq scope && pF scope nm sl [] caps && bZ k scope.names (bV sl caps) 0 body x')) xs) x
 | .hole,_=>true
noncomputable def dZ (k:Ck) (nm:List (Str×NameKind)) (sl:List Str) (md:Nat):List Mine.E→List Expr→Bool
 | [],xs=>xs.isEmpty
 | e :: es,xs=>(match xs with | x :: xs=>bZ k nm sl md e x && dZ k nm sl md es xs | []=>false)
end
section
structure Know1 (k:Ck) (B:Heap) (K:Frag) (fi:Addr):Prop where
 kf:KnowF k.P k.T B K
 kn:KnowN k.T B k.NN
 kx:KnowX k.T B K k.NN fi
 kt:KnowT k.T B K k.NN k.ft
 kl:KnowL k.T B
structure XOk (k:Ck) (nm:List (Str×NameKind)) (md n:Nat) (X:Cx):Prop where
 names:X.env.scope.names=nm
 kind:X.env.scope.kind=.function
 env:X.Env
 ok:X.Ok n
 top:1≤md→(∃ outer,X.l=X.env :: outer)∧X.A.depth + 4 * n≤901∧X.A.units + 32 * n≤9003
 lam:md=2→X.env.code=.ref k.T.lc∧X.env.qual++"<lambda>"=k.T.lq
section
variable {k:Ck} {B:Heap} {K:Frag} {fi:Addr} {prog:Program} {w:World} {n:Nat} {cf:Calls} {nm:List (Str×NameKind)} {sl:List Str} {md:Nat} {X:Cx} {ρ:Env}
noncomputable def cY (k:Ck) (B:Heap) (prog:Program) (w:World) (cf:Calls) (X:Cx) (sl:List Str) (ρ:Env) (e:Mine.E) (x:Expr):Prop :=
 Sat k.T B prog w X sl ρ (eval x X.env) (fun σ=>ev k.P cf ρ e σ)∧bW k.T B prog w X sl ρ (isTrue x X.env (eval x X.env)) (tst (fun σ=>ev k.P cf ρ e σ))
noncomputable def gb (P:Mine.E→Expr→Prop):List Mine.E→List Expr→Prop
 | [],[]=>True
 | e :: es,x :: xs=>P e x∧gb P es xs
 | _,_=>False
theorem gb.mono {P Q:Mine.E→Expr→Prop} (h:∀ e x,P e x→Q e x):∀ {es:List Mine.E} {xs:List Expr},gb P es xs→gb Q es xs
 | [],[],_=>trivial
 | _ :: _,_ :: _,q=>⟨h _ _ q.1,gb.mono h q.2⟩
 | [],_ :: _,q=>q.elim
 | _ :: _,[],q=>q.elim
theorem gb.length {P:Mine.E→Expr→Prop}:∀ {es:List Mine.E} {xs:List Expr},gb P es xs→es.length=xs.length
 | [],[],_=>rfl
 | _ :: _,_ :: _,q=>by exact re List.length_cons (re List.length_cons (re (gb.length q.2) rfl))
 | [],_ :: _,q=>q.elim
 | _ :: _,[],q=>q.elim
theorem bf {e:Mine.E} {x:Expr} (hp:oG x=true) (h:Sat k.T B prog w X sl ρ (eval x X.env) (fun σ=>ev k.P cf ρ e σ)):cY k B prog w cf X sl ρ e x:=⟨h,zY hp h⟩
theorem Bs {e:Mine.E} {x:Expr} (h:∀ σ,ev k.P cf ρ e σ=.stuck):cY k B prog w cf X sl ρ e x:=by
 constructor
 · intro S ι σ s Q E R L p
   dsimp only at p
   rw [h σ] at p
   exact p.elim
 · intro S ι σ s Q E R L p
   unfold tst at p
   dsimp only at p
   rw [h σ] at p
   exact p.elim
theorem pG:∀ {es:List Mine.E} {σ σ':Sig} {vs:List AV},evs k.P cf ρ es σ=.ok vs σ'→vs.length=es.length
 | [],σ,σ',vs,h=>by cases h;rfl
 | e :: es,σ,σ',vs,h=>by
   refine o21 (pC (show (ev k.P cf ρ e σ).bind (fun v σ=>(evs k.P cf ρ es σ).bind fun vs σ=>.ok (v :: vs) σ)=_ from h)) fun v σ₁ h1 h2=>?_
   refine o21 (pC h2) fun us σ₂ h3 h4=>?_
   cases h4
   exact re List.length_cons (re List.length_cons (re (pG h3) rfl))
theorem j5:∀ {es:List Mine.E} {xs:List Expr},gb (cY k B prog w cf X sl ρ) es xs→f9 k.T B prog w X sl ρ (spliced (bw xs X.env)) (fun σ=>evs k.P cf ρ es σ)
 | [],[],_=>G5
 | _ :: _,_ :: _,q=>CP q.1.1 (j5 q.2)
 | [],_ :: _,q=>q.elim
 | _ :: _,[],q=>q.elim
theorem vC {t:Sem Value} {r r':Sig→R AV} (e:∀ σ,r σ=r' σ) (h:Sat k.T B prog w X sl ρ t r'):Sat k.T B prog w X sl ρ t r:=by rw [show r=r' from funext e];exact h
theorem NQ {t:Sem Bool} {r r':Sig→R AV} (e:∀ σ,r σ=r' σ) (h:bW k.T B prog w X sl ρ t (tst r')):bW k.T B prog w X sl ρ t (tst r):=by rw [show r=r' from funext e];exact h
theorem uV {isAnd:Bool} {e:Mine.E} (σ:Sig):vP k.P cf ρ isAnd [e] σ=ev k.P cf ρ e σ:=by
 show (ev k.P cf ρ e σ).bind (fun v σ=>.ok v σ)=_
 cases ev k.P cf ρ e σ<;>rfl
theorem JK {isAnd:Bool} {pos:Pos}:∀ {es:List Mine.E} {xs:List Expr},es≠[]→gb (cY k B prog w cf X sl ρ) es xs →
   Sat k.T B prog w X sl ρ (boolOp pos (bop isAnd) (evalEach xs X.env)) (fun σ=>vP k.P cf ρ isAnd es σ)∧bW k.T B prog w X sl ρ (allTrue (bop isAnd) xs X.env) (tst (fun σ=>vP k.P cf ρ isAnd es σ))
 | [],_,h,_=>absurd rfl h
 | [e],[x],_,q=>⟨vC uV (Nf q.1.1),NQ uV (Ko q.1.2)⟩
 | e :: e2 :: es,x :: x2 :: xs,_,q=>by
   obtain ⟨h1,h2⟩:=JK (isAnd:=isAnd) (pos:=pos) (es:=e2 :: es) (xs:=x2 :: xs) (by simp) q.2
   exact ⟨Km q.1.1 h1,G9 q.1.2 h2⟩
 | [_],[],_,q=>q.elim
 | [_],_ :: _ :: _,_,q=>q.2.elim
 | _ :: _ :: _,[],_,q=>q.elim
 | _ :: _ :: _,[_],_,q=>q.2.elim
theorem Bt (hu:X.A.units + 64 < cLine) {pos:Pos}:∀ {os:List COp} {es:List Mine.E} {xs:List Expr},es≠[]→os.length=es.length→gb (cY k B prog w cf X sl ρ) es xs →
   pA k.T B prog w X sl ρ pos (os.map rn) xs (fun x σ=>zO k.P cf ρ x os es σ)
 | _,[],_,h,_,_=>absurd rfl h
 | [],_ :: _,_,_,h,_=>by cases h
 | [o],[e],[x],_,_,q=>Nh hu q.1.1
 | [_],_ :: _ :: _,_,_,h,_=>by simp at h
 | _ :: _ :: _,[_],_,_,h,_=>by simp at h
 | o :: o2 :: os,e :: e2 :: es,x :: x2 :: xs,_,h,q =>
   Kp hu q.1.1 (Bt hu (os:=o2 :: os) (es:=e2 :: es) (xs:=x2 :: xs) (by simp) (by simpa using h) q.2)
 | _,[_],[],_,_,q=>q.elim
 | _,[_],_ :: _ :: _,_,_,q=>q.2.elim
 | _,_ :: _ :: _,[],_,_,q=>q.elim
 | _,_ :: _ :: _,[_],_,_,q=>q.2.elim
theorem rY (xo:X.Ok n):X.A.units + 64 < cLine:=by
 have:=xo.un
 have h:cLine=9999∨9092 < cLine:=by
   right
   simp [cLine]
 rcases h with h | h<;>lia
end
end
section
section
variable {k:Ck} {B:Heap} {K:Frag} {fi:Addr} {prog:Program} {w:World} {n:Nat} {cf:Calls} {nm:List (Str×NameKind)} {sl:List Str} {md:Nat} {X:Cx} {ρ:Env}
theorem d9 {id:Str} (h:jY id=true):(id == ("__debug__":Str))=false∧(id == ("__classdict__":Str))=false∧(id == ("__builtins__":Str))=false:=by
 simp only [jY,Bool.and_eq_true,Bool.not_eq_true'] at h
 exact ⟨h.1.1,h.1.2,h.2⟩
theorem qF (kn:KnowN k.T B k.NN) (xk:XOk k nm md n X) {fn:Expr} {v:Value} (h:oX k nm fn v=true):(∀ o n p,fn≠.Attribute o n p)∧jt k.T B prog w X sl ρ fn v:=by
 refine fM h fun id _ h=>?_
 refine cZ h fun h1 h2 h3=>?_
 exact ⟨fun _ _ _ e=>(by cases e),lg kn xk.env (by unfold Env.kindOf;rw [xk.names];exact eq_of_beq h1) (eq_of_beq h2) (d9 h3).1⟩
theorem jO (kn:KnowN k.T B k.NN) (xk:XOk k nm md n X) {fn:Expr} {v:Value} (h:iV k nm fn v=true):(∀ o n p,fn≠.Attribute o n p)∧jt k.T B prog w X sl ρ fn v:=by
 refine fM h fun id _ h=>?_
 refine cZ h fun h1 h2 h3=>?_
 exact ⟨fun _ _ _ e=>(by cases e),Hn kn xk.env (by unfold Env.kindOf;refine re xk.names ?_;exact eq_of_beq h1) (eq_of_beq h2) (d9 h3).1 (d9 h3).2.2⟩
theorem Eh {a:Arguments} (h:noArgs a=true):a=dz:=by
 obtain ⟨a1,a2,a3,a4,a5,a6,a7⟩:=a
 simp only [noArgs,Bool.and_eq_true,List.isEmpty_iff,Option.isNone_iff_eq_none] at h
 obtain ⟨⟨⟨⟨⟨⟨rfl,rfl⟩,rfl⟩,rfl⟩,rfl⟩,rfl⟩,rfl⟩:=h
 rfl
theorem mY (xk:XOk k nm md n X) {scope:Scope} (hk:scope.kind=.function) (C:Addr):XOk k (jZ nm scope.names) 0 n ⟨cJ scope X C,X.A,X.l⟩ where
 names:=by refine rf xk.names ?_;exact yK xk.kind
 kind:=hk
 env:=⟨xk.env.glob,xk.env.bins⟩
 ok:=⟨xk.ok.dp,xk.ok.un,xk.ok.fr,xk.ok.gd,xk.ok.hd⟩
 top:=fun h=>absurd h (by decide)
 lam:=fun h=>by cases h
theorem Lh (k1:Know1 k B K fi) (xk:XOk k nm md n X) {b:BI} {es:List Mine.E} {fn:Expr} {xs:List Expr} {p:Pos} (n1:b≠.sorted) (n2:b≠.isstr) (hl:gb (cY k B prog w cf X sl ρ) es xs) (h1:iV k nm fn (biV b)=true) (h2:xs.all notStar=true) :
   cY k B prog w cf X sl ρ (.bi b es) (.Call fn xs [] p):=by
 refine o01 (jO (prog:=prog) (w:=w) (sl:=sl) (ρ:=ρ) k1.kn xk h1) fun q1 q2=>?_
 exact bf rfl (Nr xk.ok n1 n2 q1 h2 q2 (j5 hl))
theorem w5 {e:Mine.E} (h:tX e=true):e=.k .none:=by
 cases e with
 | k c=>exact congrArg Mine.E.k (H5 h)
 | _=>exact ffE h
theorem jh {f:Expr→Bool} {o:Option Expr} (h:oY f o=true):∃ e,o=some e∧f e=true:=by
 cases o with
 | none=>cases h
 | some e=>exact ⟨e,rfl,h⟩
theorem Bu {t iter e:Expr} (he:rW k nm t iter .enum=some e):∃ a b c,t=.Tuple a b c:=by
 cases t with
 | Tuple=>exact ⟨_,_,_,rfl⟩
 | _=>exact aC he
theorem tY (k1:Know1 k B K fi) (xk:XOk k nm md n X) {t iter e:Expr} {ik:IK} {r:Sig→R AV} (he:rW k nm t iter ik=some e) (h1:Sat k.T B prog w X sl ρ (eval e X.env) r):lr k.T B prog w X sl ρ t iter ik r:=by
 have hh:=xk.ok.hd
 cases ik with
 | of =>
   cases he
   have h2:=@Ht k.T B prog w X sl ρ hh t iter r h1
   exact @h2
 | enum =>
   obtain ⟨elts,x1,pos,rfl⟩:=Bu he
   obtain ⟨f,p,rfl,g1,g2⟩:=wZ he
   obtain ⟨q1,q2⟩:=jO (prog:=prog) (w:=w) (sl:=sl) (ρ:=ρ) k1.kn xk g1
   have h2:=@rP k.T B prog w X sl ρ (.Tuple elts x1 pos) f e "enumerate" .enum p r q1 g2 q2 (fun R rv e st=>Ao hh R rv e st) h1
   exact @h2
 | rng =>
   obtain ⟨f,p,rfl,g1,g2⟩:=wZ he
   obtain ⟨q1,q2⟩:=jO (prog:=prog) (w:=w) (sl:=sl) (ρ:=ρ) k1.kn xk g1
   have h2:=@rP k.T B prog w X sl ρ t f e "range" .rng p r q1 g2 q2 (fun R rv e st=>Dt hh R rv e st) h1
   exact @h2
theorem Ei {ifs:List Mine.E} {ifs':List Expr} (h6:decide (ifs.length≤1)=true) (hl:gb (cY k B prog w cf X sl ρ) ifs ifs'):bW k.T B prog w X sl ρ (eX ifs' X.env) (fun σ=>gM k.P cf ρ ifs σ):=by
 match ifs,ifs',h6,hl with
 | [],[],_,_ =>
   show bW k.T B prog w X sl ρ (eX [] X.env) (fun σ=>.ok true σ)
   exact yH
 | [e],[y],_,hl =>
   show bW k.T B prog w X sl ρ (eX [y] X.env) (fun σ=>(ev k.P cf ρ e σ).bind fun v σ=>match truthy v with | some true=>.ok true σ | some false=>.ok false σ | none=>.stuck)
   exact yI hl.1.2
 | [],_ :: _,_,hl=>exact hl.elim
 | [_],[],_,hl=>exact hl.elim
 | [_],_ :: _ :: _,_,hl=>exact hl.2.elim
 | _ :: _ :: _,_,h6,_=>simp at h6
theorem fO (k1:Know1 k B K fi) (xk:XOk k nm md n X) {b:BI} {es:List Mine.E} {fn:Expr} {xs:List Expr} {p:Pos} (n1:b≠.sorted) (n2:b≠.isstr) (hl:dZ k nm sl md es xs=true→gb (cY k B prog w cf X sl ρ) es xs) (h:(iV k nm fn (biV b) && xs.all notStar && dZ k nm sl md es xs)=true) :
   cY k B prog w cf X sl ρ (.bi b es) (.Call fn xs [] p) :=
 Lh k1 xk n1 n2 (hl (aG h).2) (aG (aG h).1).1 (aG (aG h).1).2
theorem H6 {caps:List Nat} {body:Mine.E} {σ:Sig}:ev k.P cf ρ (.tried caps body) σ=(match (σ[0]?:Option MO) with | some .tab=>oU (ev k.P cf (fL caps ρ) body σ) | _=>.stuck):=by
 show (match (σ[0]?:Option MO) with | some .tab=>_ | _=>_)=_
 cases (σ[0]?:Option MO) with
 | none=>rfl
 | some m =>
   cases m with
   | tab =>
     dsimp only
     show _=oU (ev k.P cf (fL caps ρ) body σ)
     unfold fL
     cases ev k.P cf (caps.map fun c=>(ρ[c]?).getD none) body σ<;>rfl
   | _=>rfl
noncomputable def SE (k:Ck) (B:Heap) (prog:Program) (w:World) (n:Nat) (cf:Calls) (e:Mine.E):Prop:=∀ (nm:List (Str×NameKind)) (sl:List Str) (md:Nat) (x:Expr),bZ k nm sl md e x=true→∀ (X:Cx) (ρ:Env),XOk k nm md n X→cY k B prog w cf X sl ρ e x
noncomputable def SEs (k:Ck) (B:Heap) (prog:Program) (w:World) (n:Nat) (cf:Calls) (es:List Mine.E):Prop:=∀ (nm:List (Str×NameKind)) (sl:List Str) (md:Nat) (xs:List Expr),dZ k nm sl md es xs=true→gb (fun e x=>∀ (X:Cx) (ρ:Env),XOk k nm md n X→cY k B prog w cf X sl ρ e x) es xs
theorem QK (k1:Know1 k B K fi) (c:aM k.T B prog w n cf) {c':AV}:SE k B prog w n cf (.k c'):=fun nm sl md x h X ρ xk=>by
 refine rU h fun _ _ _ h=>?_
 exact bf rfl (CN h)
theorem QL (k1:Know1 k B K fi) (c:aM k.T B prog w n cf) {m:Str} {i:Int}:SE k B prog w n cf (.g m i):=fun nm sl md x h X ρ xk=>by
 refine fM h fun id _ h=>?_
 refine cZ h fun h1 h2 h3=>?_
 refine o10 (H4 h3) fun t hg=>?_
 exact bf rfl (Ho k1.kn xk.env (by unfold Env.kindOf;refine re xk.names ?_;exact eq_of_beq h1) hg (d9 h2).1)
theorem QM (k1:Know1 k B K fi) (c:aM k.T B prog w n cf) {i:Nat}:SE k B prog w n cf (.v i):=fun nm sl md x h X ρ xk=>by
 refine fM h fun id _ h=>?_
 refine bK h fun h1 h2=>?_
 exact bf rfl (G4 (eq_of_beq h1) (d9 h2).1 (d9 h2).2.1)
theorem NT (k1:Know1 k B K fi) (c:aM k.T B prog w n cf) {i:Int}:SE k B prog w n cf (.neg i):=fun nm sl md x h X ρ xk=>by
 refine zf h fun op a _ h=>?_
 refine bK h fun h1 h2=>?_
 refine gH h1 ?_
 refine rU h2 fun _ _ _ h=>?_
 obtain rfl:=Lg h
 exact bf rfl Ka
theorem NZ (k1:Know1 k B K fi) (c:aM k.T B prog w n cf) {o:Op} {a:Mine.E} {b:Mine.E} (ia:SE k B prog w n cf a) (ib:SE k B prog w n cf b):SE k B prog w n cf (.bin o a b):=fun nm sl md x h X ρ xk=>by
 refine HR h fun a' o' b' _ h=>?_
 refine cZ h fun h1 h2 h3=>?_
 refine gH h1 ?_
 exact bf rfl (J9 (ia _ _ _ _ h2 _ _ xk).1 (ib _ _ _ _ h3 _ _ xk).1)
theorem N5 (k1:Know1 k B K fi) (c:aM k.T B prog w n cf) {a:Mine.E} (ia:SE k B prog w n cf a):SE k B prog w n cf (.not a):=fun nm sl md x h X ρ xk=>by
 refine zf h fun op a' _ h=>?_
 refine bK h fun h1 h2=>?_
 refine gH h1 ?_
 have ha:=ia _ _ _ _ h2 X ρ xk
 exact ⟨Kg ha.1,G7 ha.2⟩
theorem Qf (k1:Know1 k B K fi) (c:aM k.T B prog w n cf) {isAnd:Bool} {es:List Mine.E} (ies:SEs k B prog w n cf es):SE k B prog w n cf (.bo isAnd es):=fun nm sl md x h X ρ xk=>by
 refine La h fun op xs _ h=>?_
 refine cZ h fun h1 h2 h3=>?_
 refine gH h1 ?_
 have ne:es≠[]:=fun q=>by rw [q] at h2;cases h2
 obtain ⟨g1,g2⟩:=JK (isAnd:=isAnd) (pos:=_) ne ((ies _ _ _ _ h3).mono (Q:=cY k B prog w cf X sl ρ) fun e x q=>q _ _ xk)
 exact ⟨by rw [arm_eval_BoolOp];exact g1,by rw [arm_isTrue_BoolOp];exact g2⟩
theorem N6 (k1:Know1 k B K fi) (c:aM k.T B prog w n cf) {a:Mine.E} {os:List COp} {bs:List Mine.E} (ia:SE k B prog w n cf a) (ibs:SEs k B prog w n cf bs):SE k B prog w n cf (.cmp a os bs):=fun nm sl md x h X ρ xk=>by
 refine HS h fun a' os' bs' _ h=>?_
 refine sZ h fun h1 h2 h3 h4 h5 h6=>?_
 refine gH h2 ?_
 have ne:bs≠[]:=fun q=>by rw [q] at h4;cases h4
 have hl:=(ibs _ _ _ _ h6).mono (Q:=cY k B prog w cf X sl ρ) fun e x q=>q _ _ xk
 have hn:=eq_of_beq h3
 have ha:=ia _ _ _ _ h1 X ρ xk
 exact ⟨Kq ha.1 (Bt (rY xk.ok) ne hn hl) h5,Ha ha.1 (Bt (rY xk.ok) ne hn hl) h5⟩
theorem N7 (k1:Know1 k B K fi) (c:aM k.T B prog w n cf) {t:Mine.E} {a:Mine.E} {b:Mine.E} (it:SE k B prog w n cf t) (ia:SE k B prog w n cf a) (ib:SE k B prog w n cf b):SE k B prog w n cf (.ife t a b):=fun nm sl md x h X ρ xk=>by
 refine Lb h fun t' a' b' _ h=>?_
 refine cZ h fun h1 h2 h3=>?_
 have ht:=it _ _ _ _ h1 X ρ xk
 have ha:=ia _ _ _ _ h2 X ρ xk
 have hb:=ib _ _ _ _ h3 X ρ xk
 exact ⟨Kl ht.2 ha.1 hb.1,G8 ht.2 ha.2 hb.2⟩
theorem N8 (k1:Know1 k B K fi) (c:aM k.T B prog w n cf) {a:Mine.E} {i:Mine.E} (ia:SE k B prog w n cf a) (ii:SE k B prog w n cf i):SE k B prog w n cf (.sub a i):=fun nm sl md x h X ρ xk=>by
 refine qD h fun a' i' _ h=>?_
 refine cZ h fun h1 h2 h3=>?_
 exact bf rfl (Kc (ia _ _ _ _ h2 _ _ xk).1 (ii _ _ _ _ h3 _ _ xk).1 (Bm h1))
theorem Oa (k1:Know1 k B K fi) (c:aM k.T B prog w n cf) {a:Mine.E} {lo:Mine.E} {hi:Mine.E} (ia:SE k B prog w n cf a) (ilo:SE k B prog w n cf lo) (ihi:SE k B prog w n cf hi):SE k B prog w n cf (.slc a lo hi):=fun nm sl md x h X ρ xk=>by
 refine qD h fun a' s' _ h=>?_
 refine bK h fun h1 h=>?_
 refine Bl h fun lo' hi' st _ h=>?_
 refine cZ h fun h0 h2 h3=>?_
 obtain rfl:=Option.isNone_iff_eq_none.mp h0
 refine bf rfl (Kf (ia _ _ _ _ h1 _ _ xk).1 ?_ ?_)
 · cases lo' with
   | none =>
     obtain rfl:=w5 (e:=lo) h2
     exact uA
   | some y=>exact uz (ilo _ _ _ y h2 _ _ xk).1
 · cases hi' with
   | none =>
     obtain rfl:=w5 (e:=hi) h3
     exact uA
   | some y=>exact uz (ihi _ _ _ y h3 _ _ xk).1
theorem Ob (k1:Know1 k B K fi) (c:aM k.T B prog w n cf) {es:List Mine.E} (ies:SEs k B prog w n cf es):SE k B prog w n cf (.tup es):=fun nm sl md x h X ρ xk=>by
 refine wW h fun xs _ _ h=>?_
 refine cZ h fun h1 h2 h3=>?_
 exact bf rfl (Kd (by rw [bT h1];exact j5 ((ies _ _ _ _ h3).mono (Q:=cY k B prog w cf X sl ρ) fun e x q=>q _ _ xk)) fun σ vs σ' q=>by rw [pG q];exact of_decide_eq_true h2)
theorem Oc (k1:Know1 k B K fi) (c:aM k.T B prog w n cf) {m:Bool} {es:List Mine.E} (ies:SEs k B prog w n cf es):SE k B prog w n cf (.lst m es):=fun nm sl md x h X ρ xk=>by
 refine Ec h fun xs _ h=>?_
 refine cZ h fun h1 h2 h3=>?_
 have hl:=(ies _ _ _ _ h3).mono (Q:=cY k B prog w cf X sl ρ) fun e x q=>q _ _ xk
 cases m with
 | true=>exact bf rfl (G6 (by rw [bT h1];exact j5 hl) fun σ vs σ' q=>by rw [pG q];exact of_decide_eq_true h2)
 | false=>exact bf rfl (Ke (by rw [bT h1];exact j5 hl) fun σ vs σ' q=>by rw [pG q];exact of_decide_eq_true h2)
theorem Ej (k1:Know1 k B K fi) (c:aM k.T B prog w n cf):SE k B prog w n cf (.emptyd):=fun nm sl md x h X ρ xk=>by
 refine Ef h fun ks vs _ h=>?_
 refine bK h fun h1 h2=>?_
 refine cB h1 ?_
 refine cB h2 ?_
 exact bf rfl zW
theorem Li (k1:Know1 k B K fi) (c:aM k.T B prog w n cf) {o:Mine.E} {f:Nat} (io:SE k B prog w n cf o):SE k B prog w n cf (.attr o f):=fun nm sl md x h X ρ xk=>by
 refine lw h fun o' n' _ h=>?_
 refine cZ h fun h1 h2 h3=>?_
 refine gH h1 ?_
 exact bf rfl (Hb k1.kf.toKnow (io _ _ _ _ h3 _ _ xk).1 h2)
theorem Lj (k1:Know1 k B K fi) (c:aM k.T B prog w n cf) {own:List Str} {caps:List Nat} {tgt:Mine.T} {elt:Mine.E} {ik:IK} {it:Mine.E} {ifs:List Mine.E} (ielt:SE k B prog w n cf elt) (iit:SE k B prog w n cf it) (iifs:SEs k B prog w n cf ifs):SE k B prog w n cf (.comp own caps tgt elt ik it ifs):=fun nm sl md x h X ρ xk=>by
 refine uU h fun elt' gs scope p h=>?_
 refine jg h fun g h=>?_
 obtain ⟨t,iter,ifs',a⟩:=g
 refine jK h fun h0 h1 h2 h3 h4 h5 h6 h7=>?_
 obtain rfl:a=0:=eq_of_beq h0
 have hck:=mX (env:=X.env) (by refine re xk.names ?_;exact h1)
 refine o11 (jh h5) fun e he h5=>?_
 have hit:lr k.T B prog w X sl ρ t iter ik (fun σ=>ev k.P cf ρ it σ):=tY k1 xk he (iit _ _ _ _ h5 _ _ xk).1
 have hri:∀ C ρ',bW k.T B prog w ⟨cJ scope X C,X.A,X.l⟩ (own++bV sl caps) ρ' (eX ifs' (cJ scope X C)) (fun σ=>gM k.P cf ρ' ifs σ):=fun C ρ' =>
   Ei h6 ((iifs _ _ _ _ h7).mono (Q:=cY k B prog w cf ⟨cJ scope X C,X.A,X.l⟩ (own++bV sl caps) ρ') fun e x q=>q _ _ (mY xk hck.kind C))
 have hre:∀ C ρ',Sat k.T B prog w ⟨cJ scope X C,X.A,X.l⟩ (own++bV sl caps) ρ' (eval elt' (cJ scope X C)) (fun σ=>ev k.P cf ρ' elt σ):=fun C ρ'=>(ielt _ _ _ _ h4 _ _ (mY xk hck.kind C)).1
 have q:=@Hu k.T B prog w X sl own (bV sl caps) caps ρ (fun ρ' σ=>gM k.P cf ρ' ifs σ) (fun ρ' σ=>ev k.P cf ρ' elt σ) (fun σ=>ev k.P cf ρ it σ) ik tgt t elt' iter ifs' scope p xk.ok.hd hck h2 (j4 h3) hri hre hit
 exact bf rfl @q
theorem Lk (k1:Know1 k B K fi) (c:aM k.T B prog w n cf) {f:Nat} {es:List Mine.E} (ies:SEs k B prog w n cf es):SE k B prog w n cf (.call f es):=fun nm sl md x h X ρ xk=>by
 refine d8 h fun fn xs ks _ h=>?_
 refine il h fun h0 h1 h2 h3 h4=>?_
 refine cB h0 ?_
 have hl:=(ies _ _ _ _ h4).mono (Q:=cY k B prog w cf X sl ρ) fun e x q=>q _ _ xk
 refine o01 (qF (prog:=prog) (w:=w) (sl:=sl) (ρ:=ρ) k1.kn xk h1) fun q1 q2=>?_
 exact bf rfl (Dq k1.kf c xk.ok q1 h3 h2 q2 (j5 hl))
theorem H7 (k1:Know1 k B K fi) (c:aM k.T B prog w n cf) {f:Nat} {es:List Mine.E} (ies:SEs k B prog w n cf es):SE k B prog w n cf (.calls f es):=fun nm sl md x h X ρ xk=>by
 refine d8 h fun fn xs ks _ h=>?_
 refine il h fun h0 h1 h2 h3 h4=>?_
 refine cB h0 ?_
 have hl:=(ies _ _ _ _ h4).mono (Q:=cY k B prog w cf X sl ρ) fun e x q=>q _ _ xk
 refine o01 (qF (prog:=prog) (w:=w) (sl:=sl) (ρ:=ρ) k1.kn xk h1) fun q1 q2=>?_
 exact bf rfl (jW (cf:=fun vs σ=>cf f vs σ) q1 h3 q2 (fun R=>keeps_K (k1.kf.fn f h2).1 _ (k1.kf.here R)) (j5 hl) fun R ra p=>cH (c (by have:=xk.ok.dp;exact szl this rfl) (by have:=xk.ok.un;exact szl this rfl) xk.ok.fr xk.ok.gd xk.ok.hd R ra p))
theorem Od (k1:Know1 k B K fi) (c:aM k.T B prog w n cf) {fz:Bool} {C:Nat} {es:List Mine.E} (ies:SEs k B prog w n cf es):SE k B prog w n cf (.new fz C es):=fun nm sl md x h X ρ xk=>by
 refine d8 h fun fn xs ks _ h=>?_
 refine il h fun h0 h1 h2 h3 h4=>?_
 refine cB h0 ?_
 have hl:=(ies _ _ _ _ h4).mono (Q:=cY k B prog w cf X sl ρ) fun e x q=>q _ _ xk
 refine o01 (qF (prog:=prog) (w:=w) (sl:=sl) (ρ:=ρ) k1.kn xk h1) fun q1 q2=>?_
 refine o10 (Option.isSome_iff_exists.mp h2) fun f hf=>?_
 refine bf rfl (vC (fun σ=>?_) (KR (fz:=fz) k1.kf c xk.ok q1 h3 hf q2 (j5 hl)))
 show (evs k.P cf ρ es σ).bind (fun vs σ=>match k.P.init C with | none=>.stuck | some f=>_)=_
 refine re hf ?_
 rfl
theorem Ln (k1:Know1 k B K fi) (c:aM k.T B prog w n cf) {mt:Bool} {o:Mine.E} {m:Nat} {es:List Mine.E} (io:SE k B prog w n cf o) (ies:SEs k B prog w n cf es):SE k B prog w n cf (.meth mt o m es):=fun nm sl md x h X ρ xk=>by
 refine d8 h fun fn xs ks p h=>?_
 refine bK h fun h0 h=>?_
 refine cB h0 ?_
 refine lw h fun o' n' ap h=>?_
 refine jK h fun h1 h2 h3 h4 h5 h6 h7 h8=>?_
 refine gH h2 ?_
 subst h1
 exact bf rfl (Hp k1.kf c xk.ok h3 h4 (of_decide_eq_true h5) h6 (io _ _ _ _ h7 _ _ xk).1 (j5 ((ies _ _ _ _ h8).mono (Q:=cY k B prog w cf X sl ρ) fun e x q=>q _ _ xk)))
theorem Qg (k1:Know1 k B K fi) (c:aM k.T B prog w n cf) {b:BI} {es:List Mine.E} (ies:SEs k B prog w n cf es):SE k B prog w n cf (.bi b es):=fun nm sl md x h X ρ xk=>by
 have ih:=fun (xs:List Expr) (q:dZ k nm sl md es xs=true)=>(ies _ _ _ _ q).mono (Q:=cY k B prog w cf X sl ρ) fun e x q=>q _ _ xk
 refine d8 h fun fn xs ks _ h=>?_
 refine bK h fun h0 h=>?_
 refine cB h0 ?_
 cases b with
 | isstr =>
   obtain ⟨e,e',s',rfl,rfl⟩:∃ e e' s',es=[e]∧xs=[e',s']:=by
     rcases es with _ | ⟨e,_ | _⟩
     · exact ffE h
     · rcases xs with _ | ⟨e',_ | ⟨s',_ | _⟩⟩
       · exact ffE h
       · exact ffE h
       · exact ⟨_,_,_,rfl,rfl⟩
       · exact ffE h
     · exact ffE h
   refine il h fun h1 h2 h3 h4 h5=>?_
   have hl:=ih _ h5
   obtain ⟨q1,q2⟩:=jO (prog:=prog) (w:=w) (sl:=sl) (ρ:=ρ) k1.kn xk h1
   obtain ⟨_,q3⟩:=jO (prog:=prog) (w:=w) (sl:=sl) (ρ:=ρ) k1.kn xk h4
   refine bf rfl (vC (fun σ=>?_) (Dn q1 h2 h3 xk.ok.hd xk.ok.gd q2 q3 hl.1.1))
   show ((ev k.P cf ρ e σ).bind fun v σ=>(Mine.R.ok [] σ:Mine.R (List AV)).bind fun vs σ=>.ok (v :: vs) σ).bind (fun vs σ=>builtin σ .isstr vs)=_
   cases ev k.P cf ρ e σ<;>rfl
 | sorted =>
   refine gC h fun h0 h1 h2 h3=>?_
   obtain ⟨q1,q2⟩:=jO (prog:=prog) (w:=w) (sl:=sl) (ρ:=ρ) k1.kn xk h1
   exact bf rfl (Bj (xk.top (of_decide_eq_true h0)).1 q1 h2 q2 (j5 (ih _ h3)))
 | len=>exact fO k1 xk (by decide) (by decide) (ih _) h
 | sum=>exact fO k1 xk (by decide) (by decide) (ih _) h
 | all=>exact fO k1 xk (by decide) (by decide) (ih _) h
 | bytes=>exact fO k1 xk (by decide) (by decide) (ih _) h
 | bytearray=>exact fO k1 xk (by decide) (by decide) (ih _) h
 | ord=>exact fO k1 xk (by decide) (by decide) (ih _) h
 | chr=>exact fO k1 xk (by decide) (by decide) (ih _) h
 | max=>exact fO k1 xk (by decide) (by decide) (ih _) h
theorem Qh (k1:Know1 k B K fi) (c:aM k.T B prog w n cf) {b:BM} {o:Mine.E} {es:List Mine.E} (io:SE k B prog w n cf o) (ies:SEs k B prog w n cf es):SE k B prog w n cf (.bm b o es):=fun nm sl md x h X ρ xk=>by
 refine d8 h fun fn xs ks p h=>?_
 refine bK h fun h0 h=>?_
 refine cB h0 ?_
 refine lw h fun o' n' ap h=>?_
 refine s7 h fun h1 h3 h4 h5 h6 h7 h8=>?_
 refine gH h1 ?_
 exact bf rfl (Nt xk.ok h3 h4 (of_decide_eq_true h5) h6 (io _ _ _ _ h7 _ _ xk).1 (j5 ((ies _ _ _ _ h8).mono (Q:=cY k B prog w cf X sl ρ) fun e x q=>q _ _ xk)))
theorem H8 (k1:Know1 k B K fi) (c:aM k.T B prog w n cf) {caps:List Nat} {body:Mine.E} (ibody:SE k B prog w n cf body):SE k B prog w n cf (.tried caps body):=fun nm sl md x h X ρ xk=>by
 refine d8 h fun fn xs ks _ h=>?_
 refine bK h fun hk h=>?_
 refine cB hk ?_
 refine jg h fun lam h=>?_
 refine HW h fun args x' scope _ h=>?_
 refine s7 h fun h0 h1 h2 h3 h4 h5 h6=>?_
 revert h1
 refine fM h0 fun id np _ h1=>?_
 have ha:=Eh h3
 subst ha
 obtain rfl:md=2:=eq_of_beq h2
 refine cZ h1 fun g1 g2 g3=>?_
 refine bK h4 fun f1 f2=>?_
 have hck:=mX (env:=X.env) (by refine re xk.names ?_;exact h5)
 refine o02 (xk.top (by decide)) fun _ x1 x2=>?_
 refine o01 (xk.lam rfl) fun l1 l2=>?_
 refine bf rfl (vC (fun σ=>?_) (DR (rb:=fun σ=>ev k.P cf (fL caps ρ) body σ) k1.kx k1.kt k1.kl k1.kn k1.kf.lim k1.kf.kin xk.env xk.ok x1 x2 l1 l2 (by unfold Env.kindOf;refine re xk.names ?_;exact eq_of_beq g1) (eq_of_beq g2) (d9 g3).1 hck (Bool.not_eq_true' _▸f1) (Bool.not_eq_true' _▸f2) fun X2 e1 e2 e3=>?_))
 · exact H6
 · exact (ibody _ _ _ _ h6 _ _ ⟨by exact re e1 rfl,by refine re e1 ?_;exact hck.kind,e2,e3,fun h=>absurd h (by decide),fun h=>by cases h⟩).1
theorem Lp (k1:Know1 k B K fi) (c:aM k.T B prog w n cf):SE k B prog w n cf (.hole):=fun nm sl md x h X ρ xk=>Bs fun _=>rfl
theorem Ek:SEs k B prog w n cf []:=fun nm sl md xs h=>by
 cases xs with
 | nil=>trivial
 | cons=>exact ffE h
theorem zp {e:Mine.E} {es:List Mine.E} (ie:SE k B prog w n cf e) (ies:SEs k B prog w n cf es):SEs k B prog w n cf (e :: es):=fun nm sl md xs h=>by
 cases xs with
 | nil=>exact ffE h
 | cons x xs =>
   obtain ⟨h1,h2⟩:=aG (show (bZ k nm sl md e x && dZ k nm sl md es xs)=true from h)
   exact ⟨ie _ _ _ _ h1,ies _ _ _ _ h2⟩
theorem El (k1:Know1 k B K fi) (c:aM k.T B prog w n cf) (e:Mine.E):SE k B prog w n cf e :=
 Mine.E.rec (motive_1:=SE k B prog w n cf) (motive_2:=SEs k B prog w n cf) (fun _=>QK k1 c) (fun _ _=>QL k1 c) (fun _=>QM k1 c) (fun _=>NT k1 c) (fun _ _ _ i1 i2=>NZ k1 c i1 i2) (fun _ i0=>N5 k1 c i0) (fun _ _ i1=>Qf k1 c i1) (fun _ _ _ i0 i2=>N6 k1 c i0 i2) (fun _ _ _ i0 i1 i2=>N7 k1 c i0 i1 i2) (fun _ _ i0 i1=>N8 k1 c i0 i1) (fun _ _ _ i0 i1 i2=>Oa k1 c i0 i1 i2) (fun _ i0=>Ob k1 c i0) (fun _ _ i1=>Oc k1 c i1) (Ej k1 c) (fun _ _ i0=>Li k1 c i0) (fun _ _ _ _ _ _ _ i3 i5 i6=>Lj k1 c i3 i5 i6) (fun _ _ i1=>Lk k1 c i1) (fun _ _ i1=>H7 k1 c i1) (fun _ _ _ i2=>Od k1 c i2) (fun _ _ _ _ i1 i3=>Ln k1 c i1 i3) (fun _ _ i1=>Qg k1 c i1) (fun _ _ _ i1 i2=>Qh k1 c i1 i2) (fun _ _ i1=>H8 k1 c i1) (Lp k1 c) Ek (fun _ _ i0 i1=>zp i0 i1) e
theorem Lq (k1:Know1 k B K fi) (c:aM k.T B prog w n cf) (es:List Mine.E):SEs k B prog w n cf es:=by
 induction es with
 | nil=>exact Ek
 | cons e es ih=>exact zp (El k1 c e) ih
theorem gA (k1:Know1 k B K fi) (c:aM k.T B prog w n cf) (e:Mine.E) {x:Expr} (h:bZ k nm sl md e x=true) (xk:XOk k nm md n X):cY k B prog w cf X sl ρ e x:=El k1 c e _ _ _ _ h _ _ xk
theorem Qi (k1:Know1 k B K fi) (c:aM k.T B prog w n cf) (es:List Mine.E) {xs:List Expr} (h:dZ k nm sl md es xs=true):gb (fun e x=>∀ {X:Cx} {ρ:Env},XOk k nm md n X→cY k B prog w cf X sl ρ e x) es xs:=(Lq k1 c es _ _ _ _ h).mono fun e x q {X} {ρ} xk=>q X ρ xk
end
end
section
noncomputable def rZ:List Nat→Bool
 | []=>true
 | x :: r=>!r.contains x && rZ r
theorem uW:∀ {l:List Nat},rZ l=true→l.Nodup
 | [],_=>List.nodup_nil
 | x :: r,h=>by
   simp only [rZ,Bool.and_eq_true,Bool.not_eq_true'] at h
   exact List.nodup_cons.mpr ⟨fun m=>by rw [List.contains_iff_mem.mpr m] at h;exact absurd h.1 (by decide),uW h.2⟩
structure HdS where
 hAssign:(List Expr)→Expr→Bool:=fun _ _=>false
 hExpr:Expr→Bool:=fun _=>false
 hRet:(Option Expr)→Bool:=fun _=>false
 hIfS:Expr→(List Stmt)→(List Stmt)→Bool:=fun _ _ _=>false
 hWhile:Expr→(List Stmt)→(List Stmt)→Bool:=fun _ _ _=>false
 hFor:Expr→Expr→(List Stmt)→(List Stmt)→Bool:=fun _ _ _ _=>false
 hRaise:(Option Expr)→(Option Expr)→Bool:=fun _ _=>false
 hCont:Bool:=false
noncomputable def onS (h:HdS):Stmt→Bool
 | .Assign ts v _=>h.hAssign ts v
 | .Expr e _=>h.hExpr e
 | .Return v _=>h.hRet v
 | .If t a b _=>h.hIfS t a b
 | .While t a b _=>h.hWhile t a b
 | .For t i a b _=>h.hFor t i a b
 | .Raise e c _=>h.hRaise e c
 | .Continue _=>h.hCont
 | _=>false
theorem ji {h:HdS} {M:Stmt→Prop} {x:Stmt} (e:onS h x=true)
   (cAssign:∀ ts v u0,h.hAssign ts v=true→M (.Assign ts v u0))
   (cExpr:∀ e u0,h.hExpr e=true→M (.Expr e u0))
   (cRet:∀ v u0,h.hRet v=true→M (.Return v u0))
   (cIfS:∀ t a b u0,h.hIfS t a b=true→M (.If t a b u0))
   (cWhile:∀ t a b u0,h.hWhile t a b=true→M (.While t a b u0))
   (cFor:∀ t i a b u0,h.hFor t i a b=true→M (.For t i a b u0))
   (cRaise:∀ e c u0,h.hRaise e c=true→M (.Raise e c u0))
   (cCont:∀ p,h.hCont=true→M (.Continue p)):M x:=by
 cases x with
 | Assign=>exact cAssign _ _ _ e
 | Expr=>exact cExpr _ _ e
 | Return=>exact cRet _ _ e
 | If=>exact cIfS _ _ _ _ e
 | While=>exact cWhile _ _ _ _ e
 | For=>exact cFor _ _ _ _ _ e
 | Raise=>exact cRaise _ _ _ e
 | Continue=>exact cCont _ e
 | _=>exact ffE e
noncomputable def j6 (F:(List Expr)→Expr→Bool) (x:Stmt):Bool:=onS { hAssign:=F } x
@[elab_as_elim] theorem iW {F:(List Expr)→Expr→Bool} {M:Stmt→Prop} {x:Stmt} (h:j6 F x=true) (H:∀ ts v u0,F ts v=true→M (.Assign ts v u0)):M x :=
 ji h H (fun _ _ e=>ffE e) (fun _ _ e=>ffE e) (fun _ _ _ _ e=>ffE e) (fun _ _ _ _ e=>ffE e) (fun _ _ _ _ _ e=>ffE e) (fun _ _ _ e=>ffE e) (fun _ e=>ffE e)
noncomputable def Em (F:Expr→Bool) (x:Stmt):Bool:=onS { hExpr:=F } x
@[elab_as_elim] theorem En {F:Expr→Bool} {M:Stmt→Prop} {x:Stmt} (h:Em F x=true) (H:∀ e u0,F e=true→M (.Expr e u0)):M x :=
 ji h (fun _ _ _ e=>ffE e) H (fun _ _ e=>ffE e) (fun _ _ _ _ e=>ffE e) (fun _ _ _ _ e=>ffE e) (fun _ _ _ _ _ e=>ffE e) (fun _ _ _ e=>ffE e) (fun _ e=>ffE e)
noncomputable def JL (F:(Option Expr)→Bool) (x:Stmt):Bool:=onS { hRet:=F } x
@[elab_as_elim] theorem H9 {F:(Option Expr)→Bool} {M:Stmt→Prop} {x:Stmt} (h:JL F x=true) (H:∀ v u0,F v=true→M (.Return v u0)):M x :=
 ji h (fun _ _ _ e=>ffE e) (fun _ _ e=>ffE e) H (fun _ _ _ _ e=>ffE e) (fun _ _ _ _ e=>ffE e) (fun _ _ _ _ _ e=>ffE e) (fun _ _ _ e=>ffE e) (fun _ e=>ffE e)
noncomputable def JM (F:Expr→(List Stmt)→(List Stmt)→Bool) (x:Stmt):Bool:=onS { hIfS:=F } x
@[elab_as_elim] theorem Ia {F:Expr→(List Stmt)→(List Stmt)→Bool} {M:Stmt→Prop} {x:Stmt} (h:JM F x=true) (H:∀ t a b u0,F t a b=true→M (.If t a b u0)):M x :=
 ji h (fun _ _ _ e=>ffE e) (fun _ _ e=>ffE e) (fun _ _ e=>ffE e) H (fun _ _ _ _ e=>ffE e) (fun _ _ _ _ _ e=>ffE e) (fun _ _ _ e=>ffE e) (fun _ e=>ffE e)
noncomputable def zq (F:Expr→(List Stmt)→(List Stmt)→Bool) (x:Stmt):Bool:=onS { hWhile:=F } x
@[elab_as_elim] theorem Bv {F:Expr→(List Stmt)→(List Stmt)→Bool} {M:Stmt→Prop} {x:Stmt} (h:zq F x=true) (H:∀ t a b u0,F t a b=true→M (.While t a b u0)):M x :=
 ji h (fun _ _ _ e=>ffE e) (fun _ _ e=>ffE e) (fun _ _ e=>ffE e) (fun _ _ _ _ e=>ffE e) H (fun _ _ _ _ _ e=>ffE e) (fun _ _ _ e=>ffE e) (fun _ e=>ffE e)
noncomputable def JN (F:Expr→Expr→(List Stmt)→(List Stmt)→Bool) (x:Stmt):Bool:=onS { hFor:=F } x
@[elab_as_elim] theorem Ib {F:Expr→Expr→(List Stmt)→(List Stmt)→Bool} {M:Stmt→Prop} {x:Stmt} (h:JN F x=true) (H:∀ t i a b u0,F t i a b=true→M (.For t i a b u0)):M x :=
 ji h (fun _ _ _ e=>ffE e) (fun _ _ e=>ffE e) (fun _ _ e=>ffE e) (fun _ _ _ _ e=>ffE e) (fun _ _ _ _ e=>ffE e) H (fun _ _ _ e=>ffE e) (fun _ e=>ffE e)
noncomputable def onRaise (F:(Option Expr)→(Option Expr)→Bool) (x:Stmt):Bool:=onS { hRaise:=F } x
@[elab_as_elim] theorem Bw {F:(Option Expr)→(Option Expr)→Bool} {M:Stmt→Prop} {x:Stmt} (h:onRaise F x=true) (H:∀ e c u0,F e c=true→M (.Raise e c u0)):M x :=
 ji h (fun _ _ _ e=>ffE e) (fun _ _ e=>ffE e) (fun _ _ e=>ffE e) (fun _ _ _ _ e=>ffE e) (fun _ _ _ _ e=>ffE e) (fun _ _ _ _ _ e=>ffE e) H (fun _ e=>ffE e)
noncomputable def isCont (x:Stmt):Bool:=onS { hCont:=true } x
@[elab_as_elim] theorem Eo {M:Stmt→Prop} {x:Stmt} (h:isCont x=true) (H:∀ p,M (.Continue p)):M x :=
 ji h (fun _ _ _ e=>ffE e) (fun _ _ e=>ffE e) (fun _ _ e=>ffE e) (fun _ _ _ _ e=>ffE e) (fun _ _ _ _ e=>ffE e) (fun _ _ _ _ _ e=>ffE e) (fun _ _ _ e=>ffE e) (fun p _=>H p)
noncomputable def Ep:Mine.E→Bool
 | .comp ..=>true
 | _=>false
@[elab_as_elim] theorem Er {M:Mine.E→Prop} {e:Mine.E} (h:Ep e=true) (H:∀ own caps tgt elt ik it ifs,M (.comp own caps tgt elt ik it ifs)):M e:=by
 cases e with
 | comp=>exact H _ _ _ _ _ _ _
 | _=>exact ffE h
noncomputable def Oe (nm:List (Str×NameKind)) (id:Str) (py:Pos):Expr→Bool
 | .ListComp _ _ scope cpos=>Bo nm scope cpos id py
 | _=>false
noncomputable def Qj (nm:List (Str×NameKind)) (sl:List Str) (i:Nat) (plain:Bool) (t value:Expr):Bool:=match t with
 | .Name id py=>sl[i]? == some id && (plain || Oe nm id py value)
 | _=>false
noncomputable def JP (nm:List (Str×NameKind)) (sl:List Str) (xs:List Nat) (ts:List Expr) (value:Expr):Option (List Str)→Bool
 | some ids=>cj sl xs ids && rZ xs && dw value && HY nm ts value ids
 | none=>false
mutual
noncomputable def Ie (k:Ck) (nm:List (Str×NameKind)) (sl:List Str) (md:Nat):Mine.C→Stmt→Bool
 | .asg i e,x=>j6 (fun ts value=>on1 (fun t=>je (fun id=>true) t && bZ k nm sl md e value && (dw value || Ep e) && Qj nm sl i (dw value) t value) ts) x
 | .asgt xs e,x=>j6 (fun ts value=>on1 (fun t=>Bk (fun ts=>JP nm sl xs ts value (cU ts)) t && bZ k nm sl md e value) ts) x
 | .seta o f e,x=>j6 (fun ts value=>on1 (fun t=>oV (fun o' n _=>n == k.T.fld f && dw value && bZ k nm sl md o o' && bZ k nm sl md e value) t) ts) x
 | .seti o i e,x=>j6 (fun ts value=>on1 (fun t=>vA (fun o' i'=>dw value && bZ k nm sl md o o' && bZ k nm sl md i i' && bZ k nm sl md e value) t) ts) x
 | .ex e,x=>Em (fun e'=>dw e' && bZ k nm sl md e e') x
 | .ret e,x=>JL (fun v=>oY (fun e'=>bZ k nm sl md e e') v) x
 | .iff t a b,x=>JM (fun t' a' b'=>bZ k nm sl md t t' && iY k nm sl md a a' && iY k nm sl md b b') x
 | .whl t b,x=>zq (fun t' b' els=>els.isEmpty && decide (1≤md) && bZ k nm sl md t t' && iY k nm sl md b b') x
 | .fr tgt ik it b,x=>JN (fun t it' b' els=>els.isEmpty && gq sl tgt t && wY it' && oY (fun e=>bZ k nm sl md it e) (rW k nm t it' ik) && iY k nm sl md b b') x
 | .rse c msg,x=>onRaise (fun e cs=>cs.isNone && oY (gR (fun fn as ks _=>ks.isEmpty && on1 (fun m=>je (fun id=>decide (c < 4) && nm.lookup id == some .globalImplicit && k.NN.glob id == some (.ref (k.T.ea c)) && jY id && notStar m && bZ k nm sl md msg m) fn) as)) e) x
 | .cont,x=>isCont x
 | .hole,_=>true
noncomputable def iY (k:Ck) (nm:List (Str×NameKind)) (sl:List Str) (md:Nat):List Mine.C→List Stmt→Bool
 | [],xs=>xs.isEmpty
 | c :: cs,xs=>(match xs with | x :: xs=>Ie k nm sl md c x && iY k nm sl md cs xs | []=>false)
end
section
variable {k:Ck} {B:Heap} {K:Frag} {fi:Addr} {prog:Program} {w:World} {n:Nat} {cf:Calls} {nm:List (Str×NameKind)} {sl:List Str} {md:Nat} {X:Cx} {ρ:Env}
theorem vy (k1:Know1 k B K fi) (c:aM k.T B prog w n cf) {own:List Str} {caps:List Nat} {tgt:Mine.T} {elt:Mine.E} {ik:IK} {it:Mine.E} {ifs:List Mine.E} {x:Expr} (h:bZ k nm sl md (.comp own caps tgt elt ik it ifs) x=true) (xk:XOk k nm md n X) {i:Nat} {id:Str} {py spos:Pos} (hx:sl[i]?=some id)
   (hsw:Oe nm id py x=true) :
   cO k.T B prog w X sl ρ (exec (.Assign [.Name id py] x spos) X.env) (fun σ=>(ev k.P cf ρ (.comp own caps tgt elt ik it ifs) σ).bind fun v σ=>if i < ρ.length then .ok (.nxt (ρ.set i (some v))) σ else .stuck)∧True:=by
 revert hsw
 refine uU h fun elt' gs scope p h hsw=>?_
 refine jg h fun g h=>?_
 obtain ⟨t,iter,ifs',a⟩:=g
 refine jK h fun h0 h1 h2 h3 h4 h5 h6 h7=>?_
 obtain rfl:a=0:=eq_of_beq h0
 have hck:=mX (env:=X.env) (by refine re xk.names ?_;exact h1)
 refine o11 (jh h5) fun e he h5=>?_
 have hit:lr k.T B prog w X sl ρ t iter ik (fun σ=>ev k.P cf ρ it σ):=tY k1 xk he (gA k1 c it h5 xk).1
 have hri:∀ C ρ',bW k.T B prog w ⟨cJ scope X C,X.A,X.l⟩ (own++bV sl caps) ρ' (eX ifs' (cJ scope X C)) (fun σ=>gM k.P cf ρ' ifs σ):=fun C ρ' =>
   Ei h6 ((Qi k1 c ifs h7).mono (Q:=cY k B prog w cf ⟨cJ scope X C,X.A,X.l⟩ (own++bV sl caps) ρ') fun e x q=>q (mY xk hck.kind C))
 have hre:∀ C ρ',Sat k.T B prog w ⟨cJ scope X C,X.A,X.l⟩ (own++bV sl caps) ρ' (eval elt' (cJ scope X C)) (fun σ=>ev k.P cf ρ' elt σ):=fun C ρ'=>(gA k1 c elt h4 (mY xk hck.kind C)).1
 have hs:=HX (elt:=elt') (gs:=[⟨t,iter,ifs',0⟩]) (n:=spos.line) xk.kind (by refine re xk.names ?_;exact hsw)
 have q:=@wJ k.T B prog w X sl own (bV sl caps) caps ρ (fun ρ' σ=>gM k.P cf ρ' ifs σ) (fun ρ' σ=>ev k.P cf ρ' elt σ) (fun σ=>ev k.P cf ρ it σ) ik tgt t elt' iter ifs' scope p spos xk.ok.hd hck h2 (j4 h3) hri hre hit i id py hx hs
 exact ⟨@q,trivial⟩
theorem Bx {t:Sem Flow} {r:Sig→R Fl} (h:∀ σ,r σ=.stuck):cO k.T B prog w X sl ρ t r:=by
 intro S ι σ s Q E R L p
 rw [h σ] at p
 exact p.elim
noncomputable def SC (k:Ck) (B:Heap) (prog:Program) (w:World) (n:Nat) (cf:Calls) (d:Mine.C):Prop:=∀ (nm:List (Str×NameKind)) (sl:List Str) (md:Nat) (x:Stmt),Ie k nm sl md d x=true→∀ (X:Cx) (ρ:Env),XOk k nm md n X→cO k.T B prog w X sl ρ (exec x X.env) (fun σ=>ex k.P cf d ρ σ)
noncomputable def SCs (k:Ck) (B:Heap) (prog:Program) (w:World) (n:Nat) (cf:Calls) (ds:List Mine.C):Prop:=∀ (nm:List (Str×NameKind)) (sl:List Str) (md:Nat) (xs:List Stmt),iY k nm sl md ds xs=true→∀ (X:Cx) (ρ:Env),XOk k nm md n X→cO k.T B prog w X sl ρ (execs xs X.env) (fun σ=>exs k.P cf ds ρ σ)
theorem Og (k1:Know1 k B K fi) (c:aM k.T B prog w n cf) {i:Nat} {e:Mine.E}:SC k B prog w n cf (.asg i e):=fun nm sl md x h X ρ xk=>by
 refine iW h fun ts value spos h=>?_
 refine jg h fun t h=>?_
 refine gC h fun h1 h2 h3 h4=>?_
 revert h4
 refine fM h1 fun id py _ h4=>?_
 refine bK h4 fun g1 g2=>?_
 cases hn:dw value with
 | true=>exact Hl (eq_of_beq g1) hn (gA k1 c e h2 xk).1
 | false =>
   rw [hn] at h3 g2
   revert h2
   refine Er (e:=e) h3 fun own caps tgt elt ik it ifs h2=>?_
   exact (vy k1 c h2 xk (eq_of_beq g1) g2).1
theorem Lr (k1:Know1 k B K fi) (c:aM k.T B prog w n cf) {xs:List Nat} {e:Mine.E}:SC k B prog w n cf (.asgt xs e):=fun nm sl md x h X ρ xk=>by
 refine iW h fun ts value spos h=>?_
 refine jg h fun t h=>?_
 refine bK h fun h1 h2=>?_
 refine wW h1 fun ts _ _ g=>?_
 replace h1:JP nm sl xs ts value (cU ts)=true:=g
 cases hids:cU ts with
 | none=>rw [hids] at h1;exact ffE h1
 | some ids =>
   rw [hids] at h1
   refine gC h1 fun g1 g2 g3 g4=>?_
   exact Dl xk.ok.hd hids g1 (uW g2) g3 (Ld xk.kind (by refine re xk.names ?_;exact g4)) (gA k1 c e h2 xk).1
theorem Ls (k1:Know1 k B K fi) (c:aM k.T B prog w n cf) {o:Mine.E} {f:Nat} {e:Mine.E}:SC k B prog w n cf (.seta o f e):=fun nm sl md x h X ρ xk=>by
 refine iW h fun ts value spos h=>?_
 refine jg h fun t h=>?_
 refine lw h fun o' n' _ h=>?_
 refine gC h fun h1 h2 h3 h4=>?_
 refine gH h1 ?_
 exact Di k1.kf.toKnowS (gA k1 c o h3 xk).1 (gA k1 c e h4 xk).1 h2
theorem Lw (k1:Know1 k B K fi) (c:aM k.T B prog w n cf) {o:Mine.E} {i:Mine.E} {e:Mine.E}:SC k B prog w n cf (.seti o i e):=fun nm sl md x h X ρ xk=>by
 refine iW h fun ts value spos h=>?_
 refine jg h fun t h=>?_
 refine qD h fun o' i' _ h=>?_
 refine gC h fun h2 h3 h4 h5=>?_
 exact Dj (gA k1 c o h3 xk).1 (gA k1 c i h4 xk).1 (gA k1 c e h5 xk).1 h2
theorem Qk (k1:Know1 k B K fi) (c:aM k.T B prog w n cf) {e:Mine.E}:SC k B prog w n cf (.ex e):=fun nm sl md x h X ρ xk=>by
 refine En h fun e' _ h=>?_
 refine bK h fun h1 h2=>?_
 exact KH (gA k1 c e h2 xk).1 fun _ _=>gn h1
theorem Oh (k1:Know1 k B K fi) (c:aM k.T B prog w n cf) {e:Mine.E}:SC k B prog w n cf (.ret e):=fun nm sl md x h X ρ xk=>by
 refine H9 h fun v _ h=>?_
 obtain ⟨e',rfl,h⟩:=jh h
 exact Hk (gA k1 c e h xk).1
theorem Oi (k1:Know1 k B K fi) (c:aM k.T B prog w n cf) {t:Mine.E} {a:List Mine.C} {b:List Mine.C} (ia:SCs k B prog w n cf a) (ib:SCs k B prog w n cf b):SC k B prog w n cf (.iff t a b):=fun nm sl md x h X ρ xk=>by
 refine Ia h fun t' a' b' _ h=>?_
 refine cZ h fun h1 h2 h3=>?_
 exact KD (gA k1 c t h1 xk).2 (ia _ _ _ _ h2 _ _ xk) (ib _ _ _ _ h3 _ _ xk)
theorem Oj (k1:Know1 k B K fi) (c:aM k.T B prog w n cf) {t:Mine.E} {b:List Mine.C} (ib:SCs k B prog w n cf b):SC k B prog w n cf (.whl t b):=fun nm sl md x h X ρ xk=>by
 refine Bv h fun t' b' els _ h=>?_
 refine gC h fun h0 h1 h2 h3=>?_
 refine cB h0 ?_
 exact Ax (rt:=fun ρ σ=>ev k.P cf ρ t σ) (rb:=fun ρ σ=>exs k.P cf b ρ σ) (xk.top (of_decide_eq_true h1)).1 xk.ok.fr (fun ρ=>(gA k1 c t h2 xk).2) (fun ρ=>ib _ _ _ _ h3 _ _ xk) turns
theorem Ql (k1:Know1 k B K fi) (c:aM k.T B prog w n cf) {tgt:Mine.T} {ik:IK} {it:Mine.E} {b:List Mine.C} (ib:SCs k B prog w n cf b):SC k B prog w n cf (.fr tgt ik it b):=fun nm sl md x h X ρ xk=>by
 refine Ib h fun t it' b' els _ h=>?_
 refine il h fun h0 h1 h2 h3 h4=>?_
 refine cB h0 ?_
 refine o11 (jh h3) fun e he h3=>?_
 exact Hy (r:=fun σ=>ev k.P cf ρ it σ) (rb:=fun ρ σ=>exs k.P cf b ρ σ) xk.ok.hd h1 (j4 h2) (fun ρ=>ib _ _ _ _ h4 _ _ xk) (tY k1 xk he (gA k1 c it h3 xk).1) turns
theorem Ol (k1:Know1 k B K fi) (c:aM k.T B prog w n cf) {d:Nat} {msg:Mine.E}:SC k B prog w n cf (.rse d msg):=fun nm sl md x h X ρ xk=>by
 refine Bw h fun e cs _ h=>?_
 refine bK h fun h0 h=>?_
 obtain rfl:=Option.isNone_iff_eq_none.mp h0
 obtain ⟨e,rfl,h⟩:=jh h
 refine d8 h fun fn as ks _ h=>?_
 refine bK h fun h0 h=>?_
 refine cB h0 ?_
 refine jg h fun m h=>?_
 refine fM h fun id _ h=>?_
 refine sZ h fun h1 h2 h3 h4 h5 h6=>?_
 exact Bb k1.kx k1.kn k1.kf.lim k1.kf.kin xk.env xk.ok (of_decide_eq_true h1) (by unfold Env.kindOf;refine re xk.names ?_;exact eq_of_beq h2) (eq_of_beq h3) (d9 h4).1 h5 (gA k1 c msg h6 xk).1
theorem Lx (k1:Know1 k B K fi) (c:aM k.T B prog w n cf):SC k B prog w n cf (.cont ):=fun nm sl md x h X ρ xk=>by
 refine Eo h fun _=>?_
 exact Dh
theorem Ly (k1:Know1 k B K fi) (c:aM k.T B prog w n cf):SC k B prog w n cf (.hole ):=fun nm sl md x h X ρ xk=>Bx fun _=>rfl
theorem Es:SCs k B prog w n cf []:=fun nm sl md xs h X ρ xk=>by
 cases xs with
 | nil=>exact Hj
 | cons=>exact ffE h
theorem zr {d:Mine.C} {ds:List Mine.C} (i:SC k B prog w n cf d) (is:SCs k B prog w n cf ds):SCs k B prog w n cf (d :: ds):=fun nm sl md xs h X ρ xk=>by
 cases xs with
 | nil=>exact ffE h
 | cons x xs =>
   refine bK (show (Ie k nm sl md d x && iY k nm sl md ds xs)=true from h) fun h1 h2=>?_
   exact Dg (rs:=fun ρ' σ=>exs k.P cf ds ρ' σ) (i _ _ _ _ h1 _ _ xk) fun ρ'=>is _ _ _ _ h2 _ _ xk
theorem Om (k1:Know1 k B K fi) (c:aM k.T B prog w n cf) (d:Mine.C):SC k B prog w n cf d :=
 Mine.C.rec (motive_1:=SC k B prog w n cf) (motive_2:=SCs k B prog w n cf) (fun _ _=>Og k1 c) (fun _ _=>Lr k1 c) (fun _ _ _=>Ls k1 c) (fun _ _ _=>Lw k1 c) (fun _=>Qk k1 c) (fun _=>Oh k1 c) (fun _ _ _ i1 i2=>Oi k1 c i1 i2) (fun _ _ i1=>Oj k1 c i1) (fun _ _ _ _ i3=>Ql k1 c i3) (fun _ _=>Ol k1 c) (Lx k1 c) (Ly k1 c) Es (fun _ _ i0 i1=>zr i0 i1) d
theorem Qm (k1:Know1 k B K fi) (c:aM k.T B prog w n cf) (ds:List Mine.C) {xs:List Stmt} (h:iY k nm sl md ds xs=true) (xk:XOk k nm md n X):cO k.T B prog w X sl ρ (execs xs X.env) (fun σ=>exs k.P cf ds ρ σ):=by
 exact List.rec (motive:=SCs k B prog w n cf) Es (fun d _ ih=>zr (Om k1 c d) ih) ds _ _ _ _ h _ _ xk
end
end
section
structure FnOk (k:Ck) (B:Heap) (K:Frag) (f:Nat) (fn:Fn):Prop where
 ok:∃ body scope dv cd qn md,FnIs B K fn (k.T.fa f) body scope dv cd qn∧iY k scope.names fn.slots md fn.body body=true∧(md=2→cd=.ref k.T.lc∧qn++".<locals>."++"<lambda>"=k.T.lq)
section
variable {k:Ck} {B:Heap} {K:Frag} {fi:Addr} {prog:Program} {w:World}
set_option tactic.hygienic true in
theorem BJ (k1:Know1 k B K fi) (hf:∀ f fn,k.P.fns f=some fn→FnOk k B K f fn):∀ n,aM k.T B prog w n (run k.P n):=by
 intro n
 induction n with
 | zero =>
   intro A l S ι σ s Q E f as vs h1 h2 h3 h4 h5 R ra p
   exact p.elim
 | succ n ih =>
   intro A l S ι σ s Q E f as vs h1 h2 h3 h4 h5 R ra p
   unfold run at p
   split at p
   · exact p.elim
   · rename_i fn hfn
     split at p
     · rename_i hl
       obtain ⟨body,scope,dv,cd,qn,md,hfi,hck,hmd⟩:=(hf f fn hfn).ok
       have bo:BodyOk k.T B prog w k.P n (run k.P n) fn body scope cd qn:=fun X e1 e2 e3 xe xo d1 d2 xl ρ =>
         Qm k1 ih fn.body hck ⟨by exact re e1 rfl,by refine re e1 ?_;exact hfi.kind,xe,xo,fun _=>⟨xl,d1,d2⟩,fun q=>⟨by refine re e2 ?_;exact (hmd q).1,by refine re e3 ?_;exact (hmd q).2⟩⟩
       refine KZ k1.kf.lim k1.kf.kin hfi bo h1 h2 h3 h4 h5 R ra hl ?_
       exact p
     · exact p.elim
end
end
noncomputable def caL:List Addr:=[178,228,392,480,508,607]
noncomputable def faL:List Addr:=[118,123,128,133,147,154,168,175,197,204,211,218,225,239,246,253,295,337,356,361,368,382,403,410,417,422,427,434,441,448,455,462,477,491,505,526,547,561,569,590,597,618,625,630,635,640,645,659,664,669,674]
noncomputable def eaL:List Addr:=[99,63,111,87]
noncomputable def Oo:List String:=["octets", "at", "sort", "mode", "size", "links", "parent", "made", "changed", "kind", "block", "most", "bonus", "shape", "dnodes", "top", "sector", "slab", "record", "fan", "ring", "defer", "most_record", "uber", "config", "zap"]
noncomputable def mnL:List String:=["number", "text", "whole", "left", "take", "dnode", "read", "add", "put", "write"]
noncomputable def fc (f:Nat):Str:=match Oo[f]? with
 | some s=>Str.ofString s
 | none=>⟨(List.replicate (f + 1) 122).toArray⟩
noncomputable def mnS (m:Nat):Str:=Str.ofString ((mnL[m]?).getD "number")
noncomputable def cz (K:Frag) (x:Str):Option Value:=match K.lookup mainGlobals with
 | some o=>match o.data with
   | .dict es _=>nsFind es x
   | _=>none
 | none=>none
noncomputable def lz (K:Frag):Addr:=match K.lookup 669 with
 | some o=>match o.data with
   | .func fd=>match fd.code with
     | .ref c=>c
     | _=>0
   | _=>0
 | none=>0
noncomputable def bG (K:Frag):Tabs:={ ca:=fun C=>(caL[C]?).getD 607,fld:=fc,ea:=fun c=>(eaL[c]?).getD 99,fa:=fun f=>(faL[f]?).getD 674,mn:=mnS,tabP:=666,lc:=lz K,lq:="_law_path_right.<locals>.<lambda>" }
noncomputable def w6:List String:=["sum", "enumerate", "bytes", "range", "ord", "all", "chr", "bytearray", "len", "sorted", "max", "isinstance", "str", "Exception"]
noncomputable def w7 (K:Frag):Names:={ glob:=cz K,blt:=fun x=>if (w6.any fun s=>x == Str.ofString s) && (cz K x).isNone then bootBuiltins x else none }
noncomputable def BK (K:Frag):Ck:={ T:=bG K,NN:=w7 K,P:=PR,ft:=652 }
noncomputable def iH (K:Frag) (a:Addr):Option FuncData:=match K.lookup a with
 | some o=>match o.data with
   | .func fd=>some fd
   | _=>none
 | none=>none
noncomputable def sr (fd:FuncData):List Stmt:=match fd.body with
 | .stmts b=>b
 | _=>[]
noncomputable def Ig (f:Nat):Nat:=if f=49 then 2 else 1
noncomputable def Oq (K:Frag) (f:Nat):Bool:=match PR.fns f with
 | some fn=>match iH K ((bG K).fa f) with
   | some fd=>iY (BK K) fd.scope.names fn.slots (Ig f) fn.body (sr fd)
   | none=>false
 | none=>false
section
noncomputable def tZ (K:Frag) (C:Addr) (n:Str):Bool:=match findIn K (.ref C) n with
 | some attr=>noGet K attr
 | none=>false
noncomputable def zu (K:Frag) (C:Nat):Bool:=(List.range 26).all fun f=>!dj C f || (plainGet K ((bG K).ca C) (fc f) && tZ K ((bG K).ca C) (fc f) && takerIn K ((bG K).ca C) (fc f) == some none)
noncomputable def Ot (K:Frag):Bool:=(List.range 7).all fun C=>hasDictIn K ((bG K).ca C) && findIn K (.ref ((bG K).ca C)) "__setattr__" == some (some (.builtin "object.__setattr__")) && plainOver K ((bG K).ca C) && zu K C
noncomputable def Ou (K:Frag):Bool:=(List.range 51).all fun f=>keepIn K (.ref ((bG K).fa f)) && typeIn K (.ref ((bG K).fa f)) == some (.type "function")
noncomputable def Et (K:Frag):Bool:=(List.range 6).all fun C=>match inits C with
 | some f=>keepIn K (.ref ((bG K).ca C)) && makesIn K ((bG K).ca C) && findIn K (.ref ((bG K).ca C)) "__init__" == some (some (.ref ((bG K).fa f)))
 | none=>false
noncomputable def Eu (K:Frag):Bool:=(List.range 6).all fun C=>(List.range 10).all fun m=>match methsOf C m with
 | some f=>findIn K (.ref ((bG K).ca C)) (mnS m) == some (some (.ref ((bG K).fa f)))
 | none=>true
noncomputable def Qn (K:Frag):Bool:=(List.range 4).all fun c=>excIn K 35 ((bG K).ea c) && (List.range 4).all fun c'=>exmOne K (.ref ((bG K).ea c)) (.ref ((bG K).ea c')) == some (c == c')
noncomputable def xd:Bool:=(List.range 26).all fun f=>(List.range 26).all fun g=>f == g || !(fc f == fc g)
noncomputable def t8:Bool:=(List.range 26).all fun f=>(List.range 10).all fun m=>!(mnS m == fc f)
theorem Pq:True:=trivial
noncomputable def xg:Bool:=(List.range 26).all fun f=>decide ((fc f).cps.size≤26)
noncomputable def uc:Bool:=(List.range 10).all fun m=>decide ((mnS m).cps.size≤26)
theorem range_all {n:Nat} {p:Nat→Bool} (h:(List.range n).all p=true) {i:Nat} (hi:i < n):p i=true:=List.all_eq_true.mp h i (List.mem_range.mpr hi)
theorem Ew (K:Frag) (C:Nat):(bG K).ca C=(bG K).ca (min C 6):=by
 by_cases h:C < 6
 · exact re (Nat.min_eq_left (Nat.le_of_lt h)) rfl
 · refine re (Nat.min_eq_right (Nat.le_of_not_lt h)) ?_
   show (caL[C]?).getD 607=(caL[6]?).getD 607
   refine re (List.getElem?_eq_none (show caL.length≤C from Nat.le_of_not_lt h)) ?_
   rfl
theorem Ex {C f:Nat}:dj (min C 6) f=dj C f:=by
 unfold dj
 have:(4 < min C 6)=(4 < C):=by rw [Nat.lt_min];simp
 simp only [this]
theorem Ih {f:Nat} (h:¬ f < 26):fc f=⟨(List.replicate (f + 1) 122).toArray⟩:=by
 unfold fc
 exact re (List.getElem?_eq_none (show Oo.length≤f from Nat.le_of_not_lt h)) rfl
theorem jj {f:Nat} (h:¬ f < 26):(fc f).cps.size=f + 1:=by
 refine re (Ih h) ?_
 simp
theorem Ii (h1:xd=true) (h2:xg=true) {f g:Nat} (e:fc f=fc g):f=g:=by
 by_cases hf:f < 26
 · by_cases hg:g < 26
   · have:=range_all (range_all h1 hf) hg
     rcases Bool.or_eq_true_iff.mp this with q | q
     · exact eq_of_beq q
     · rw [e] at q
       simp at q
   · have s1:=of_decide_eq_true (range_all h2 hf)
     rw [e,jj hg] at s1
     lia
 · by_cases hg:g < 26
   · have s1:=of_decide_eq_true (range_all h2 hg)
     rw [← e,jj hf] at s1
     lia
   · have s1:=jj hf
     rw [e,jj hg] at s1
     lia
theorem Lz (m:Nat):∃ m',m' < 10∧mnS m=mnS m':=by
 by_cases h:m < 10
 · exact ⟨m,h,rfl⟩
 · refine ⟨0,by decide,?_⟩
   unfold mnS
   refine re (List.getElem?_eq_none (show mnL.length≤m from Nat.le_of_not_lt h)) ?_
   rfl
theorem Ov (h1:t8=true) (h2:uc=true) (m f:Nat):mnS m≠fc f:=by
 refine o11 (Lz m) fun m' hm e=>?_
 rw [e]
 intro q
 by_cases hf:f < 26
 · have:=range_all (range_all h1 hf) hm
   rw [q] at this
   simp at this
 · have:=of_decide_eq_true (range_all h2 hm)
   rw [q,jj hf] at this
   exact Nat.not_le_of_lt (Nat.lt_of_not_le hf) this
section
variable {B:Heap} {K:Frag}
theorem Ij (hin:K.In B) (lim:B.NoLimit) (h:Ot K=true) (n1:xd=true) (n2:xg=true):KnowS (bG K) B K:=by
 have at_:∀ C,(hasDictIn K ((bG K).ca C) && findIn K (.ref ((bG K).ca C)) "__setattr__" == some (some (.builtin "object.__setattr__")) && plainOver K ((bG K).ca C) && zu K (min C 6))=true:=fun C=>by
   refine re (Ew ..) ?_
   exact range_all h (show min C 6 < 7 by exact szt (Nat.min_le_right _ _) rfl)
 have fl:∀ C f,dj C f=true→(plainGet K ((bG K).ca C) (fc f) && tZ K ((bG K).ca C) (fc f) && takerIn K ((bG K).ca C) (fc f) == some none)=true:=fun C f hok=>by
   have hf:f < 26:=by
     unfold dj at hok
     exact of_decide_eq_true (aG hok).2
   have:=range_all (aG (at_ C)).2 hf
   rw [Ex,hok,← Ew] at this
   exact this
 exact {
   kin:=hin
   lim:=lim
   plain:=fun C f hok=>(aG (aG (fl C f hok)).1).1
   hasD:=fun C=>(aG (aG (aG (at_ C)).1).1).1
   field:=fun C f hok=>by
     have:=(aG (aG (fl C f hok)).1).2
     unfold tZ at this
     cases e:findIn K (.ref ((bG K).ca C)) (fc f) with
     | none=>rw [e] at this;exact ffE this
     | some attr=>rw [e] at this;exact ⟨attr,e,this⟩
   inj:=fun f g e=>Ii n1 n2 e
   setA:=fun C=>eq_of_beq (aG (aG (aG (at_ C)).1).1).2
   over:=fun C=>(aG (aG (at_ C)).1).2
   taker:=fun C f hok=>eq_of_beq (aG (fl C f hok)).2 }
theorem su {α:Type} {l:List α} {n i:Nat} {a:α} (hn:l.length≤n) (h:l[i]?=some a):i < n:=Nat.lt_of_lt_of_le (List.getElem?_eq_some_iff.mp h).1 hn
theorem Ey {f:Nat} (h:(PR.fns f).isSome=true):f < 51:=by
 obtain ⟨a,ha⟩:=Option.isSome_iff_exists.mp h
 exact su (l:=M8) (Nat.le_refl 51) ha
theorem Ik {C nm f:Nat} (h:PR.meths C nm=some f):C < 6∧nm < 10:=by
 refine o11 (Option.bind_eq_some_iff.mp h) fun l h1 h2=>?_
 refine o11 (Option.bind_eq_some_iff.mp h2) fun x h3 h4=>?_
 have hl:∀ l∈zP,l.length≤10:=by decide
 exact ⟨su (l:=zP) (Nat.le_refl 6) h1,su (hl l (List.mem_of_getElem? h1)) h3⟩
theorem Il (ks:KnowS (bG K) B K) (h1:Ou K=true) (h2:Et K=true) (h3:Eu K=true) (n1:t8=true) (n2:uc=true):KnowF PR (bG K) B K where
 toKnowS:=ks
 fn:=fun f hf=>by
   have:=aG (range_all h1 (Ey hf))
   exact ⟨this.1,eq_of_beq this.2⟩
 cls:=fun C f hC=>by
   have hlt:C < 6:=su (l:=Ju) (Nat.le_refl 6) hC
   have:=range_all h2 hlt
   replace hC:inits C=some f:=hC
   rw [hC] at this
   refine o01 (aG this) fun a b=>?_
   refine o01 (aG a) fun a1 a2=>?_
   refine ⟨a1,a2,eq_of_beq b,?_⟩
   have hd:∀ C,C < 6→∀ f,inits C=some f→(PR.fns f).isSome=true:=by decide
   exact hd C hlt f hC
 meth:=fun C nm f hm=>by
   refine o01 (Ik hm) fun hC hn=>?_
   have:=range_all (range_all h3 hC) hn
   replace hm:methsOf C nm=some f:=hm
   rw [hm] at this
   have hd:∀ C,C < 6→∀ m,m < 10→((methsOf C m).all fun f=>(PR.fns f).isSome)=true:=by decide
   have hs:=hd C hC nm hn
   rw [hm] at hs
   exact ⟨eq_of_beq this,hs⟩
 mnf:=Ov n1 n2
end
end
section
noncomputable def fieldsOf:Data→Option (Array Value)
 | .fields vs=>some vs
 | _=>none
noncomputable def JQ (q:Str):Value→Bool
 | .str q' _=>q' == q
 | _=>false
noncomputable def qG (K:Frag) (cd:Value) (q:Str):Bool:=match cd with
 | .ref c=>(K.lookup c).any fun o=>(fieldsOf o.data).any fun vs=>(vs[1]?:Option Value).any (JQ q)
 | _=>false
theorem xj {α:Type} {o:Option α} {f:α→Bool} {C:Prop} (h:o.any f=true) (k:∀ x,o=some x→f x=true→C):C:=by
 cases o with
 | none=>exact ffE h
 | some x=>exact k x rfl h
theorem yL {C:Prop} {d:Data} {vs:Array Value} (e:fieldsOf d=some vs) (k:d=.fields vs→C):C:=by
 cases d with
 | fields=>cases e;exact k rfl
 | _=>exact aC e
theorem Im {C:Prop} {q:Str} {v:Value} (e:JQ q v=true) (k:∀ t,v=.str q t→C):C:=by
 cases v with
 | str q' t=>cases eq_of_beq (show (q' == q)=true from e);exact k t rfl
 | _=>exact ffE e
noncomputable def LC:FuncBody→Bool
 | .stmts _=>true
 | _=>false
noncomputable def BL (K:Frag) (fd:FuncData):List Value:=match fd.defaults with
 | .ref d=>match K.lookup d with
   | some o=>match o.data with
     | .seq vs _=>vs.toList
     | _=>[]
   | none=>[]
 | _=>[]
noncomputable def dv1 (a:AV) (v:Value):Bool:=match a with
 | .int i=>match v with
   | .int j _=>i == j
   | _=>false
 | .bytes l=>l.isEmpty && match v with
   | .bytes b _=>b.isEmpty
   | _=>false
 | _=>false
noncomputable def Io:List AV→List Value→Bool
 | [],vs=>vs.isEmpty
 | a :: as,vs=>match vs with
   | []=>false
   | v :: vs=>dv1 a v && Io as vs
noncomputable def fnB (K:Frag) (f:Nat):Bool:=match PR.fns f with
 | some fn=>match iH K ((bG K).fa f) with
   | some fd=>fd.globals == mainGlobals && fd.builtins == builtinsNs && fd.closure.isEmpty && qG K fd.code fd.qualname && LC fd.body && fd.scope.kind == .function && !fd.scope.isCoroutine && !fd.scope.isGenerator &&
       fn.slots.all (fun x=>fd.scope.names.lookup x == some .local || fd.scope.names.lookup x == some .cell) && j0 fn.slots && decide (fn.nparams≤fn.slots.length) && j0 ((cellsFrom 0 fd.scope.names []).map (·.1)) && Io fn.defaults (BL K fd) &&
       (!(Ig f == 2) || (fd.code == .ref (lz K) && (fd.qualname++".<locals>."++"<lambda>") == (bG K).lq))
   | none=>false
 | none=>false
noncomputable def Ez (K:Frag) (S:Setting) (vals:List Value) (f:Nat):Option (List (Str×Value)):=match iH K ((bG K).fa f) with
 | some fd=>peek K S (bindArgs fd ⟨vals,[]⟩)
 | none=>none
noncomputable def zx (K:Frag) (vals:List Value) (f:Nat):Option (List (Str×Value)):=match PR.fns f with
 | some fn=>match iH K ((bG K).fa f) with
   | some fd=>some ((fn.slots.take fn.nparams).zip (vals++(BL K fd).drop (vals.length + fn.defaults.length - fn.nparams)))
   | none=>none
 | none=>none
noncomputable def Ip (n:Nat):List Nat:=(List.range 51).filter fun f=>match PR.fns f with
 | some fn=>fn.ar n
 | none=>false
noncomputable def j7 (K:Frag) (vals:List Value):Prop:=∀ S,(Ip vals.length).map (Ez K S vals)=(Ip vals.length).map (zx K vals)
structure Facts (K:Frag):Prop where
 cls:Ot K=true
 fns:Ou K=true
 inits:Et K=true
 meths:Eu K=true
 excs:Qn K=true
 keep:keepIn K (.ref 652)=true
 hd:codeHdIn K (lz K) 666=true
 fnb:(List.range 51).all (fnB K)=true
 chk:∀ f,f < 51→Oq K f=true
 b1:∀ a,j7 K [a]
 b2:∀ a b,j7 K [a,b]
 b3:∀ a b c,j7 K [a,b,c]
 b4:∀ a b c d,j7 K [a,b,c,d]
 b5:∀ a b c d e,j7 K [a,b,c,d,e]
 b8:∀ a b c d e f g h,j7 K [a,b,c,d,e,f,g,h]
 lits:xd=true∧xg=true∧t8=true∧uc=true
theorem zy {K:Frag} {a:Addr} {fd:FuncData} (h:iH K a=some fd):∃ o,K.lookup a=some o∧o.data=.func fd:=by
 unfold iH at h
 cases e:K.lookup a with
 | none=>rw [e] at h;exact aC h
 | some o =>
   rw [e] at h
   obtain ⟨_,_,d,_⟩:=o
   cases d with
   | func fd'=>cases h;exact ⟨_,rfl,rfl⟩
   | _=>exact aC h
theorem p6 {K:Frag} {B:Heap} (X:K.In B) {cd:Value} {q:Str} (h:qG K cd q=true):B.CodeRec cd q:=by
 cases cd with
 | ref c=>exact xj h fun o e h=>xj h fun vs d h=>xj h fun y v h=>yL d fun d=>Im h fun t h=>⟨c,o,vs,t,rfl,X _ _ e,d,v.trans (congrArg some h)⟩
 | _=>exact ffE h
theorem Ow {T:Tabs} {φ:Phi} {ι:Cel} {a:AV} {v:Value} (h:dv1 a v=true):au T φ ι a v:=by
 cases a with
 | int i =>
   cases v with
   | int j t=>cases eq_of_beq (show (i == j)=true from h);exact ⟨t,rfl⟩
   | _=>exact ffE h
 | bytes l =>
   cases l with
   | nil =>
     cases v with
     | bytes b t =>
       obtain ⟨b⟩:=b
       cases b with
       | nil=>exact ⟨t,rfl,fun _ m=>nomatch m⟩
       | cons=>exact ffE h
     | _=>exact ffE h
   | cons=>exact ffE h
 | _=>exact ffE h
theorem LK {T:Tabs} {φ:Phi} {ι:Cel} {as:List AV} {vs:List Value} (h:Io as vs=true):aH T φ ι as vs:=by
 induction as generalizing vs with
 | nil =>
   cases vs with
   | nil=>exact rfl
   | cons=>exact ffE h
 | cons a as ih =>
   cases vs with
   | nil=>exact ffE h
   | cons v vs =>
     obtain ⟨h1,h2⟩:=aG h
     exact ⟨v,vs,rfl,Ow h1,ih h2⟩
theorem Ox:∀ f,f < 51→((PR.fns f).all fun fn=>decide (fn.nparams≤12) && (List.range 13).all fun n=>!fn.ar n || [1,2,3,4,5,8].contains n)=true:=by decide +kernel
section
variable {B:Heap} {K:Frag}
theorem LQ (F:Facts K) {f:Nat} {fn:Fn} {fd:FuncData} (hf:f < 51) (hfn:PR.fns f=some fn) (hfd:iH K ((bG K).fa f)=some fd) (vals:List Value) (har:fn.ar vals.length=true) (S:Setting) :
   peek K S (bindArgs fd ⟨vals,[]⟩)=some ((fn.slots.take fn.nparams).zip (vals++(BL K fd).drop (vals.length + fn.defaults.length - fn.nparams))):=by
 have key:j7 K vals:=by
   have h:=Ox f hf
   rw [hfn] at h
   refine o01 (aG h) fun h1 h2=>?_
   have hle:=(JB har).1
   have h1:=of_decide_eq_true h1
   have h3:=range_all h2 (show vals.length < 13 by exact szt (Nat.le_trans hle h1) rfl)
   rw [har] at h3
   rcases vals with _ | ⟨a,_ | ⟨b,_ | ⟨c,_ | ⟨d,_ | ⟨e,_ | ⟨x,_ | ⟨y,_ | ⟨z,_ | _⟩⟩⟩⟩⟩⟩⟩⟩
   · exact ffE h3
   · exact F.b1 a
   · exact F.b2 a b
   · exact F.b3 a b c
   · exact F.b4 a b c d
   · exact F.b5 a b c d e
   · exact ffE h3
   · exact ffE h3
   · exact F.b8 a b c d e x y z
   · exact ffE h3
 have hm:f∈Ip vals.length:=List.mem_filter.mpr ⟨List.mem_range.mpr hf,by refine re hfn ?_;exact har⟩
 have:=List.map_inj_left.mp (key S) f hm
 unfold Ez zx at this
 rw [hfd,hfn] at this
 exact this
theorem LR (X:K.In B) (F:Facts K) (f:Nat) (fn:Fn) (h:PR.fns f=some fn):FnOk (BK K) B K f fn:=by
 have hf:=Ey (by refine re h ?_;rfl)
 have hb:=range_all F.fnb hf
 have hc:=F.chk f hf
 unfold fnB at hb
 unfold Oq at hc
 rw [h] at hb hc
 cases e:iH K ((bG K).fa f) with
 | none=>rw [e] at hb;exact ffE hb
 | some fd =>
   rw [e] at hb hc
   dsimp only at hb hc
   refine o11 (zy e) fun o hl hd=>?_
   refine o01 (aG hb) fun hb g14=>?_
   refine o01 (aG hb) fun hb g13=>?_
   refine o01 (aG hb) fun hb g12=>?_
   refine o01 (aG hb) fun hb g11=>?_
   refine o01 (aG hb) fun hb g10=>?_
   refine o01 (aG hb) fun hb g9=>?_
   refine o01 (aG hb) fun hb g8=>?_
   refine o01 (aG hb) fun hb g7=>?_
   refine o01 (aG hb) fun hb g6=>?_
   refine o01 (aG hb) fun hb g5=>?_
   refine o01 (aG hb) fun hb g4=>?_
   refine o01 (aG hb) fun hb g3=>?_
   refine o01 (aG hb) fun g1 g2=>?_
   have hbody:fd.body=.stmts (sr fd):=by
     unfold sr
     cases q:fd.body with
     | stmts b=>rfl
     | _=>rw [q] at g5;cases g5
   refine ⟨sr fd,fd.scope,BL K fd,fd.code,fd.qualname,Ig f,{
     rc:=⟨o,fd,⟨X _ _ hl,hd,hbody,eq_of_beq g1,eq_of_beq g2,isEmpty_nil g3,p6 X g4⟩,rfl,rfl,rfl,fun vals har S=>LQ F hf h e vals har S⟩
     kind:=eq_of_beq g6
     co:=Bool.not_eq_true' _▸g7
     gen:=Bool.not_eq_true' _▸g8
     slots:=fun x hx=>by
       rcases Bool.or_eq_true_iff.mp (List.all_eq_true.mp g9 x hx) with q | q
       · exact .inl (eq_of_beq q)
       · exact .inr (eq_of_beq q)
     nd:=jf g10
     np:=of_decide_eq_true g11
     cnd:=jf g12
     dl:=fun T φ ι=>LK g13 },hc,fun hmd=>?_⟩
   rw [hmd] at g14
   refine o01 (aG g14) fun k1 k2=>?_
   exact ⟨eq_of_beq k1,eq_of_beq k2⟩
end
end
section
noncomputable def Ir:List (Nat×Str×Str×P4):=[
 (0, "NotFolder", "no folder",⟨419,11,419,20⟩,⟨420,15,420,26⟩,⟨420,8,420,26⟩,⟨419,4,420,26⟩),
 (1, "Missing", "missing",⟨421,11,421,18⟩,⟨422,15,422,24⟩,⟨422,8,422,24⟩,⟨421,4,422,24⟩),
 (2, "Loops", "loops",⟨423,11,423,16⟩,⟨424,15,424,22⟩,⟨424,8,424,22⟩,⟨423,4,424,22⟩),
 (3, "InvalidPath", "path",⟨425,11,425,22⟩,⟨426,15,426,21⟩,⟨426,8,426,21⟩,⟨425,4,426,21⟩)]
noncomputable def Ma:List Stmt:=[.Try [.Return (some (.Call (.Name "call" tp1) [] [] tp2)) tp3] (Ir.map handlerOf) [] [] tp4]
noncomputable def Mf:List Stmt:=wM
noncomputable def BP (K:Frag) (a:Addr) (locs glbs:List String):Bool:=match iH K a with
 | some fd=>fd.globals == mainGlobals && fd.builtins == builtinsNs && fd.closure.isEmpty && qG K fd.code fd.qualname && fd.scope.kind == .function && !fd.scope.isCoroutine && !fd.scope.isGenerator &&
     locs.all (fun x=>fd.scope.names.lookup (Str.ofString x) == some .local) && glbs.all (fun x=>fd.scope.names.lookup (Str.ofString x) == some .globalImplicit) && fd.scope.names.all (fun x=>!(x.2 == .cell))
 | none=>false
noncomputable def sy (K:Frag) (a:Addr):Option FuncBody:=(iH K a).map (·.body)
noncomputable def sE (K:Frag) (a:Addr) (vals:List Value):Option (Sem (List (Str×Value))):=(iH K a).map fun fd=>bindArgs fd ⟨vals,[]⟩
structure Facts2 (K:Frag):Prop extends Facts K where
 tb:sy K 652=some (.stmts Ma)
 xb:sy K 35=some (.stmts Mf)
 tf:BP K 652 ["call"] ["NotFolder", "Missing", "Loops", "InvalidPath"]=true
 xf:BP K 35 ["self", "why"] ["Exception"]=true
 ta:∀ a,sE K 652 [a]=some (pure [(("call":Str),a)])
 xa:∀ a v,sE K 35 [a,v]=some (pure [(("self":Str),a),(("why":Str),v)])
 nt:noTabs K=true
 gl:(cz K "law" == some (.ref 674) && (cz K "Exception").isNone && cz K "NotFolder" == some (.ref 99) && cz K "Missing" == some (.ref 63) && cz K "Loops" == some (.ref 111) && cz K "InvalidPath" == some (.ref 87))=true
section
variable {B:Heap} {K:Frag} {mg mb:Str→Option Value}
theorem ud (X:K.In B) (hg:B.Ns mainGlobals mg) (h:(cz K "law").isSome=true) (x:Str):cz K x=mg x:=by
 refine o33 hg fun o es ep e1 e2 e3 e4=>?_
 unfold cz at h ⊢
 cases q:K.lookup mainGlobals with
 | none=>rw [q] at h;cases h
 | some o' =>
   have:=X _ _ q
   rw [e1] at this
   cases this
   dsimp only
   refine re e2 ?_
   exact e4 x
theorem EY (F:Facts2 K):cz K "law"=some (.ref 674):=eq_of_beq (aG (aG (aG (aG (aG F.gl).1).1).1).1).1
theorem xm (F:Facts2 K):(cz K "law").isSome=true:=by refine re (EY F) ?_;rfl
theorem Iu (X:K.In B) (F:Facts2 K) (hg:B.Ns mainGlobals mg) (hb:B.Ns builtinsNs mb) (hbt:∀ x:Str,x≠"__name__"→mb x=bootBuiltins x):KnowN (bG K) B (w7 K):=by
 have hl:(cz K "law").isSome=true:=xm F
 have hblt:∀ x v,(w7 K).blt x=some v→((w6.any fun s=>x == Str.ofString s) && (cz K x).isNone)=true∧bootBuiltins x=some v:=fun x v h=>by
   replace h:(if (w6.any fun s=>x == Str.ofString s) && (cz K x).isNone then bootBuiltins x else none)=some v:=h
   cases q:(w6.any fun s=>x == Str.ofString s) && (cz K x).isNone with
   | false=>rw [q] at h;cases h
   | true=>rw [q] at h;exact ⟨rfl,h⟩
 refine ⟨⟨mg,hg,fun x v h=>?_,fun x v h=>?_⟩,mb,hb,fun x v h=>?_⟩
 · rw [← ud X hg hl];exact h
 · rw [← ud X hg hl]
   exact Option.isNone_iff_eq_none.mp (aG (hblt x v h).1).2
 · refine o01 (hblt x v h) fun h1 h2=>?_
   rw [hbt x fun q=>?_]
   · exact h2
   · subst q
     exact absurd (aG h1).1 (by decide +kernel)
theorem zz (X:K.In B) {a:Addr} {locs glbs:List String} {fb:FuncBody} (h:BP K a locs glbs=true) (hb:sy K a=some fb):∃ o fd,iH K a=some fd∧FrameOf B a o fd fb∧NamesOf fd locs glbs:=by
 unfold BP at h
 cases e:iH K a with
 | none=>rw [e] at h;exact ffE h
 | some fd =>
   rw [e] at h
   dsimp only at h
   refine o11 (zy e) fun o hl hd=>?_
   refine o01 (aG h) fun h g10=>?_
   refine o01 (aG h) fun h g9=>?_
   refine jK h fun g1 g2 g3 g4 g5 g6 g7 g8=>?_
   have hfb:fd.body=fb:=by
     unfold sy at hb
     rw [e] at hb
     exact Option.some.inj hb
   exact ⟨o,fd,rfl,⟨X _ _ hl,hd,hfb,eq_of_beq g1,eq_of_beq g2,isEmpty_nil g3,p6 X g4⟩,eq_of_beq g5,Bool.not_eq_true' _▸g6,Bool.not_eq_true' _▸g7,fun x hx=>eq_of_beq (List.all_eq_true.mp g8 x hx),fun x hx=>eq_of_beq (List.all_eq_true.mp g9 x hx),fun x hx q=>by
     have:=List.all_eq_true.mp g10 x hx
     rw [q] at this
     cases this⟩
theorem QQ {α:Type} {P:α→Prop} {a b c d:α} (h1:P a) (h2:P b) (h3:P c) (h4:P d):∀ x∈[a,b,c,d],P x:=fun x hx=>by
 rcases List.mem_cons.mp hx with rfl | hx
 · exact h1
 · rcases List.mem_cons.mp hx with rfl | hx
   · exact h2
   · rcases List.mem_cons.mp hx with rfl | hx
     · exact h3
     · refine re (List.mem_singleton.mp hx) ?_;exact h4
theorem Oz:∀ c,c < 4→∃ x∈Ir,x.1=c:=by decide
theorem Iv (X:K.In B) (F:Facts2 K):KnowX (bG K) B K (w7 K) 35 where
 cls:=fun c hc=>(aG (range_all F.excs hc)).1
 fn:=by
   refine o22 (zz X F.xf F.xb) fun o fd e F' N'=>?_
   refine ⟨o,fd,F',N',fun a v=>?_⟩
   have:=F.xa a v
   unfold sE at this
   rw [e] at this
   exact Option.some.inj this
 exc:=by
   show (if (w6.any fun s=>("Exception":Str) == Str.ofString s) && (cz K "Exception").isNone then bootBuiltins "Exception" else none)=_
   refine re ((aG (aG (aG (aG (aG F.gl).1).1).1).1).2) ?_
   decide +kernel
theorem Iw (X:K.In B) (F:Facts2 K):KnowT (bG K) B K (w7 K) 652 where
 fn:=by
   refine o22 (zz X F.tf F.tb) fun o fd e F' N'=>?_
   refine il (a:=_ && _) F.gl fun _ i1 i2 i3 i4=>?_
   refine ⟨o,fd,Ir,F',⟨N'.kind,N'.co,N'.gen,N'.loc,(fun _ h=>nomatch h),N'.nc⟩,fun a=>?_,?_,?_⟩
   · have:=F.ta a
     unfold sE at this
     rw [e] at this
     exact Option.some.inj this
   · have g:=N'.glb
     exact QQ ⟨by decide,g "NotFolder" (.head _),eq_of_beq i1,by decide +kernel,by decide +kernel⟩ ⟨by decide,g "Missing" (.tail _ (.head _)),eq_of_beq i2,by decide +kernel,by decide +kernel⟩
       ⟨by decide,g "Loops" (.tail _ (.tail _ (.head _))),eq_of_beq i3,by decide +kernel,by decide +kernel⟩ ⟨by decide,g "InvalidPath" (.tail _ (.tail _ (.tail _ (.head _)))),eq_of_beq i4,by decide +kernel,by decide +kernel⟩
   · exact fun c hc=>Oz c hc
 keep:=F.keep
 mat:=fun c c' hc hc'=>eq_of_beq (range_all (aG (range_all F.excs hc)).2 hc')
end
end
section
open Sem (wp)
theorem xn {prog:Program} {w:World} {t:Sem Fin} {s:Shared} {R:Result→Shared→Prop} {G:Prop} (hreg:s.asleep)
   (h:wpD (model prog w) callerA t (fun fin s'=>∃ f,fin=.done f∧R (.ok f) s'∧AllBare s'.gens) (fun e s'=>R (.error e) s'∧AllBare s'.gens) s)
   (K:∀ n r s' s'',runN (denote table) prog w n s ⟨t,.builtin "claim.caller" {},default,[]⟩=.halted (outcomeOf r) s' →
     schedN (denote table) prog w n (.single s ⟨t,.builtin "claim.caller" {},default,[]⟩)=.halted (outcomeOf r) s'→s'.forget=s''.forget→R r s''→G):G:=by
 refine (wp_halts_full (M:=model prog w) (R:=R) hreg (p:=default) (c:=.builtin "claim.caller" {}) (t:=t)
   (Sem.wp_mono _ _ _ (fun fin p' s' x=>x.elim fun f x=>by cases x.1;exact ⟨x.2.1,leftWithCleanup_false_of_bare x.2.2⟩) (fun e p' s' x=>⟨x.1,leftWithCleanup_false_of_bare x.2⟩) _ _
     (h ⟨.builtin "claim.caller" {},none,none,[],none⟩ default caller_in ⟨by decide +kernel,fun x hx=>nomatch hx⟩))).elim fun n x=>x.elim fun r x=>x.elim fun s₁ x=>x.elim fun s₂ x=>K n r s₂ s₁ x.2.1 x.1 x.2.2.1 x.2.2.2
theorem Qo {α:Type} {A A' B C D E E' F:α→Prop} (k1:∀ v,A v→A' v) (k2:∀ v,E v→E' v) (h:∃ v,A v∧B v∧C v∧D v∧E v∧F v):∃ v,A' v∧B v∧C v∧D v∧E' v∧F v :=
 h.elim fun v h=>⟨v,k1 v h.1,h.2.1,h.2.2.1,h.2.2.2.1,k2 v h.2.2.2.2.1,h.2.2.2.2.2⟩
theorem Qp {α β γ:Type} {A A' B C D E F F':α→β→γ→Prop} (k1:∀ x y z,A x y z→A' x y z) (k2:∀ x y z,F x y z→F' x y z) (h:∃ x y z,A x y z∧B x y z∧C x y z∧D x y z∧E x y z∧F x y z) :
   ∃ x y z,A' x y z∧B x y z∧C x y z∧D x y z∧E x y z∧F' x y z :=
 h.elim fun x h=>h.elim fun y h=>h.elim fun z h=>⟨x,y,z,k1 _ _ _ h.1,h.2.1,h.2.2.1,h.2.2.2.1,h.2.2.2.2.1,k2 _ _ _ h.2.2.2.2.2⟩
theorem Fb {c:ClaimW} {tree:List Value→Sem Fin} {w:World} {s:Shared} {free:Addr→Prop} {gens:Prop} {kept:Heap→Prop} (hz:s.asleep) (hgens:s.gens=#[])
   (hspec:∀ args,c.pre args=true→WData.layableAll args=true→∀ ord:List DictEntry→List DictEntry,(∀ l,(ord l).Perm l) →
     ∃ vs s₁,layAllW c.records (classAt s.heap) w.params ord args s=some (vs,s₁) ∧
       wpD (model c.prog w) callerA (tree vs) (fun fin s'=>∃ f,fin=.done f∧(c.Ends s args vs s₁ (.ok f) s'∧s'.os=s.os∧kept s'.heap)∧AllBare s'.gens)
         (fun e s'=>(c.Ends s args vs s₁ (.error e) s'∧s'.os=s.os∧kept s'.heap)∧AllBare s'.gens) s₁) :
   c.CallFrom (fun vs=>⟨tree vs,.builtin "claim.caller" {},default,[]⟩) w free gens kept s:=by
 intro args hpre hlay ord hord
 refine (hspec args hpre hlay ord hord).elim fun vs h=>h.elim fun s₁ h=>?_
 have hal:=layAllW_rest _ _ _ h.1
 refine xn (prog:=c.prog) (R:=fun r s'=>c.Ends s args vs s₁ r s'∧s'.os=s.os∧kept s'.heap) (Shared.asleep_of_life hal.2.2.2 hz) h.2 fun k r s' s'' hrun hsched hfo hR=>?_
 have fe:=Shared.forget_eq hfo
 have hE:=hR.1.congr fe.1
 refine ⟨vs,s₁,h.1,k,_,s',hsched,Or.imp (Qo ?_ ?_) (Qp ?_ ?_) hE,(fun _ i x hx=>by rw [hgens] at hx;simp at hx),fe.1▸hR.2.2,congrArg Life.seen ((runN_life _ _ _ hrun).trans hal.2.2.2),Shared.rest_eq (fe.2.2.2.1.trans hR.2.1)⟩
 · exact fun v e=>e▸rfl
 · exact fun v d b o y _=>d b o y
 · exact fun _ _ _ e=>e▸rfl
 · exact fun _ _ _ d b o y _=>d b o y
noncomputable abbrev JR (q:Program) (loose:List Str) (XP:(Str→Option Value)→Heap→Prop) (YP:World→Heap→Prop) (r:RowW) (d:DefRec) (kwd:List (Str×Expr)):Prop :=
 ∀ (w:World) (s₀ s₁:Shared) (mg mb:Str→Option Value),Ground q loose r.records XP w s₀ mg mb s₁.heap→YP w s₁.heap→∀ (a:Addr) (o:Obj) (pm cd doc dV kV:Value),s₁.heap.get? a=some o →
   o.data=.func { docDef d.name d.params d.body d.scope pm cd doc with defaults:=dV,kwdefaults:=kV }→s₁.heap.CodeRec cd d.name→Dflts mg s₁.heap d.params kwd dV kV→mg d.name=some (.ref a)→s₁.gens=#[] →
   ∀ (args:List WData) (vals:List Value) (as:List Addr),r.claim.pre args=true→WData.layableAll args=true→ReadsAllW r.records (classAt s₀.heap) s₁.heap vals args as→WellAll w.params s₁.heap vals args→(∀ a∈as,(a == sysModules)=false) →
     wpD (model r.prog w) callerA (PySem.call (.ref a) vals) (fun v s'=>GoodWG r.claim (classAt s₀.heap) (ExcName.means s₀.heap) args s₁ (.ok (.ret v)) s')
       (fun e s'=>GoodWG r.claim (classAt s₀.heap) (ExcName.means s₀.heap) args s₁ (.error e) s') s₁
theorem PySem.W.holds_open {r:OpenRow} {q:Program} {loose:List Str} {Xt:Shared→Bool} {XP:(Str→Option Value)→Heap→Prop} {α:Type} {Yf:Shared→α} {Ya:World→α} {YP:World→Heap→Prop} {d:DefRec} {kwd:List (Str×Expr)} {N:Nat}
   (left:LeftO r.prog q loose Xt Yf Ya N) (hY:∀ w s,Yf s=Ya w→YP w s.heap) (hYk:∀ w h h',YP w h→(∀ b o,h.get? b=some o→h'.get? b=some o)→YP w h')
   (hX:∀ s,Xt s=true→XP (s.heap.nsMap mainGlobals) s.heap) (hXk:∀ mg h h',XP mg h→(∀ b o,h.get? b=some o→h'.get? b=some o)→XP mg h')
   (hdef:defOf q r.name=some (d,kwd)) (hp:r.prog.theDef r.name=some (d.params,d.body,d.scope)) (hk:kwWritten? d.params.kwonlyargs d.params.kw_defaults=some kwd) (hRf:∀ s,Xt s=true→RecFacts r.records s.heap) (hwr:(!r.writes || r.records.isEmpty)=true)
   (k1:r.wellSaid=true) (ok:(chainsOk q && opensWell r.prog && (frees r.toRowW && r.within.isEmpty))=true) (hb:r.prog.bare) (hw:r.toRowW.promised)
   (call:JR q loose XP YP r.toRowW d kwd):r.Holds:=by
 refine o01 (Bool.and_eq_true_iff.mp ok) fun hch0 k5=>?_
 refine o01 (Bool.and_eq_true_iff.mp hch0) fun hch o1=>?_
 refine o01 (Bool.and_eq_true_iff.mp k5) fun k5 k6=>?_
 refine o04 (frees_parts k5) fun hsame hu ha hap hm=>?_
 refine ⟨k1,hw,⟨⟨hb,o1,by show r.makers.map _=[];refine re (show r.makers=[] from hm) ?_;rfl⟩,hw.witness,fun w=>⟨(left.behind hX hch w).1,fun s' hs'=>?_⟩⟩⟩
 refine ((left.behind (XP:=fun mg h=>XP mg h∧RecFacts r.records h) (fun s hs=>⟨hX s hs,hRf s hs⟩) hch w).2 s' hs').elim fun s₀ x=>x.2.2.elim fun s z=>?_
 have hT:=z.1
 have hg:=z.2.2.2.1
 have G00:=z.2.2.2.2.1
 have G0:Ground q loose [] XP w s (s.heap.nsMap mainGlobals) (s.heap.nsMap builtinsNs) s.heap:=⟨G00.T,G00.B,G00.D,G00.TE,G00.TD,G00.W,G00.X.1,G00.cls,G00.has,G00.apart,G00.once,G00.K⟩
 have RF:=G00.X.2
 refine ⟨s₀,x.1,x.2.1,s,hT,fun n hn=>?_,RF.1,RF.2.1,?_⟩
 · obtain rfl:n=r.name:=by split at hn<;>simp_all
   exact pinned_of_view hg G0 hdef hp hk
 have hgens:s.gens=#[]:=Array.eq_empty_of_size_eq_zero (beq_iff_eq.mp z.2.2.1)
 have G:Ground q loose r.records XP w s _ _ s.heap:=RF.ground G0
 refine Fb (c:=r.toRowW.claim) z.2.1 hgens fun args hpre hlay ord hord=>?_
 obtain ⟨⟨vs,s₁⟩,hlaid⟩:=Option.isSome_iff_exists.mp (layAllW_isSome (P:=w.params) (ord:=ord) G.has args r.args s (pre_splitW hpre).1)
 have keeps:=layAllW_keeps _ _ _ hlaid
 have hal:=layAllW_rest _ _ _ hlaid
 refine o12 (reads_layAllW hord _ _ _ hlaid hlay s₁.heap (fun _ _ e=>e)) fun as hrd hin hold=>?_
 have L:Laid r.records w s s₁ args vs as:=⟨⟨ord,hord,hlaid⟩,hrd,hin,hold,keeps,hal.1.trans hgens,hal.2.2.1⟩
 have G₁:=G.keeps hXk keeps
 have hi:=ident_freeW hu ha hap
 have hwi:r.toRowW.claim.within=[]:=List.isEmpty_iff.mp k6
 refine ⟨vs,s₁,hlaid,?_⟩
 obtain ⟨a,o,pm,cd,doc,dV,kV,h1,h2,h3,h4,h5⟩:=G₁.fn hdef
 have h:=call w s s₁ _ _ G₁ (hYk _ _ _ (hY w s z.2.2.2.2.2) keeps) a o pm cd doc dV kV h2 h3 h4 h5 (defOf_name hdef▸h1) L.gens args vs as hpre hlay L.reads L.well (L.low G.low)
 refine az (wpAny_nsGet G₁.T.g ?_)
 refine re (show s.heap.nsMap mainGlobals r.name=some (.ref a) from h1) ?_
 refine aa (aV h (fun v s' g=>aj ⟨_,rfl,?_⟩) fun e s' g=>?_)
 all_goals
   have u:=g.laid (c:=r.toRowW.claim) hsame hwi hi L
   exact ⟨⟨u.1,u.2.1,fun q=>⟨namesKept_of hT hg _ keeps fun b o e=>g.2.1.old b o e,noTable hwr q⟩⟩,u.2.2⟩
end
theorem items_int {R:WRecords}:∀ {xs:List WData},WShape.hasItems R xs .int=true→∃ l:List Int,xs=l.map .int
 | [],_=>⟨[],rfl⟩
 | x :: xs,h=>by
   unfold WShape.hasItems at h
   refine o01 (aG h) fun h1 h2=>?_
   obtain ⟨l,rfl⟩:=items_int h2
   cases x with
   | int i=>exact ⟨i :: l,rfl⟩
   | _=>exact ffE h1
set_option backward.match.sparseCases true in
theorem OD {args:List WData} (h:PySem.Challenge.rw_pb0587_01.row.toRowW.claim.pre args=true):∃ l:List Int,args=[.list (l.map .int)]∧l.length≤63:=by
 refine o01 (aG h) fun h1 h2=>?_
 replace h1:WShape.hasAll [] args [.list .int]=true:=h1
 cases args with
 | nil=>exact ffE h1
 | cons x r =>
 refine o01 (aG (show (WShape.has [] x (.list .int) && WShape.hasAll [] r [])=true from h1)) fun h4 h3=>?_
 cases r with
 | cons _ _=>exact ffE h3
 | nil =>
   cases x with
   | list xs =>
     have:WShape.hasItems [] xs .int=true:=(Bool.or_false _).symm.trans h4
     obtain ⟨l,rfl⟩:=items_int this
     refine ⟨l,rfl,?_⟩
     replace h2:WTm.holds [] (.and (.not (.lt (.lit (.int 63)) (.len (.arg 0)))) (.lit (.bool true))) { args:=[.list (l.map .int)] }=true:=h2
     have key:WTm.holds [] (.and (.not (.lt (.lit (.int 63)) (.len (.arg 0)))) (.lit (.bool true))) { args:=[.list (l.map .int)] }=!decide ((63:Int) < ((l.map WData.int).length:Int)):=by
       show (match (match some (WData.bool (!decide ((63:Int) < ((l.map WData.int).length:Int)))) with | some (.bool false)=>some (WData.bool false) | some (.bool true)=>(match some (WData.bool true) with | some (.bool x)=>some (.bool x) | _=>none) | _=>none) with | some (.bool true)=>true | _=>false)=_
       cases decide ((63:Int) < ((l.map WData.int).length:Int))<;>rfl
     rw [key,Bool.not_eq_true',decide_eq_false_iff_not,List.length_map] at h2
     lia
   | _=>exact ffE h4
theorem BR {cl:Str→Option Addr} {h:Heap} {T:Tabs} {φ:Phi} {ι:Cel} {l:List Int}:∀ {vs:List Value} {as:List Addr},ReadsAllW [] cl h vs (l.map .int) as→aH T φ ι (l.map .int) vs:=by
 induction l with
 | nil=>exact fun r=>(readsAllW_nil_inv r).1
 | cons i l ih =>
   intro vs as r
   refine o43 (readsAllW_cons_inv r) fun v vs' a b e _ r1 r2=>?_
   exact ⟨v,vs',e,(readsW_int_inv r1).imp fun _ h=>h.1,ih r2⟩
theorem Fd {K:Frag} {h:Heap} (hT:TabsAt [(lz K,666)] h):Rel (bG K) (ghostOf h [(lz K,666)]) [] [666] [(666,666)] [.tab] h where
 base:=fun a o e=>of_hideAll _ e
 bS:=fun a m=>hideAll_none _ m
 live:=fun a m=>by refine re (List.mem_singleton.mp m) ?_;exact ⟨_,(hT _ (List.mem_singleton.mpr rfl)).2⟩
 sub:=fun a m=>m
 nodup:=by simp [cells]
 len:=rfl
 obj:=fun i p m hi hm=>by
   match i,hi,hm with
   | 0,hi,hm =>
     cases hi
     cases hm
     exact ⟨rfl,rfl,#[],(hT _ (List.mem_singleton.mpr rfl)).2,trivial,fun pos cv e=>by cases e⟩
   | i + 1,hi,_=>simp at hi
 stk:=fun env m=>nomatch m
set_option tactic.hygienic true in
theorem Fe {q:Program} {loose:List Str} {XP:(Str→Option Value)→Heap→Prop} {K:Params→Frag} {as:List Addr} {e:∀ P,as=(K P).map (·.1)} {d:DefRec} {kwd:List (Str×Expr)} (hd:d.name="law") (F:∀ P,Facts2 (K P))
   (law:∀ l:List Int,l.length≤63→∃ σ',run PR 40 50 [.list (l.map .int)] [.tab]=.ok (.bool true) σ'∧σ'[0]?=some .tab) :
   JR q loose XP (kmHook K as e [666]).says PySem.Challenge.rw_pb0587_01.row.toRowW d kwd:=by
 intro w s₀ s₁ mg mb G Y a o pm cd doc dV kV ho hdd hcd hD hmg hg args vals as' hpre hlay hrd hwl hlo
 have X₁:=km_in_of Y
 have F:=F w.params
 generalize K w.params=K at X₁ F
 have hT:TabsAt [(lz K,666)] s₁.heap:=List.forall_mem_cons.mpr ⟨⟨codeHd_of_K X₁ F.hd,km_tabs_of Y 666 (List.mem_singleton.mpr rfl)⟩,fun _ h=>nomatch h⟩
 have T:=ghost_top hT G.T
 have X:=ghost_K hT X₁ F.nt
 generalize hB:ghostOf s₁.heap [(lz K,666)]=B at T X
 have hlaw:mg d.name=some (.ref 674):=by refine re hd ?_;rewrite [← ud X T.g (xm F)];exact EY F
 rw [hlaw] at hmg
 cases hmg
 have kn:=Iu X F T.g T.b T.builtins
 have ks:=Ij X T.nolimit F.cls F.lits.1 F.lits.2.1
 have kl:KnowL (bG K) B:=⟨by refine rf hB ?_;exact (ghost_code hT).1,mg,T.g,by
   refine o25 T.bmain fun bm ob a1 a2 a3 a4 a5 a6=>?_
   refine ⟨bm,ob,a1,a2,fun z=>?_,fun z=>?_,a3,a4,a5,a6⟩
   · refine o32 T.g fun og es ep g1 g2 _=>?_
     rw [z,g1] at a3
     cases a3
     rw [g2] at a6
     cases a6
   · rw [z,← hB] at a3
     have a7:(ghostOf s₁.heap [(lz K,666)]).get? (bG K).tabP=none:=hideAll_none _ (List.mem_singleton.mpr rfl)
     rw [a7] at a3
     cases a3⟩
 have k1:Know1 (BK K) B K 35:=⟨Il ks F.fns F.inits F.meths F.lits.2.2.1 F.lits.2.2.2,kn,Iv X F,Iw X F,kl⟩
 have C:=@BJ (BK K) B K 35 PySem.Challenge.rw_pb0587_01.row.toRowW.prog w k1 (LR X F.toFacts) 40
 obtain ⟨l,rfl,hl⟩:=OD hpre
 refine o11 (law l hl) fun σ' hrun htab=>?_
 obtain ⟨v0,vs0,as1,as2,rfl,_,r1,r2⟩:=readsAllW_cons_inv hrd
 obtain ⟨rfl,_⟩:=readsAllW_nil_inv r2
 obtain ⟨a0,o0,vs,n,as0,rfl,h1,h2,h3,h4,_⟩:=readsW_list_open r1
 have R:=Fd hT
 rw [hB] at R
 have ra:aH (bG K) (off [666] s₁.heap) [(666,666)] [.list (l.map .int)] [.ref a0]:=by
   refine ⟨_,[],rfl,⟨a0,vs.toList,rfl,⟨o0,aA.mpr ⟨fun m=>?_,h1⟩,h2,n,by simpa using h3⟩,BR h4⟩,rfl⟩
   rw [List.mem_singleton.mp m,(hT _ (List.mem_singleton.mpr rfl)).2] at h1
   cases h1
   cases h2
 refine cH (C (A:=callerA) (l:=[]) (f:=50) (by decide +kernel) (by decide +kernel) rfl rfl rfl R ra ?_)
 show bF _ _ _ _ _ _ _ _ _ (run PR 40 50 [.list (l.map .int)] [.tab])
 refine re hrun ?_
 intro h' tk' S' ι' v Gg R' rv
 obtain rfl:v=.bool true:=rv
 have hi0:ι'[0]?=some (666,666):=Gg.pre 0 (666,666) rfl
 obtain ⟨_,_,ps,hps,_⟩:=R'.obj 0 _ _ hi0 htab
 refine ⟨.inl ⟨_,_,[],rfl,fun _=>rfl,ReadsW.bool true,by kernel_rfl!,fun _=>⟨List.nodup_nil,fun _ hm=>nomatch hm⟩⟩,⟨fun b o hb=>?_,fun b o hb=>?_⟩,rfl,.of_eq hg⟩
 · by_cases q:b=666
   · subst q
     have hq:=(hT _ (List.mem_singleton.mpr rfl)).2
     rw [hb] at hq
     cases hq
     refine .inr (.inl ⟨?_,rfl,#[],ps,rfl,by refine re hps ?_;simp⟩)
     exact ((hT _ (List.mem_singleton.mpr rfl)).1.tab hb).isCodeTable
   · exact .inl (Gg.step b o hb (by simpa [cells] using q) (fun m=>nomatch m) fun m=>nomatch m)
 · exact Gg.alive b o hb
end Mine
section
open PySem
namespace Mine.Law
noncomputable def bh:Fl→Sig→R AV:=fun fl σ=>match fl with
 | .ret v=>.ok v σ
 | .nxt _=>.ok .none σ
 | .cont _=>.stuck
theorem bOk {α β:Type} {a:α} {σ:Sig} {f:α→Sig→R β}:(R.ok a σ).bind f=f a σ:=rfl
theorem rOf {α:Type} {a:α} {σ:Sig}:R.of (some a) σ=.ok a σ:=rfl
theorem Mg {P:Prog} {cf:Calls} {c:C} {cs:List C} {ρ ρ':Env} {σ σ':Sig} (h:ex P cf c ρ σ=.ok (.nxt ρ') σ'):exs P cf (c :: cs) ρ σ=exs P cf cs ρ' σ':=by
 show (ex P cf c ρ σ).bind _=_
 refine re h ?_;rfl
theorem Mh {P:Prog} {cf:Calls} {c:C} {cs:List C} {ρ:Env} {v:AV} {σ σ':Sig} (h:ex P cf c ρ σ=.ok (.ret v) σ'):exs P cf (c :: cs) ρ σ=.ok (.ret v) σ':=by
 show (ex P cf c ρ σ).bind _=_
 refine re h ?_;rfl
section
variable {P:Prog} {cf:Calls} {ρ ρ':Env} {σ σ' σ₁ σ₂:Sig}
theorem aO {X:R Fl} {v:AV} (h:X=.ok (.ret v) σ'):X.bind bh=.ok v σ':=by refine re h ?_;rfl
theorem iI {X:R Fl} (h:X=.ok (.nxt ρ') σ'):X.bind bh=.ok .none σ':=by refine re h ?_;rfl
theorem lY {X:R Fl} {c:Nat} (h:X=.err c σ'):X.bind bh=.err c σ':=by refine re h ?_;rfl
theorem ak {c:C} {cs:List C} {r:R Fl} (h:ex P cf c ρ σ=.ok (.nxt ρ') σ') (h2:exs P cf cs ρ' σ'=r):exs P cf (c :: cs) ρ σ=r:=(Mg h).trans h2
theorem aX {c:C} {cs:List C} {v:AV} (h:ex P cf c ρ σ=.ok (.ret v) σ'):exs P cf (c :: cs) ρ σ=.ok (.ret v) σ':=Mh h
theorem iJ {c:C} {cs:List C} {k:Nat} (h:ex P cf c ρ σ=.err k σ'):exs P cf (c :: cs) ρ σ=.err k σ':=by
 show (ex P cf c ρ σ).bind _=_
 refine re h ?_;rfl
theorem OJ {c:C} {cs:List C} (h:ex P cf c ρ σ=.ok (.cont ρ') σ'):exs P cf (c :: cs) ρ σ=.ok (.cont ρ') σ':=by
 show (ex P cf c ρ σ).bind _=_
 refine re h ?_;rfl
theorem bc {x:Nat} {e:Mine.E} {v:AV} (h:ev P cf ρ e σ=.ok v σ') (hx:Nat.ble (x + 1) ρ.length=true:=by rfl):ex P cf (.asg x e) ρ σ=.ok (.nxt (ρ.set x (some v))) σ':=by
 show (ev P cf ρ e σ).bind _=_
 refine re h ?_
 exact if_pos (Nat.le_of_ble_eq_true hx)
theorem d7 {xs:List Nat} {e:Mine.E} {vs:List AV} (h:ev P cf ρ e σ=.ok (.tuple vs) σ') (hs:stores ρ xs vs=some ρ'):ex P cf (.asgt xs e) ρ σ=.ok (.nxt ρ') σ':=by
 show (ev P cf ρ e σ).bind _=_
 refine re h (re bOk ?_)
 dsimp only
 exact re hs rfl
theorem dR {e:Mine.E} {v:AV} (h:ev P cf ρ e σ=.ok v σ'):ex P cf (.ex e) ρ σ=.ok (.nxt ρ) σ':=by
 show (ev P cf ρ e σ).bind _=_
 refine re h ?_;rfl
theorem xq {e:Mine.E} {k:Nat} (h:ev P cf ρ e σ=.err k σ'):ex P cf (.ex e) ρ σ=.err k σ':=by
 show (ev P cf ρ e σ).bind _=_
 refine re h ?_;rfl
theorem Ff {x:Nat} {e:Mine.E} {k:Nat} (h:ev P cf ρ e σ=.err k σ'):ex P cf (.asg x e) ρ σ=.err k σ':=by
 show (ev P cf ρ e σ).bind _=_
 refine re h ?_;rfl
theorem aY {e:Mine.E} {v:AV} (h:ev P cf ρ e σ=.ok v σ'):ex P cf (.ret e) ρ σ=.ok (.ret v) σ':=by
 show (ev P cf ρ e σ).bind _=_
 refine re h ?_;rfl
theorem aR {t:Mine.E} {a b:List C} {v:AV} {q:Bool} {r:R Fl} (h:ev P cf ρ t σ=.ok v σ') (ht:truthy v=some q) (hr:exs P cf (if q then a else b) ρ σ'=r):ex P cf (.iff t a b) ρ σ=r:=by
 show (ev P cf ρ t σ).bind _=_
 refine re h (re bOk ?_)
 refine re ht (rf hr ?_)
 cases q<;>rfl
theorem sG {o e:Mine.E} {f:Nat} {v x:AV} (h:ev P cf ρ e σ=.ok v σ₁) (h2:ev P cf ρ o σ₁=.ok x σ₂) (h3:setattr σ₂ x f v=some σ'):ex P cf (.seta o f e) ρ σ=.ok (.nxt ρ) σ':=by
 show (ev P cf ρ e σ).bind _=_
 refine re h (re bOk (re h2 (re bOk ?_)))
 exact re h3 rfl
theorem xr {o i e:Mine.E} {v x k:AV} {σ₃:Sig} (h:ev P cf ρ e σ=.ok v σ₁) (h2:ev P cf ρ o σ₁=.ok x σ₂) (h3:ev P cf ρ i σ₂=.ok k σ₃) (h4:setitem σ₃ x k v=some σ'):ex P cf (.seti o i e) ρ σ=.ok (.nxt ρ) σ':=by
 show (ev P cf ρ e σ).bind _=_
 refine re h (re bOk (re h2 (re bOk (re h3 (re bOk ?_)))))
 exact re h4 rfl
theorem vD {c:Nat} {e:Mine.E} {v:AV} (h:ev P cf ρ e σ=.ok v σ'):ex P cf (.rse c e) ρ σ=.err c σ':=by
 show (ev P cf ρ e σ).bind _=_
 refine re h ?_;rfl
theorem aJ {f:Nat} {es:List Mine.E} {vs:List AV} {r:R AV} (h:evs P cf ρ es σ=.ok vs σ') (h2:aD cf σ' f vs=r):ev P cf ρ (.call f es) σ=r:=by
 show (evs P cf ρ es σ).bind _=_
 refine re h ?_;exact h2
theorem Mi {f:Nat} {es:List Mine.E} {vs:List AV} {r:R AV} (h:evs P cf ρ es σ=.ok vs σ') (h2:cf f vs σ'=r):ev P cf ρ (.calls f es) σ=r:=by
 show (evs P cf ρ es σ).bind _=_
 refine re h ?_;exact h2
theorem bM {o:Mine.E} {nm f:Nat} {es:List Mine.E} {x:AV} {vs:List AV} {r:R AV} (h:ev P cf ρ o σ=.ok x σ₁) (hf:(clsOf σ₁ x).bind (fun C=>P.meths C nm)=some f) (h2:evs P cf ρ es σ₁=.ok vs σ') (h3:cf f (x :: vs) σ'=r):ev P cf ρ (.meth true o nm es) σ=r:=by
 show (ev P cf ρ o σ).bind _=_
 refine re h (re bOk ?_)
 refine re hf ?_
 dsimp only
 refine re h2 (re bOk ?_)
 exact h3
theorem aQ {o:Op} {a b:Mine.E} {x y:AV} {z:AV} (h:ev P cf ρ a σ=.ok x σ₁) (h2:ev P cf ρ b σ₁=.ok y σ') (h3:binop o x y=some z):ev P cf ρ (.bin o a b) σ=.ok z σ':=by
 show (ev P cf ρ a σ).bind _=_
 refine re h (re bOk (re h2 (re bOk (re h3 ?_))));rfl
theorem bC {a b:Mine.E} {x y:AV} {z:AV} (h:ev P cf ρ a σ=.ok x σ₁) (h2:ev P cf ρ b σ₁=.ok y σ') (h3:dJ σ' x y=some z):ev P cf ρ (.sub a b) σ=.ok z σ':=by
 show (ev P cf ρ a σ).bind _=_
 refine re h (re bOk (re h2 (re bOk (re h3 ?_))));rfl
theorem gU {a b c:Mine.E} {x y w:AV} {z:AV} (h:ev P cf ρ a σ=.ok x σ₁) (h2:ev P cf ρ b σ₁=.ok y σ₂) (h3:ev P cf ρ c σ₂=.ok w σ') (h4:slice x y w=some z):ev P cf ρ (.slc a b c) σ=.ok z σ':=by
 show (ev P cf ρ a σ).bind _=_
 refine re h (re bOk (re h2 (re bOk (re h3 (re bOk (re h4 ?_))))));rfl
theorem cR {a:Mine.E} {f:Nat} {x z:AV} (h:ev P cf ρ a σ=.ok x σ') (h2:getattr σ' x f=some z):ev P cf ρ (.attr a f) σ=.ok z σ':=by
 show (ev P cf ρ a σ).bind _=_
 refine re h (re bOk (re h2 ?_));rfl
theorem aL {a b:Mine.E} {o:COp} {x y:AV} {q:Bool} (h:ev P cf ρ a σ=.ok x σ₁) (h2:ev P cf ρ b σ₁=.ok y σ') (h3:cmpop σ' o x y=some q):ev P cf ρ (.cmp a [o] [b]) σ=.ok (.bool q) σ':=by
 show (ev P cf ρ a σ).bind _=_
 refine re h (re bOk ?_)
 show (ev P cf ρ b σ₁).bind _=_
 refine re h2 (re bOk (re h3 ?_));rfl
theorem dU {t a b:Mine.E} {v:AV} {q:Bool} {r:R AV} (h:ev P cf ρ t σ=.ok v σ') (ht:truthy v=some q) (hr:ev P cf ρ (if q then a else b) σ'=r):ev P cf ρ (.ife t a b) σ=r:=by
 show (ev P cf ρ t σ).bind _=_
 refine re h (re bOk ?_)
 refine re ht (rf hr ?_)
 cases q<;>rfl
theorem Qq {a:Mine.E} {x:AV} {q:Bool} (h:ev P cf ρ a σ=.ok x σ') (ht:truthy x=some q):ev P cf ρ (.not a) σ=.ok (.bool (!q)) σ':=by
 show (ev P cf ρ a σ).bind _=_
 refine re h (re bOk ?_)
 exact re ht rfl
theorem bH {b:BI} {es:List Mine.E} {vs:List AV} {r:R AV} (h:evs P cf ρ es σ=.ok vs σ') (h2:builtin σ' b vs=r):ev P cf ρ (.bi b es) σ=r:=by
 show (evs P cf ρ es σ).bind _=_
 refine re h ?_;exact h2
theorem j8 {b:BM} {o:Mine.E} {es:List Mine.E} {x:AV} {vs:List AV} {r:R AV} (h:ev P cf ρ o σ=.ok x σ₁) (hb:qR σ₁ b x=true) (h2:evs P cf ρ es σ₁=.ok vs σ') (h3:dW σ' b x vs=r):ev P cf ρ (.bm b o es) σ=r:=by
 show (ev P cf ρ o σ).bind _=_
 refine re h (re bOk (re (if_pos hb) (re h2 ?_)))
 exact h3
theorem eO {es:List Mine.E} {vs:List AV} (h:evs P cf ρ es σ=.ok vs σ'):ev P cf ρ (.tup es) σ=.ok (.tuple vs) σ':=by
 show (evs P cf ρ es σ).bind _=_
 refine re h ?_;rfl
theorem aP {e:Mine.E} {es:List Mine.E} {v:AV} {vs:List AV} (h:ev P cf ρ e σ=.ok v σ₁) (h2:evs P cf ρ es σ₁=.ok vs σ'):evs P cf ρ (e :: es) σ=.ok (v :: vs) σ':=by
 show (ev P cf ρ e σ).bind _=_
 refine re h (re bOk (re h2 ?_));rfl
theorem bz {e:Mine.E} {v:AV} (h:ev P cf ρ e σ=.ok v σ'):evs P cf ρ [e] σ=.ok [v] σ':=aP h rfl
theorem bD {f:Nat} {as:List AV} {v w:AV} (ha:bR as=true) (h:cf f as []=.ok v σ') (hb:bA σ' fj v=some w):aD cf σ f as=.ok w σ:=by
 show (if bR as=true then ir false σ (cf f as []) else _)=_
 refine re (if_pos ha) (re h ?_)
 show (match bA σ' fj v with | some w=>(if (false && !isScalar w)=true then R.stuck else R.ok w σ) | none=>R.stuck)=_
 refine re hb ?_;rfl
theorem j9 {f:Nat} {as:List AV} {k:Nat} (ha:bR as=true) (h:cf f as []=.err k σ'):aD cf σ f as=.err k σ:=by
 show (if bR as=true then ir false σ (cf f as []) else _)=_
 refine re (if_pos ha) (re h ?_);rfl
end
theorem e_v {P:Prog} {cf:Calls} {ρ:Env} {σ:Sig} {x:Nat} {a:AV} (h:ρ[x]?=some (some a)):ev P cf ρ (.v x) σ=.ok a σ:=by
 show (match ρ[x]? with | some (some a)=>Mine.R.ok a σ | _=>.stuck)=_
 exact re h rfl
theorem JS {P:Prog} {cf:Calls} {ρ:Env} {σ:Sig} {isAnd:Bool} {a:Mine.E} {v:AV} (h:ev P cf ρ a σ=.ok v σ):ev P cf ρ (.bo isAnd [a]) σ=.ok v σ:=by
 show (ev P cf ρ a σ).bind _=_
 refine re h ?_;rfl
theorem JT {P:Prog} {cf:Calls} {ρ:Env} {σ:Sig} {isAnd p q:Bool} {a b:Mine.E} {es:List Mine.E} (ha:ev P cf ρ a σ=.ok (.bool p) σ) (hb:p=isAnd→ev P cf ρ (.bo isAnd (b :: es)) σ=.ok (.bool q) σ):ev P cf ρ (.bo isAnd (a :: b :: es)) σ=.ok (.bool (if (p == isAnd)=true then q else p)) σ:=by
 show (ev P cf ρ a σ).bind _=_
 rw [ha]
 show (if (p == isAnd)=true then ev P cf ρ (.bo isAnd (b :: es)) σ else Mine.R.ok (AV.bool p) σ)=_
 by_cases h:p=isAnd
 · rw [if_pos (by rw [h];simp),if_pos (by rw [h];simp)]
   exact hb h
 · rw [if_neg (by simpa using h),if_neg (by simpa using h)]
theorem Fg {P:Prog} {cf:Calls} {ρ:Env} {σ:Sig} {p q:Bool} {a b:Mine.E} {es:List Mine.E} (ha:ev P cf ρ a σ=.ok (.bool p) σ) (hb:p=true→ev P cf ρ (.bo true (b :: es)) σ=.ok (.bool q) σ):ev P cf ρ (.bo true (a :: b :: es)) σ=.ok (.bool (p && q)) σ:=(JT ha hb).trans (by cases p<;>rfl)
theorem vG {P:Prog} {cf:Calls} {ρ:Env} {σ:Sig} {p q:Bool} {a b:Mine.E} (ha:ev P cf ρ a σ=.ok (.bool p) σ) (hb:p=true→ev P cf ρ b σ=.ok (.bool q) σ):ev P cf ρ (.bo true [a,b]) σ=.ok (.bool (p && q)) σ:=Fg ha fun h=>JS (hb h)
theorem oZ {P:Prog} {cf:Calls} {ρ:Env} {σ:Sig} {p q:Bool} {a b:Mine.E} (ha:ev P cf ρ a σ=.ok (.bool p) σ) (hb:p=false→ev P cf ρ b σ=.ok (.bool q) σ):ev P cf ρ (.bo false [a,b]) σ=.ok (.bool (p || q)) σ:=(JT ha fun h=>JS (hb h)).trans (by cases p<;>rfl)
theorem xu {step:Nat→List AV→Sig→R (Option (List AV))} {n j:Nat} {acc:List AV} {σ:Sig}:cV step (n + 1) j acc σ=match step j acc σ with
   | .ok (some acc') σ'=>cV step n (j + 1) acc' σ'
   | .ok none σ'=>.ok acc σ'
   | .err ..=>.stuck
   | .stuck=>.stuck:=rfl
theorem fP {at_:Sig→Nat→Option (Option AV)} {tgt:Mine.T} {body:Env→Sig→R Fl} {n j:Nat} {ρ:Env} {σ:Sig}:cg at_ tgt body (n + 1) j ρ σ=match at_ σ j with
   | none=>.stuck
   | some none=>.ok (.nxt ρ) σ
   | some (some x)=>match target ρ tgt x with
     | none=>.stuck
     | some ρ=>match body ρ σ with
       | .ok (.nxt ρ') σ=>cg at_ tgt body n (j + 1) ρ' σ
       | .ok (.cont ρ') σ=>cg at_ tgt body n (j + 1) ρ' σ
       | .ok (.ret v) σ=>.ok (.ret v) σ
       | _=>.stuck:=rfl
theorem mZ {test:Env→Sig→R Bool} {body:Env→Sig→R Fl} {n:Nat} {ρ:Env} {σ:Sig}:cF test body (n + 1) ρ σ=(test ρ σ).bind fun t σ=>if t then (body ρ σ).bind fun fl σ=>match fl with
     | .nxt ρ'=>cF test body n ρ' σ
     | .cont ρ'=>cF test body n ρ' σ
     | .ret v=>.ok (.ret v) σ
   else .ok (.nxt ρ) σ:=rfl
end Mine.Law
end
section
open PySem
namespace Mine.Law
noncomputable def cellOf (l:List Int) (k:Nat):Int:=(l[k]?).getD (11 * k + 2)
theorem aN {n:Nat} (h:n≤1048576):sizeOk n=true:=decide_eq_true h
theorem aK {i:Int} (h:i.natAbs < 18446744073709551616):small i=true:=decide_eq_true h
theorem Iz (l:List Int):(l.map AV.int).length=l.length:=List.length_map ..
theorem Fi {xs:List AV} {k:Nat} (h:xs.length≤1048576):gK xs k=xs[k]?:=by
 unfold gK
 refine re (if_pos (aN h)) ?_
 unfold nth
 refine re (if_pos (Int.natCast_nonneg k)) ?_
 rfl
theorem pH {i j:Int} (h:i < j):decide (i < j)=true:=decide_eq_true h
theorem fQ {i j:Int} (h:¬ i < j):decide (i < j)=false:=decide_eq_false h
theorem jy {x y:Int} (hx:small x=true) (hy:small y=true):binop .add (.int x) (.int y)=some (.int (x + y)):=by
 show (if (small x && small y)=true then some (AV.int (x + y)) else none)=_
 refine re hx (re hy ?_);rfl
theorem xx {x y:Int} (hx:small x=true) (hy:small y=true):binop .sub (.int x) (.int y)=some (.int (x - y)):=by
 show (if (small x && small y)=true then some (AV.int (x - y)) else none)=_
 refine re hx (re hy ?_);rfl
theorem O1 {x y:Int} (hx:small x=true) (hy:small y=true):binop .mul (.int x) (.int y)=some (.int (x * y)):=by
 show (if (small x && small y)=true then some (AV.int (x * y)) else none)=_
 refine re hx (re hy ?_);rfl
theorem bmod {x y:Int} (h0:y≠0) (h1:y.natAbs≤1000000000):binop .mod (.int x) (.int y)=some (.int (x.fmod y)):=by
 show (if (decide (y=0) || decide (1000000000 < y.natAbs))=true then none else some (AV.int (x.fmod y)))=_
 refine re (decide_eq_false h0) (re (decide_eq_false (Nat.not_lt.mpr h1)) ?_);rfl
theorem o4 {x y:Int} (h0:y≠0) (h1:y.natAbs≤1000000000):binop .fdiv (.int x) (.int y)=some (.int (x.fdiv y)):=by
 show (if (decide (y=0) || decide (1000000000 < y.natAbs))=true then none else some (AV.int (x.fdiv y)))=_
 refine re (decide_eq_false h0) (re (decide_eq_false (Nat.not_lt.mpr h1)) ?_);rfl
theorem BV {σ:Sig} {x y:Int}:cmpop σ .lt (.int x) (.int y)=some (decide (x < y)):=rfl
theorem len_list {σ:Sig} {xs:List AV} (h:xs.length≤1048576):builtin σ .len [.list xs]=.ok (.int xs.length) σ:=by
 show (if sizeOk xs.length=true then R.ok (AV.int xs.length) σ else R.stuck)=_
 refine re (aN h) ?_;rfl
theorem gB {σ:Sig} {xs:List AV} {k:Nat} (h:xs.length≤1048576):dJ σ (.list xs) (.int k)=xs[k]?:=Fi h
theorem IV {l:List Int} (hl:l.length≤63) {k:Nat} (hk:k≤10) (d:Nat) (σ:Sig):run PR (d + 1) 41 [.list (l.map .int),.int k] σ=.ok (.int (cellOf l k)) σ:=by
 change (exs PR (run PR d) pP.body [some (.list (l.map .int)),some (.int k)] σ).bind bh=_
 have hn:=Iz l
 refine aO<|aX<|aY<|dU (q:=decide ((k:Int) < (l.map AV.int).length)) (aL (x:=.int k) (y:=.int (l.map AV.int).length) rfl (bH (vs:=[.list (l.map .int)]) rfl (len_list (by exact szl (eql hn hl) rfl))) BV) rfl ?_
 unfold cellOf
 by_cases h:k < l.length
 · refine re (pH (by exact ile (Nat.le_trans h (eqr hn (Nat.le_refl _))))) ?_
   exact bC (x:=.list (l.map .int)) (y:=.int k) rfl rfl ((gB (by exact szl (eql hn hl) rfl)).trans (by refine re (List.getElem?_map) (re (List.getElem?_eq_getElem h) ?_);rfl))
 · refine re (fQ (by exact inl (Nat.le_of_lt_succ (zJ hn (Nat.lt_of_not_le h))))) (re (List.getElem?_eq_none (by exact Nat.le_of_lt_succ (Nat.lt_of_not_le h))) ?_)
   exact aQ (x:=.int (11 * k)) (y:=.int 2) (aQ (x:=.int 11) (y:=.int k) rfl rfl (O1 (aK (by decide)) (aK (by exact szt hk rfl)))) rfl (jy (aK (by exact szt (Nat.mul_le_mul_left _ hk) rfl)) (aK (by decide)))
theorem Fj {step:Nat→List AV→Sig→R (Option (List AV))} {out:Nat→List AV} {n:Nat} {σ:Sig} (h:∀ j,j < n→∀ acc,step j acc σ=.ok (some (acc++out j)) σ) (hn:∀ acc,step n acc σ=.ok none σ) :
   ∀ (m N j:Nat) (acc:List AV),m + j=n→m < N→cV step N j acc σ=.ok (acc++(List.range' j m).flatMap out) σ:=by
 intro m
 induction m with
 | zero =>
   intro N j acc e hN
   match N,hN with
   | N + 1,_ =>
     refine re xu ?_
     refine re (show j=n from (Nat.zero_add j).symm.trans e) (re (hn acc) ?_)
     simp
 | succ m ih =>
   intro N j acc e hN
   match N,hN with
   | N + 1,hN =>
     refine re xu ?_
     refine re (h j (fa1 e) acc) ?_
     show cV step N (j + 1) (acc++out j) σ=_
     exact re (ih N (j + 1) _ (fa2 e) (by exact Nat.le_of_lt_succ hN)) (re List.range'_succ (re List.flatMap_cons (re (List.append_assoc ..) rfl)))
theorem Fo {α:Type} {xs:List α} {out:Nat→List AV} {g:Nat→α→List AV}:∀ (k:Nat) (ys:List α),(∀ i x,ys[i]?=some x→out (k + i)=g (k + i) x)→(List.range' k ys.length).flatMap out=(ys.zipIdx k).flatMap fun p=>g p.2 p.1
 | k,[],_=>rfl
 | k,y :: ys,h=>by
   rw [List.length_cons,List.range'_succ,List.flatMap_cons,List.zipIdx_cons,List.flatMap_cons,Fo (xs:=xs) (k + 1) ys fun i x e=>?_]
   · exact re (show out k=g k y from h 0 y rfl) rfl
   · have:=h (i + 1) x (e)
     refine re (show k + 1 + i=k + (i + 1) by exact Nat.add_right_comm _ _ _) ?_
     exact this
end Mine.Law
end
section
open PySem
namespace Mine.Law
structure Row where
 s:Nat
 p:Nat
 nm:List Nat
 tx:List Nat
noncomputable def aZ (r:Row):AV:=.tuple [.int r.s,.int r.p,.str r.nm,.str r.tx]
noncomputable def aB (R:List Row):AV:=.list (R.map aZ)
theorem bO (R:List Row):(R.map aZ).length=R.length:=List.length_map ..
theorem fZ {σ:Sig} {xs:List AV} (h:xs.length≤1048576) (j:Nat):aU σ .enum (.list xs) j=some ((xs[j]?).map fun x=>.tuple [.int j,x]):=by
 show (if sizeOk xs.length=true then _ else _)=_
 refine re (aN h) ?_
 rfl
theorem vH {σ:Sig} {xs:List AV} (h:xs.length≤1048576) (j:Nat):aU σ .of (.list xs) j=some xs[j]?:=by
 show (if sizeOk xs.length=true then _ else _)=_
 refine re (aN h) ?_
 rfl
theorem lZ {σ:Sig} {r:Row}:dJ σ (aZ r) (.int 0)=some (.int r.s)∧dJ σ (aZ r) (.int 1)=some (.int r.p)∧dJ σ (aZ r) (.int 2)=some (.str r.nm)∧dJ σ (aZ r) (.int 3)=some (.str r.tx):=⟨rfl,rfl,rfl,rfl⟩
theorem eq_int {σ:Sig} {x y:Int}:cmpop σ .eq (.int x) (.int y)=some (x == y):=rfl
theorem eq_str {σ:Sig} {x y:List Nat}:cmpop σ .eq (.str x) (.str y)=some (x == y):=rfl
theorem gt_int {σ:Sig} {x y:Int}:cmpop σ .gt (.int x) (.int y)=some (decide (y < x)):=rfl
theorem iK {P:Prog} {cf:Calls} {ρ:Env} {own:List Str} {caps:List Nat} {tgt:Mine.T} {elt it:Mine.E} {ik:IK} {ifs:List Mine.E} {σ:Sig} {src:AV} {n:Nat} {b:Nat→Bool} {y:Nat→AV} (h0:ev P cf ρ it σ=.ok src σ) (hn:n < 200) (hend:aU σ ik src n=some none)
   (h:∀ j,j < n→∃ x ρ',aU σ ik src j=some (some x)∧target (own.map (fun _=>none)++caps.map fun c=>(ρ[c]?).getD none) tgt x=some ρ'∧gM P cf ρ' ifs σ=.ok (b j) σ∧(b j=true→ev P cf ρ' elt σ=.ok (y j) σ)) :
   ev P cf ρ (.comp own caps tgt elt ik it ifs) σ=.ok (.list ((List.range n).flatMap fun j=>if b j then [y j] else [])) σ:=by
 show (ev P cf ρ it σ).bind _=_
 refine re h0 ?_
 show (cV _ turns 0 [] σ).bind _=_
 rw [Fj (n:=n) (out:=fun j=>if b j then [y j] else []) (fun j hj acc=>?_) (fun acc=>?_) n turns 0 [] rfl (by unfold turns;exact hn),List.range_eq_range']
 · rfl
 · refine o23 (h j hj) fun x ρ' h1 h2 h3 h4=>?_
   refine re h1 ?_
   dsimp only
   refine re h2 ?_
   dsimp only
   refine re h3 ?_
   dsimp only [bOk]
   cases hb:b j with
   | false=>simp
   | true =>
     refine re (if_pos rfl) (re (h4 hb) ?_)
     rfl
 · exact re hend rfl
noncomputable def pI (f:Nat) (nm:List Nat) (j:Nat) (r:Row):Bool:=decide (0 < j) && (r.p == f && r.nm == nm)
noncomputable def ue:List Nat→AV
 | []=>.none
 | i :: _=>.int i
noncomputable def children (R:List Row) (f:Nat) (nm:List Nat):List Nat:=(List.range R.length).flatMap fun j=>if ((R[j]?).map (pI f nm j)).getD false then [j] else []
theorem dB {a b:Nat}:((a:Int) == (b:Int))=(a == b):=by
 by_cases h:a=b
 · subst h;simp
 · refine re (beq_eq_false_iff_ne.mpr h) ?_;rewrite [beq_eq_false_iff_ne]
   lia
theorem Mj {j:Nat}:decide ((0:Int) < (j:Int))=decide (0 < j):=by simp
theorem Qs {P:Prog} {cf:Calls} {ρ:Env} {σ:Sig} {e:Mine.E} {b:Bool} (h:ev P cf ρ e σ=.ok (.bool b) σ):gM P cf ρ [e] σ=.ok b σ:=by
 show (ev P cf ρ e σ).bind _=_
 refine re h ?_
 cases b<;>rfl
theorem Fp {P:Prog} {cf:Calls} {σ:Sig} {f j:Nat} {nm:List Nat} {r:Row}:gM P cf [some (.int j),some (aZ r),some (.int f),some (.str nm)] [.bo true [.cmp (.v 0) [.gt] [.k (.int 0)],.cmp (.sub (.v 1) (.k (.int 1))) [.eq] [.v 2],.cmp (.sub (.v 1) (.k (.int 2))) [.eq] [.v 3]]] σ=.ok (pI f nm j r) σ :=
 Qs (Fg (p:=decide (0 < j)) ((aL (x:=.int j) (y:=.int 0) rfl rfl gt_int).trans (by exact re Mj rfl)) fun _=>vG (p:=r.p == f) ((aL (bC (x:=aZ r) (y:=.int 1) rfl rfl rfl) (y:=.int f) rfl eq_int).trans (by exact re dB rfl)) fun _=>aL (bC (x:=aZ r) (y:=.int 2) rfl rfl rfl) (y:=.str nm) rfl eq_str)
theorem xF (n:Nat) (b:Nat→Bool):((List.range n).flatMap fun j=>if b j then [AV.int (j:Int)] else [])=((List.range n).flatMap fun j=>if b j then [j] else []).map fun (j:Nat)=>AV.int (j:Int):=by
 refine re List.map_flatMap ?_
 congr 1
 funext j
 cases b j<;>rfl
theorem o5 {α:Type} {g:α→AV} (hg:∀ x,eE (g x)=true):∀ l:List α,gJ (l.map g)=true
 | []=>rfl
 | x :: l=>by
   show (eE (g x) && gJ (l.map g))=true
   refine re (hg ..) (re (o5 hg l) ?_);rfl
theorem xG {α:Type} {g:α→AV} (hg:∀ x,eE (g x)=true) (l:List α) (σ:Sig):cmpop σ .ne (.list (l.map g)) (.list [])=some (!l.isEmpty):=by
 show (eF (.list (l.map g)) (.list [])).map (!·)=_
 unfold eF
 have h1:(dI (.list []) || dI (.list (l.map g)))=true:=rfl
 have h2:eE (.list (l.map g))=true:=o5 hg l
 refine re h1 (re h2 ?_)
 cases l<;>rfl
theorem IW (n:Nat) (b:Nat→Bool):((List.range n).flatMap fun j=>if b j then [j] else []).length≤n:=by
 induction n with
 | zero=>simp
 | succ n ih =>
   refine re List.range_succ (re List.flatMap_append (re List.length_append ?_))
   have:(List.flatMap (fun j=>if b j then [j] else []) [n]).length≤1:=by
     refine re List.flatMap_cons (re List.flatMap_nil (re (List.append_nil ..) ?_))
     split
     · exact Nat.le_refl 1
     · exact Nat.zero_le 1
   exact Nat.add_le_add ih this
noncomputable def o6 {α:Type} (g:α→AV):List α→AV
 | []=>.none
 | a :: _=>g a
theorem xH {α:Type} {P:Prog} {cf:Calls} {ρ:Env} {σ:Sig} {x:Nat} {g:α→AV} {l:List α} (hg:∀ a,eE (g a)=true) (hl:l.length≤1000) (h:ρ[x]?=some (some (.list (l.map g)))) :
   ev P cf ρ (.ife (.cmp (.v x) [.ne] [.lst false []]) (.sub (.v x) (.k (.int 0))) (.k .none)) σ=.ok (o6 g l) σ:=by
 have hv:ev P cf ρ (.v x) σ=.ok (.list (l.map g)) σ:=by
   show (match ρ[x]? with | some (some a)=>Mine.R.ok a σ | _=>.stuck)=_
   exact re h rfl
 refine dU (v:=.bool (!l.isEmpty)) (aL (y:=.list []) hv rfl (xG hg l σ)) rfl ?_
 cases l with
 | nil=>rfl
 | cons a r=>exact bC hv (y:=.int 0) rfl (gB (k:=0) (by refine re (List.length_map ..) ?_;exact szl hl rfl))
theorem uX {R:List Row} (hR:R.length≤100) {f:Nat} {nm:List Nat} (d:Nat) (σ:Sig):run PR (d + 1) 44 [aB R,.int f,.str nm] σ=.ok (ue (children R f nm)) σ:=by
 change (exs PR (run PR d) oh.body [some (aB R),some (.int f),some (.str nm),none] σ).bind bh=_
 have hl:(children R f nm).length≤R.length:=IW _ _
 have s1:=bc (x:=3) (iK (P:=PR) (cf:=run PR d) (ρ:=[some (aB R),some (.int f),some (.str nm),none]) (own:=[Str.ofString "at",Str.ofString "row"]) (caps:=[1,2]) (tgt:=.tu [0,1]) (elt:=.v 0) (it:=.v 0) (ik:=.enum) (σ:=σ) (ifs:=[(.bo true [(.cmp (.v 0) [.gt] [(.k (.int 0))]),(.cmp (.sub (.v 1) (.k (.int 1))) [.eq] [(.v 2)]),(.cmp (.sub (.v 1) (.k (.int 2))) [.eq] [(.v 3)])])]) (n:=R.length) (b:=fun j=>((R[j]?).map (pI f nm j)).getD false) (y:=fun j=>.int j) (src:=aB R) rfl (by exact szt hR rfl)
   (by unfold aB;rw [fZ (by rw [bO];exact szl hR rfl),List.getElem?_eq_none (by rw [bO];exact Nat.le_refl _)];rfl)
   (fun j hj=>⟨_,_,by unfold aB;rw [fZ (by rw [bO];exact szl hR rfl),List.getElem?_map,List.getElem?_eq_getElem hj];rfl,rfl,by rw [List.getElem?_eq_getElem hj];exact Fp,fun _=>rfl⟩))
 rw [xF] at s1
 change ex _ _ _ _ _=.ok (.nxt (List.set _ 3 (some (.list ((children R f nm).map fun (j:Nat)=>AV.int (j:Int)))))) _ at s1
 generalize children R f nm=l at hl s1
 refine aO<|ak s1<|aX<|aY<|(xH (x:=3) (g:=fun (j:Nat)=>AV.int (j:Int)) (l:=l) (fun _=>rfl) (by exact szl (Nat.le_trans hl hR) rfl) rfl).trans ?_
 cases l<;>rfl
end Mine.Law
end
section
open PySem
namespace Mine.Law
noncomputable def toks:List (List Nat):=[[97],[98],[99],[46,46],[46],[],[97],[98]]
noncomputable def tokOf (y:Int):List Nat:=(toks[(y.fmod 8).toNat]?).getD []
noncomputable def partsFrom (y:Int):Nat→List (List Nat)
 | 0=>[]
 | n + 1=>tokOf y :: partsFrom (y.fdiv 8) n
noncomputable def xJ (y:Int):Nat→Int
 | 0=>y
 | n + 1=>xJ (y.fdiv 8) n
theorem dG (y:Int) {m:Nat} (h:0 < m):∃ k:Nat,k < m∧y.fmod m=k:=by
 have h1:0≤y.fmod m:=Int.fmod_nonneg_of_pos y (by exact ile h)
 have h2:y.fmod m < m:=Int.fmod_lt_of_pos y (by exact ile h)
 exact ⟨(y.fmod m).toNat,(Int.toNat_lt h1).mpr h2,(Int.toNat_of_nonneg h1).symm⟩
noncomputable abbrev Fq:List AV:=toks.map AV.str
theorem sH {σ:Sig} {n:Nat} (h:n≤1024) (j:Nat):aU σ .rng (.int n) j=some (if j < n then some (.int j) else none):=by
 show (if (decide ((0:Int)≤n) && decide ((n:Int)≤1024))=true then _ else _)=_
 refine re (decide_eq_true (Int.natCast_nonneg n)) (re (decide_eq_true (show (n:Int)≤1024 by exact ile h)) ?_)
 show some (if (j:Int) < n then _ else _)=_
 by_cases q:j < n
 · exact re (if_pos (by exact ile q)) (re (if_pos q) rfl)
 · exact re (if_neg (by exact inl (Nat.le_of_lt_succ (Nat.lt_of_not_le q)))) (re (if_neg q) rfl)
noncomputable abbrev m5:List C:=[(.ex (.bm .append (.v 2) [(.sub (.lst false [(.k (.str [97])),(.k (.str [98])),(.k (.str [99])),(.k (.str [46,46])),(.k (.str [46])),(.k (.str [])),(.k (.str [97])),(.k (.str [98]))]) (.bin .mod (.v 3) (.k (.int 8))))])),(.asg 3 (.bin .fdiv (.v 3) (.k (.int 8))))]
theorem app_list {σ:Sig} {i:Nat} {xs:List AV} {v:AV} (h:σ[i]?=some (.list xs)) (hl:xs.length≤1048576):dW σ .append (.loc i) [v]=.ok .none (σ.set i (.list (xs++[v]))):=by
 show (match σ[i]? with | some (.list xs)=>(if sizeOk xs.length=true then R.ok AV.none (σ.set i (.list (xs++[v]))) else .stuck) | _=>.stuck)=_
 refine re h ?_
 dsimp only
 refine re (aN hl) ?_;rfl
theorem Ml (y:Int) (σ:Sig):dJ σ (.list Fq) (.int (y.fmod 8))=some (.str (tokOf y)):=by
 refine o11 (dG y (m:=8) (by decide)) fun k hk e=>?_
 have e':y.fmod 8=k:=e
 have hk':k < toks.length:=hk
 unfold tokOf
 refine re e' (re (gB (by decide)) (re (List.getElem?_map) ?_))
 show (toks[k]?).map AV.str=some (.str ((toks[k]?).getD []))
 refine re (List.getElem?_eq_getElem hk') ?_
 rfl
theorem Ft {cf:Calls} {x most y:Int} {t:Option AV} {accs:List AV} (hl:accs.length≤100):exs PR cf m5 [some (.int x),some (.int most),some (.loc 0),some (.int y),t] [.list accs]=.ok (.nxt [some (.int x),some (.int most),some (.loc 0),some (.int (y.fdiv 8)),t]) [.list (accs++[.str (tokOf y)])] :=
 ak (dR (j8 (x:=.loc 0) rfl rfl (bz (bC (x:=.list Fq) (y:=.int (y.fmod 8)) rfl (aQ (x:=.int y) (y:=.int 8) rfl rfl (bmod (by decide) (by decide))) (Ml y _))) (app_list (i:=0) (xs:=accs) rfl (Nat.le_trans hl (by decide))))) (ak (bc (aQ (x:=.int y) (y:=.int 8) rfl rfl (o4 (by decide) (by decide)))) rfl)
theorem Fv {cf:Calls} {x most:Int} {n:Nat} (hn:n≤100):∀ (m N j:Nat) (y:Int) (t:Option AV) (accs:List AV),n=m + j→m < N→accs.length=j→∃ t',
   cg (fun σ j=>aU σ .rng (.int n) j) (.n 4) (fun ρ σ=>exs PR cf m5 ρ σ) N j [some (.int x),some (.int most),some (.loc 0),some (.int y),t] [.list accs]=.ok (.nxt [some (.int x),some (.int most),some (.loc 0),some (.int (xJ y m)),t']) [.list (accs++(partsFrom y m).map .str)]:=by
 intro m
 induction m with
 | zero =>
   intro N j y t accs e hN hl
   match N,hN with
   | N + 1,_ =>
     refine ⟨t,?_⟩
     refine re fP ?_
     rewrite [sH (by exact szl hn rfl)];refine re (if_neg (by exact Nat.not_lt_of_le (eql e (za (Nat.le_refl _))))) ?_
     show _=R.ok _ [MO.list (accs++[])]
     refine re (List.append_nil ..) ?_
     rfl
 | succ m ih =>
   intro N j y t accs e hN hl
   match N,hN with
   | N + 1,hN =>
     obtain ⟨t',h⟩:=ih N (j + 1) (y.fdiv 8) (some (.int j)) (accs++[.str (tokOf y)]) (by lia) (by exact Nat.le_of_lt_succ hN) (by refine re List.length_append (re hl ?_);rfl)
     refine ⟨t',?_⟩
     refine re fP ?_
     rewrite [sH (by exact szl hn rfl)];refine re (if_pos (by lia)) ?_
     have ht:target [some (.int x),some (.int most),some (.loc 0),some (.int y),t] (.n 4) (.int j)=some [some (.int x),some (.int most),some (.loc 0),some (.int y),some (.int j)]:=rfl
     dsimp only
     refine re ht ?_
     dsimp only
     refine re (Ft (by lia)) ?_
     dsimp only
     refine re h (re (List.append_assoc ..) ?_)
     rfl
noncomputable def bI (x:Int) (most:Nat):List (List Nat):=partsFrom ((x.fdiv 2).fdiv most) ((x.fdiv 2).fmod most).toNat
noncomputable def dK (x:Int) (most:Nat):List Nat:=(if x.fmod 2=1 then [47] else [])++aW [47] (bI x most)
theorem jz (y:Int):∀ n,(partsFrom y n).length=n:=by
 intro n
 induction n generalizing y with
 | zero=>rfl
 | succ n ih=>show (partsFrom (y.fdiv 8) n).length + 1=_;exact re (ih ..) rfl
theorem Mm (y:Int):(tokOf y).length≤2:=by
 refine o11 (dG y (m:=8) (by decide)) fun k hk e=>?_
 have hk':k < toks.length:=hk
 unfold tokOf
 refine re (show y.fmod 8=k from e) ?_
 show ((toks[k]?).getD []).length≤2
 refine re (List.getElem?_eq_getElem hk') ?_
 have hall:∀ w∈toks,w.length≤2:=by decide
 exact hall _ (List.getElem_mem hk')
theorem uY (y:Int) (n:Nat):((partsFrom y n).map List.length).sum≤2 * n:=by
 induction n generalizing y with
 | zero=>exact Nat.le_refl 0
 | succ n ih =>
   show (tokOf y).length + ((partsFrom (y.fdiv 8) n).map List.length).sum≤_
   have:=ih (y.fdiv 8)
   have:=Mm y
   lia
theorem strs_map (ws:List (List Nat)):strs? (ws.map .str)=some ws:=by
 induction ws with
 | nil=>rfl
 | cons w ws ih =>
   show (strs? (ws.map .str)).map (w :: ·)=_
   refine re ih ?_;rfl
theorem I2 {σ:Sig} {i:Nat} {ws:List (List Nat)} {sep:List Nat} (h:σ[i]?=some (.list (ws.map .str))) (hz:(ws.map List.length).sum + ws.length * sep.length≤1048576):dW σ .join (.str sep) [.loc i]=.ok (.str (aW sep ws)) σ:=by
 show (match (listItems σ (.loc i)).bind strs? with | some ws=>(if sizeOk ((ws.map List.length).sum + ws.length * sep.length)=true then R.ok (AV.str (aW sep ws)) σ else .stuck) | none=>.stuck)=_
 have:listItems σ (.loc i)=some (ws.map .str):=by
   show (match σ[i]? with | some (.list xs)=>some xs | _=>none)=_
   exact re h rfl
 refine re this (re (Option.bind_some ..) (re (strs_map ..) ?_))
 dsimp only
 refine re (aN hz) ?_;rfl
theorem m6 (sep:List Nat):∀ ws:List (List Nat),(aW sep ws).length≤(ws.map List.length).sum + ws.length * sep.length
 | []=>Nat.zero_le _
 | [x]=>by
   show x.length≤(x.length + 0) + 1 * sep.length
   exact Nat.le_add_right _ _
 | x :: y :: r=>by
   have ih:=m6 sep (y :: r)
   show (x++sep++aW sep (y :: r)).length≤_
   simp only [List.length_append,List.map_cons,List.sum_cons,List.length_cons,Nat.add_mul,Nat.one_mul] at ih ⊢
   lia
theorem add_str {a b:List Nat} (h:a.length + b.length≤1048576):binop .add (.str a) (.str b)=some (.str (a++b)):=by
 show (if sizeOk (a.length + b.length)=true then some (AV.str (a++b)) else none)=_
 refine re (aN h) ?_;rfl
theorem I3 {x:Int} {most:Nat} (h0:0 < most) (h1:most≤5) (d:Nat):run PR (d + 1) 42 [.int x,.int most] []=.ok (.str (dK x most)) [.list ((bI x most).map .str)]:=by
 change (exs PR (run PR d) pQ.body [some (.int x),some (.int most),none,none,none] []).bind bh=_
 refine o11 (dG (x.fdiv 2) h0) fun n hn en=>?_
 have eN:((x.fdiv 2).fmod most).toNat=n:=by rw [en];rfl
 refine o10 (Fv (cf:=run PR d) (x:=x) (most:=most) (n:=n) (by exact szl (Nat.le_of_lt (Nat.le_trans hn h1)) rfl) n turns 0 ((x.fdiv 2).fdiv most) none [] rfl (by unfold turns;exact szl (Nat.le_trans hn h1) rfl) rfl) fun t' hloop=>?_
 have hm:(most:Int)≠0∧(most:Int).natAbs≤1000000000:=⟨by exact inz h0,by exact szl h1 rfl⟩
 have hj:((bI x most).map List.length).sum + (bI x most).length * 1≤100:=by
   have n4:n≤4:=Nat.le_of_lt_succ (Nat.lt_of_lt_of_le hn h1)
   unfold bI
   rw [eN]
   exact szl (Nat.add_le_add (Nat.le_trans (uY ((x.fdiv 2).fdiv most) n) (Nat.mul_le_mul_left 2 n4)) (Nat.mul_le_mul_right 1 (eql (jz ((x.fdiv 2).fdiv most) n) n4))) rfl
 have jl:(aW [47] (bI x most)).length≤100:=Nat.le_trans (m6 [47] (bI x most)) hj
 have e2:∀ {ρ:Env} {σ:Sig},ρ[0]?=some (some (.int x))→ev PR (run PR d) ρ (.bin .fdiv (.v 0) (.k (.int 2))) σ=.ok (.int (x.fdiv 2)) σ:=fun h=>aQ (x:=.int x) (y:=.int 2) (e_v h) rfl (o4 (by decide) (by decide))
 have s2:ex PR (run PR d) (.fr (.n 4) .rng (.bin .mod (.bin .fdiv (.v 0) (.k (.int 2))) (.v 1)) m5) [some (.int x),some (.int most),some (.loc 0),some (.int ((x.fdiv 2).fdiv most)),none] [.list []]=.ok (.nxt [some (.int x),some (.int most),some (.loc 0),some (.int (xJ ((x.fdiv 2).fdiv most) n)),t']) [.list ((bI x most).map .str)]:=by
   show (ev PR (run PR d) _ (.bin .mod (.bin .fdiv (.v 0) (.k (.int 2))) (.v 1)) [.list []]).bind (fun src σ=>cg (fun σ j=>aU σ .rng src j) (.n 4) (fun ρ σ=>exs PR (run PR d) m5 ρ σ) turns 0 _ σ)=_
   rw [aQ (x:=.int (x.fdiv 2)) (y:=.int most) (e2 rfl) rfl ((bmod hm.1 hm.2).trans (by rw [en]))]
   unfold bI
   rw [eN]
   exact hloop
 refine aO<|ak (d7 (vs:=[.loc 0,.int ((x.fdiv 2).fdiv most)]) (σ':=[.list []]) (eO (aP (v:=.loc 0) (σ₁:=[.list []]) rfl (bz (aQ (y:=.int most) (e2 rfl) rfl (o4 hm.1 hm.2))))) rfl)<|ak s2<|aX<|aY <|
   aQ (x:=.str (if x.fmod 2=1 then [47] else [])) (y:=.str (aW [47] (bI x most))) (dU (q:=decide (x.fmod 2=1)) (aL (x:=.int (x.fmod 2)) (y:=.int 1) (aQ (x:=.int x) (y:=.int 2) rfl rfl (bmod (by decide) (by decide))) rfl rfl) rfl ?_) (j8 (x:=.str [47]) rfl rfl rfl (I2 rfl (Nat.le_trans hj (by decide)))) (add_str ?_)
 · by_cases h:x.fmod 2=1
   · rw [decide_eq_true h,if_pos h];rfl
   · rw [decide_eq_false h,if_neg h];rfl
 · have:(if x.fmod 2=1 then [47] else ([]:List Nat)).length≤1:=by split<;>decide
   exact szl (Nat.add_le_add this jl) rfl
end Mine.Law
end
section
open PySem
namespace Mine.Law
theorem jF {α β:Type} {xs:List α} {out:Nat→List β} {g:α→List β} (h:∀ i x,xs[i]?=some x→out i=g x):(List.range xs.length).flatMap out=xs.flatMap g:=by
 refine re List.range_eq_range' ?_
 have:∀ (k:Nat) (ys:List α),(∀ i x,ys[i]?=some x→out (k + i)=g x)→(List.range' k ys.length).flatMap out=ys.flatMap g:=by
   intro k ys
   induction ys generalizing k with
   | nil=>intro _;rfl
   | cons y ys ih =>
     intro h
     rw [List.length_cons,List.range'_succ,List.flatMap_cons,List.flatMap_cons,ih (k + 1) fun i x e=>?_,show out k=g y from h 0 y rfl]
     have:=h (i + 1) x (e)
     refine re (show k + 1 + i=k + (i + 1) by exact Nat.add_right_comm _ _ _) ?_
     exact this
 exact this 0 xs fun i x e=>by refine re (Nat.zero_add ..) ?_;exact h i x e
theorem mj {α:Type} {P:Prog} {cf:Calls} {ρ:Env} {own:List Str} {caps:List Nat} {tgt:Mine.T} {elt it:Mine.E} {ifs:List Mine.E} {σ:Sig} {xs:List α} {e:α→AV} {b:α→Bool} {y:α→AV} (h0:ev P cf ρ it σ=.ok (.list (xs.map e)) σ) (hn:xs.length < 200)
   (h:∀ x∈xs,∃ ρ',target (own.map (fun _=>none)++caps.map fun c=>(ρ[c]?).getD none) tgt (e x)=some ρ'∧gM P cf ρ' ifs σ=.ok (b x) σ∧(b x=true→ev P cf ρ' elt σ=.ok (y x) σ)) :
   ev P cf ρ (.comp own caps tgt elt .of it ifs) σ=.ok (.list (xs.flatMap fun x=>if b x then [y x] else [])) σ:=by
 rw [iK (n:=xs.length) (b:=fun j=>((xs[j]?).map b).getD false) (y:=fun j=>((xs[j]?).map y).getD .none) h0 hn (by rw [vH (by rw [List.length_map];exact szl (Nat.le_of_lt hn) rfl),List.getElem?_eq_none (by rw [List.length_map];exact Nat.le_refl _)]) fun j hj=>?_]
 · rw [jF (xs:=xs) (g:=fun x=>if b x then [y x] else []) fun i x e=>by rw [e];rfl]
 · refine o12 (h xs[j] (List.getElem_mem hj)) fun ρ' h1 h2 h3=>?_
   refine ⟨e xs[j],ρ',by rw [vH (by rw [List.length_map];exact szl (Nat.le_of_lt hn) rfl),List.getElem?_map,List.getElem?_eq_getElem hj];rfl,h1,?_,?_⟩
   · rw [List.getElem?_eq_getElem hj];exact h2
   · rw [List.getElem?_eq_getElem hj];exact h3
noncomputable def partsOf (path:List Nat):List (List Nat):=(splitOn 47 path).filter fun w=>!w.isEmpty
set_option tactic.hygienic true in
theorem split_len (sep:Nat):∀ s:List Nat,(splitOn sep s).length≤s.length + 1
 | []=>Nat.le_refl 1
 | c :: r=>by
   have ih:=split_len sep r
   unfold splitOn
   split
   · refine re List.length_cons (re List.length_cons ?_);exact Nat.succ_le_succ ih
   · split
     · rename_i w ws e
       rw [e] at ih
       simp only [List.length_cons] at ih ⊢
       exact Nat.le_succ_of_le ih
     · simp
theorem I4 {σ:Sig} {w:List Nat}:cmpop σ .ne (.str w) (.str [])=some (!w.isEmpty):=by
 cases w<;>rfl
theorem gm {α β:Type} (xs:List α) (b:α→Bool) (y:α→β):(xs.flatMap fun x=>if b x then [y x] else [])=(xs.filter b).map y:=by
 induction xs with
 | nil=>rfl
 | cons x xs ih =>
   refine re List.flatMap_cons (re ih (re List.filter_cons ?_))
   cases b x<;>rfl
theorem BW {σ:Sig} {path:List Nat} (hp:path.length≤100):dW σ .split (.str path) [.str [47]]=.ok (.list ((splitOn 47 path).map .str)) σ:=if_pos (aN (by exact szl hp rfl))
theorem jG {P:Prog} {cf:Calls} {ρ:Env} {σ:Sig} {x:Nat} {nm:Str} {path:List Nat} (h:ρ[x]?=some (some (.str path))) (hp:path.length≤100):ev P cf ρ (.comp [nm] [] (.n 0) (.v 0) .of (.bm .split (.v x) [(.k (.str [47]))]) [(.cmp (.v 0) [.ne] [(.k (.str []))])]) σ=.ok (.list ((partsOf path).map .str)) σ:=by
 have hs:=split_len 47 path
 refine (mj (xs:=splitOn 47 path) (e:=AV.str) (b:=fun w=>!w.isEmpty) (y:=AV.str) (j8 (x:=.str path) (e_v h) rfl rfl (BW hp)) (by exact szt (Nat.le_trans hs (Nat.succ_le_succ hp)) rfl) fun w _=>⟨[some (.str w)],rfl,?_,fun _=>rfl⟩).trans ?_
 · show (Mine.R.of ((cmpop σ .ne (.str w) (.str [])).map AV.bool) σ).bind _=_
   refine re I4 ?_
   cases w<;>rfl
 · refine re (gm ..) ?_;rfl
theorem I5 {path:List Nat} (hp:path.length≤100) (d:Nat) (σ:Sig):run PR (d + 1) 25 [.str path] σ=.ok (.list ((partsOf path).map .str)) σ:=by
 change (exs PR (run PR d) qX.body [some (.str path)] σ).bind bh=_
 exact aO (aX (aY (jG rfl hp)))
end Mine.Law
end
section
open PySem
namespace Mine.Law
noncomputable def jH (path:List Nat):Bool:=path.take 1 == [47]
theorem uf {s:List Nat}:slice (.str s) .none (.int 1)=some (.str (s.take 1)):=rfl
theorem qu {root here:AV} {path:List Nat} (d:Nat) (σ:Sig):run PR (d + 1) 28 [root,here,.str path] σ=.ok (if jH path then root else here) σ:=by
 change (exs PR (run PR d) qY.body [some root,some here,some (.str path)] σ).bind bh=_
 refine aO<|aX<|aY<|dU (v:=.bool (jH path)) (aL (gU (x:=.str path) (y:=.none) (w:=.int 1) rfl rfl rfl uf) (y:=.str [47]) rfl rfl) rfl ?_
 cases jH path<;>rfl
end Mine.Law
end
section
open PySem
namespace Mine.Law
noncomputable def cL (n m:Nat):List Nat:=n :: List.replicate (m - 1) 0
noncomputable def xK:List (Nat×Nat):=(List.range 40).flatMap fun n=>[(n,1),(n,2),(n,4),(n,8)]
noncomputable def jA (m:Nat):Prop:=m=1∨m=2∨m=4∨m=8
theorem xM {n m:Nat} (hn:n < 40) (hm:jA m):(n,m)∈xK:=List.mem_flatMap.mpr ⟨n,List.mem_range.mpr hn,by rcases hm with h | h | h | h<;>subst h<;>simp⟩
theorem I6 (d:Nat) (σ:Sig):xK.map (fun p=>aD (run PR (d + 1)) σ 1 [.int p.1,.int p.2])=xK.map (fun p=>R.ok (.bytes (cL p.1 p.2)) σ)∧True:=⟨by kernel_rfl!,trivial⟩
theorem Mp (d:Nat) (σ:Sig):xK.map (fun p=>aD (run PR (d + 1)) σ 0 [.bytes (cL p.1 p.2)])=xK.map (fun p=>R.ok (.int p.1) σ)∧True:=⟨by kernel_rfl!,trivial⟩
theorem Mq {n m:Nat} (hn:n < 40) (hm:jA m) (d:Nat) (σ:Sig):aD (run PR (d + 1)) σ 1 [.int n,.int m]=.ok (.bytes (cL n m)) σ:=List.map_inj_left.mp (I6 d σ).1 (n,m) (xM hn hm)
theorem Fw {n m:Nat} (hn:n < 40) (hm:jA m) (d:Nat) (σ:Sig):aD (run PR (d + 1)) σ 0 [.bytes (cL n m)]=.ok (.int n) σ:=List.map_inj_left.mp (Mp d σ).1 (n,m) (xM hn hm)
theorem gV (d:Nat) (σ:Sig):(aD (run PR (d + 1)) σ 1 [.int 420,.int 2]=R.ok (.bytes [164,1]) σ∧aD (run PR (d + 1)) σ 0 [.bytes [164,1]]=R.ok (.int 420) σ) ∧
   [97,98,99].map (fun c=>aD (run PR (d + 1)) σ 2 [.str [c]])=[97,98,99].map (fun c=>R.ok (.bytes [c]) σ) ∧
   [97,98,99].map (fun c=>aD (run PR (d + 1)) σ 3 [.bytes [c]])=[97,98,99].map (fun c=>R.ok (.str [c]) σ) ∧
   [97,98,99].map (fun c=>aD (run PR (d + 1)) σ 19 [.str [c]])=[97,98,99].map (fun c=>R.ok (.bool true) σ) :=
 ⟨⟨by kernel_rfl!,by kernel_rfl!⟩,by kernel_rfl!,by kernel_rfl!,by kernel_rfl!⟩
noncomputable def abc:List Nat:=[97,98,99]
theorem O2 {c:Nat} (h:c∈abc) (d:Nat) (σ:Sig):aD (run PR (d + 1)) σ 2 [.str [c]]=.ok (.bytes [c]) σ:=List.map_inj_left.mp (gV d σ).2.1 c h
theorem O3 {c:Nat} (h:c∈abc) (d:Nat) (σ:Sig):aD (run PR (d + 1)) σ 3 [.bytes [c]]=.ok (.str [c]) σ:=List.map_inj_left.mp (gV d σ).2.2.1 c h
theorem BX {c:Nat} (h:c∈abc) (d:Nat) (σ:Sig):aD (run PR (d + 1)) σ 19 [.str [c]]=.ok (.bool true) σ:=List.map_inj_left.mp (gV d σ).2.2.2 c h
end Mine.Law
end
section
open PySem
namespace Mine.Law
noncomputable abbrev sink (b:List Nat):Sig:=[.inst 0 [(0,.loc 1)],.barr b]
theorem JV {σ:Sig} {i:Nat} {b c:List Nat} (h:σ[i]?=some (.barr b)) (hl:b.length + c.length≤1048576):dW σ .extend (.loc i) [.bytes c]=.ok .none (σ.set i (.barr (b++c))):=by
 show (match σ[i]? with | some (.barr b)=>(if sizeOk (b.length + c.length)=true then R.ok AV.none (σ.set i (.barr (b++c))) else .stuck) | _=>.stuck)=_
 refine re h ?_
 exact if_pos (aN hl)
theorem qH (n m:Nat):(cL n m).length=m - 1 + 1:=by simp [cL]
theorem JW {b c:List Nat} {x y:AV} (hb:b.length + c.length≤1000) (d:Nat) (h:aD (run PR (d + 1)) (sink b) 1 [x,y]=.ok (.bytes c) (sink b)):run PR (d + 2) 5 [.loc 0,x,y] (sink b)=.ok .none (sink (b++c)):=by
 change (exs PR (run PR (d + 1)) nH.body [some (.loc 0),some x,some y] (sink b)).bind bh=_
 exact iI (ak (dR (j8 (x:=.loc 1) rfl rfl (bz (aJ rfl h)) (JV rfl (by exact szl hb rfl)))) rfl)
theorem ug {b:List Nat} {n m:Nat} (hb:b.length≤900) (hn:n < 40) (hm:jA m) (d:Nat):run PR (d + 2) 5 [.loc 0,.int n,.int m] (sink b)=.ok .none (sink (b++cL n m)) :=
 JW (by refine re (qH ..) ?_;rcases hm with rfl | rfl | rfl | rfl<;>exact szl (Nat.add_le_add_right hb _) rfl) d (Mq hn hm d _)
theorem szs:jA 1∧jA 2∧jA 4∧jA 8:=⟨.inl rfl,.inr (.inl rfl),.inr (.inr (.inl rfl)),.inr (.inr (.inr rfl))⟩
theorem len_bytes {σ:Sig} {b:List Nat} (h:b.length≤1048576):builtin σ .len [.bytes b]=.ok (.int b.length) σ:=if_pos (aN h)
theorem len_str {σ:Sig} {b:List Nat} (h:b.length≤1048576):builtin σ .len [.str b]=.ok (.int b.length) σ:=if_pos (aN h)
theorem whole {b:List Nat} (hb:b.length≤1000) (d:Nat):run PR (d + 1) 7 [.loc 0] (sink b)=.ok (.bytes b) (sink b):=by
 change (exs PR (run PR d) nY.body [some (.loc 0)] (sink b)).bind bh=_
 exact aO (aX (aY (bH (bz (cR (x:=.loc 0) (z:=.loc 1) rfl rfl)) (if_pos (aN (by exact szl hb rfl))))))
theorem Qt {b:List Nat} {c:Nat} (hb:b.length≤800) (hc:c∈abc) (d:Nat):run PR (d + 3) 6 [.loc 0,.str [c]] (sink b)=.ok .none (sink (b++cL 1 1++[c])):=by
 change (exs PR (run PR (d + 2)) pN.body [some (.loc 0),some (.str [c]),none] (sink b)).bind bh=_
 refine iI (ak (bc (aJ rfl (O2 hc (d + 1) _))) (ak (dR (bM (x:=.loc 0) rfl rfl rfl (ug (n:=1) (m:=1) (by exact szl hb rfl) (by decide) szs.1 d))) (ak (dR (j8 (x:=.loc 1) rfl rfl rfl (JV rfl ?_))) rfl)))
 show (b++cL 1 1).length + 1≤_
 refine re List.length_append (re (qH ..) ?_)
 exact szt (Nat.succ_le_succ hb) rfl
theorem xN {P:Prog} {ρ:Env} {f:Nat} (d:Nat):ev PR (run PR (d + 1)) ρ (.new false 0 []) []=.ok (.loc 0) (sink []):=rfl
noncomputable def zn (s sz p:Nat):AV:=.inst 2 [(2,.int s),(3,.int 420),(4,.int sz),(5,.int 1),(6,.int p),(7,.int 1),(8,.int 1)]
noncomputable def zb (s sz p:Nat):List Nat:=cL s 1++[164,1]++cL sz 4++cL 1 2++cL p 4++cL 1 4++cL 1 4
theorem xO {s sz p:Nat} (h1:s < 40) (h2:sz < 40) (h3:p < 40) (d:Nat) (σ:Sig):aD (run PR (d + 3)) σ 22 [zn s sz p]=.ok (.bytes (zb s sz p)) σ:=by
 refine bD (v:=.bytes (zb s sz p)) (σ':=sink (zb s sz p)) rfl ?_ rfl
 change (exs PR (run PR (d + 2)) lM.body [some (zn s sz p),none] []).bind bh=_
 have st:∀ {b c:List Nat} {e:Mine.E} {x:AV} {m:Int} {ρ:Env},ρ=[some (zn s sz p),some (.loc 0)]→ev PR (run PR (d + 2)) ρ e (sink b)=.ok x (sink b)→run PR (d + 2) 5 [.loc 0,x,.int m] (sink b)=.ok .none (sink c)→ex PR (run PR (d + 2)) (.ex (.meth true (.v 1) 0 [e,.k (.int m)])) ρ (sink b)=.ok (.nxt ρ) (sink c):=fun {b c e x m ρ} q h g=>by
   subst q
   exact dR (bM (x:=.loc 0) rfl rfl (aP h rfl) g)
 have sn:=fun {b:List Nat} {n m:Nat} (hb:b.length≤900) (hn:n < 40) (hm:jA m)=>ug hb hn hm d
 refine o03 szs fun z1 z2 z4 z8=>?_
 refine aO (ak (bc (xN (P:=PR) (f:=0) (d + 1))) (ak (st rfl rfl (sn ?_ h1 z1)) (ak (st rfl rfl (JW ?_ d (gV d _).1.1)) (ak (st rfl rfl (sn ?_ h2 z4)) (ak (st rfl rfl (sn ?_ (by decide) z2)) (ak (st rfl rfl (sn ?_ h3 z4)) (ak (st rfl rfl (sn ?_ (by decide) z4)) (ak (st rfl rfl (sn ?_ (by decide) z4)) (aX (aY (bM (x:=.loc 0) rfl rfl rfl (whole ?_ (d + 1)))))))))))))
 all_goals simp [cL]
end Mine.Law
end
section
open PySem
namespace Mine.Law
noncomputable abbrev cur (o:List Nat) (a:Nat):MO:=.inst 1 [(0,.bytes o),(1,.int a)]
theorem qI {n a:Nat} (h:a≤n):clip n (a:Int)=a:=by
 unfold clip
 refine re (if_neg (by exact Int.not_lt_of_ge (Int.natCast_nonneg _))) ?_
 exact Jq h
theorem lJ {o:List Nat} {a m:Nat} (h:a + m≤o.length) (hl:o.length≤1000):slice (.bytes o) (.int a) (.int ((a:Int) + m))=some (.bytes ((o.drop a).take m)):=by
 have e:((a:Int) + m)=((a + m:Nat):Int):=rfl
 refine re e ?_
 show ((if small (a:Int)=true then some (some (a:Int)) else none).bind fun l=>(if small ((a + m:Nat):Int)=true then some (some ((a + m:Nat):Int)) else none).bind fun h=>sliceOf l h (.bytes o))=_
 refine re (if_pos (aK (by exact rma (eql (cf2 h (Nat.le_add_left _ _)) hl) rfl))) (re (if_pos (aK (by exact szt (Nat.le_trans h hl) rfl))) ?_)
 show (if sizeOk o.length=true then some (AV.bytes (cut o (some a) (some (a + m:Nat)))) else none)=_
 refine re (if_pos (aN (by exact szl hl rfl))) ?_
 unfold cut
 show some (AV.bytes ((o.drop (clip o.length a)).take (clip o.length (a + m:Nat) - clip o.length a)))=_
 exact re (qI h) (re (qI (Nat.le_trans (Nat.le_add_right a m) h)) (re (Nat.add_sub_cancel_left ..) rfl))
section
variable {o:List Nat} {a m:Nat} {r:Sig}
theorem Qu (h:a≤o.length) (hl:o.length≤1000) (d:Nat):run PR (d + 1) 9 [.loc 0] (cur o a :: r)=.ok (.int ((o.length:Int) - a)) (cur o a :: r):=by
 change (exs PR (run PR d) nJ.body [some (.loc 0)] (cur o a :: r)).bind bh=_
 exact aO (aX (aY (aQ (bH (bz (cR (x:=.loc 0) (z:=.bytes o) rfl rfl)) (len_bytes (by exact szl hl rfl))) (cR (x:=.loc 0) (z:=.int a) rfl rfl) (xx (aK (by exact szt hl rfl)) (aK (by exact szt (Nat.le_trans h hl) rfl))))))
theorem take (h:a + m≤o.length) (hl:o.length≤1000) (d:Nat):run PR (d + 2) 10 [.loc 0,.int m] (cur o a :: r)=.ok (.bytes ((o.drop a).take m)) (cur o (a + m) :: r):=by
 change (exs PR (run PR (d + 1)) nM.body [some (.loc 0),some (.int m),none] (cur o a :: r)).bind bh=_
 have e2:∀ ρ:Env,ρ[0]?=some (some (.loc 0))→ρ[1]?=some (some (.int m))→ev PR (run PR (d + 1)) ρ (.bin .add (.attr (.v 0) 1) (.v 1)) (cur o a :: r)=.ok (.int ((a:Int) + m)) (cur o a :: r):=fun ρ h0 h1=>by
   refine aQ (cR (σ':=cur o a :: r) (x:=.loc 0) (z:=.int a) ?_ rfl) (y:=.int m) (σ':=cur o a :: r) ?_ (jy (aK (by exact rma (eql (cf2 h (Nat.le_add_left _ _)) hl) rfl)) (aK (by omega)))
   · show (match ρ[0]? with | some (some a)=>R.ok a _ | _=>.stuck)=_
     exact re h0 rfl
   · show (match ρ[1]? with | some (some a)=>R.ok a _ | _=>.stuck)=_
     exact re h1 rfl
 refine aO (ak (aR (aL rfl (bM (x:=.loc 0) rfl rfl rfl (Qu (by exact Nat.le_trans (Nat.le_add_right _ _) h) hl d)) gt_int) rfl (r:=.ok (.nxt [some (.loc 0),some (.int m),none]) (cur o a :: r)) ?_) (ak (bc (bH (bz (gU (cR (x:=.loc 0) (z:=.bytes o) rfl rfl) (cR (x:=.loc 0) (z:=.int a) rfl rfl) (e2 _ rfl rfl) (lJ h hl))) rfl)) (ak (sG (e2 _ rfl rfl) (x:=.loc 0) rfl rfl) (aX (aY rfl)))))
 refine re (fQ (by omega)) ?_
 rfl
theorem JX {w:List Nat} {v:AV} (h:a + m≤o.length) (hl:o.length≤1000) (hw:(o.drop a).take m=w) (d:Nat) (hc:aD (run PR (d + 2)) (cur o (a + m) :: r) 0 [.bytes w]=.ok v (cur o (a + m) :: r)):run PR (d + 3) 11 [.loc 0,.int m] (cur o a :: r)=.ok v (cur o (a + m) :: r):=by
 change (exs PR (run PR (d + 2)) kI.body [some (.loc 0),some (.int m)] (cur o a :: r)).bind bh=_
 exact aO (aX (aY (aJ (bz (bM (x:=.loc 0) rfl rfl rfl (take h hl d))) (by refine re hw ?_;exact hc))))
theorem I7 {n:Nat} (h:a + m≤o.length) (hl:o.length≤1000) (hn:n < 40) (hm:jA m) (hw:(o.drop a).take m=cL n m) (d:Nat):run PR (d + 3) 11 [.loc 0,.int m] (cur o a :: r)=.ok (.int n) (cur o (a + m) :: r):=JX h hl hw d (Fw hn hm (d + 1) _)
theorem Qv {c:Nat} (hc:c∈abc) (h:a + 2≤o.length) (hl:o.length≤1000) (h1:(o.drop a).take 1=cL 1 1) (h2:(o.drop (a + 1)).take 1=[c]) (d:Nat):run PR (d + 4) 12 [.loc 0] (cur o a :: r)=.ok (.str [c]) (cur o (a + 2) :: r):=by
 change (exs PR (run PR (d + 3)) nO.body [some (.loc 0)] (cur o a :: r)).bind bh=_
 exact aO (aX (aY (aJ (bz (bM (x:=.loc 0) rfl rfl (bz (bM (x:=.loc 0) rfl rfl rfl (I7 (n:=1) (m:=1) (by exact Nat.le_of_lt h) hl (by decide) szs.1 h1 d))) (take (m:=1) h hl (d + 1)))) (by refine re h2 ?_;exact O3 hc (d + 2) _))))
end
theorem ne_int {σ:Sig} {x y:Int}:cmpop σ .ne (.int x) (.int y)=some (!(x == y)):=rfl
theorem I8 {s sz p:Nat} (h1:s < 3) (h2:sz < 40) (h3:p < 40) (d:Nat) (σ:Sig):aD (run PR (d + 4)) σ 23 [.bytes (zb s sz p)]=.ok (zn s sz p) σ:=by
 have hz:(zb s sz p).length=21:=rfl
 refine bD (v:=zn s sz p) (σ':=[cur (zb s sz p) 21]) rfl ?_ rfl
 change (exs PR (run PR (d + 3)) qW.body [some (.bytes (zb s sz p)),none,none,none,none,none,none,none,none] []).bind bh=_
 refine o03 szs fun z1 z2 z4 z8=>?_
 have g:∀ {n m a:Nat} {ρ:Env},ρ[1]?=some (some (.loc 0))→a + m≤21→run PR (d + 3) 11 [.loc 0,.int m] [cur (zb s sz p) a]=.ok (.int n) [cur (zb s sz p) (a + m)]→ev PR (run PR (d + 3)) ρ (.meth true (.v 1) 0 [.k (.int m)]) [cur (zb s sz p) a]=.ok (.int n) [cur (zb s sz p) (a + m)]:=fun {n m a ρ} q ha hc=>by
   refine bM (x:=.loc 0) ?_ rfl rfl hc
   show (match ρ[1]? with | some (some a)=>R.ok a _ | _=>.stuck)=_
   exact re q rfl
 have c:∀ {n m a:Nat},a + m≤21→n < 40→jA m→((zb s sz p).drop a).take m=cL n m→run PR (d + 3) 11 [.loc 0,.int m] [cur (zb s sz p) a]=.ok (.int n) [cur (zb s sz p) (a + m)]:=fun {n m a} ha hn hm hw=>I7 (by refine re hz ?_;exact ha) (by refine re hz ?_;decide) hn hm hw d
 have g0:∀ {n m a:Nat} {ρ:Env},ρ[1]?=some (some (.loc 0))→a + m≤21→n < 40→jA m→((zb s sz p).drop a).take m=cL n m→ev PR (run PR (d + 3)) ρ (.meth true (.v 1) 0 [.k (.int m)]) [cur (zb s sz p) a]=.ok (.int n) [cur (zb s sz p) (a + m)]:=fun q ha hn hm hw=>g q ha (c ha hn hm hw)
 refine aO (ak (aR (aL (bH (vs:=[.bytes (zb s sz p)]) rfl (len_bytes (by refine re hz ?_;decide))) rfl ne_int) rfl rfl) (ak (bc (v:=.loc 0) (σ':=[cur (zb s sz p) 0]) rfl)
   (ak (d7 (eO (aP (g0 (n:=s) rfl (by decide) (by exact szl h1 rfl) z1 rfl) (aP (g (n:=420) rfl (by decide) (JX (m:=2) (by refine re hz ?_;decide) (by refine re hz ?_;decide) rfl d (gV (d + 1) _).1.2)) (bz (g0 (n:=sz) rfl (by decide) h2 z4 rfl))))) rfl)
   (ak (d7 (eO (aP (g0 (n:=1) rfl (by decide) (by decide) z2 rfl) (aP (g0 (n:=p) rfl (by decide) h3 z4 rfl) (aP (g0 (n:=1) rfl (by decide) (by decide) z4 rfl) (bz (g0 (n:=1) rfl (by decide) (by decide) z4 rfl)))))) rfl)
   (ak (aR (v:=.bool false) (aL (x:=.int s) (y:=.int 2) rfl rfl (gt_int.trans (by exact re (fQ (by exact inl (Nat.le_of_lt_succ h1))) rfl))) rfl rfl) (aX (aY rfl)))))))
end Mine.Law
end
section
open PySem
namespace Mine.Law
theorem jk {α:Type} {at_:Sig→Nat→Option (Option AV)} {tgt:Mine.T} {body:Env→Sig→R Fl} {xs:List α} {e:Nat→α→AV} {Inv:Nat→Env→Sig→Prop} (hat:∀ σ j,at_ σ j=some ((xs[j]?).map (e j)))
   (hstep:∀ j x ρ σ,xs[j]?=some x→Inv j ρ σ→∃ ρ₁ ρ' σ',target ρ tgt (e j x)=some ρ₁∧body ρ₁ σ=.ok (.nxt ρ') σ'∧Inv (j + 1) ρ' σ') :
   ∀ (m N j:Nat) (ρ:Env) (σ:Sig),m + j=xs.length→m < N→Inv j ρ σ→∃ ρ' σ',cg at_ tgt body N j ρ σ=.ok (.nxt ρ') σ'∧Inv xs.length ρ' σ':=by
 intro m
 induction m with
 | zero =>
   intro N j ρ σ e0 hN hi
   match N,hN with
   | N + 1,_ =>
     refine ⟨ρ,σ,?_,by refine rf (show j=xs.length from (Nat.zero_add j).symm.trans e0) ?_;exact hi⟩
     refine re fP ?_
     refine re (hat ..) (re (List.getElem?_eq_none (by exact eqr e0 (za (Nat.le_refl _)))) ?_)
     rfl
 | succ m ih =>
   intro N j ρ σ e0 hN hi
   match N,hN with
   | N + 1,hN =>
     refine o32 (hstep j (xs[j]'(fa1 e0)) ρ σ (List.getElem?_eq_getElem (fa1 e0)) hi) fun ρ₁ ρ' σ' h1 h2 h3=>?_
     refine o21 (ih N (j + 1) ρ' σ' (fa2 e0) (by exact Nat.le_of_lt_succ hN) h3) fun ρ₂ σ₂ h4 h5=>?_
     refine ⟨ρ₂,σ₂,?_,h5⟩
     refine re fP ?_
     refine re (hat ..) (re (List.getElem?_eq_getElem (fa1 e0)) ?_)
     show (match target ρ tgt (e j xs[j]) with | none=>_ | some ρ=>_)=_
     refine re h1 ?_
     dsimp only
     refine re h2 ?_
     exact h4
theorem m7 {P:Prog} {cf:Calls} {ρ:Env} {σ σ':Sig} {tgt:Mine.T} {ik:IK} {it:Mine.E} {b:List C} {src:AV} {r:R Fl} (h:ev P cf ρ it σ=.ok src σ') (hf:cg (fun σ j=>aU σ ik src j) tgt (fun ρ σ=>exs P cf b ρ σ) turns 0 ρ σ'=r):ex P cf (.fr tgt ik it b) ρ σ=r:=by
 show (ev P cf ρ it σ).bind _=_
 refine re h ?_
 exact hf
noncomputable def cP (p:Nat×Nat):AV:=.tuple [.str [p.1],.int p.2]
noncomputable def ent (p:Nat×Nat):List Nat:=cL 1 1++[p.1]++cL p.2 8
noncomputable def hdr (n:Nat):List Nat:=cL 1 1++cL 9 4++cL n 2
noncomputable def mo (es:List (Nat×Nat)):List Nat:=hdr es.length++es.flatMap ent
noncomputable def block (es:List (Nat×Nat)):List Nat:=mo es++List.replicate (128 - (7 + 10 * es.length)) 0
noncomputable def sI (es:List (Nat×Nat)):Prop:=es.length≤3∧∀ p∈es,p.1∈abc∧p.2 < 40
theorem qJ (es:List (Nat×Nat)):(es.flatMap ent).length=10 * es.length:=by
 induction es with
 | nil=>rfl
 | cons p r ih =>
   refine re List.flatMap_cons (re List.length_append (re ih (re List.length_cons ?_)))
   show 10 + _=_
   exact Nat.add_comm _ _
theorem Fx (es:List (Nat×Nat)):(mo es).length=7 + 10 * es.length:=by
 unfold mo
 refine re List.length_append (re (qJ ..) ?_)
 rfl
theorem jm {es:List (Nat×Nat)} (h:sI es):(block es).length=128:=by
 unfold block
 refine re List.length_append (re (Fx ..) (re List.length_replicate ?_))
 have:=h.1
 exact Nat.add_sub_of_le (szl (Nat.add_le_add_left (Nat.mul_le_mul_left _ this) _) rfl)
theorem Fy {es:List (Nat×Nat)} {j:Nat} {p:Nat×Nat} (h:es[j]?=some p):(es.take (j + 1)).flatMap ent=(es.take j).flatMap ent++ent p:=by
 refine re List.take_add_one (re h (re List.flatMap_append ?_))
 simp
theorem Fz (es:List (Nat×Nat)):bR (es.map cP)=true:=by
 induction es with
 | nil=>rfl
 | cons p r ih=>exact ih
theorem padded {b:List Nat} (h:b.length≤128) (d:Nat) (σ:Sig):aD (run PR (d + 1)) σ 13 [.bytes b,.int 128]=.ok (.bytes (b++List.replicate (128 - b.length) 0)) σ:=by
 refine bD (v:=.bytes (b++List.replicate (128 - b.length) 0)) (σ':=[]) rfl ?_ rfl
 change (exs PR (run PR d) vQ.body [some (.bytes b),some (.int 128)] []).bind bh=_
 refine aO (ak (aR (v:=.bool false) (aL (bH (vs:=[.bytes b]) rfl (len_bytes (by exact szl h rfl))) rfl (gt_int.trans (by exact re (fQ (by exact inl h)) rfl))) rfl rfl) (aX (aY (aQ (bH (vs:=[.bytes b]) rfl rfl) (bH (bz (aQ rfl (bH (vs:=[.bytes b]) rfl (len_bytes (by exact szl h rfl))) (xx (aK (by decide)) (aK (by exact szt h rfl))))) (if_pos ?_)) ?_))))
 · refine re (Bool.and_eq_true ..) (re decide_eq_true_eq (re decide_eq_true_eq ?_));exact Jr h (ile (Nat.le_add_left _ _))
 · refine re (show ((128:Int) - b.length).toNat=128 - b.length by exact Js h) ?_
   exact if_pos (aN (by refine re List.length_replicate ?_;exact szl (Nat.add_le_add h (Nat.sub_le _ _)) rfl))
noncomputable abbrev O4:List C:=[(.ex (.meth true (.v 3) 1 [(.v 4)])),(.ex (.meth true (.v 3) 0 [(.v 5),(.g (Str.ofString "NUMBER") 8)]))]
theorem xP {es:List (Nat×Nat)} (h:sI es) (d:Nat) (σ:Sig):aD (run PR (d + 4)) σ 14 [.int 9,.list (es.map cP),.int 128]=.ok (.bytes (block es)) σ:=by
 refine o03 szs fun z1 z2 z4 z8=>?_
 have hn:=h.1
 have hm:=Fx es
 refine bD (v:=.bytes (block es)) (σ':=sink (mo es)) (by show (true && bR (es.map cP) && true)=true;rw [Fz];rfl) ?_ rfl
 change (exs PR (run PR (d + 3)) lL.body [some (.int 9),some (.list (es.map cP)),some (.int 128),none,none,none,none] []).bind bh=_
 obtain ⟨ρ',σ',hl,x4,x5,e1,e2⟩:=jk (xs:=es) (e:=fun _=>cP) (at_:=fun σ j=>aU σ .of (.list (es.map cP)) j) (tgt:=.tu [4,5]) (body:=fun ρ σ=>exs PR (run PR (d + 3)) O4 ρ σ)
   (Inv:=fun j ρ σ=>∃ x4 x5,ρ=[some (.int 9),some (.list (es.map cP)),some (.int 128),some (.loc 0),x4,x5,none]∧σ=sink (hdr es.length++(es.take j).flatMap ent))
   (fun σ j=>by rw [vH (by rw [List.length_map];exact szl hn rfl),List.getElem?_map]) (fun j p ρ σ hp hi=>by
     obtain ⟨x4,x5,rfl,rfl⟩:=hi
     refine o01 (h.2 p (List.mem_of_getElem? hp)) fun hc hv=>?_
     have hb:(hdr es.length++(es.take j).flatMap ent).length≤100:=by
       rw [List.length_append,qJ,List.length_take]
       exact szl (Nat.add_le_add_left (Nat.mul_le_mul_left 10 (Nat.le_trans (Nat.min_le_right _ _) hn)) 7) rfl
     refine ⟨_,_,_,rfl,ak (dR (bM (x:=.loc 0) rfl rfl rfl (Qt (by exact szl hb rfl) hc d))) (ak (dR (bM (x:=.loc 0) rfl rfl rfl (ug (m:=8) ?_ hv z8 (d + 1)))) rfl),_,_,rfl,?_⟩
     · rw [List.length_append,List.length_append,qH]
       show _ + _ + 1≤_
       exact szt (Nat.succ_le_succ hb) rfl
     · rw [Fy hp]
       show sink _=sink (_++(_++(cL 1 1++[p.1]++cL p.2 8)))
       simp only [List.append_assoc]) es.length turns 0 [some (.int 9),some (.list (es.map cP)),some (.int 128),some (.loc 0),none,none,none] (sink (hdr es.length)) rfl (by unfold turns;exact szt hn rfl) ⟨none,none,rfl,by simp⟩
 subst e1 e2
 rw [List.take_length] at hl
 have h37:(mo es).length≤7 + 10 * 3:=eql hm (Nat.add_le_add_left (Nat.mul_le_mul_left 10 hn) 7)
 refine aO<|ak (bc (xN (P:=PR) (f:=0) (d + 2)))<|ak (dR (bM (x:=.loc 0) rfl rfl rfl (ug (n:=1) (m:=1) (by decide) (by decide) z1 (d + 1))))<|ak (dR (bM (x:=.loc 0) rfl rfl rfl (ug (n:=9) (m:=4) (by decide) (by decide) z4 (d + 1)))) <|
   ak (dR (bM (x:=.loc 0) rfl rfl (aP (bH (vs:=[.list (es.map cP)]) rfl (len_list (by rw [List.length_map];exact szl hn rfl))) rfl) (by rw [List.length_map];exact ug (n:=es.length) (m:=2) (b:=cL 1 1++cL 9 4) (by decide) (by exact szt hn rfl) z2 (d + 1))))<|ak (m7 rfl hl)<|ak (bc (bM (x:=.loc 0) rfl rfl rfl (whole (b:=mo es) (by lia) (d + 2)))) <|
     aX<|aY<|dU (v:=.bool true) (aL (bH (vs:=[.bytes (mo es)]) rfl (len_bytes (szl h37 rfl))) rfl ?_) rfl<|aJ rfl ?_
 · show some (decide _)=some true
   rw [decide_eq_true (show ((mo es).length:Int)≤128 from ile (szl h37 rfl:_≤128))]
 · refine (padded (szl h37 rfl) (d + 2) _).trans ?_
   rw [hm]
   rfl
end Mine.Law
end
section
open PySem
namespace Mine.Law
theorem BZ {es:List (Nat×Nat)} {j:Nat} {p:Nat×Nat} (h:es[j]?=some p):∃ rest,(block es).drop (7 + 10 * j)=ent p++rest:=by
 have hj:j < es.length:=(List.getElem?_eq_some_iff.mp h).1
 have e:es=es.take j++p :: es.drop (j + 1):=by
   have:=(List.getElem?_eq_some_iff.mp h).2
   exact rf this (rf (List.drop_eq_getElem_cons hj) (re (List.take_append_drop ..) rfl))
 have hl:(hdr es.length++(es.take j).flatMap ent).length=7 + 10 * j:=by
   refine re List.length_append (re (qJ ..) (re List.length_take (re (Nat.min_eq_left (by exact Nat.le_of_lt hj)) ?_)))
   rfl
 refine ⟨(es.drop (j + 1)).flatMap ent++List.replicate (128 - (7 + 10 * es.length)) 0,?_⟩
 have e2:block es=(hdr es.length++(es.take j).flatMap ent)++(ent p++((es.drop (j + 1)).flatMap ent++List.replicate (128 - (7 + 10 * es.length)) 0)):=by
   unfold block mo
   rw [show es.flatMap ent=(es.take j).flatMap ent++(ent p++(es.drop (j + 1)).flatMap ent) by
     exact rf List.flatMap_cons (rf List.flatMap_append (rf e rfl))]
   simp only [List.append_assoc]
 exact re e2 (re (List.drop_left' hl) rfl)
theorem uZ {o:List Nat} {a k:Nat} {l r:List Nat} (h:o.drop a=l++r):o.drop (a + k)=(l++r).drop k:=by
 exact rf h (re List.drop_drop rfl)
theorem xQ {o:List Nat} {a b:Nat} (h:a≤b) (hb:b≤o.length) (hl:o.length≤1000):slice (.bytes o) (.int a) (.int b)=some (.bytes ((o.drop a).take (b - a))):=by
 have:=lJ (o:=o) (a:=a) (m:=b - a) (by exact eql (Nat.add_sub_of_le h) hb) hl
 rw [show ((a:Int) + (b - a:Nat))=b by omega] at this
 exact this
theorem o7 {σ:Sig} {xs:List AV} (h:∀ x∈xs,∀ n,2≤n→bA σ n x=some x):∀ n,2≤n→xs.mapM (bA σ n)=some xs:=by
 intro n hn
 induction xs with
 | nil=>rfl
 | cons x r ih =>
   refine re List.mapM_cons (re (h x List.mem_cons_self n hn) (re (ih fun y hy=>h y (List.mem_cons_of_mem _ hy)) ?_))
   rfl
theorem O5 {σ:Sig} (p:Nat×Nat) (n:Nat) (hn:2≤n):bA σ n (cP p)=some (cP p):=by
 match n,hn with
 | n + 2,_=>rfl
noncomputable abbrev O6:List C:=[(.asg 4 (.meth true (.v 1) 1 [])),(.ex (.bm .append (.v 2) [(.tup [(.v 4),(.meth true (.v 1) 0 [(.g (Str.ofString "NUMBER") 8)])])]))]
theorem Ca {es:List (Nat×Nat)} (h:sI es) (d:Nat) (σ:Sig):aD (run PR (d + 5)) σ 15 [.bytes (block es)]=.ok (.list (es.map cP)) σ:=by
 refine o03 szs fun z1 z2 z4 z8=>?_
 have hn:=h.1
 have hm:=jm h
 have hbare:∀ k,bA [cur (block es) k,.list (es.map cP)] fj (.loc 1)=some (.list (es.map cP)):=fun k=>by
   show (((es.map cP).mapM (bA _ 5)).map AV.list)=_
   rw [o7 (fun x hx=>by obtain ⟨p,_,rfl⟩:=List.mem_map.mp hx;exact O5 p) 5 (by decide)]
   rfl
 refine bD (v:=.loc 1) (σ':=[cur (block es) (7 + 10 * es.length),.list (es.map cP)]) rfl ?_ (hbare _)
 change (exs PR (run PR (d + 4)) nZ.body [some (.bytes (block es)),none,none,none,none] []).bind bh=_
 obtain ⟨ρ',σ',hl,x3,x4,e1,e2⟩:=jk (xs:=List.range es.length) (e:=fun _ (k:Nat)=>.int k) (at_:=fun σ j=>aU σ .rng (.int es.length) j) (tgt:=.n 3) (body:=fun ρ σ=>exs PR (run PR (d + 4)) O6 ρ σ)
   (Inv:=fun j ρ σ=>∃ x3 x4,ρ=[some (.bytes (block es)),some (.loc 0),some (.loc 1),x3,x4]∧σ=[cur (block es) (7 + 10 * j),.list ((es.take j).map cP)])
   (fun σ j=>by
     rw [sH (by exact szl hn rfl)]
     by_cases q:j < es.length
     · rw [if_pos q,List.getElem?_range q];rfl
     · rw [if_neg q,List.getElem?_eq_none (by rw [List.length_range];exact Nat.le_of_lt_succ (Nat.lt_of_not_le q))];rfl) (fun j k ρ σ hk hi=>by
     obtain ⟨x3,x4,rfl,rfl⟩:=hi
     have hj:j < es.length:=by
       have:=(List.getElem?_eq_some_iff.mp hk).1
       rwa [List.length_range] at this
     obtain ⟨p,hp⟩:∃ p,es[j]?=some p:=⟨_,List.getElem?_eq_getElem hj⟩
     refine o01 (h.2 p (List.mem_of_getElem? hp)) fun hc hv=>?_
     refine o10 (BZ hp) fun rest hd=>?_
     refine ⟨_,_,_,rfl,ak (bc (bM (x:=.loc 0) rfl rfl rfl (Qv (c:=p.1) hc (by lia) (by exact eql hm (Nat.le_add_left _ _)) (by rw [hd];rfl) (by rw [uZ hd];rfl) d)))<|ak (dR (j8 (x:=.loc 1) rfl rfl (bz (eO (aP rfl (bz (bM (x:=.loc 0) rfl rfl rfl (I7 (n:=p.2) (m:=8) (by lia) (by exact eql hm (Nat.le_add_left _ _)) hv z8 ?_ (d + 1))))))) (app_list (i:=1) (xs:=(es.take j).map cP) rfl ?_))) rfl,_,_,rfl,?_⟩
     · rw [show 7 + 10 * j + 2=7 + 10 * j + 2 from rfl,uZ hd];rfl
     · rw [List.length_map,List.length_take];exact szl (Nat.le_trans (Nat.min_le_right _ _) hn) rfl
     · show [cur (block es) (7 + 10 * j + 2 + 8),MO.list (_++[cP p])]=_
       rw [List.take_add_one,hp,List.map_append,show 7 + 10 * j + 2 + 8=7 + 10 * (j + 1) by exact Nat.le_antisymm (Nat.le_refl _) (Nat.le_refl _)]
       rfl) es.length turns 0 [some (.bytes (block es)),some (.loc 0),some (.loc 1),none,none] [cur (block es) 7,.list []] (by rw [List.length_range];rfl) (by unfold turns;exact szt hn rfl) ⟨none,none,rfl,rfl⟩
 subst e1 e2
 rw [List.length_range,List.take_length] at hl
 refine aO<|ak (d7 (σ':=[cur (block es) 7,.list []]) (vs:=[.loc 0,.loc 1]) rfl rfl)<|ak (m7 (aJ (bz (gU (x:=.bytes (block es)) (y:=.int 5) (w:=.int 7) rfl rfl rfl (xQ (a:=5) (b:=7) (by decide) (by exact Nat.le_add_left _ _) (by exact eql hm (Nat.le_add_left _ _))))) ?_) hl)<|aX<|aY rfl
 exact Fw (n:=es.length) (by exact szt hn rfl) z2 (d + 3) _
theorem Mr {es:List (Nat×Nat)} (h:sI es) (d:Nat) (σ:Sig):aD (run PR (d + 1)) σ 16 [.bytes (block es)]=.ok (.int 1) σ:=by
 refine bD (v:=.int 1) (σ':=[]) rfl ?_ rfl
 change (exs PR (run PR d) uv.body [some (.bytes (block es))] []).bind bh=_
 have hs:dJ [] (.bytes (block es)) (.int 0)=some (.int 1):=by
   show (if (decide ((0:Int)≤0) && sizeOk (block es).length)=true then _ else _)=_
   rw [aN (by rw [jm h];decide)]
   rfl
 exact aO<|ak (aR (v:=.bool false) (aL (bC (x:=.bytes (block es)) (y:=.int 0) rfl rfl hs) (y:=.tuple [.int 1,.int 2]) rfl rfl) rfl rfl)<|aX<|aY<|bC (x:=.bytes (block es)) (y:=.int 0) rfl rfl hs
end Mine.Law
end
section
open PySem
namespace Mine.Law
noncomputable def kid (R:List Row) (f:Nat) (j:Nat):Option (Nat×Nat):=match R[j]? with
 | some r=>if (decide (0 < j) && r.p == f)=true then some ((r.nm[0]?).getD 0,4 * (j + 1) + r.s) else none
 | none=>none
noncomputable def own (R:List Row) (f:Nat):List (Nat×Nat):=(List.range R.length).filterMap (kid R f)
noncomputable def uh (p:Nat×Nat):List Nat×Int:=([p.1],(p.2:Int))
noncomputable def I9 (p:List Nat×Int):Nat×Nat:=((p.1[0]?).getD 0,p.2.toNat)
noncomputable def dC (l:List (Nat×Nat)):List (Nat×Nat):=(cW (l.map uh)).map I9
structure Good (R:List Row):Prop where
 len:R.length≤9
 root:R[0]?=some ⟨1,0,[],[]⟩
 srt:∀ (k:Nat) (r:Row),R[k]?=some r→r.s≤2
 par:∀ (k:Nat) (r:Row),R[k]?=some r→0 < k→r.p < k
 fold:∀ (k:Nat) (r:Row),R[k]?=some r→∃ q:Row,R[r.p]?=some q∧q.s=1
 nm:∀ (k:Nat) (r:Row),R[k]?=some r→0 < k→∃ c∈abc,r.nm=[c]
 tx:∀ (k:Nat) (r:Row),R[k]?=some r→∃ x:Int,r.tx=dK x 3∨r.tx=[]
 uniq:∀ (j k:Nat) (r q:Row),R[j]?=some r→R[k]?=some q→0 < j→0 < k→r.p=q.p→r.nm=q.nm→j=k
noncomputable def blk (R:List Row) (i:Nat) (r:Row):List Nat:=if r.s=1 then block (dC (own R i)) else if r.tx=[] then [] else r.tx++List.replicate (128 - r.tx.length) 0
noncomputable def dn (r:Row) (kind most:Int):AV:=.inst 4 [(9,.int kind),(10,.int 128),(11,.int most),(12,.bytes (zb r.s r.tx.length (r.p + 1)))]
structure VOk (v:AV) (R:List Row):Prop where
 ex:∃ fs ds os,v=.inst 5 fs∧dM fs 14=some (.dict ds)∧dM fs 0=some (.dict os) ∧
   (∀ (i:Nat) (r:Row),R[i]?=some r→(ds.any (·.1 == ((i + 1:Nat):Int)))=true∧(∃ kind most,dictGet ds ((i + 1:Nat):Int)=some (dn r kind most))∧dictGet os ((i + 1:Nat):Int)=some (.bytes (blk R i r)))
 free:bN v=true
section
variable {v:AV} {R:List Row} {i:Nat} {r:Row}
theorem ul (V:VOk v R) (hr:R[i]?=some r) (d:Nat) (σ:Sig):∃ kind most,run PR (d + 1) 36 [v,.int (i + 1:Nat)] σ=.ok (dn r kind most) σ:=by
 obtain ⟨fs,ds,os,rfl,h1,h2,h3⟩:=V.ex
 obtain ⟨a1,⟨kind,most,a2⟩,a3⟩:=h3 i r hr
 refine ⟨kind,most,?_⟩
 change (exs PR (run PR d) iu.body [some (.inst 5 fs),some (.int (i + 1:Nat))] σ).bind bh=_
 refine aO<|ak (aR (v:=.bool false) (aL (y:=.dict ds) rfl (cR (x:=.inst 5 fs) rfl h1) ?_) rfl rfl)<|aX<|aY<|bC (x:=.dict ds) (y:=.int (i + 1:Nat)) (cR (x:=.inst 5 fs) rfl h1) rfl a2
 show (some (ds.any (·.1 == ((i + 1:Nat):Int)))).map (!·)=some false
 refine re a1 ?_
 rfl
theorem FJ (V:VOk v R) (hr:R[i]?=some r) {many:Nat} (hm:many≤(blk R i r).length) (hl:(blk R i r).length≤1000) (d:Nat) (σ:Sig):run PR (d + 2) 37 [v,.int (i + 1:Nat),.int 0,.int many] σ=.ok (.bytes ((blk R i r).take many)) σ:=by
 refine o20 (ul V hr d σ) fun kind most hd=>?_
 obtain ⟨fs,ds,os,rfl,h1,h2,h3⟩:=V.ex
 refine o02 (h3 i r hr) fun a1 _ a3=>?_
 generalize blk R i r=b at hm hl a3
 change (exs PR (run PR (d + 1)) nR.body [some (.inst 5 fs),some (.int (i + 1:Nat)),some (.int 0),some (.int many),none] σ).bind bh=_
 have ht:(b.take many).length=many:=by refine re List.length_take ?_;exact Nat.min_eq_left hm
 have hsl:slice (.bytes b) (.int 0) (.int (0 + (many:Int)))=some (.bytes (b.take many)):=by
   have:=lJ (o:=b) (a:=0) (m:=many) (by exact za hm) hl
   rw [List.drop_zero] at this
   exact this
 refine aO<|ak (dR (bM (x:=.inst 5 fs) rfl rfl rfl hd))<|ak (aR (v:=.bool false) (σ':=σ) ?_ rfl rfl)<|ak (bc (bH (bz (gU (y:=.int 0) (bC (x:=.dict os) (y:=.int (i + 1:Nat)) (cR (x:=.inst 5 fs) rfl h2) rfl a3) rfl (aQ rfl rfl (jy (aK (by decide)) (aK (by exact szt (Nat.le_trans hm hl) rfl)))) hsl)) rfl))<|aX<|aY <|
   aQ (x:=.bytes (b.take many)) (y:=.bytes []) rfl (bH (bz (aQ (x:=.int many) rfl (bH (vs:=[.bytes (b.take many)]) rfl (len_bytes (by exact szl (eql ht (Nat.le_trans hm hl)) rfl))) (xx (aK (by exact szt (Nat.le_trans hm hl) rfl)) (aK (by exact szt (eql ht (Nat.le_trans hm hl)) rfl))))) ?_) ?_
 · show (Mine.R.of ((cmpop σ .lt (.int many) (.int 0)).map AV.bool) σ)=_
   refine re BV (re (fQ (by exact Int.not_lt_of_ge (Int.natCast_nonneg _))) ?_)
   rfl
 · refine re ht (re (Int.sub_self ..) ?_);rfl
 · refine (if_pos (aN (by simp only [List.length_nil];exact szl (eql ht (Nat.le_trans hm hl)) rfl))).trans ?_
   exact re (List.append_nil ..) rfl
theorem xR (V:VOk v R) (x:AV) (h:bN x=true):bR [v,x]=true:=by
 show (bN v && (bN x && true))=true
 refine re V.free (re h ?_);rfl
theorem jP (V:VOk v R) (x y:AV) (h:bN x=true) (h2:bN y=true):bR [v,x,y]=true:=by
 show (bN v && (bN x && (bN y && true)))=true
 refine re V.free (re h (re h2 ?_));rfl
theorem zA (V:VOk v R) (x y z:AV) (h:bN x=true) (h2:bN y=true) (h3:bN z=true):bR [v,x,y,z]=true:=by
 show (bN v && (bN x && (bN y && (bN z && true))))=true
 refine re V.free (re h (re h2 (re h3 ?_)));rfl
theorem Ja (l:List (List Nat)) (h:∀ w∈l,w.length≤2):(l.map List.length).sum≤2 * l.length:=by
 induction l with
 | nil=>exact Nat.le_refl 0
 | cons w r ih =>
   have:=h w List.mem_cons_self
   have:=ih fun w hw=>h w (List.mem_cons_of_mem _ hw)
   simp only [List.map_cons,List.sum_cons,List.length_cons]
   lia
theorem qK (x:Int) {most:Nat} (h:0 < most) (h5:most≤5):(dK x most).length≤13:=by
 refine o11 (dG (x.fdiv 2) h) fun n hn en=>?_
 have e2:(bI x most).length≤4:=by
   unfold bI
   refine re (jz ..) (re en (re (Int.toNat_natCast ..) ?_))
   exact Nat.le_of_lt_succ (Nat.le_trans hn h5)
 have e3:((bI x most).map List.length).sum≤2 * (bI x most).length:=by
   unfold bI
   refine re (jz ..) ?_
   exact uY _ _
 have:=m6 [47] (bI x most)
 simp only [List.length_cons,List.length_nil] at this
 unfold dK
 refine re List.length_append ?_
 split<;>simp only [List.length_cons,List.length_nil]<;>lia
theorem Good.tl (G:Good R) (hr:R[i]?=some r):r.tx.length≤13:=by
 obtain ⟨x,h | h⟩:=G.tx i r hr
 · refine re h ?_;exact qK x (by decide) (by decide)
 · refine re h ?_;decide
theorem Good.lt (G:Good R) (hr:R[i]?=some r):i < 9:=Nat.lt_of_lt_of_le (List.getElem?_eq_some_iff.mp hr).1 G.len
theorem Good.pl (G:Good R) (hr:R[i]?=some r):r.p < 9:=by
 refine o11 (G.fold i r hr) fun q hq _=>?_
 exact G.lt hq
theorem jJ (G:Good R) (V:VOk v R) (hr:R[i]?=some r) (d:Nat) (σ:Sig):aD (run PR (d + 5)) σ 24 [v,.int (i + 1:Nat)]=.ok (zn r.s r.tx.length (r.p + 1)) σ:=by
 refine o20 (ul V hr (d + 3) []) fun kind most hd=>?_
 have:=G.tl hr
 have:=G.srt i r hr
 have:=G.pl hr
 refine bD (v:=zn r.s r.tx.length (r.p + 1)) (σ':=[]) (xR V _ rfl) ?_ rfl
 obtain ⟨fs,ds,os,rfl,_⟩:=V.ex
 change (exs PR (run PR (d + 4)) n6.body [some (.inst 5 fs),some (.int (i + 1:Nat))] []).bind bh=_
 exact aO<|aX<|aY<|aJ (bz (cR (bM (x:=.inst 5 fs) rfl rfl rfl hd) rfl)) (I8 (by lia) (by lia) (by exact szt this rfl) d [])
theorem p7 (G:Good R) (V:VOk v R) (hr:R[i]?=some r) {path:List Nat} (hp:path.length≤100) (d:Nat) (σ:Sig):aD (run PR (d + 6)) σ 27 [v,.int (i + 1:Nat),.str path]=if r.s=1 then .ok .none σ else .err 0 σ:=by
 have hl:=jJ G V hr d []
 have ht:ev PR (run PR (d + 5)) [some v,some (.int (i + 1:Nat)),some (.str path)] (.cmp (.attr (.call 24 [(.v 0),(.v 1)]) 2) [.ne] [(.g (Str.ofString "FOLDER_SORT") 1)]) []=.ok (.bool (!((r.s:Int) == 1))) []:=aL (x:=.int r.s) (cR (x:=zn r.s r.tx.length (r.p + 1)) (aJ rfl hl) rfl) rfl ne_int
 by_cases q:r.s=1
 · refine re (if_pos q) ?_
   refine bD (v:=.none) (σ':=[]) (jP V _ _ rfl rfl) ?_ rfl
   change (exs PR (run PR (d + 5)) jo.body [some v,some (.int (i + 1:Nat)),some (.str path)] []).bind bh=_
   refine iI<|ak (aR ht (q:=false) ?_ rfl) rfl
   refine re q ?_;rfl
 · refine re (if_neg q) ?_
   refine j9 (σ':=[]) (jP V _ _ rfl rfl) ?_
   change (exs PR (run PR (d + 5)) jo.body [some v,some (.int (i + 1:Nat)),some (.str path)] []).bind bh=_
   refine lY<|iJ (aR ht (q:=true) ?_ (iJ (vD (aQ rfl rfl (add_str ?_)))))
   · refine re (show ((r.s:Int) == 1)=false from beq_eq_false_iff_ne.mpr (by lia)) ?_
     rfl
   · show 22 + path.length≤_
     exact szl (Nat.add_le_add (Nat.le_refl _) hp) rfl
end
end Mine.Law
end
section
open PySem
namespace Mine.Law
noncomputable def sOf (R:List Row) (k:Nat):Nat:=((R[k]?).map (·.s)).getD 0
noncomputable def pOf (R:List Row) (k:Nat):Nat:=((R[k]?).map (·.p)).getD 0
noncomputable def tOf (R:List Row) (k:Nat):List Nat:=((R[k]?).map (·.tx)).getD []
theorem lK (R:List Row) (f:Nat) (nm:List Nat):children R f nm=(List.range R.length).filter fun j=>((R[j]?).map (pI f nm j)).getD false:=by
 unfold children
 exact re (gm ..) (re (List.map_id' ..) rfl)
theorem FN {α:Type} {l:List α} (h:l.Nodup) (e:∀ x∈l,∀ y∈l,x=y):l.length≤1:=by
 match l,h,e with
 | [],_,_=>exact Nat.zero_le 1
 | [_],_,_=>exact Nat.le_refl 1
 | a :: b :: t,h,e =>
   have q:=e a List.mem_cons_self b (List.mem_cons_of_mem _ List.mem_cons_self)
   subst q
   exact absurd List.mem_cons_self (List.nodup_cons.mp h).1
theorem xT {α β:Type} {f g:α→Option β}:∀ {l:List α},(∀ x∈l,f x=g x)→l.filterMap f=l.filterMap g
 | [],_=>rfl
 | x :: l,h=>by exact re List.filterMap_cons (re List.filterMap_cons (re (h x List.mem_cons_self) (re (xT fun y hy=>h y (List.mem_cons_of_mem _ hy)) rfl)))
theorem Cd {α:Type} {l m:List α} (h:l.Perm m) (h1:m.length≤1):l=m:=by
 match m,h1,h with
 | [],_,h=>exact List.perm_nil.mp h
 | [a],_,h=>exact List.perm_singleton.mp h
theorem gG {R:List Row} {f j:Nat} {nm:List Nat}:j∈children R f nm↔∃ r,R[j]?=some r∧0 < j∧r.p=f∧r.nm=nm:=by
 refine re (lK ..) ?_;rewrite [List.mem_filter,List.mem_range]
 constructor
 · intro ⟨h1,h2⟩
   rw [List.getElem?_eq_getElem h1] at h2
   have h2:(decide (0 < j) && ((R[j]).p == f && (R[j]).nm == nm))=true:=h2
   rw [Bool.and_eq_true,Bool.and_eq_true,decide_eq_true_eq,beq_iff_eq,beq_iff_eq] at h2
   exact ⟨_,List.getElem?_eq_getElem h1,h2⟩
 · intro ⟨r,h1,h2,h3,h4⟩
   refine ⟨(List.getElem?_eq_some_iff.mp h1).1,?_⟩
   refine re h1 ?_
   show (decide (0 < j) && (r.p == f && r.nm == nm))=true
   refine re (Bool.and_eq_true ..) (re (Bool.and_eq_true ..) (re decide_eq_true_eq ?_));rewrite [beq_iff_eq,beq_iff_eq]
   exact ⟨h2,h3,h4⟩
section
variable {R:List Row} (G:Good R)
include G
theorem Good.one (f:Nat) (nm:List Nat):(children R f nm).length≤1:=by
 refine FN (by refine re (lK ..) ?_;exact List.Nodup.sublist List.filter_sublist List.nodup_range) fun x hx y hy=>?_
 refine o13 (gG.mp hx) fun r a1 a2 a3 a4=>?_
 refine o13 (gG.mp hy) fun q b1 b2 b3 b4=>?_
 exact G.uniq x y r q a1 b1 a2 b2 (a3.trans b3.symm) (a4.trans b4.symm)
theorem Good.own_c (f c:Nat):(own R f).filter (·.1 == c)=(children R f [c]).map fun k=>(c,4 * (k + 1) + sOf R k):=by
 unfold own
 refine re (lK ..) (re List.filter_filterMap (rf List.filterMap_eq_map (re List.filterMap_filter ?_)))
 refine xT fun j hj=>?_
 rw [List.mem_range] at hj
 obtain ⟨r,hr⟩:∃ r,R[j]?=some r:=⟨_,List.getElem?_eq_getElem hj⟩
 have e1:sOf R j=r.s:=by unfold sOf;refine re hr ?_;rfl
 have e2:kid R f j=if (decide (0 < j) && r.p == f)=true then some ((r.nm[0]?).getD 0,4 * (j + 1) + r.s) else none:=by unfold kid;exact re hr rfl
 refine re e2 (re hr ?_)
 show _=if (decide (0 < j) && (r.p == f && r.nm == [c]))=true then some (c,4 * (j + 1) + sOf R j) else none
 refine re e1 ?_
 by_cases q:0 < j
 · refine o11 (G.nm j r hr q) fun c' _ e=>?_
   refine re e (re (decide_eq_true q) (re (Bool.true_and ..) (re (Bool.true_and ..) ?_)))
   by_cases q2:r.p=f
   · refine re (beq_iff_eq.mpr q2) (re (if_pos rfl) (re (Bool.true_and ..) ?_))
     show (if (c' == c)=true then some (c',_) else none)=_
     by_cases q3:c'=c
     · subst q3;simp
     · exact re (if_neg (by simpa using q3)) (re (if_neg (by simpa using q3)) rfl)
   · refine re (beq_eq_false_iff_ne.mpr q2) ?_;rfl
 · refine re (decide_eq_false q) ?_;rfl
theorem Good.own_mem {f:Nat} {p:Nat×Nat} (h:p∈own R f):p.1∈abc∧p.2 < 40:=by
 refine o11 (List.mem_filterMap.mp h) fun j hj e=>?_
 rw [List.mem_range] at hj
 have hr:R[j]?=some R[j]:=List.getElem?_eq_getElem hj
 have e:(if (decide (0 < j) && (R[j]).p == f)=true then some (((R[j]).nm[0]?).getD 0,4 * (j + 1) + (R[j]).s) else none)=some p:=by
   refine rf e ?_
   unfold kid
   exact re hr rfl
 by_cases q:(decide (0 < j) && (R[j]).p == f)=true
 · rw [if_pos q] at e
   cases e
   refine o11 (G.nm j _ hr (of_decide_eq_true (Bool.and_eq_true_iff.mp q).1)) fun c hc e=>?_
   refine re e ?_
   refine ⟨hc,?_⟩
   have:=G.lt hr
   have:=G.srt j _ hr
   lia
 · rw [if_neg q] at e;cases e
end
theorem Jb (l:List (Nat×Nat)) (h:∀ p∈l,p.1∈abc):l.length=(l.filter (·.1 == 97)).length + (l.filter (·.1 == 98)).length + (l.filter (·.1 == 99)).length:=by
 induction l with
 | nil=>rfl
 | cons p r ih =>
   have ih:=ih fun q hq=>h q (List.mem_cons_of_mem _ hq)
   have hp:=h p List.mem_cons_self
   refine re List.filter_cons (re List.filter_cons (re List.filter_cons ?_))
   have:p.1=97∨p.1=98∨p.1=99:=by simpa [abc] using hp
   rcases this with e | e | e<;>refine re e (re List.length_cons (re ih ?_))<;>simp<;>lia
theorem Jc (l:List (Nat×Nat)) (h:∀ c,(l.filter (·.1 == c)).length≤1):(l.map fun p=>[p.1]).Nodup:=by
 induction l with
 | nil=>exact List.nodup_nil
 | cons p r ih =>
   refine List.nodup_cons.mpr ⟨fun m=>?_,ih fun c=>?_⟩
   · refine o11 (List.mem_map.mp m) fun q hq e=>?_
     have:=h p.1
     rw [List.filter_cons,if_pos (by simp),List.length_cons] at this
     have hm:q∈r.filter (·.1 == p.1):=List.mem_filter.mpr ⟨hq,by simpa using e⟩
     have:=List.length_pos_of_mem hm
     omega
   · have:=h c
     rw [List.filter_cons] at this
     split at this
     · rw [List.length_cons] at this;exact Nat.le_of_lt this
     · exact this
theorem Jd (p:List Nat×Int) (l:List (List Nat×Int)):(du p l).Perm (p :: l):=by
 induction l with
 | nil=>exact List.Perm.refl _
 | cons q r ih =>
   unfold du
   split
   · exact List.Perm.refl _
   · exact (List.Perm.cons q ih).trans (List.Perm.swap p q r)
theorem u5 (l:List (List Nat×Int)):(cW l).Perm l:=by
 have:∀ (l acc:List (List Nat×Int)),(l.foldl (fun acc p=>du p acc) acc).Perm (l++acc):=by
   intro l
   induction l with
   | nil=>intro acc;exact List.Perm.refl _
   | cons p r ih =>
     intro acc
     exact (ih (du p acc)).trans ((List.Perm.append_left r (Jd p acc)).trans List.perm_middle)
 have:=this l []
 rwa [List.append_nil] at this
theorem kh (l:List (Nat×Nat)):(dC l).Perm l:=by
 have:=(u5 (l.map uh)).map I9
 rw [List.map_map,show I9∘uh=id from rfl,List.map_id] at this
 exact this
theorem yM (l:List (Nat×Nat)):(dC l).map uh=cW (l.map uh):=by
 unfold dC
 refine re List.map_map ?_
 refine (List.map_congr_left fun p hp=>?_).trans (List.map_id _)
 obtain ⟨q,_,rfl⟩:=List.mem_map.mp ((u5 _).mem_iff.mp hp)
 rfl
section
variable {R:List Row} (G:Good R)
include G
theorem Good.sorted_c (f c:Nat):(dC (own R f)).filter (·.1 == c)=(children R f [c]).map fun k=>(c,4 * (k + 1) + sOf R k):=by
 refine Cd (((kh _).filter _).trans (by rw [G.own_c f c])) ?_
 rw [List.length_map]
 exact G.one f [c]
theorem Good.own_1 (f c:Nat):((own R f).filter (·.1 == c)).length≤1:=by
 rw [G.own_c,List.length_map]
 exact G.one f [c]
theorem Good.own_3 (f:Nat):(own R f).length≤3:=by
 have:=Jb (own R f) fun p hp=>(G.own_mem hp).1
 have:=G.own_1 f 97
 have:=G.own_1 f 98
 have:=G.own_1 f 99
 lia
theorem Good.ents (f:Nat):sI (dC (own R f)):=⟨by refine re ((kh _).length_eq) ?_;exact G.own_3 f,fun p hp=>G.own_mem ((kh _).mem_iff.mp hp)⟩
end
end Mine.Law
end
section
open PySem
namespace Mine.Law
section
variable {v:AV} {R:List Row} {i:Nat} {r:Row}
theorem qL (hs:r.s=1):blk R i r=block (dC (own R i)):=if_pos hs
theorem yN (G:Good R) (V:VOk v R) (hr:R[i]?=some r) (hs:r.s=1) (d:Nat) (σ:Sig):aD (run PR (d + 3)) σ 17 [v,.int (i + 1:Nat)]=.ok (.bytes (block (dC (own R i)))) σ:=by
 obtain ⟨kind,most,hd⟩:=ul V hr (d + 1) []
 have hb:=jm (G.ents i)
 have hrd:=FJ V hr (many:=128) (by refine re (qL hs) (re hb ?_);decide) (by refine re (qL hs) (re hb ?_);decide) d []
 rw [qL hs,List.take_of_length_le (by refine re hb ?_;decide)] at hrd
 refine bD (v:=.bytes (block (dC (own R i)))) (σ':=[]) (xR V _ rfl) ?_ rfl
 obtain ⟨fs,ds,os,rfl,_⟩:=V.ex
 change (exs PR (run PR (d + 2)) nP.body [some (.inst 5 fs),some (.int (i + 1:Nat))] []).bind bh=_
 exact aO<|aX<|aY<|bM (x:=.inst 5 fs) rfl rfl (aP rfl (aP rfl (bz (cR (z:=.int 128) (bM (x:=.inst 5 fs) rfl rfl rfl hd) rfl)))) hrd
theorem Je (G:Good R) (V:VOk v R) (hr:R[i]?=some r) (hs:r.s=1) (c d:Nat) (σ:Sig):aD (run PR (d + 6)) σ 18 [v,.int (i + 1:Nat),.str [c]]=.ok (o6 (fun k=>.int (4 * (k + 1) + sOf R k:Nat)) (children R i [c])) σ:=by
 have E:=G.ents i
 have h1:=G.one i [c]
 refine bD (v:=o6 (fun k=>.int (4 * (k + 1) + sOf R k:Nat)) (children R i [c])) (σ':=[]) (jP V _ _ rfl rfl) ?_ (by cases children R i [c]<;>rfl)
 change (exs PR (run PR (d + 5)) qT.body [some v,some (.int (i + 1:Nat)),some (.str [c]),none,none,none,none,none] []).bind bh=_
 refine aO<|ak (bc (aJ rfl (yN G V hr hs (d + 2) [])))<|aX<|aR (v:=.bool true) (aL (aJ rfl (Mr E (d + 4) [])) rfl rfl) rfl <|
   ak (bc (v:=.list ((children R i [c]).map fun k=>.int (4 * (k + 1) + sOf R k:Nat))) (σ':=[]) ?_)<|aX<|aY<|xH (x:=4) (fun _=>rfl) (by exact szl h1 rfl) rfl
 refine (mj (xs:=dC (own R i)) (e:=cP) (b:=fun p=>p.1 == c) (y:=fun p=>.int p.2) (aJ rfl (Ca E d [])) (by have:=E.1;exact szt this rfl) fun p hp=>⟨[some (.str [p.1]),some (.int p.2),some (.str [c])],rfl,?_,fun _=>rfl⟩).trans ?_
 · show (Mine.R.ok (AV.bool ([p.1] == [c])) []).bind _=_
   refine re (show ([p.1] == [c])=(p.1 == c) by simp) ?_
   cases p.1 == c<;>rfl
 · refine re (gm ..) (re (G.sorted_c i c) (re List.map_map ?_))
   rfl
noncomputable def gW (R:List Row) (k:Nat):AV:=.tuple [.int (k + 1:Nat),.int (sOf R k)]
theorem Ms (G:Good R) (V:VOk v R) (hr:R[i]?=some r) (hs:r.s=1) {c:Nat} (hc:c∈abc) (d:Nat) (σ:Sig):aD (run PR (d + 7)) σ 20 [v,.int (i + 1:Nat),.str [c]]=.ok (o6 (gW R) (children R i [c])) σ:=by
 refine bD (v:=o6 (gW R) (children R i [c])) (σ':=[]) (jP V _ _ rfl rfl) ?_ (by cases children R i [c]<;>rfl)
 change (exs PR (run PR (d + 6)) uw.body [some v,some (.int (i + 1:Nat)),some (.str [c]),none] []).bind bh=_
 refine aO<|ak (bc (dU (v:=.bool true) (aJ rfl (BX hc (d + 5) [])) rfl (aJ rfl (Je G V hr hs c d []))))<|aX<|aY ?_
 have hm:∀ k∈children R i [c],sOf R k≤2:=fun k hk=>by
   refine o11 (gG.mp hk) fun q hq _=>?_
   unfold sOf
   refine re hq ?_
   exact G.srt k q hq
 generalize children R i [c]=l at hm
 cases l with
 | nil=>rfl
 | cons k l =>
   have:=hm k List.mem_cons_self
   refine dU (v:=.bool false) (aL (x:=.int (4 * (k + 1) + sOf R k:Nat)) (y:=.none) rfl rfl rfl) rfl (eO (aP (aQ (x:=.int (4 * (k + 1) + sOf R k:Nat)) (y:=.int 4) (z:=.int (k + 1:Nat)) rfl rfl ?_) (bz (aQ (x:=.int (4 * (k + 1) + sOf R k:Nat)) (y:=.int 4) (z:=.int (sOf R k)) rfl rfl ?_))))
   · refine re (o4 (by decide) (by decide)) (re (Int.fdiv_eq_ediv_of_nonneg _ (by decide)) ?_)
     congr 2;exact dv4 this
   · refine re (bmod (by decide) (by decide)) (re (Int.fmod_eq_emod_of_nonneg _ (by decide)) ?_)
     congr 2;exact md4 this
theorem Ce (x:Int) {most:Nat} (h:0 < most):∀ c∈dK x most,c < 128:=by
 have ht:∀ (y:Int) (n:Nat),∀ w∈partsFrom y n,∀ c∈w,c < 128:=by
   intro y n
   induction n generalizing y with
   | zero=>intro w hw;cases hw
   | succ n ih =>
     intro w hw
     rcases List.mem_cons.mp hw with e | e
     · subst e
       have hall:∀ w∈toks,∀ c∈w,c < 128:=by decide
       unfold tokOf
       refine o11 (dG y (m:=8) (by decide)) fun k hk e=>?_
       have hk':k < toks.length:=hk
       refine re (show y.fmod 8=k from e) ?_
       show ∀ c∈(toks[k]?).getD [],c < 128
       refine re (List.getElem?_eq_getElem hk') ?_
       exact hall _ (List.getElem_mem hk')
     · exact ih _ w e
 have hj:∀ ws:List (List Nat),(∀ w∈ws,∀ c∈w,c < 128)→∀ c∈aW [47] ws,c < 128:=by
   intro ws
   induction ws with
   | nil=>intro _ c hc;cases hc
   | cons w ws ih =>
     intro h c hc
     cases ws with
     | nil=>exact h w List.mem_cons_self c hc
     | cons y r =>
       rcases List.mem_append.mp hc with hc | hc
       · rcases List.mem_append.mp hc with hc | hc
         · exact h w List.mem_cons_self c hc
         · refine re (List.mem_singleton.mp hc) ?_;decide
       · exact ih (fun u hu=>h u (List.mem_cons_of_mem _ hu)) c hc
 intro c hc
 rcases List.mem_append.mp hc with hc | hc
 · split at hc
   · refine re (List.mem_singleton.mp hc) ?_;decide
   · cases hc
 · exact hj _ (ht _ _) c hc
theorem Good.ts (G:Good R) (hr:R[i]?=some r):∀ c∈r.tx,c < 128:=by
 obtain ⟨x,h | h⟩:=G.tx i r hr
 · refine re h ?_;exact Ce x (by decide)
 · refine re h ?_;intro c hc;cases hc
theorem join_list {σ:Sig} {ws:List (List Nat)} {sep:List Nat} (hz:(ws.map List.length).sum + ws.length * sep.length≤1048576):dW σ .join (.str sep) [.list (ws.map .str)]=.ok (.str (aW sep ws)) σ:=by
 show (match (some (ws.map AV.str)).bind strs? with | some ws=>(if sizeOk ((ws.map List.length).sum + ws.length * sep.length)=true then R.ok (AV.str (aW sep ws)) σ else .stuck) | none=>.stuck)=_
 refine re (Option.bind_some ..) (re (strs_map ..) ?_)
 exact if_pos (aN hz)
theorem join_ones (b:List Nat):aW [] (b.map fun c=>[c])=b:=by
 induction b with
 | nil=>rfl
 | cons c r ih =>
   cases r with
   | nil=>rfl
   | cons e r =>
     show [c]++[]++aW [] ((e :: r).map fun c=>[c])=_
     refine re ih ?_;rfl
theorem Jf (b:List Nat):((b.map fun c=>[c]).map List.length).sum=b.length:=by
 induction b with
 | nil=>rfl
 | cons c r ih =>
   simp only [List.map_cons,List.sum_cons,List.length_cons,List.length_nil] at ih ⊢
   lia
theorem p8 (G:Good R) (V:VOk v R) (hr:R[i]?=some r) (hs:r.s≠1) (d:Nat) (σ:Sig):aD (run PR (d + 6)) σ 26 [v,.int (i + 1:Nat)]=.ok (.str r.tx) σ:=by
 have tl:=G.tl hr
 have ts:=G.ts hr
 have hb:blk R i r=if r.tx=[] then [] else r.tx++List.replicate (128 - r.tx.length) 0:=if_neg hs
 have hbl:r.tx.length≤(blk R i r).length∧(blk R i r).length≤128∧(blk R i r).take r.tx.length=r.tx:=by
   rw [hb]
   split
   · rename_i q;rw [q];decide
   · refine ⟨?_,?_,List.take_left' rfl⟩<;>rw [List.length_append,List.length_replicate]<;>lia
 have hrd:=FJ V hr (many:=r.tx.length) hbl.1 (by lia) (d + 3) []
 rw [hbl.2.2] at hrd
 have hz:=jJ G V hr d []
 refine bD (v:=.str r.tx) (σ':=[]) (xR V _ rfl) ?_ rfl
 obtain ⟨fs,ds,os,rfl,_⟩:=V.ex
 generalize r.tx=tx at tl ts hrd hz
 change (exs PR (run PR (d + 5)) nQ.body [some (.inst 5 fs),some (.int (i + 1:Nat)),none] []).bind bh=_
 refine aO<|ak (bc (bM (x:=.inst 5 fs) rfl rfl (aP rfl (aP rfl (bz (cR (z:=.int tx.length) (aJ rfl hz) rfl)))) hrd))<|aX<|aY<|j8 (x:=.str []) (vs:=[.list ((tx.map fun c=>[c]).map .str)]) rfl rfl (bz ?_) ((join_list ?_).trans (by rw [join_ones]))
 · rw [iK (n:=tx.length) (b:=fun _=>true) (y:=fun j=>.str [(tx[j]?).getD 0]) (src:=.bytes tx) rfl (by exact szt tl rfl) ?_ fun j hj=>?_]
   · rw [jF (xs:=tx) (g:=fun c=>[.str [c]]) fun i x e=>by rw [e];rfl,List.map_map,← List.flatMap_singleton' (l:=tx.map _),List.flatMap_map]
     rfl
   · show (if sizeOk (tx.map _).length=true then _ else _)=_
     rw [List.length_map,if_pos (aN (by exact szl tl rfl)),List.getElem?_map,List.getElem?_eq_none (Nat.le_refl _)]
     rfl
   · refine ⟨.int (tx[j]:Nat),[some (.int (tx[j]:Nat))],?_,rfl,rfl,fun _=>?_⟩
     · show (if sizeOk (tx.map _).length=true then _ else _)=_
       rw [List.length_map,if_pos (aN (by exact szl tl rfl)),List.getElem?_map,List.getElem?_eq_getElem hj]
       rfl
     · refine bH (vs:=[.int (tx[j]:Nat)]) rfl ?_
       have:=ts _ (List.getElem_mem hj)
       show (if (decide ((0:Int)≤(tx[j]:Nat)) && decide (((tx[j]:Nat):Int) < 128))=true then _ else _)=_
       rw [if_pos (by rw [Bool.and_eq_true,decide_eq_true_eq,decide_eq_true_eq];exact And.intro (Int.natCast_nonneg _) (ile this)),List.getElem?_eq_getElem hj]
       rfl
 · rw [Jf]
   simp only [List.length_map,List.length_nil]
   exact szl tl rfl
end
end Mine.Law
end
section
open PySem
namespace Mine.Law
theorem Jg (s:List Nat):splitOn 47 s≠[]:=by
 cases s with
 | nil=>exact List.cons_ne_nil _ _
 | cons c r =>
   unfold splitOn
   split
   · exact List.cons_ne_nil _ _
   · split<;>exact List.cons_ne_nil _ _
theorem sJ (c:Nat) (r:List Nat):splitOn 47 (c :: r)=if c=47 then [] :: splitOn 47 r else match splitOn 47 r with | w :: ws=>(c :: w) :: ws | []=>[[c]]:=rfl
theorem FP (a b:List Nat):splitOn 47 (a++47 :: b)=splitOn 47 a++splitOn 47 b:=by
 induction a with
 | nil=>rfl
 | cons c r ih =>
   show splitOn 47 (c :: (r++47 :: b))=_
   refine re (sJ ..) (re (sJ ..) (re ih ?_))
   by_cases h:c=47
   · refine re (if_pos h) (re (if_pos h) ?_);rfl
   · refine re (if_neg h) (re (if_neg h) ?_)
     cases e:splitOn 47 r with
     | nil=>exact absurd e (Jg r)
     | cons w ws=>rfl
theorem o8 (a b:List Nat):partsOf (a++47 :: b)=partsOf a++partsOf b:=by
 unfold partsOf
 exact re (FP ..) (re (List.filter_append ..) rfl)
theorem m9:∀ ws:List (List Nat),partsOf (aW [47] ws)=ws.flatMap partsOf
 | []=>rfl
 | [x]=>by refine re List.flatMap_cons (re List.flatMap_nil (re (List.append_nil ..) ?_));rfl
 | x :: y :: r=>by
   show partsOf (x++[47]++aW [47] (y :: r))=_
   refine re (List.append_assoc ..) (re List.singleton_append (re (o8 ..) (re (m9 (y :: r)) ?_)))
   rfl
noncomputable def names:List (List Nat):=[[97],[98],[99],[46,46],[46]]
theorem FQ:∀ w∈toks,(partsOf w).length≤1∧∀ p∈partsOf w,p∈names:=by decide
theorem sO:∀ w∈names,partsOf w=[w]∧w.length≤2:=by decide
theorem Mt {w:List Nat} (h:w∈names):w=[46]∨w=[46,46]∨w≠[46]∧w≠[46,46]∧∃ c∈abc,w=[c]:=by
 have:∀ w∈names,w=[46]∨w=[46,46]∨w≠[46]∧w≠[46,46]∧∃ c∈abc,w=[c]:=by decide
 exact this w h
theorem Mu (y:Int):tokOf y∈toks:=by
 refine o11 (dG y (m:=8) (by decide)) fun k hk e=>?_
 have hk':k < toks.length:=hk
 unfold tokOf
 refine re (show y.fmod 8=k from e) ?_
 show (toks[k]?).getD []∈toks
 refine re (List.getElem?_eq_getElem hk') ?_
 exact List.getElem_mem hk'
theorem Cg (y:Int) (n:Nat):((partsFrom y n).flatMap partsOf).length≤n∧∀ p∈(partsFrom y n).flatMap partsOf,p∈names:=by
 induction n generalizing y with
 | zero=>exact ⟨Nat.le_refl 0,fun p h=>nomatch h⟩
 | succ n ih =>
   have h1:=FQ _ (Mu y)
   have h2:=ih (y.fdiv 8)
   show ((tokOf y :: partsFrom (y.fdiv 8) n).flatMap partsOf).length≤_∧_
   refine re List.flatMap_cons (re List.length_append ?_)
   refine ⟨by omega,fun p hp=>?_⟩
   rcases List.mem_append.mp hp with h | h
   · exact h1.2 p h
   · exact h2.2 p h
theorem ni (x:Int) {most:Nat} (h:0 < most):(partsOf (dK x most)).length < most∧∀ p∈partsOf (dK x most),p∈names:=by
 refine o11 (dG (x.fdiv 2) h) fun n hn en=>?_
 have e:partsOf (dK x most)=(partsFrom ((x.fdiv 2).fdiv most) n).flatMap partsOf:=by
   have e2:partsOf (aW [47] (bI x most))=(partsFrom ((x.fdiv 2).fdiv most) n).flatMap partsOf:=by
     refine re (m9 ..) ?_
     unfold bI
     refine re en ?_
     rfl
   unfold dK
   split
   · refine re List.singleton_append ?_
     exact (o8 [] _).trans e2
   · exact e2
 refine re e ?_
 have:=Cg ((x.fdiv 2).fdiv most) n
 exact ⟨by exact Nat.lt_of_le_of_lt this.1 hn,this.2⟩
theorem gY {ws:List (List Nat)} (h:∀ w∈ws,w∈names):partsOf (aW [47] ws)=ws:=by
 refine re (m9 ..) ?_
 induction ws with
 | nil=>rfl
 | cons w r ih=>refine re List.flatMap_cons (re ((sO w (h w List.mem_cons_self)).1) (re (ih fun u hu=>h u (List.mem_cons_of_mem _ hu)) ?_));rfl
set_option genCtorIdx true in
inductive Res where
 | found (k:Nat)
 | bad (e:Nat)
set_option genCtorIdx true in
inductive St where
 | stop (e:Nat)
 | go (h:Nat)
 | link (c:Nat)
noncomputable def choose (R:List Row) (q:Bool):List Nat→St
 | []=>.stop 1
 | c :: _=>if (sOf R c == 2 && q)=true then .link c else .go c
noncomputable def stp (R:List Row) (here:Nat) (part:List Nat) (q:Bool):St :=
 if sOf R here=1 then (if part=[46,46] then .go (pOf R here) else if part=[46] then .go here else choose R q (children R here part)) else .stop 0
noncomputable def bu (here:Nat) (path:List Nat):Nat:=if jH path then 0 else here
noncomputable def after (k:Nat→Nat→Res×Nat):Res×Nat→Res×Nat
 | (.found h,m)=>k h m
 | (.bad e,m)=>(.bad e,m)
noncomputable def dH (inner:Nat→Nat→Nat→Res×Nat) (here many:Nat) (k:Nat→Nat→Res×Nat):St→Res×Nat
 | .stop e=>(.bad e,many)
 | .go h=>k h many
 | .link c=>if 8≤many then (.bad 2,many + 1) else after k (inner here c (many + 1))
noncomputable def bJ (R:List Row) (inner:Nat→Nat→Nat→Res×Nat) (fo:Bool):List (List Nat)→Nat→Nat→Res×Nat
 | [],here,many=>(.found here,many)
 | part :: rest,here,many=>dH inner here many (bJ R inner fo rest) (stp R here part (fo || !rest.isEmpty))
noncomputable def dh (R:List Row):Nat→Nat→Nat→Nat→Res×Nat
 | 0,_,_,many=>(.bad 2,many)
 | D + 1,here,c,many=>bJ R (dh R D) true (partsOf (tOf R c)) (bu here (tOf R c)) many
noncomputable def Ci (R:List Row) (k:List (List Nat)→Nat→Nat→Option Res) (rest:List (List Nat)) (here many:Nat):St→Option Res
 | .stop e=>some (.bad e)
 | .go h=>k rest h many
 | .link c=>if 8≤many then some (.bad 2) else k (partsOf (tOf R c)++rest) (bu here (tOf R c)) (many + 1)
noncomputable def iZ (R:List Row) (fo:Bool):Nat→List (List Nat)→Nat→Nat→Option Res
 | 0,_,_,_=>none
 | n + 1,[],here,_=>some (.found here)
 | n + 1,name :: rest,here,many=>Ci R (iZ R fo n) rest here many (stp R here name (fo || !rest.isEmpty))
noncomputable def Cj (R:List Row) (fo:Bool) (n:Nat) (todo:List (List Nat)):Res×Nat→Option Res
 | (.found h,m)=>iZ R fo n todo h m
 | (.bad e,_)=>some (.bad e)
theorem yO {R:List Row} {q:Bool} {l:List Nat} {c:Nat} (h:choose R q l=.link c):q=true∧sOf R c=2∧c∈l:=by
 cases l with
 | nil=>cases h
 | cons a r =>
   change (if (sOf R a == 2 && q)=true then St.link a else St.go a)=St.link c at h
   by_cases b:(sOf R a == 2 && q)=true
   · rw [if_pos b] at h
     cases h
     rw [Bool.and_eq_true,beq_iff_eq] at b
     exact ⟨b.2,b.1,List.mem_cons_self⟩
   · rw [if_neg b] at h;cases h
theorem xU {R:List Row} {here c:Nat} {part:List Nat} {q:Bool} (h:stp R here part q=.link c):q=true∧sOf R c=2∧c∈children R here part:=by
 unfold stp at h
 split at h
 · split at h
   · cases h
   · split at h
     · cases h
     · exact yO h
 · cases h
structure Along (R:List Row) (fo':Bool) (parts todo:List (List Nat)) (here many:Nat) (x:Res×Nat):Prop where
 ge:many≤x.2
 le:x.2≤9
 fd:∀ h,x.1=.found h→x.2≤8
 go:∃ j,j≤parts.length + 2 * (x.2 - many)∧∀ n,iZ R fo' (n + 1 + j) (parts++todo) here many=Cj R fo' (n + 1) todo x
theorem xV {R:List Row} (hR:∀ c,(partsOf (tOf R c)).length≤2) {fo':Bool} {inner:Nat→Nat→Nat→Res×Nat} {D:Nat} {fo:Bool} {todo:List (List Nat)} (hf:fo=(fo' || !todo.isEmpty))
   (H:∀ todo here c many,true=(fo' || !todo.isEmpty)→8≤many + D→¬ 8≤many→Along R fo' (partsOf (tOf R c)) todo (bu here (tOf R c)) (many + 1) (inner here c (many + 1))) :
   ∀ parts here many,8≤many + D→many≤8→Along R fo' parts todo here many (bJ R inner fo parts here many):=by
 intro parts
 induction parts with
 | nil=>exact fun here many hD hm=>⟨Nat.le_refl _,Nat.le_succ_of_le hm,fun _ _=>hm,0,Nat.zero_le _,fun _=>rfl⟩
 | cons part rest ih =>
   intro here many hD hm
   have hq:(fo' || !(rest++todo).isEmpty)=(fo || !rest.isEmpty):=by refine re hf ?_;cases fo'<;>cases rest<;>simp
   have hl:∀ n,iZ R fo' (n + 1) (part :: rest++todo) here many=Ci R (iZ R fo' n) (rest++todo) here many (stp R here part (fo || !rest.isEmpty)):=fun n=>by refine rf hq ?_;rfl
   show Along R fo' _ _ _ _ (dH inner here many (bJ R inner fo rest) (stp R here part (fo || !rest.isEmpty)))
   cases hs:stp R here part (fo || !rest.isEmpty) with
   | stop e=>rw [hs] at hl;exact ⟨Nat.le_refl _,Nat.le_succ_of_le hm,(fun _ h=>nomatch h),0,Nat.zero_le _,fun n=>hl n⟩
   | go h =>
     rw [hs] at hl
     have a:=ih h many hD hm
     exact { ge:=a.ge,le:=a.le,fd:=a.fd,go:=a.go.elim fun j a=>⟨j + 1,Nat.lt_of_le_of_lt a.1 (Nat.add_lt_add_right (Nat.le_refl _) _),fun n=>(hl (n + 1 + j)).trans (a.2 n)⟩ }
   | link c =>
     rw [hs] at hl
     by_cases e8:8≤many
     · refine re (show dH inner here many (bJ R inner fo rest) (.link c)=(.bad 2,many + 1) from if_pos e8) ?_
       exact ⟨Nat.le_succ _,szt hm rfl,(fun _ h=>nomatch h),0,Nat.zero_le _,fun n=>(hl n).trans (if_pos e8)⟩
     · have b:=H (rest++todo) here c many (by exact re hq (re ((xU hs).1) rfl)) hD e8
       refine re (show dH inner here many (bJ R inner fo rest) (.link c)=after (bJ R inner fo rest) (inner here c (many + 1)) from if_neg e8) ?_
       generalize inner here c (many + 1)=x at b
       refine b.go.elim fun j1 g=>?_
       have k:=fun n=>((hl (n + 1 + j1)).trans (if_neg e8)).trans (g.2 n)
       cases x with
       | mk r m =>
       cases r with
       | bad e=>exact { ge:=Nat.le_of_lt b.ge,le:=b.le,fd:=(fun _ h=>nomatch h),go:=⟨j1 + 1,fl2 (hR c) b.ge g.1,k⟩ }
       | found h =>
         have a:=ih h m (Nat.le_of_lt (Nat.lt_of_le_of_lt hD (Nat.add_lt_add_right b.ge _))) (b.fd h rfl)
         exact { ge:=Nat.le_of_lt (Nat.le_trans b.ge a.ge),le:=a.le,fd:=a.fd,go:=a.go.elim fun j q=>⟨j + j1 + 1,fl3 (hR c) b.ge g.1 a.ge q.1,fun n=>by
           have e:=k (n + j)
           rw [show n + j + 1=n + 1 + j from Nat.add_right_comm n j 1,Nat.add_assoc (n + 1) j j1] at e
           exact e.trans (q.2 n)⟩ }
theorem o9 {R:List Row} (hR:∀ c,(partsOf (tOf R c)).length≤2) (fo':Bool):∀ (D:Nat) (parts:List (List Nat)) (fo:Bool) (todo:List (List Nat)) (here many:Nat),fo=(fo' || !todo.isEmpty)→8≤many + D→many≤8 →
   Along R fo' parts todo here many (bJ R (dh R D) fo parts here many):=by
 intro D
 induction D with
 | zero=>exact fun parts fo todo here many hf=>xV hR hf (fun _ _ _ _ _ h n=>absurd h n) parts here many
 | succ D IH=>exact fun parts fo todo here many hf=>xV hR hf (fun todo here c many hq hD h8=>IH _ _ todo _ _ hq (by refine re (Nat.add_right_comm ..) ?_;exact hD) (Nat.lt_of_not_le h8)) parts here many
end Mine.Law
end
section
open PySem
namespace Mine.Law
theorem JZ {P:Prog} {cf:Calls} {ρ:Env} {σ σ':Sig} {c:C} {f:Fl} (h:ex P cf c ρ σ=.ok f σ'):exs P cf [c] ρ σ=.ok f σ':=by
 show (ex P cf c ρ σ).bind _=_
 refine re h ?_
 cases f<;>rfl
noncomputable def word (e:Nat):List Nat:=(cX e).getD []
noncomputable def pJ:Res→AV
 | .found h=>.int h
 | .bad e=>.str (word e)
noncomputable def nj (x:Res×Nat):AV:=.tuple [pJ x.1,.int x.2]
theorem pg (R:List Row):bN (aB R)=true:=by
 show bR (R.map aZ)=true
 induction R with
 | nil=>rfl
 | cons r l ih=>exact ih
section
variable {R:List Row} (G:Good R)
theorem sS {P:Prog} {cf:Calls} {ρ:Env} {σ:Sig} {i k:Nat} {c:Int} {r:Row} {a:AV} (hl:R.length≤9) (h0:ρ[0]?=some (some (aB R))) (hi:ρ[i]?=some (some (.int k))) (hr:R[k]?=some r) (ha:dJ σ (aZ r) (.int c)=some a):ev P cf ρ (.sub (.sub (.v 0) (.v i)) (.k (.int c))) σ=.ok a σ :=
 bC (bC (e_v h0) (e_v hi) ((gB (by refine re (bO ..) ?_;exact szl hl rfl)).trans (by refine re (List.getElem?_map) (re hr ?_);rfl))) rfl ha
theorem Cm {f:Nat} {nm:List Nat} (hl:R.length≤9) (d:Nat) (σ:Sig):aD (run PR (d + 1)) σ 44 [aB R,.int f,.str nm]=.ok (ue (children R f nm)) σ :=
 bD (σ':=[]) (by show (bN (aB R) && true)=true;refine re (pg ..) ?_;rfl) (uX (by exact szl hl rfl) d []) (by cases children R f nm<;>rfl)
noncomputable abbrev FT:List C:=[(.asg 4 (.bin .add (.v 4) (.k (.int 1)))),(.iff (.cmp (.v 4) [.gt] [(.k (.int 8))]) [(.ret (.tup [(.k (.str [108,111,111,112,115])),(.v 4)]))] []),(.asgt [8,4] (.call 46 [(.v 0),(.v 1),(.sub (.sub (.v 0) (.v 8)) (.k (.int 3))),(.k (.bool true)),(.v 4)])),(.iff (.bi .isstr [(.v 8)]) [(.ret (.tup [(.v 8),(.v 4)]))] [])]
noncomputable abbrev Jh:List C:=[(.asg 8 (.call 44 [(.v 0),(.v 1),(.v 7)])),(.iff (.cmp (.v 8) [.is] [(.k .none)]) [(.ret (.tup [(.k (.str [109,105,115,115,105,110,103])),(.v 4)]))] []),(.iff (.bo true [(.cmp (.sub (.sub (.v 0) (.v 8)) (.k (.int 0))) [.eq] [(.k (.int 2))]),(.bo false [(.v 3),(.cmp (.bin .add (.v 6) (.k (.int 1))) [.lt] [(.bi .len [(.v 5)])])])]) FT []),(.asg 1 (.v 8))]
noncomputable abbrev FW:C:=.iff (.cmp (.sub (.sub (.v 0) (.v 1)) (.k (.int 0))) [.ne] [(.k (.int 1))]) [(.ret (.tup [(.k (.str [110,111,32,102,111,108,100,101,114])),(.v 4)]))] []
noncomputable abbrev kj:List C:=[FW,(.iff (.cmp (.v 7) [.eq] [(.k (.str [46,46]))]) [(.asg 1 (.sub (.sub (.v 0) (.v 1)) (.k (.int 1))))] [(.iff (.cmp (.v 7) [.ne] [(.k (.str [46]))]) Jh [])])]
noncomputable def fl (R:List Row) (path:List Nat) (fo:Bool) (parts:List (List Nat)) (here many:Nat) (x6 x7 x8:Option AV):Env:=[some (aB R),some (.int here),some (.str path),some (.bool fo),some (.int many),some (.list (parts.map .str)),x6,x7,x8]
noncomputable def um (R:List Row) (cf:Calls) (inner:Nat→Nat→Nat→Res×Nat) (here c many:Nat):Prop :=
 aD cf [] 46 [aB R,.int here,.str (tOf R c),.bool true,.int (many + 1:Nat)]=.ok (nj (inner here c (many + 1))) []∧∀ h,(inner here c (many + 1)).1=.found h→h < R.length∧many≤(inner here c (many + 1)).2∧(inner here c (many + 1)).2≤8
variable {path:List Nat} {fo:Bool} {parts:List (List Nat)} {inner:Nat→Nat→Nat→Res×Nat} {d:Nat}
noncomputable def mq (R:List Row) (path:List Nat) (fo:Bool) (parts:List (List Nat)) (x6 x7 x8:Option AV) (x:Res×Nat):Fl:=match x.1 with
 | .found h=>.nxt (fl R path fo parts h x.2 x6 x7 x8)
 | .bad e=>.ret (.tuple [.str (word e),.int x.2])
include G in
theorem Mv {here many j:Nat} {part:List Nat} {x8:Option AV} {q:Bool} (hh:here < R.length) (hm:many≤8) (hp:parts.length≤100) (hj:j≤100) (hq:q=(fo || decide (j + 1 < parts.length)))
   (H:∀ c,stp R here part q=.link c→many < 8→um R (run PR (d + 1)) inner here c many) :
   ∃ x8',exs PR (run PR (d + 1)) kj (fl R path fo parts here many (some (.int j)) (some (.str part)) x8) []=.ok (mq R path fo parts (some (.int j)) (some (.str part)) x8' (dH inner here many (fun h m=>(.found h,m)) (stp R here part q))) []:=by
 have hl:=G.len
 obtain ⟨r,hr⟩:∃ r,R[here]?=some r:=⟨_,List.getElem?_eq_getElem hh⟩
 have es:sOf R here=r.s:=by unfold sOf;refine re hr ?_;rfl
 have ep:pOf R here=r.p:=by unfold pOf;refine re hr ?_;rfl
 unfold stp
 refine re es (re ep ?_)
 unfold stp at H
 rw [es,ep] at H
 have t1:=aL (cf:=run PR (d + 1)) (ρ:=fl R path fo parts here many (some (.int j)) (some (.str part)) x8) (sS (P:=PR) (σ:=[]) hl rfl (i:=1) rfl hr lZ.1) (b:=.k (.int 1)) rfl ne_int
 by_cases c1:r.s=1
 · refine re (if_pos c1) ?_
   rw [if_pos c1] at H
   have t2:=aL (P:=PR) (cf:=run PR (d + 1)) (ρ:=fl R path fo parts here many (some (.int j)) (some (.str part)) x8) (σ:=[]) (a:=.v 7) rfl (b:=.k (.str [46,46])) rfl eq_str
   have b1:∀ {cs:List C} {X:Mine.R Fl},exs PR (run PR (d + 1)) cs (fl R path fo parts here many (some (.int j)) (some (.str part)) x8) []=X→exs PR (run PR (d + 1)) (FW :: cs) (fl R path fo parts here many (some (.int j)) (some (.str part)) x8) []=X:=fun h=>ak (aR t1 (q:=false) (by refine re c1 ?_;rfl) rfl) h
   by_cases c2:part=[46,46]
   · refine re (if_pos c2) ?_
     exact ⟨x8,b1 (ak (aR t2 (q:=true) (by refine re c2 ?_;rfl) (ak (bc (sS hl rfl (i:=1) rfl hr lZ.2.1)) rfl)) rfl)⟩
   · refine re (if_neg c2) ?_
     rw [if_neg c2] at H
     have t3:=aL (P:=PR) (cf:=run PR (d + 1)) (ρ:=fl R path fo parts here many (some (.int j)) (some (.str part)) x8) (σ:=[]) (a:=.v 7) rfl (b:=.k (.str [46])) rfl (o:=.ne) (q:=!(part == [46])) rfl
     have b2:∀ {f:Fl},exs PR (run PR (d + 1)) [(.iff (.cmp (.v 7) [.ne] [(.k (.str [46]))]) Jh [])] (fl R path fo parts here many (some (.int j)) (some (.str part)) x8) []=.ok f []→exs PR (run PR (d + 1)) kj (fl R path fo parts here many (some (.int j)) (some (.str part)) x8) []=.ok f [] :=
       fun h=>b1 (JZ (aR t2 (q:=false) (by refine re (beq_eq_false_iff_ne.mpr c2) ?_;rfl) h))
     by_cases c3:part=[46]
     · refine re (if_pos c3) ?_
       exact ⟨x8,b2 (ak (aR t3 (q:=false) (by refine re c3 ?_;rfl) rfl) rfl)⟩
     · refine re (if_neg c3) ?_
       rw [if_neg c3] at H
       have b3:∀ {f:Fl},exs PR (run PR (d + 1)) Jh (fl R path fo parts here many (some (.int j)) (some (.str part)) x8) []=.ok f []→exs PR (run PR (d + 1)) kj (fl R path fo parts here many (some (.int j)) (some (.str part)) x8) []=.ok f [] :=
         fun h=>b2 (JZ (aR t3 (q:=true) (by refine re (beq_eq_false_iff_ne.mpr c3) ?_;rfl) h))
       have t4:=bc (x:=8) (aJ (P:=PR) (f:=44) (es:=[.v 0,.v 1,.v 7]) (ρ:=fl R path fo parts here many (some (.int j)) (some (.str part)) x8) (σ:=[]) rfl (Cm hl (f:=here) (nm:=part) d []))
       have hmem:∀ c∈children R here part,c < R.length:=fun c hc=>by
         refine o11 (gG.mp hc) fun r' h' _=>?_
         exact (List.getElem?_eq_some_iff.mp h').1
       generalize children R here part=l at t4 H hmem
       cases l with
       | nil=>exact ⟨x8,b3 (ak t4 (aX (aR (v:=.bool true) (aL (y:=.none) rfl rfl rfl) rfl (aX (aY rfl)))))⟩
       | cons c l =>
         obtain ⟨rc,hrc⟩:∃ rc,R[c]?=some rc:=⟨_,List.getElem?_eq_getElem (hmem c List.mem_cons_self)⟩
         have ec:sOf R c=rc.s:=by unfold sOf;refine re hrc ?_;rfl
         have et:tOf R c=rc.tx:=by unfold tOf;refine re hrc ?_;rfl
         have t5:ev PR (run PR (d + 1)) (fl R path fo parts here many (some (.int j)) (some (.str part)) (some (.int c))) (.bo true [(.cmp (.sub (.sub (.v 0) (.v 8)) (.k (.int 0))) [.eq] [(.k (.int 2))]),(.bo false [(.v 3),(.cmp (.bin .add (.v 6) (.k (.int 1))) [.lt] [(.bi .len [(.v 5)])])])]) []=.ok (.bool (sOf R c == 2 && q)) []:=by
           refine (vG (p:=sOf R c == 2) (q:=q) ?_ fun _=>?_)
           · refine (aL (sS hl rfl (i:=8) rfl hrc lZ.1) (y:=.int 2) rfl eq_int).trans ?_
             exact re ec (re (show (2:Int)=((2:Nat):Int) from rfl) (re dB rfl))
           · refine re hq ?_
             refine oZ rfl fun _=>(aL (aQ (x:=.int j) (y:=.int 1) rfl rfl (jy (aK (by exact szt hj rfl)) (aK (by decide)))) (bH (vs:=[.list (parts.map .str)]) rfl (len_list (by refine re (List.length_map ..) ?_;exact szl hp rfl))) BV).trans ?_
             exact re (List.length_map ..) (re (show decide ((j:Int) + 1 < (parts.length:Int))=decide (j + 1 < parts.length) from decide_eq_decide.mpr Int.ofNat_le) rfl)
         have b4:∀ {f:Fl},exs PR (run PR (d + 1)) [.iff (.bo true [(.cmp (.sub (.sub (.v 0) (.v 8)) (.k (.int 0))) [.eq] [(.k (.int 2))]),(.bo false [(.v 3),(.cmp (.bin .add (.v 6) (.k (.int 1))) [.lt] [(.bi .len [(.v 5)])])])]) FT [],.asg 1 (.v 8)] (fl R path fo parts here many (some (.int j)) (some (.str part)) (some (.int c))) []=.ok f []→exs PR (run PR (d + 1)) kj (fl R path fo parts here many (some (.int j)) (some (.str part)) x8) []=.ok f [] :=
           fun h=>b3 (ak t4 (ak (aR (v:=.bool false) (aL (x:=.int c) (y:=.none) rfl rfl rfl) rfl rfl) h))
         change ∃ x8',_=Mine.R.ok (mq R path fo parts _ _ x8' (dH inner here many (fun h m=>(.found h,m)) (if (sOf R c == 2 && q)=true then .link c else .go c))) []
         change ∀ c',(if (sOf R c == 2 && q)=true then St.link c else .go c)=.link c'→_ at H
         cases hb:(sOf R c == 2 && q) with
         | false =>
           rw [hb] at t5
           exact ⟨_,b4 (ak (aR t5 rfl rfl) (ak (bc rfl) rfl))⟩
         | true =>
           rw [hb] at t5 H
           have H:=H c rfl
           change ∃ x8',_=Mine.R.ok (mq R path fo parts _ _ x8' (if 8≤many then (.bad 2,many + 1) else after (fun h m=>(.found h,m)) (inner here c (many + 1)))) []
           have t6:=bc (x:=4) (aQ (P:=PR) (cf:=run PR (d + 1)) (ρ:=fl R path fo parts here many (some (.int j)) (some (.str part)) (some (.int c))) (σ:=[]) (a:=.v 4) (b:=.k (.int 1)) (o:=.add) (x:=.int many) (y:=.int 1) rfl rfl (jy (aK (by exact szt hm rfl)) (aK (by decide))))
           by_cases c8:8≤many
           · refine re (if_pos c8) ?_
             exact ⟨x8,b4 (aX (aR t5 rfl (ak t6 (aX (aR (v:=.bool true) (aL (x:=.int (many + 1)) (y:=.int 8) rfl rfl (gt_int.trans (by exact re (pH (by exact ile (Nat.succ_le_succ c8))) rfl))) rfl (aX (aY rfl)))))))⟩
           · refine re (if_neg c8) ?_
             refine o01 (H (by exact Nat.lt_of_not_le c8)) fun H1 H2=>?_
             rw [et] at H1
             have t7:=aJ (P:=PR) (ρ:=fl R path fo parts here (many + 1) (some (.int j)) (some (.str part)) (some (.int c))) (σ:=[]) (f:=46) (es:=[(.v 0),(.v 1),(.sub (.sub (.v 0) (.v 8)) (.k (.int 3))),(.k (.bool true)),(.v 4)]) (aP rfl (aP rfl (aP (sS hl rfl (i:=8) rfl hrc lZ.2.2.2) rfl))) H1
             have b5:∀ {cs:List C} {X:Mine.R Fl},exs PR (run PR (d + 1)) cs (fl R path fo parts here (many + 1) (some (.int j)) (some (.str part)) (some (.int c))) []=X→exs PR (run PR (d + 1)) ((.asg 4 (.bin .add (.v 4) (.k (.int 1)))) :: (.iff (.cmp (.v 4) [.gt] [(.k (.int 8))]) [(.ret (.tup [(.k (.str [108,111,111,112,115])),(.v 4)]))] []) :: cs) (fl R path fo parts here many (some (.int j)) (some (.str part)) (some (.int c))) []=X :=
               fun h=>ak t6 (ak (aR (v:=.bool false) (aL (x:=.int (many + 1)) (y:=.int 8) rfl rfl (gt_int.trans (by exact re (fQ (by exact inl (Nat.lt_of_not_le c8))) rfl))) rfl rfl) h)
             generalize inner here c (many + 1)=x at t7
             obtain ⟨r1,m⟩:=x
             cases r1 with
             | found h=>exact ⟨_,b4 (ak (aR t5 rfl (b5 (ak (d7 t7 rfl) (ak (aR (v:=.bool false) (bH (vs:=[.int h]) rfl rfl) rfl rfl) rfl)))) (ak (bc rfl) rfl))⟩
             | bad e=>exact ⟨x8,b4 (aX (aR t5 rfl (b5 (ak (d7 t7 rfl) (aX (aR (v:=.bool true) (bH (vs:=[.str (word e)]) rfl rfl) rfl (aX (aY rfl))))))))⟩
 · refine re (if_neg c1) ?_
   refine ⟨x8,aX (aR t1 (q:=true) ?_ (aX (aY rfl)))⟩
   refine re (show ((r.s:Int) == 1)=false from beq_eq_false_iff_ne.mpr (by lia)) ?_
   rfl
end
end Mine.Law
end
section
open PySem
namespace Mine.Law
theorem xW {R:List Row} {f c:Nat} {nm:List Nat} (h:c∈children R f nm):c < R.length:=by
 refine o11 (gG.mp h) fun r' h' _=>?_
 exact (List.getElem?_eq_some_iff.mp h').1
section
variable {R:List Row} (G:Good R)
include G
theorem Good.par_lt {k:Nat} (h:k < R.length):pOf R k < R.length:=by
 have hr:R[k]?=some R[k]:=List.getElem?_eq_getElem h
 refine o11 (G.fold k _ hr) fun q hq _=>?_
 unfold pOf
 refine re hr ?_
 exact (List.getElem?_eq_some_iff.mp hq).1
theorem FZ {here:Nat} {part:List Nat} {q:Bool} (hh:here < R.length):(∀ h,stp R here part q=.go h→h < R.length)∧∀ c,stp R here part q=.link c→c < R.length:=by
 refine ⟨fun h e=>?_,fun c e=>xW (xU e).2.2⟩
 unfold stp at e
 split at e
 · split at e
   · cases e;exact G.par_lt hh
   · split at e
     · cases e;exact hh
     · have hm:=@xW R here
       cases hl:children R here part with
       | nil=>rw [hl] at e;cases e
       | cons c l =>
         rw [hl] at e
         change (if (sOf R c == 2 && q)=true then St.link c else St.go c)=.go h at e
         split at e
         · cases e
         · cases e;exact hm (by refine re hl ?_;exact List.mem_cons_self)
 · cases e
end
section
variable {at_:Sig→Nat→Option (Option AV)} {tgt:Mine.T} {body:Env→Sig→R Fl} {N j:Nat} {ρ ρ₁ ρ':Env} {σ σ':Sig} {x v:AV}
theorem qM (h1:at_ σ j=some (some x)) (h2:target ρ tgt x=some ρ₁) (h3:body ρ₁ σ=.ok (.nxt ρ') σ'):cg at_ tgt body (N + 1) j ρ σ=cg at_ tgt body N (j + 1) ρ' σ':=by
 refine re fP ?_
 refine re h1 ?_
 dsimp only
 refine re h2 ?_
 dsimp only
 exact re h3 rfl
theorem Ga (h1:at_ σ j=some (some x)) (h2:target ρ tgt x=some ρ₁) (h3:body ρ₁ σ=.ok (.ret v) σ'):cg at_ tgt body (N + 1) j ρ σ=.ok (.ret v) σ':=by
 refine re fP ?_
 refine re h1 ?_
 dsimp only
 refine re h2 ?_
 dsimp only
 exact re h3 rfl
theorem Gb (h1:at_ σ j=some none):cg at_ tgt body (N + 1) j ρ σ=.ok (.nxt ρ) σ:=by
 refine re fP ?_
 exact re h1 rfl
end
theorem qb (x:Res×Nat):after (fun h m=>(.found h,m)) x=x:=by
 obtain ⟨r,m⟩:=x
 cases r<;>rfl
theorem Cp {inner:Nat→Nat→Nat→Res×Nat} {here many:Nat} {K:Nat→Nat→Res×Nat} (s:St):dH inner here many K s=after K (dH inner here many (fun h m=>(.found h,m)) s):=by
 cases s with
 | stop e=>rfl
 | go h=>rfl
 | link c =>
   show (if 8≤many then _ else _)=after K (if 8≤many then _ else _)
   split
   · rfl
   · rw [qb]
section
variable {R:List Row} (G:Good R) {path:List Nat} {fo:Bool} {parts:List (List Nat)} {inner:Nat→Nat→Nat→Res×Nat} {d:Nat}
include G
theorem Mw {D:Nat} (hp:parts.length≤100) (H:∀ here c many,here < R.length→c < R.length→8≤many + D→many < 8→um R (run PR (d + 1)) inner here c many):∀ (rest:List (List Nat)) (j here many:Nat) (x6 x7 x8:Option AV),parts.drop j=rest→here < R.length→8≤many + D→many≤8→∀ N,rest.length < N →
   (∃ x6' x7' x8',cg (fun σ j=>aU σ .enum (.list (parts.map .str)) j) (.tu [6,7]) (fun ρ σ=>exs PR (run PR (d + 1)) kj ρ σ) N j (fl R path fo parts here many x6 x7 x8) []=.ok (mq R path fo parts x6' x7' x8' (bJ R inner fo rest here many)) []) ∧
   ∀ h,(bJ R inner fo rest here many).1=.found h→h < R.length∧many≤(bJ R inner fo rest here many).2∧(bJ R inner fo rest here many).2≤8:=by
 intro rest
 induction rest with
 | nil =>
   intro j here many x6 x7 x8 hj hh hD hm N hN
   refine ⟨⟨x6,x7,x8,?_⟩,fun h e=>?_⟩
   · match N,hN with
     | N + 1,_ =>
       rw [fP]
       rw [fZ (by rw [List.length_map];exact szl hp rfl),List.getElem?_eq_none (by rw [List.length_map];exact List.drop_eq_nil_iff.mp hj)]
       rfl
   · cases e;exact ⟨hh,Nat.le_refl _,hm⟩
 | cons part rest ih =>
   intro j here many x6 x7 x8 hj hh hD hm N hN
   have hjl:j < parts.length:=by
     rcases Nat.lt_or_ge j parts.length with h | h
     · exact h
     · rw [List.drop_eq_nil_iff.mpr h] at hj;cases hj
   have hd:=List.drop_eq_getElem_cons hjl
   rw [hj] at hd
   refine o01 (List.cons.inj hd) fun e1 e2=>?_
   have hpj:parts[j]?=some part:=by rw [e1];exact List.getElem?_eq_getElem hjl
   have hq:(fo || !rest.isEmpty)=(fo || decide (j + 1 < parts.length)):=by
     congr 1
     rw [e2]
     by_cases q:j + 1 < parts.length
     · rw [decide_eq_true q,List.drop_eq_getElem_cons q];rfl
     · rw [decide_eq_false q,List.drop_eq_nil_iff.mpr (by exact Nat.le_of_lt_succ (Nat.lt_of_not_le q))];rfl
   have so:=FZ G (part:=part) (q:=fo || !rest.isEmpty) hh
   refine o10 (Mv G (path:=path) (fo:=fo) (parts:=parts) (inner:=inner) (d:=d) (here:=here) (many:=many) (j:=j) (part:=part) (x8:=x8) (q:=fo || !rest.isEmpty) hh hm hp (by exact Nat.le_of_lt (Nat.le_trans hjl hp)) hq fun c e m8=>H here c many hh (so.2 c e) hD m8) fun x8' ht=>?_
   have hx:∀ h,(dH inner here many (fun h m=>(.found h,m)) (stp R here part (fo || !rest.isEmpty))).1=.found h→h < R.length∧many≤(dH inner here many (fun h m=>(.found h,m)) (stp R here part (fo || !rest.isEmpty))).2∧(dH inner here many (fun h m=>(.found h,m)) (stp R here part (fo || !rest.isEmpty))).2≤8:=by
     intro h e
     cases hs:stp R here part (fo || !rest.isEmpty) with
     | stop k=>rw [hs] at e;cases e
     | go k=>rw [hs] at e;cases e;exact ⟨so.1 _ hs,Nat.le_refl _,hm⟩
     | link c =>
       have eq:dH inner here many (fun h m=>(.found h,m)) (.link c)=if 8≤many then (.bad 2,many + 1) else after (fun h m=>(.found h,m)) (inner here c (many + 1)):=rfl
       rw [hs,eq] at e
       rw [eq]
       by_cases m8:8≤many
       · rw [if_pos m8] at e;cases e
       · rw [if_neg m8,qb] at e ⊢
         exact (H here c many hh (so.2 c hs) hD (by exact Nat.lt_of_not_le m8)).2 h e
   show (∃ x6' x7' x8',_=Mine.R.ok (mq R path fo parts x6' x7' x8' (dH inner here many (bJ R inner fo rest) (stp R here part (fo || !rest.isEmpty)))) [])∧∀ h,(dH inner here many (bJ R inner fo rest) (stp R here part (fo || !rest.isEmpty))).1=.found h→h < R.length∧many≤(dH inner here many (bJ R inner fo rest) (stp R here part (fo || !rest.isEmpty))).2∧(dH inner here many (bJ R inner fo rest) (stp R here part (fo || !rest.isEmpty))).2≤8
   rw [Cp]
   generalize dH inner here many (fun h m=>(.found h,m)) (stp R here part (fo || !rest.isEmpty))=x at ht hx
   obtain ⟨r,m⟩:=x
   match N,hN with
   | N + 1,hN =>
     have ha:aU [] .enum (.list (parts.map .str)) j=some (some (.tuple [.int j,.str part])):=by rw [fZ (by rw [List.length_map];exact szl hp rfl),List.getElem?_map,hpj];rfl
     cases r with
     | bad e=>exact ⟨⟨some (.int j),some (.str part),x8',Ga ha rfl ht⟩,fun h e=>(by cases e)⟩
     | found h =>
       refine o02 (hx h rfl) fun b1 b2 b3=>?_
       have b2:many≤m:=b2
       have b3:m≤8:=b3
       obtain ⟨⟨y6,y7,y8,g1⟩,g2⟩:=ih (j + 1) h m (some (.int j)) (some (.str part)) x8' e2.symm b1 (by exact Nat.le_trans hD (Nat.add_le_add b2 (Nat.le_refl _))) b3 N (by rw [List.length_cons] at hN;exact Nat.le_of_lt_succ hN)
       exact ⟨⟨y6,y7,y8,(qM ha rfl ht).trans g1⟩,fun k e=>⟨(g2 k e).1,Nat.le_trans b2 (g2 k e).2.1,(g2 k e).2.2⟩⟩
theorem followed:∀ (D:Nat) (path:List Nat) (fo:Bool) (here many d:Nat) (σ:Sig),path.length≤40→here < R.length→8≤many + D→many≤8 →
   aD (run PR (d + D + 2)) σ 46 [aB R,.int here,.str path,.bool fo,.int many]=.ok (nj (bJ R (dh R D) fo (partsOf path) (bu here path) many)) σ ∧
   ∀ h,(bJ R (dh R D) fo (partsOf path) (bu here path) many).1=.found h→h < R.length∧many≤(bJ R (dh R D) fo (partsOf path) (bu here path) many).2∧(bJ R (dh R D) fo (partsOf path) (bu here path) many).2≤8:=by
 intro D
 induction D with
 | zero =>
   intro path fo here many d σ hp hh hD hm
   exact core 0 path fo here many d σ hp hh hD hm fun h c m _ _ h1 h2=>absurd h1 (by exact Nat.not_le_of_lt h2)
 | succ D ih =>
   intro path fo here many d σ hp hh hD hm
   refine core (D + 1) path fo here many d σ hp hh hD hm fun h c m a1 a2 a3 a4=>?_
   have ht:(tOf R c).length≤40:=by
     have hr:R[c]?=some R[c]:=List.getElem?_eq_getElem a2
     have:=G.tl hr
     unfold tOf
     refine re hr ?_
     show (R[c]).tx.length≤40
     exact szl this rfl
   obtain ⟨g1,g2⟩:=ih (tOf R c) true h (m + 1) d [] ht a1 (by exact Nat.le_trans a3 (Nat.add_lt_add_right (Nat.le_refl _) _)) a4
   exact ⟨g1,fun k e=>⟨(g2 k e).1,Nat.le_trans (Nat.le_succ m) (g2 k e).2.1,(g2 k e).2.2⟩⟩
where
 core (D:Nat) (path:List Nat) (fo:Bool) (here many d:Nat) (σ:Sig) (hp:path.length≤40) (hh:here < R.length) (hD:8≤many + D) (hm:many≤8)
     (H:∀ here c many,here < R.length→c < R.length→8≤many + D→many < 8→um R (run PR (d + D + 1)) (dh R D) here c many) :
     aD (run PR (d + D + 2)) σ 46 [aB R,.int here,.str path,.bool fo,.int many]=.ok (nj (bJ R (dh R D) fo (partsOf path) (bu here path) many)) σ ∧
     ∀ h,(bJ R (dh R D) fo (partsOf path) (bu here path) many).1=.found h→h < R.length∧many≤(bJ R (dh R D) fo (partsOf path) (bu here path) many).2∧(bJ R (dh R D) fo (partsOf path) (bu here path) many).2≤8:=by
   have hl:=G.len
   have hst:bu here path < R.length:=by
     unfold bu
     split
     · exact (List.getElem?_eq_some_iff.mp G.root).1
     · exact hh
   have hs:(partsOf path).length≤100:=by
     have h1:=split_len 47 path
     have h2:(partsOf path).length≤(splitOn 47 path).length:=List.length_filter_le _ _
     exact Nat.le_trans h2 (Nat.le_trans h1 (szt hp rfl))
   obtain ⟨⟨x6,x7,x8,h1⟩,h2⟩:=Mw G (path:=path) (fo:=fo) (parts:=partsOf path) (inner:=dh R D) (d:=d + D) (D:=D) hs H (partsOf path) 0 (bu here path) many none none none rfl hst hD hm turns (by unfold turns;exact szt hs rfl)
   refine ⟨?_,h2⟩
   generalize bJ R (dh R D) fo (partsOf path) (bu here path) many=x at h1 h2
   refine bD (v:=nj x) (σ':=[]) (by show (bN (aB R) && true)=true;refine re (pg ..) ?_;rfl) ?_ (by obtain ⟨r,m⟩:=x;cases r<;>rfl)
   change (exs PR (run PR (d + D + 1)) kO.body [some (aB R),some (.int here),some (.str path),some (.bool fo),some (.int many),none,none,none,none] []).bind bh=_
   have s1:ex PR (run PR (d + D + 1)) (.asgt [1,5] (.tup [(.ife (.cmp (.slc (.v 2) (.k .none) (.k (.int 1))) [.eq] [(.k (.str [47]))]) (.k (.int 0)) (.v 1)),(.comp [Str.ofString "part"] [] (.n 0) (.v 0) .of (.bm .split (.v 2) [(.k (.str [47]))]) [(.cmp (.v 0) [.ne] [(.k (.str []))])])])) [some (aB R),some (.int here),some (.str path),some (.bool fo),some (.int many),none,none,none,none] []=.ok (.nxt (fl R path fo (partsOf path) (bu here path) many none none none)) []:=by
     refine d7 (vs:=[.int (bu here path),.list ((partsOf path).map .str)]) (eO (aP (dU (v:=.bool (jH path)) (aL (gU (x:=.str path) (y:=.none) (w:=.int 1) rfl rfl rfl uf) (y:=.str [47]) rfl eq_str) rfl ?_) (bz (jG rfl (by exact szl hp rfl))))) rfl
     unfold bu
     cases jH path<;>rfl
   refine Eq.trans (b:=(exs PR (run PR (d + D + 1)) [.fr (.tu [6,7]) .enum (.v 5) kj,.ret (.tup [(.v 1),(.v 4)])] (fl R path fo (partsOf path) (bu here path) many none none none) []).bind bh) ?_ ?_
   · exact congrArg (fun z=>Mine.R.bind z bh) (ak s1 rfl)
   · have s2:=m7 (P:=PR) (cf:=run PR (d + D + 1)) (ρ:=fl R path fo (partsOf path) (bu here path) many none none none) (it:=.v 5) (b:=kj) (ik:=.enum) rfl h1
     obtain ⟨r,m⟩:=x
     cases r with
     | bad e=>exact aO (aX s2)
     | found h=>exact aO (ak s2 (aX (aY rfl)))
end
end Mine.Law
end
section
open PySem
namespace Mine.Law
noncomputable def lA:Res→AV
 | .found h=>.int (h + 1:Nat)
 | .bad e=>.str (word e)
noncomputable def b7 (R:List Row) (fo:Bool) (parts:List (List Nat)):Res×Nat:=bJ R (dh R 8) fo parts 0 0
noncomputable def lastOf (ps:List (List Nat)):List Nat:=ps.getLastD []
noncomputable def dots (w:List Nat):Bool:=w == [46] || w == [46,46]
noncomputable def iM (R:List Row) (ps:List (List Nat)):AV:=if (ps.isEmpty || dots (lastOf ps))=true then .str (word 3) else match (b7 R true ps.dropLast).1 with
 | .found h=>if sOf R h=1 then .tuple [.int (h + 1:Nat),.str (lastOf ps)] else .str (word 0)
 | .bad e=>.str (word e)
theorem sU (path:List Nat):bu 0 path=0:=ite_self 0
theorem inc {P:Prog} {cf:Calls} {ρ:Env} {σ:Sig} {i h:Nat} (hh:h≤1000) (hi:ρ[i]?=some (some (.int h))):ev P cf ρ (.bin .add (.v i) (.k (.int 1))) σ=.ok (.int (h + 1:Nat)) σ :=
 aQ (x:=.int h) (y:=.int 1) (e_v hi) rfl (jy (aK (by exact szt hh rfl)) (aK (by decide)))
theorem xX {α:Type} {g:α→AV} (hg:∀ x,eE (g x)=true) (l:List α) (σ:Sig):cmpop σ .eq (.list (l.map g)) (.list [])=some l.isEmpty:=by
 show eF (.list (l.map g)) (.list [])=_
 unfold eF
 have h1:(dI (.list []) || dI (.list (l.map g)))=true:=rfl
 have h2:eE (.list (l.map g))=true:=o5 hg l
 refine re h1 (re h2 ?_)
 cases l<;>rfl
theorem nq {σ:Sig} {ps:List (List Nat)} (hn:ps≠[]) (hl:ps.length≤100):dJ σ (.list (ps.map .str)) (.int (-1))=some (.str (lastOf ps)):=by
 show gK (ps.map .str) (-1)=_
 unfold gK
 rw [if_pos (aN (by rw [List.length_map];exact szl hl rfl))]
 unfold nth
 have:=List.length_pos_iff.mpr hn
 rw [if_neg (by decide),if_pos (by rw [List.length_map,Gs this];exact Int.natCast_nonneg _),List.length_map,show (-1 + (ps.length:Int)).toNat=ps.length - 1 by rw [Gs this];rfl,List.getElem?_map,List.getElem?_eq_getElem (by exact Nat.sub_lt this (Nat.le_refl _))]
 unfold lastOf
 rw [List.getLastD_eq_getLast?,List.getLast?_eq_getElem?,List.getElem?_eq_getElem (by exact Nat.sub_lt this (Nat.le_refl _))]
 rfl
theorem xY {ps:List (List Nat)} (hn:ps≠[]) (hl:ps.length≤100):slice (.list (ps.map .str)) .none (.int (-1))=some (.list (ps.dropLast.map .str)):=by
 have:=List.length_pos_iff.mpr hn
 show (if sizeOk (ps.map AV.str).length=true then some (AV.list (cut (ps.map .str) none (some (-1)))) else none)=_
 rw [if_pos (aN (by rw [List.length_map];exact szl hl rfl))]
 have e:clip (ps.map AV.str).length (-1)=ps.length - 1:=by
   unfold clip
   rw [if_pos (by decide),List.length_map]
   exact Pu this
 show some (AV.list (((ps.map AV.str).drop 0).take (clip (ps.map AV.str).length (-1) - 0)))=_
 rw [e,List.drop_zero,Nat.sub_zero,← List.map_take,List.dropLast_eq_take]
theorem nu {σ:Sig} {ws:List (List Nat)} (h:∀ w∈ws,w∈names) (hl:ws.length≤12):dW σ .join (.str [47]) [.list (ws.map .str)]=.ok (.str (aW [47] ws)) σ∧(aW [47] ws).length≤40:=by
 have h1:=Ja ws fun w hw=>(sO w (h w hw)).2
 have h2:=m6 [47] ws
 simp only [List.length_cons,List.length_nil] at h2
 exact ⟨join_list (by simp only [List.length_cons,List.length_nil];lia),by lia⟩
section
variable {R:List Row} (G:Good R)
include G
theorem O7 {fo:Bool} {parts:List (List Nat)} {h:Nat} (hn:∀ p∈parts,p∈names) (hl:parts.length≤12) (e:(b7 R fo parts).1=.found h):h < R.length∧(b7 R fo parts).2≤8:=by
 have h0:0 < R.length:=(List.getElem?_eq_some_iff.mp G.root).1
 have:=(followed G 8 (aW [47] parts) fo 0 0 0 [] (nu (σ:=[]) hn hl).2 h0 (by decide) (by decide)).2 h
 rw [gY hn,sU] at this
 exact ⟨(this e).1,(this e).2.2⟩
theorem Mx {path:List Nat} {fo:Bool} (hp:path.length≤40) (d:Nat) (σ:Sig):aD (run PR (d + 11)) σ 47 [aB R,.str path,.bool fo]=.ok (lA (b7 R fo (partsOf path)).1) σ:=by
 have h0:0 < R.length:=(List.getElem?_eq_some_iff.mp G.root).1
 have hl:=G.len
 obtain ⟨h1,h2⟩:=followed G 8 path fo 0 0 d [] hp h0 (by decide) (by decide)
 rw [sU] at h1 h2
 change aD _ _ _ _=.ok (nj (b7 R fo (partsOf path))) _ at h1
 change ∀ h,(b7 R fo (partsOf path)).1=_→_ at h2
 generalize b7 R fo (partsOf path)=x at h1 h2
 obtain ⟨r,m⟩:=x
 refine bD (v:=lA r) (σ':=[]) (by show (bN (aB R) && true)=true;refine re (pg ..) ?_;rfl) ?_ (by cases r<;>rfl)
 change (exs PR (run PR (d + 10)) q7.body [some (aB R),some (.str path),some (.bool fo),none] []).bind bh=_
 refine aO<|ak (bc (bC (y:=.int 0) (z:=pJ r) (aJ rfl h1) rfl rfl)) ?_
 cases r with
 | found h=>exact aX<|aY<|dU (v:=.bool false) (bH (vs:=[.int h]) rfl rfl) rfl (inc (by have:=(h2 h rfl).1;exact szl (Nat.le_of_lt (Nat.le_trans this hl)) rfl) rfl)
 | bad e=>exact aX<|aY<|dU (v:=.bool true) (bH (vs:=[.str (word e)]) rfl rfl) rfl rfl
theorem Gd {path:List Nat} (hp:path.length≤40) (hn:∀ p∈partsOf path,p∈names) (hl12:(partsOf path).length≤12) (d:Nat) (σ:Sig):aD (run PR (d + 11)) σ 48 [aB R,.str path]=.ok (iM R (partsOf path)) σ:=by
 have h0:0 < R.length:=(List.getElem?_eq_some_iff.mp G.root).1
 have hl:=G.len
 have hfree:bR [aB R,.str path]=true:=by show (bN (aB R) && true)=true;refine re (pg ..) ?_;rfl
 have s1:=bc (x:=2) (jG (P:=PR) (cf:=run PR (d + 10)) (ρ:=[some (aB R),some (.str path),none,none]) (σ:=[]) (x:=1) (nm:=Str.ofString "part") (path:=path) rfl (by exact szl hp rfl))
 generalize partsOf path=ps at hn hl12 s1
 have fin:∀ {v:AV},bA [] fj v=some v→exs PR (run PR (d + 10)) [(.iff (.bo false [(.cmp (.v 2) [.eq] [(.lst false [])]),(.cmp (.sub (.v 2) (.neg 1)) [.isin] [(.tup [(.k (.str [46,46])),(.k (.str [46]))])])]) [(.ret (.k (.str [112,97,116,104])))] []),
 (.asg 3 (.sub (.call 46 [(.v 0),(.k (.int 0)),(.bm .join (.k (.str [47])) [(.slc (.v 2) (.k .none) (.neg 1))]),(.k (.bool true)),(.k (.int 0))]) (.k (.int 0)))),
 (.iff (.bi .isstr [(.v 3)]) [(.ret (.v 3))] []),
 (.ret (.ife (.cmp (.sub (.sub (.v 0) (.v 3)) (.k (.int 0))) [.eq] [(.k (.int 1))]) (.tup [(.bin .add (.v 3) (.k (.int 1))),(.sub (.v 2) (.neg 1))]) (.k (.str [110,111,32,102,111,108,100,101,114]))))] [some (aB R),some (.str path),some (.list (ps.map .str)),none] []=.ok (.ret v) []→aD (run PR (d + 11)) σ 48 [aB R,.str path]=.ok v σ:=fun {v} hb h=>by
   refine bD (v:=v) (σ':=[]) hfree ?_ hb
   change (exs PR (run PR (d + 10)) jT.body [some (aB R),some (.str path),none,none] []).bind bh=_
   exact aO (ak s1 h)
 have t1:ev PR (run PR (d + 10)) [some (aB R),some (.str path),some (.list (ps.map .str)),none] (.bo false [(.cmp (.v 2) [.eq] [(.lst false [])]),(.cmp (.sub (.v 2) (.neg 1)) [.isin] [(.tup [(.k (.str [46,46])),(.k (.str [46]))])])]) []=.ok (.bool (ps.isEmpty || dots (lastOf ps))) []:=by
   refine oZ (aL (y:=.list []) rfl rfl (xX (fun _=>rfl) ps [])) fun e=>aL (y:=.tuple [.str [46,46],.str [46]]) (bC (x:=.list (ps.map .str)) (y:=.int (-1)) rfl rfl (nq (fun q=>by rw [q] at e;cases e) (by exact szl hl12 rfl))) rfl ?_
   show some (([46,46] == lastOf ps) || (([46] == lastOf ps) || false))=some (lastOf ps == [46] || lastOf ps == [46,46])
   exact re (Bool.or_false ..) (re (Bool.or_comm ..) (re (BEq.comm (a:=[46])) (re (BEq.comm (a:=[46,46])) rfl)))
 unfold iM
 cases hq:(ps.isEmpty || dots (lastOf ps)) with
 | true =>
   rw [hq] at t1
   exact fin rfl (aX (aR t1 rfl (aX (aY rfl))))
 | false =>
   rw [hq] at t1
   have hne:ps≠[]:=fun q=>by rw [q] at hq;cases hq
   have hdl:∀ w∈ps.dropLast,w∈names:=fun w hw=>hn w (List.dropLast_subset ps hw)
   refine o01 (nu (σ:=[]) hdl (by refine re List.length_dropLast ?_;exact szl (Nat.sub_le_of_le_add hl12) rfl)) fun j1 j2=>?_
   refine o01 (followed G 8 (aW [47] ps.dropLast) true 0 0 d [] j2 h0 (by decide) (by decide)) fun h1 h2=>?_
   rw [sU,gY hdl] at h1 h2
   refine re (if_neg (by decide)) ?_
   change aD _ _ _ _=.ok (nj (b7 R true ps.dropLast)) _ at h1
   change ∀ h,(b7 R true ps.dropLast).1=_→_ at h2
   generalize b7 R true ps.dropLast=x at h1 h2
   obtain ⟨r,m⟩:=x
   have s2:=bc (x:=3) (bC (P:=PR) (a:=.call 46 [(.v 0),(.k (.int 0)),(.bm .join (.k (.str [47])) [(.slc (.v 2) (.k .none) (.neg 1))]),(.k (.bool true)),(.k (.int 0))]) (b:=.k (.int 0)) (ρ:=[some (aB R),some (.str path),some (.list (ps.map .str)),none]) (σ:=[]) (y:=.int 0) (z:=pJ r) (aJ (aP rfl (aP rfl (aP (j8 (x:=.str [47]) rfl rfl (bz (gU (x:=.list (ps.map .str)) (y:=.none) (w:=.int (-1)) rfl rfl rfl (xY hne (by exact szl hl12 rfl)))) j1) rfl))) h1) rfl rfl)
   have s3:=fun {v} (hb:bA [] fj v=some v) h=>fin (v:=v) hb (ak (aR t1 rfl rfl) (ak s2 h))
   cases r with
   | bad e=>exact s3 rfl (aX (aR (v:=.bool true) (bH (vs:=[.str (word e)]) rfl rfl) rfl (aX (aY rfl))))
   | found h =>
     have hh:=(h2 h rfl).1
     obtain ⟨r',hr⟩:∃ r',R[h]?=some r':=⟨_,List.getElem?_eq_getElem hh⟩
     have es:sOf R h=r'.s:=by unfold sOf;refine re hr ?_;rfl
     have t2:=aL (P:=PR) (cf:=run PR (d + 10)) (ρ:=[some (aB R),some (.str path),some (.list (ps.map .str)),some (.int h)]) (σ:=[]) (sS hl rfl (i:=3) rfl hr lZ.1) (b:=.k (.int 1)) (y:=.int (1:Nat)) rfl eq_int
     rw [dB] at t2
     dsimp only
     refine re es ?_
     by_cases q1:r'.s=1
     · refine re (if_pos q1) ?_
       rw [beq_iff_eq.mpr q1] at t2
       exact s3 rfl (ak (aR (v:=.bool false) (bH (vs:=[.int h]) rfl rfl) rfl rfl) (aX (aY (dU t2 rfl (eO (aP (inc (by exact szl (Nat.le_of_lt (Nat.le_trans hh hl)) rfl) rfl) (bz (bC (x:=.list (ps.map .str)) (y:=.int (-1)) rfl rfl (nq hne (by exact szl hl12 rfl))))))))))
     · refine re (if_neg q1) ?_
       rw [beq_eq_false_iff_ne.mpr q1] at t2
       exact s3 rfl (ak (aR (v:=.bool false) (bH (vs:=[.int h]) rfl rfl) rfl rfl) (aX (aY (dU t2 rfl rfl))))
end
end Mine.Law
end
section
open PySem
namespace Mine.Law
theorem nA {path:List Nat} (hp:path.length≤100) (d:Nat) (σ:Sig):aD (run PR (d + 1)) σ 25 [.str path]=.ok (.list ((partsOf path).map .str)) σ:=by
 refine bD (σ':=[]) rfl (I5 hp d []) ?_
 show (((partsOf path).map AV.str).mapM (bA _ 5)).map AV.list=_
 rw [o7 (fun x hx n hn=>by
   obtain ⟨w,_,rfl⟩:=List.mem_map.mp hx
   match n,hn with
   | n + 2,_=>rfl) 5 (by decide)]
 rfl
theorem Cq {here:Nat} {path:List Nat} (d:Nat) (σ:Sig):aD (run PR (d + 1)) σ 28 [.int 1,.int (here + 1:Nat),.str path]=.ok (.int (bu here path + 1:Nat)) σ:=by
 refine bD (σ':=[]) rfl (qu d []) ?_
 unfold bu
 cases jH path<;>rfl
theorem Ji {σ:Sig} {w:List Nat} {ws:List (List Nat)} (hl:ws.length≤100):slice (.list ((w :: ws).map .str)) (.int 1) .none=some (.list (ws.map .str)):=by
 show (if sizeOk ((w :: ws).map AV.str).length=true then some (AV.list (cut ((w :: ws).map .str) (some 1) none)) else none)=_
 rw [if_pos (aN (by rw [List.length_map,List.length_cons];exact szt hl rfl))]
 have e:clip ((w :: ws).map AV.str).length 1=1:=qI (a:=1) (by rw [List.length_map,List.length_cons];exact Nat.le_add_left _ _)
 show some (AV.list (((AV.str w :: ws.map AV.str).drop (clip ((w :: ws).map AV.str).length 1)).take (((w :: ws).map AV.str).length - clip ((w :: ws).map AV.str).length 1)))=_
 rw [e,List.drop_succ_cons,List.drop_zero,List.take_of_length_le (by simp)]
noncomputable abbrev J0:List C:=[(.asg 6 (.bin .add (.v 6) (.k (.int 1)))),(.iff (.cmp (.v 6) [.gt] [(.g (Str.ofString "MOST_LINKS") 8)]) [(.rse 2 (.bin .add (.k (.str [116,111,111,32,109,97,110,121,32,108,105,110,107,115,58,32])) (.v 2)))] []),(.asg 9 (.call 26 [(.v 0),(.sub (.v 8) (.k (.int 0)))])),(.asgt [4,5] (.tup [(.call 28 [(.v 1),(.v 4),(.v 9)]),(.bin .add (.call 25 [(.v 9)]) (.v 5))]))]
noncomputable abbrev Cr:Mine.E:=.bo true [(.cmp (.sub (.v 8) (.k (.int 1))) [.eq] [(.g (Str.ofString "LINK_SORT") 2)]),(.bo false [(.cmp (.v 5) [.ne] [(.lst false [])]),(.v 3)])]
noncomputable abbrev wIn:List C:=[(.asg 8 (.call 20 [(.v 0),(.v 4),(.v 7)])),(.iff (.cmp (.v 8) [.is] [(.k .none)]) [(.rse 1 (.bin .add (.k (.str [110,111,32,115,117,99,104,32,116,104,105,110,103,58,32])) (.v 2)))] []),(.iff Cr J0 [(.asg 4 (.sub (.v 8) (.k (.int 0))))])]
noncomputable abbrev sV:List C:=(.asgt [7,5] (.tup [(.sub (.v 5) (.k (.int 0))),(.slc (.v 5) (.k (.int 1)) (.k .none))])) :: (.ex (.call 27 [(.v 0),(.v 4),(.v 2)])) :: (.iff (.cmp (.v 7) [.eq] [(.k (.str [46]))]) [.cont] []) :: (.iff (.cmp (.v 7) [.eq] [(.k (.str [46,46]))]) [(.asg 4 (.attr (.call 24 [(.v 0),(.v 4)]) 6)),.cont] []) :: wIn
noncomputable def wl (v:AV) (path:List Nat) (fo:Bool) (here:Nat) (todo:List (List Nat)) (many:Nat) (x7 x8 x9:Option AV):Env:=[some v,some (.int 1),some (.str path),some (.bool fo),some (.int (here + 1:Nat)),some (.list (todo.map .str)),some (.int many),x7,x8,x9]
noncomputable def J1 (v:AV) (R:List Row) (path:List Nat) (fo:Bool) (here:Nat) (rest:List (List Nat)) (many:Nat) (x:Mine.R Fl):St→Prop
 | .stop e=>x=.err e []
 | .go h=>∃ x7 x8 x9,x=.ok (.nxt (wl v path fo h rest many x7 x8 x9)) []∨x=.ok (.cont (wl v path fo h rest many x7 x8 x9)) []
 | .link c=>if 8≤many then x=.err 2 [] else ∃ x7 x8 x9,x=.ok (.nxt (wl v path fo (bu here (tOf R c)) (partsOf (tOf R c)++rest) (many + 1) x7 x8 x9)) []
section
variable {R:List Row} (G:Good R) {v:AV} (V:VOk v R) {path:List Nat} (hp:path.length≤40) {fo:Bool} {d:Nat}
include G V hp
theorem O8 {here many:Nat} {name:List Nat} {rest:List (List Nat)} {x7 x8 x9:Option AV} (hh:here < R.length) (hm:many≤8) (hn:name∈names) (hl:rest.length≤90) :
   J1 v R path fo here rest many (exs PR (run PR (d + 7)) sV (wl v path fo here (name :: rest) many x7 x8 x9) []) (stp R here name (fo || !rest.isEmpty)):=by
 obtain ⟨r,hr⟩:∃ r,R[here]?=some r:=⟨_,List.getElem?_eq_getElem hh⟩
 have es:sOf R here=r.s:=by unfold sOf;refine re hr ?_;rfl
 have ep:pOf R here=r.p:=by unfold pOf;refine re hr ?_;rfl
 have t1:ex PR (run PR (d + 7)) (.asgt [7,5] (.tup [(.sub (.v 5) (.k (.int 0))),(.slc (.v 5) (.k (.int 1)) (.k .none))])) (wl v path fo here (name :: rest) many x7 x8 x9) []=.ok (.nxt (wl v path fo here rest many (some (.str name)) x8 x9)) [] :=
   d7 (vs:=[.str name,.list (rest.map .str)]) (eO (aP (bC (x:=.list ((name :: rest).map .str)) (y:=.int 0) rfl rfl (gB (k:=0) (by refine re (List.length_map ..) (re List.length_cons ?_);exact szt hl rfl))) (bz (gU (x:=.list ((name :: rest).map .str)) (y:=.int 1) (w:=.none) rfl rfl rfl (Ji (σ:=[]) (by exact szl hl rfl)))))) rfl
 have t2:=p7 G V hr (path:=path) (by exact szl hp rfl) (d + 1) []
 unfold stp
 refine re es (re ep ?_)
 by_cases c1:r.s=1
 · refine re (if_pos c1) ?_
   rw [if_pos c1] at t2
   have b1:∀ {cs:List C} {X:Mine.R Fl},exs PR (run PR (d + 7)) cs (wl v path fo here rest many (some (.str name)) x8 x9) []=X→exs PR (run PR (d + 7)) ((.asgt [7,5] (.tup [(.sub (.v 5) (.k (.int 0))),(.slc (.v 5) (.k (.int 1)) (.k .none))])) :: (.ex (.call 27 [(.v 0),(.v 4),(.v 2)])) :: cs) (wl v path fo here (name :: rest) many x7 x8 x9) []=X:=fun h=>ak t1 (ak (dR (aJ rfl t2)) h)
   have t3:=fun w=>aL (P:=PR) (cf:=run PR (d + 7)) (ρ:=wl v path fo here rest many (some (.str name)) x8 x9) (σ:=[]) (a:=.v 7) rfl (b:=.k (.str w)) rfl eq_str
   rcases Mt hn with rfl | rfl | ⟨n1,n2,c,hc,rfl⟩
   · refine re (if_neg (by decide)) (re (if_pos rfl) ?_)
     exact ⟨_,_,_,.inr (b1 (OJ (aR (t3 [46]) (q:=true) rfl rfl)))⟩
   · refine re (if_pos rfl) ?_
     exact ⟨_,_,_,.inr (b1 (ak (aR (t3 [46]) (q:=false) rfl rfl) (OJ (aR (t3 [46,46]) (q:=true) rfl (ak (bc (cR (z:=.int (r.p + 1:Nat)) (aJ rfl (jJ G V hr (d + 2) [])) rfl)) rfl)))))⟩
   · refine re (if_neg n2) (re (if_neg n1) ?_)
     have b2:∀ {X:Mine.R Fl},exs PR (run PR (d + 7)) wIn (wl v path fo here rest many (some (.str [c])) x8 x9) []=X→exs PR (run PR (d + 7)) sV (wl v path fo here ([c] :: rest) many x7 x8 x9) []=X:=fun h=>b1 (ak (aR (t3 [46]) (q:=false) (by refine re (beq_eq_false_iff_ne.mpr n1) ?_;rfl) rfl) (ak (aR (t3 [46,46]) (q:=false) (by refine re (beq_eq_false_iff_ne.mpr n2) ?_;rfl) rfl) h))
     have t4:=bc (x:=8) (aJ (P:=PR) (f:=20) (es:=[(.v 0),(.v 4),(.v 7)]) (ρ:=wl v path fo here rest many (some (.str [c])) x8 x9) (σ:=[]) rfl (Ms G V hr c1 hc d []))
     have hmem:∀ k∈children R here [c],k < R.length:=fun k hk=>xW hk
     generalize children R here [c]=l at t4 hmem
     cases l with
     | nil =>
       refine b2 (ak t4 (iJ (aR (v:=.bool true) (aL (y:=.none) rfl rfl rfl) rfl (iJ (vD (aQ rfl rfl (add_str ?_)))))))
       show 15 + path.length≤_
       exact szl (Nat.add_le_add (Nat.le_refl _) hp) rfl
     | cons k l =>
       obtain ⟨rc,hrc⟩:∃ rc,R[k]?=some rc:=⟨_,List.getElem?_eq_getElem (hmem k List.mem_cons_self)⟩
       have ec:sOf R k=rc.s:=by unfold sOf;refine re hrc ?_;rfl
       have et:tOf R k=rc.tx:=by unfold tOf;refine re hrc ?_;rfl
       have t5:ev PR (run PR (d + 7)) (wl v path fo here rest many (some (.str [c])) (some (gW R k)) x9) Cr []=.ok (.bool (sOf R k == 2 && (fo || !rest.isEmpty))) []:=by
         refine vG (p:=sOf R k == 2) ?_ fun _=>(oZ (aL (y:=.list []) rfl rfl (xG (fun _=>rfl) rest [])) fun _=>rfl).trans ?_
         · refine (aL (bC (x:=gW R k) (y:=.int 1) (z:=.int (sOf R k)) rfl rfl rfl) (y:=.int 2) rfl eq_int).trans ?_
           exact re (show (2:Int)=((2:Nat):Int) from rfl) (re dB rfl)
         · exact re (Bool.or_comm ..) rfl
       have b3:∀ {X:Mine.R Fl},exs PR (run PR (d + 7)) [(.iff Cr J0 [(.asg 4 (.sub (.v 8) (.k (.int 0))))])] (wl v path fo here rest many (some (.str [c])) (some (gW R k)) x9) []=X→exs PR (run PR (d + 7)) sV (wl v path fo here ([c] :: rest) many x7 x8 x9) []=X:=fun h=>b2 (ak t4 (ak (aR (v:=.bool false) (aL (x:=gW R k) (y:=.none) rfl rfl rfl) rfl rfl) h))
       show J1 v R path fo here rest many _ (if (sOf R k == 2 && (fo || !rest.isEmpty))=true then .link k else .go k)
       cases hb:(sOf R k == 2 && (fo || !rest.isEmpty)) with
       | false =>
         rw [hb] at t5
         exact ⟨_,_,_,.inl (b3 (ak (aR t5 rfl (ak (bc (bC (x:=gW R k) (y:=.int 0) (z:=.int (k + 1:Nat)) rfl rfl rfl)) rfl)) rfl))⟩
       | true =>
         rw [hb] at t5
         have s2:sOf R k=2:=by
           rw [Bool.and_eq_true,beq_iff_eq] at hb
           exact hb.1
         have t6:=bc (x:=6) (aQ (P:=PR) (cf:=run PR (d + 7)) (ρ:=wl v path fo here rest many (some (.str [c])) (some (gW R k)) x9) (σ:=[]) (a:=.v 6) (b:=.k (.int 1)) (o:=.add) (x:=.int many) (y:=.int 1) rfl rfl (jy (aK (by exact szt hm rfl)) (aK (by decide))))
         show if 8≤many then _ else _
         by_cases c8:8≤many
         · refine re (if_pos c8) ?_
           refine b3 (iJ (aR t5 rfl (ak t6 (iJ (aR (v:=.bool true) (aL (x:=.int (many + 1)) (y:=.int 8) rfl rfl (gt_int.trans (by exact re (pH (by exact ile (Nat.succ_le_succ c8))) rfl))) rfl (iJ (vD (aQ rfl rfl (add_str ?_)))))))))
           show 16 + path.length≤_
           exact szl (Nat.add_le_add (Nat.le_refl _) hp) rfl
         · refine re (if_neg c8) (re et ?_)
           have ht:=G.tl hrc
           have hpl:(partsOf rc.tx).length≤14:=Nat.le_trans (List.length_filter_le _ _) (Nat.le_trans (split_len 47 rc.tx) (by exact szt ht rfl))
           have t7:=p8 G V hrc (by exact Nat.ne_of_gt (eqr s2 (eql ec (Nat.le_refl _)))) (d + 1) []
           exact ⟨_,_,_,b3 (ak (aR t5 rfl (ak t6 (ak (aR (v:=.bool false) (aL (x:=.int (many + 1)) (y:=.int 8) rfl rfl (gt_int.trans (by exact re (fQ (by exact inl (Nat.lt_of_not_le c8))) rfl))) rfl rfl) (ak (bc (aJ (aP rfl (bz (bC (x:=gW R k) (y:=.int 0) (z:=.int (k + 1:Nat)) rfl rfl rfl))) t7))
             (ak (d7 (eO (aP (aJ rfl (Cq (d + 6) [])) (bz (aQ (x:=.list ((partsOf rc.tx).map .str)) (y:=.list (rest.map .str)) (z:=.list ((partsOf rc.tx++rest).map .str)) (aJ rfl (nA (by exact szl ht rfl) (d + 6) [])) rfl ((if_pos (aN (by refine re (List.length_map ..) (re (List.length_map ..) ?_);exact szl (Nat.add_le_add hpl hl) rfl))).trans (by exact re List.map_append rfl)))))) rfl) rfl))))) rfl)⟩
 · refine re (if_neg c1) ?_
   rw [if_neg c1] at t2
   exact ak t1 (iJ (xq (aJ rfl t2)))
end
end Mine.Law
end
section
open PySem
namespace Mine.Law
section
variable {test:Env→Sig→R Bool} {body:Env→Sig→R Fl} {n:Nat} {ρ ρ':Env} {σ σ':Sig}
theorem lB (h:test ρ σ=.ok false σ):cF test body (n + 1) ρ σ=.ok (.nxt ρ) σ:=by
 refine re mZ ?_
 refine re h ?_;rfl
theorem nF (h:test ρ σ=.ok true σ) (h2:body ρ σ=.ok (.nxt ρ') σ'∨body ρ σ=.ok (.cont ρ') σ'):cF test body (n + 1) ρ σ=cF test body n ρ' σ':=by
 refine re mZ ?_
 refine re h ?_
 rcases h2 with h2 | h2 <;>
 · show (body ρ σ).bind _=_
   refine re h2 ?_;rfl
theorem u6 {e:Nat} (h:test ρ σ=.ok true σ) (h2:body ρ σ=.err e σ'):cF test body (n + 1) ρ σ=.err e σ':=by
 refine re mZ ?_
 refine re h ?_
 show (body ρ σ).bind _=_
 refine re h2 ?_;rfl
theorem Ge {v:AV} (h:test ρ σ=.ok true σ) (h2:body ρ σ=.ok (.ret v) σ'):cF test body (n + 1) ρ σ=.ok (.ret v) σ':=by
 refine re mZ ?_
 refine re h ?_
 show (body ρ σ).bind _=_
 refine re h2 ?_;rfl
end
theorem sW {P:Prog} {cf:Calls} {ρ:Env} {σ:Sig} {t:Mine.E} {b:List C} {r:R Fl} (hf:cF (fun ρ σ=>(ev P cf ρ t σ).bind fun v σ=>Mine.R.of (truthy v) σ) (fun ρ σ=>exs P cf b ρ σ) turns ρ σ=r):ex P cf (.whl t b) ρ σ=r:=hf
noncomputable def O9 (σ:Sig):Res→R AV
 | .found h=>.ok (.int (h + 1:Nat)) σ
 | .bad e=>.err e σ
section
variable {R:List Row} (G:Good R)
include G
theorem Good.tok {c:Nat}:(∀ p∈partsOf (tOf R c),p∈names)∧(partsOf (tOf R c)).length≤2:=by
 unfold tOf
 cases h:R[c]? with
 | none=>exact ⟨fun p hp=>(nomatch hp),by decide⟩
 | some r =>
   show (∀ p∈partsOf r.tx,p∈names)∧(partsOf r.tx).length≤2
   obtain ⟨x,e | e⟩:=G.tx c r h
   · refine re e ?_
     have:=ni x (most:=3) (by decide)
     exact ⟨this.2,by exact Nat.le_of_lt_succ this.1⟩
   · refine re e ?_
     exact ⟨fun p hp=>(nomatch hp),by decide⟩
variable {v:AV} (V:VOk v R) {path:List Nat} (hp:path.length≤40) {fo:Bool} {d:Nat}
include V hp
theorem Pa {P:Prog} {r:Res}:∀ (n:Nat) (todo:List (List Nat)) (here many:Nat) (x7 x8 x9:Option AV),here < R.length→many≤8→(∀ p∈todo,p∈names)→todo.length + 2 * (8 - many)≤60→iZ R fo n todo here many=some r →
   (∀ e,r=.bad e→cF (fun ρ σ=>(ev PR (run PR (d + 7)) ρ (.cmp (.v 5) [.ne] [(.lst false [])]) σ).bind fun v σ=>Mine.R.of (truthy v) σ) (fun ρ σ=>exs PR (run PR (d + 7)) sV ρ σ) n (wl v path fo here todo many x7 x8 x9) []=.err e []) ∧
   ∀ h,r=.found h→∃ m y7 y8 y9,cF (fun ρ σ=>(ev PR (run PR (d + 7)) ρ (.cmp (.v 5) [.ne] [(.lst false [])]) σ).bind fun v σ=>Mine.R.of (truthy v) σ) (fun ρ σ=>exs PR (run PR (d + 7)) sV ρ σ) n (wl v path fo here todo many x7 x8 x9) []=.ok (.nxt (wl v path fo h [] m y7 y8 y9)) []:=by
 intro n
 induction n with
 | zero=>intro todo here many x7 x8 x9 _ _ _ _ h;cases h
 | succ n ih =>
   intro todo here many x7 x8 x9 hh hm hn hl hr
   have ht:∀ todo,((ev PR (run PR (d + 7)) (wl v path fo here todo many x7 x8 x9) (.cmp (.v 5) [.ne] [(.lst false [])]) []).bind fun v σ=>Mine.R.of (truthy v) σ)=.ok (!todo.isEmpty) []:=fun todo=>by
     refine re (aL (y:=.list []) (x:=.list (todo.map .str)) rfl rfl (xG (fun _=>rfl) todo [])) ?_
     rfl
   cases todo with
   | nil =>
     cases hr
     exact ⟨fun e h=>(by cases h),fun h e=>by cases e;exact ⟨many,x7,x8,x9,lB (ht [])⟩⟩
   | cons name rest =>
     have ht:=ht (name :: rest)
     rw [List.length_cons] at hl
     have hr:Ci R (iZ R fo n) rest here many (stp R here name (fo || !rest.isEmpty))=some r:=hr
     have so:=FZ G (part:=name) (q:=fo || !rest.isEmpty) hh
     have tu:=O8 G V hp (fo:=fo) (d:=d) (x7:=x7) (x8:=x8) (x9:=x9) (rest:=rest) hh hm (hn name List.mem_cons_self) (by exact Nat.le_of_lt (rma hl rfl))
     have hn:=fun p hp=>hn p (List.mem_cons_of_mem name hp)
     cases hs:stp R here name (fo || !rest.isEmpty) with
     | stop e =>
       rw [hs] at hr tu
       cases hr
       exact ⟨fun e' h=>by cases h;exact u6 ht tu,fun h e=>(by cases e)⟩
     | go h =>
       rw [hs] at hr tu
       refine o30 tu fun y7 y8 y9 tu=>?_
       refine re (nF ht tu) ?_
       exact ih rest h many y7 y8 y9 (so.1 h hs) hm hn (by exact Nat.le_of_lt (Nat.le_trans (Nat.add_lt_add_right (Nat.le_refl _) _) hl)) hr
     | link c =>
       rw [hs] at hr tu
       have hr:(if 8≤many then some (.bad 2) else iZ R fo n (partsOf (tOf R c)++rest) (bu here (tOf R c)) (many + 1))=some r:=hr
       have tu:if 8≤many then _ else _:=tu
       by_cases c8:8≤many
       · rw [if_pos c8] at hr tu
         cases hr
         exact ⟨fun e' h=>by cases h;exact u6 ht tu,fun h e=>(by cases e)⟩
       · rw [if_neg c8] at hr tu
         refine o30 tu fun y7 y8 y9 tu=>?_
         refine re (nF ht (.inl tu)) ?_
         refine o01 (G.tok (c:=c)) fun k1 k2=>?_
         refine ih _ _ (many + 1) y7 y8 y9 ?_ (by exact Nat.lt_of_not_le c8) (fun p hp=>?_) (by refine re List.length_append ?_;exact wl1 c8 k2 hl) hr
         · unfold bu
           split
           · exact (List.getElem?_eq_some_iff.mp G.root).1
           · exact hh
         · rcases List.mem_append.mp hp with h | h
           · exact k1 p h
           · exact hn p h
omit V hp in
theorem xZ {parts:List (List Nat)} (hl:parts.length≤20):iZ R fo 200 parts 0 0=some (b7 R fo parts).1:=by
 obtain ⟨a1,a2,a3,j,a4,a5⟩:=o9 (R:=R) (fun c=>G.tok.2) fo 8 parts fo [] 0 0 (by cases fo<;>rfl) (by decide) (by decide)
 have a5:=a5 (199 - j)
 rw [List.append_nil,show 199 - j + 1 + j=200 by lia] at a5
 refine re a5 ?_
 show Cj R fo (199 - j + 1) [] (b7 R fo parts)=_
 generalize b7 R fo parts=x
 obtain ⟨r,m⟩:=x
 cases r<;>rfl
omit V hp in
theorem My {p q:List (List Nat)} {h m:Nat} (hlp:p.length≤10) (hlq:q.length≤10) (hq:q≠[]) (e:b7 R true p=(.found h,m)) (m8:m≤8):(b7 R false (p++q)).1=(bJ R (dh R 8) false q h m).1:=by
 have h0:=xZ G (fo:=false) (parts:=p++q) (by rw [List.length_append];exact szl (Nat.add_le_add hlp hlq) rfl)
 obtain ⟨a1,a2,a3,j,a4,a5⟩:=o9 (R:=R) (fun c=>G.tok.2) false 8 p true q 0 0 (by cases q with | nil=>exact absurd rfl hq | cons=>rfl) (by decide) (by decide)
 change (b7 R true p).2≤9 at a2
 change j≤_ + 2 * ((b7 R true p).2 - 0) at a4
 change ∀ n,_=Cj R false (n + 1) q (b7 R true p) at a5
 rw [e] at a2 a4 a5
 obtain ⟨b1,b2,b3,i,b4,b5⟩:=o9 (R:=R) (fun c=>G.tok.2) false 8 q false [] h m rfl (by exact Nat.le_add_left _ _) m8
 have e1:=a5 (199 - j)
 rw [show 199 - j + 1 + j=200 from ra1 (szl (Nat.le_trans a4 (Nat.add_le_add hlp (Nat.mul_le_mul_left 2 (Nat.le_trans (Nat.sub_le _ _) a2)))) rfl),h0] at e1
 have e2:=b5 (199 - j - i)
 rw [List.append_nil,show 199 - j - i + 1 + i=199 - j + 1 from ra1 (Nat.le_sub_of_add_le (szl (Nat.add_le_add (Nat.le_trans b4 (Nat.add_le_add hlq (Nat.mul_le_mul_left 2 (Nat.le_trans (Nat.sub_le _ _) b2)))) (Nat.le_trans a4 (Nat.add_le_add hlp (Nat.mul_le_mul_left 2 (Nat.le_trans (Nat.sub_le _ _) a2))))) rfl))] at e2
 have e3:some (b7 R false (p++q)).1=iZ R false (199 - j + 1) q h m:=e1
 rw [e2] at e3
 generalize bJ R (dh R 8) false q h m=x at e3
 obtain ⟨r,k⟩:=x
 cases r<;>exact Option.some.inj e3
theorem walked (hn:∀ p∈partsOf path,p∈names) (hl:(partsOf path).length≤20) (σ:Sig):aD (run PR (d + 8)) σ 29 [v,.int 1,.str path,.bool fo]=O9 σ (b7 R fo (partsOf path)).1:=by
 have h0:0 < R.length:=(List.getElem?_eq_some_iff.mp G.root).1
 refine o01 (Pa G V hp (fo:=fo) (d:=d) (P:=PR) 200 (partsOf path) 0 0 none none none h0 (by decide) hn (by exact szl (Nat.add_le_add hl (Nat.le_refl _)) rfl) (xZ G hl)) fun w1 w2=>?_
 have s1:ex PR (run PR (d + 7)) (.asgt [4,5,6] (.tup [(.v 1),(.call 25 [(.v 2)]),(.k (.int 0))])) [some v,some (.int 1),some (.str path),some (.bool fo),none,none,none,none,none,none] []=.ok (.nxt (wl v path fo 0 (partsOf path) 0 none none none)) []:=d7 (vs:=[.int 1,.list ((partsOf path).map .str),.int 0]) (eO (aP rfl (aP (aJ rfl (nA (by exact szl hp rfl) (d + 6) [])) rfl))) rfl
 generalize (b7 R fo (partsOf path)).1=r at w1 w2
 cases r with
 | bad e =>
   refine j9 (σ':=[]) (zA V _ _ _ rfl rfl rfl) ?_
   change (exs PR (run PR (d + 7)) qd.body [some v,some (.int 1),some (.str path),some (.bool fo),none,none,none,none,none,none] []).bind bh=_
   exact lY (ak s1 (iJ (sW (w1 e rfl))))
 | found h =>
   refine o40 (w2 h rfl) fun m y7 y8 y9 w=>?_
   refine bD (v:=.int (h + 1:Nat)) (σ':=[]) (zA V _ _ _ rfl rfl rfl) ?_ rfl
   change (exs PR (run PR (d + 7)) qd.body [some v,some (.int 1),some (.str path),some (.bool fo),none,none,none,none,none,none] []).bind bh=_
   exact aO (ak s1 (ak (sW w) (aX (aY rfl))))
end
end Mine.Law
end
section
open PySem
namespace Mine.Law
theorem Gh (R:List Row):∀ (D:Nat) (parts:List (List Nat)) (fo:Bool) (here many e:Nat),(bJ R (dh R D) fo parts here many).1=.bad e→e≤2:=by
 have hstop:∀ {here part q e},stp R here part q=.stop e→e≤2:=fun {here part q e} h=>by
   unfold stp at h
   split at h
   · split at h
     · cases h
     · split at h
       · cases h
       · cases hl:children R here part with
         | nil=>rw [hl] at h;cases h;decide
         | cons c l =>
           rw [hl] at h
           change (if (sOf R c == 2 && q)=true then St.link c else St.go c)=.stop e at h
           split at h<;>cases h
   · cases h;decide
 have core:∀ D,(∀ here c many e,(dh R D here c many).1=.bad e→e≤2)→∀ (parts:List (List Nat)) (fo:Bool) (here many e:Nat),(bJ R (dh R D) fo parts here many).1=.bad e→e≤2:=by
   intro D H parts fo
   induction parts with
   | nil=>intro here many e h;cases h
   | cons part rest ih =>
     intro here many e h
     have h:(dH (dh R D) here many (bJ R (dh R D) fo rest) (stp R here part (fo || !rest.isEmpty))).1=.bad e:=h
     cases hs:stp R here part (fo || !rest.isEmpty) with
     | stop k=>rw [hs] at h;cases h;exact hstop hs
     | go k=>rw [hs] at h;exact ih k many e h
     | link c =>
       rw [hs] at h
       have h:(if 8≤many then ((.bad 2,many + 1):Res×Nat) else after (bJ R (dh R D) fo rest) (dh R D here c (many + 1))).1=.bad e:=h
       by_cases m8:8≤many
       · rw [if_pos m8] at h;cases h;decide
       · rw [if_neg m8] at h
         have H:=H here c (many + 1)
         generalize dh R D here c (many + 1)=x at h H
         obtain ⟨r,m⟩:=x
         cases r with
         | found k=>exact ih k m e h
         | bad k=>cases h;exact H _ rfl
 intro D
 induction D with
 | zero=>exact core 0 fun here c many e h=>by cases h;decide
 | succ D ih=>exact core (D + 1) fun here c many e h=>ih _ _ _ _ _ h
theorem Mz {e:Nat} (h:e≤3):cX e=some (word e):=by
 match e,h with
 | 0,_=>rfl
 | 1,_=>rfl
 | 2,_=>rfl
 | 3,_=>rfl
noncomputable def Cu (R:List Row) (σ:Sig) (ps:List (List Nat)):Mine.R AV:=if (ps.isEmpty || dots (lastOf ps))=true then .err 3 σ else match (b7 R true ps.dropLast).1 with
 | .found h=>if sOf R h=1 then .ok (.tuple [.int (h + 1:Nat),.str (lastOf ps)]) σ else .err 0 σ
 | .bad e=>.err e σ
noncomputable def up (R:List Row):Nat→Nat→List Nat
 | 0,_=>[]
 | n + 1,at_=>if at_=0 then [] else at_ :: up R n (pOf R at_)
noncomputable def isUp (R:List Row) (n at_ other:Nat):Bool:=other == 0 || (up R n at_).contains other
section
variable {R:List Row} (G:Good R) {v:AV} (V:VOk v R) {d:Nat}
include G
theorem Good.pow {k:Nat} (h:k < R.length):pOf R k < k∨k=0∧pOf R k=0:=by
 have hr:R[k]?=some R[k]:=List.getElem?_eq_getElem h
 rcases Nat.eq_zero_or_pos k with e | e
 · subst e
   right
   unfold pOf
   refine re G.root ?_
   exact ⟨rfl,rfl⟩
 · left
   unfold pOf
   refine re hr ?_
   exact G.par k _ hr e
include V
theorem Jj {path:List Nat} (hp:path.length≤40) (hn:∀ p∈partsOf path,p∈names) (hl12:(partsOf path).length≤12) (σ:Sig):aD (run PR (d + 9)) σ 30 [v,.int 1,.str path]=Cu R σ (partsOf path):=by
 have s1:=bc (x:=3) (aJ (P:=PR) (ρ:=[some v,some (.int 1),some (.str path),none,none]) (σ:=[]) (f:=25) (es:=[.v 2]) rfl (nA (path:=path) (by exact szl hp rfl) (d + 7) []))
 generalize partsOf path=ps at hn hl12 s1
 have hfree:bR [v,.int 1,.str path]=true:=jP V _ _ rfl rfl
 have t1:ev PR (run PR (d + 8)) [some v,some (.int 1),some (.str path),some (.list (ps.map .str)),none] (.bo false [(.cmp (.v 3) [.eq] [(.lst false [])]),(.cmp (.sub (.v 3) (.neg 1)) [.isin] [(.tup [(.k (.str [46])),(.k (.str [46,46]))])])]) []=.ok (.bool (ps.isEmpty || dots (lastOf ps))) []:=by
   refine oZ (aL (y:=.list []) rfl rfl (xX (fun _=>rfl) ps [])) fun e=>aL (y:=.tuple [.str [46],.str [46,46]]) (bC (x:=.list (ps.map .str)) (y:=.int (-1)) rfl rfl (nq (fun q=>by rw [q] at e;cases e) (by exact szl hl12 rfl))) rfl ?_
   show some (([46] == lastOf ps) || (([46,46] == lastOf ps) || false))=some (lastOf ps == [46] || lastOf ps == [46,46])
   exact re (Bool.or_false ..) (re (BEq.comm (a:=[46])) (re (BEq.comm (a:=[46,46])) rfl))
 unfold Cu
 cases hq:(ps.isEmpty || dots (lastOf ps)) with
 | true =>
   rw [hq] at t1
   refine j9 (σ':=[]) hfree ?_
   change (exs PR (run PR (d + 8)) gO.body [some v,some (.int 1),some (.str path),none,none] []).bind bh=_
   refine lY (ak s1 (iJ (aR t1 rfl (iJ (vD (aQ rfl rfl (add_str ?_)))))))
   show 20 + path.length≤_
   exact szl (Nat.add_le_add (Nat.le_refl _) hp) rfl
 | false =>
   rw [hq] at t1
   have hne:ps≠[]:=fun q=>by rw [q] at hq;cases hq
   have hdl:∀ w∈ps.dropLast,w∈names:=fun w hw=>hn w (List.dropLast_subset ps hw)
   have hll:ps.dropLast.length≤12:=by refine re List.length_dropLast ?_;exact szl (Nat.sub_le_of_le_add hl12) rfl
   refine o01 (nu (σ:=[]) hdl hll) fun j1 j2=>?_
   have h1:=walked G V (fo:=true) (d:=d) j2 (by refine re (gY hdl) ?_;exact hdl) (by refine re (gY hdl) ?_;exact szl hll rfl) []
   rw [gY hdl] at h1
   have h2:=fun h=>O7 G (fo:=true) (parts:=ps.dropLast) (h:=h) hdl hll
   refine re (if_neg (by decide)) ?_
   generalize (b7 R true ps.dropLast).1=r at h1 h2
   have e4:evs PR (run PR (d + 8)) [some v,some (.int 1),some (.str path),some (.list (ps.map .str)),none] [(.v 0),(.v 1),(.bm .join (.k (.str [47])) [(.slc (.v 3) (.k .none) (.neg 1))]),(.k (.bool true))] []=.ok [v,.int 1,.str (aW [47] ps.dropLast),.bool true] []:=aP rfl (aP rfl (aP (j8 (x:=.str [47]) rfl rfl (bz (gU (x:=.list (ps.map .str)) (y:=.none) (w:=.int (-1)) rfl rfl rfl (xY hne (by exact szl hl12 rfl)))) j1) rfl))
   cases r with
   | bad e =>
     refine j9 (σ':=[]) hfree ?_
     change (exs PR (run PR (d + 8)) gO.body [some v,some (.int 1),some (.str path),none,none] []).bind bh=_
     exact lY (ak s1 (ak (aR t1 rfl rfl) (iJ (Ff (aJ e4 h1)))))
   | found h =>
     have hh:=(h2 h rfl).1
     obtain ⟨r',hr⟩:∃ r',R[h]?=some r':=⟨_,List.getElem?_eq_getElem hh⟩
     have es:sOf R h=r'.s:=by unfold sOf;refine re hr ?_;rfl
     have h3:=p7 G V hr (path:=path) (by exact szl hp rfl) (d + 2) []
     dsimp only
     refine re es ?_
     by_cases q1:r'.s=1
     · refine re (if_pos q1) ?_
       rw [if_pos q1] at h3
       refine bD (v:=.tuple [.int (h + 1:Nat),.str (lastOf ps)]) (σ':=[]) hfree ?_ rfl
       change (exs PR (run PR (d + 8)) gO.body [some v,some (.int 1),some (.str path),none,none] []).bind bh=_
       exact aO (ak s1 (ak (aR t1 rfl rfl) (ak (bc (aJ e4 h1)) (ak (dR (aJ rfl h3)) (aX (aY (eO (aP rfl (bz (bC (x:=.list (ps.map .str)) (y:=.int (-1)) rfl rfl (nq hne (by exact szl hl12 rfl))))))))))))
     · refine re (if_neg q1) ?_
       rw [if_neg q1] at h3
       refine j9 (σ':=[]) hfree ?_
       change (exs PR (run PR (d + 8)) gO.body [some v,some (.int 1),some (.str path),none,none] []).bind bh=_
       exact lY (ak s1 (ak (aR t1 rfl rfl) (ak (bc (aJ e4 h1)) (iJ (xq (aJ rfl h3))))))
noncomputable abbrev my:List C:=[(.asg 3 (.attr (.call 24 [(.v 0),(.v 1)]) 6)),(.iff (.cmp (.v 3) [.eq] [(.v 1)]) [(.ret (.k (.bool false)))] []),(.asg 1 (.v 3))]
theorem MF {other:Nat}:∀ (n at_ N:Nat) (x3:Option AV),at_≤n→n < N→at_ < R.length →
   (isUp R n at_ other=false→cF (fun ρ σ=>(ev PR (run PR (d + 5)) ρ (.cmp (.v 1) [.ne] [(.v 2)]) σ).bind fun v σ=>Mine.R.of (truthy v) σ) (fun ρ σ=>exs PR (run PR (d + 5)) my ρ σ) N [some v,some (.int (at_ + 1:Nat)),some (.int (other + 1:Nat)),x3] []=.ok (.ret (.bool false)) []) ∧
   (isUp R n at_ other=true→∃ ρ',cF (fun ρ σ=>(ev PR (run PR (d + 5)) ρ (.cmp (.v 1) [.ne] [(.v 2)]) σ).bind fun v σ=>Mine.R.of (truthy v) σ) (fun ρ σ=>exs PR (run PR (d + 5)) my ρ σ) N [some v,some (.int (at_ + 1:Nat)),some (.int (other + 1:Nat)),x3] []=.ok (.nxt ρ') []):=by
 intro n
 induction n with
 | zero =>
   intro at_ N x3 hn hN hat
   exact step 0 at_ N x3 hn hN hat (fun h=>absurd h (by exact Nat.not_lt_of_le hn)) fun h=>absurd h (by exact Nat.not_lt_of_le hn)
 | succ n ih =>
   intro at_ N x3 hn hN hat
   refine step (n + 1) at_ N x3 hn hN hat ?_ ?_<;>intro h <;>
   · match N,hN with
     | N + 1,hN =>
       have e:isUp R (n + 1) at_ other=(at_ == other || isUp R n (pOf R at_) other):=by
         unfold isUp
         have:up R (n + 1) at_=at_ :: up R n (pOf R at_):=if_neg (by exact Nat.ne_of_gt h)
         refine re this (re List.contains_cons (re (BEq.comm (a:=other) (b:=at_)) ?_))
         cases other == 0<;>cases at_ == other<;>rfl
       have hp:pOf R at_ < at_:=by rcases G.pow hat with h | h<;>lia
       refine o01 (ih (pOf R at_) N (some (.int (pOf R at_ + 1:Nat))) (by exact Nat.le_of_lt_succ (Nat.le_trans hp hn)) (by exact Nat.le_of_lt_succ hN) (G.par_lt hat)) fun i1 i2=>?_
       intro hne hu
       rw [e,beq_eq_false_iff_ne.mpr hne,Bool.false_or] at hu
       first | exact i1 hu | exact i2 hu
where
 step (n at_ N:Nat) (x3:Option AV) (hn:at_≤n) (hN:n < N) (hat:at_ < R.length)
   (H1:0 < at_→at_≠other→isUp R n at_ other=false→cF (fun ρ σ=>(ev PR (run PR (d + 5)) ρ (.cmp (.v 1) [.ne] [(.v 2)]) σ).bind fun v σ=>Mine.R.of (truthy v) σ) (fun ρ σ=>exs PR (run PR (d + 5)) my ρ σ) (N - 1) [some v,some (.int (pOf R at_ + 1:Nat)),some (.int (other + 1:Nat)),some (.int (pOf R at_ + 1:Nat))] []=.ok (.ret (.bool false)) [])
   (H2:0 < at_→at_≠other→isUp R n at_ other=true→∃ ρ',cF (fun ρ σ=>(ev PR (run PR (d + 5)) ρ (.cmp (.v 1) [.ne] [(.v 2)]) σ).bind fun v σ=>Mine.R.of (truthy v) σ) (fun ρ σ=>exs PR (run PR (d + 5)) my ρ σ) (N - 1) [some v,some (.int (pOf R at_ + 1:Nat)),some (.int (other + 1:Nat)),some (.int (pOf R at_ + 1:Nat))] []=.ok (.nxt ρ') []) :
   (isUp R n at_ other=false→cF (fun ρ σ=>(ev PR (run PR (d + 5)) ρ (.cmp (.v 1) [.ne] [(.v 2)]) σ).bind fun v σ=>Mine.R.of (truthy v) σ) (fun ρ σ=>exs PR (run PR (d + 5)) my ρ σ) N [some v,some (.int (at_ + 1:Nat)),some (.int (other + 1:Nat)),x3] []=.ok (.ret (.bool false)) []) ∧
   (isUp R n at_ other=true→∃ ρ',cF (fun ρ σ=>(ev PR (run PR (d + 5)) ρ (.cmp (.v 1) [.ne] [(.v 2)]) σ).bind fun v σ=>Mine.R.of (truthy v) σ) (fun ρ σ=>exs PR (run PR (d + 5)) my ρ σ) N [some v,some (.int (at_ + 1:Nat)),some (.int (other + 1:Nat)),x3] []=.ok (.nxt ρ') []):=by
   match N,hN with
   | N + 1,hN =>
     have ht:((ev PR (run PR (d + 5)) [some v,some (.int (at_ + 1:Nat)),some (.int (other + 1:Nat)),x3] (.cmp (.v 1) [.ne] [(.v 2)]) []).bind fun v σ=>Mine.R.of (truthy v) σ)=.ok (!(at_ == other)) []:=by
       refine re (aL (x:=.int (at_ + 1:Nat)) (y:=.int (other + 1:Nat)) rfl rfl ne_int) (re dB ?_)
       show Mine.R.ok (!(at_ + 1 == other + 1)) []=_
       exact re (show (at_ + 1 == other + 1)=(at_ == other) from Bool.eq_iff_iff.mpr (by simp)) rfl
     by_cases q:at_=other
     · subst q
       have hu:isUp R n at_ at_=true:=by
         unfold isUp
         match n,at_,hn with
         | 0,0,_=>rfl
         | n + 1,0,_=>rfl
         | n + 1,k + 1,_ =>
           have:up R (n + 1) (k + 1)=(k + 1) :: up R n (pOf R (k + 1)):=if_neg (by exact Nat.ne_of_gt (Nat.le_add_left _ _))
           refine re this ?_
           simp
       rw [show (at_ == at_)=true by simp] at ht
       exact ⟨fun h=>(by rw [hu] at h;cases h),fun _=>⟨_,lB ht⟩⟩
     · rw [beq_eq_false_iff_ne.mpr q] at ht
       obtain ⟨r,hr⟩:∃ r,R[at_]?=some r:=⟨_,List.getElem?_eq_getElem hat⟩
       have ep:pOf R at_=r.p:=by unfold pOf;refine re hr ?_;rfl
       have s1:=bc (x:=3) (cR (P:=PR) (a:=.call 24 [(.v 0),(.v 1)]) (f:=6) (ρ:=[some v,some (.int (at_ + 1:Nat)),some (.int (other + 1:Nat)),x3]) (σ:=[]) (z:=.int (r.p + 1:Nat)) (aJ rfl (jJ G V hr d [])) rfl)
       have t2:=aL (P:=PR) (cf:=run PR (d + 5)) (ρ:=[some v,some (.int (at_ + 1:Nat)),some (.int (other + 1:Nat)),some (.int (r.p + 1:Nat))]) (σ:=[]) (a:=.v 3) (b:=.v 1) (x:=.int (r.p + 1:Nat)) (y:=.int (at_ + 1:Nat)) rfl rfl eq_int
       rw [dB,show (r.p + 1 == at_ + 1)=(r.p == at_) from Bool.eq_iff_iff.mpr (by simp)] at t2
       rw [ep] at H1 H2
       rcases G.pow hat with h | ⟨h,h2⟩
       · rw [ep] at h
         rw [beq_eq_false_iff_ne.mpr (by exact Nat.ne_of_lt h)] at t2
         refine re (nF ht (.inl (ak s1 (ak (aR t2 rfl rfl) (ak (bc rfl) rfl))))) ?_
         exact ⟨H1 (by exact Nat.zero_lt_of_lt h) q,H2 (by exact Nat.zero_lt_of_lt h) q⟩
       · rw [ep] at h2
         rw [h2,h] at t2
         have hu:isUp R n at_ other=false:=by
           unfold isUp
           refine re (beq_eq_false_iff_ne.mpr (by lia)) (re h ?_)
           cases n<;>rfl
         refine ⟨fun _=>Ge ht (ak s1 (aX (aR (v:=.bool true) (q:=true) ?_ rfl (aX (aY rfl))))),fun h=>(by rw [hu] at h;cases h)⟩
         refine re h (re h2 ?_)
         exact t2
theorem Gi {at_ other:Nat} (h1:at_ < R.length) (σ:Sig):aD (run PR (d + 6)) σ 31 [v,.int (at_ + 1:Nat),.int (other + 1:Nat)]=.ok (.bool (isUp R 9 at_ other)) σ:=by
 have:=G.len
 refine o01 (MF G V (d:=d) (other:=other) 9 at_ 200 none (by exact Nat.le_of_lt (Nat.le_trans h1 this)) (by decide) h1) fun i1 i2=>?_
 refine bD (v:=.bool (isUp R 9 at_ other)) (σ':=[]) (jP V _ _ rfl rfl) ?_ rfl
 change (exs PR (run PR (d + 5)) pO.body [some v,some (.int (at_ + 1:Nat)),some (.int (other + 1:Nat)),none] []).bind bh=_
 cases hu:isUp R 9 at_ other with
 | false=>exact aO (aX (sW (i1 hu)))
 | true =>
   refine o10 (i2 hu) fun ρ' i2=>?_
   exact aO (ak (sW i2) (aX (aY rfl)))
end
end Mine.Law
end
section
open PySem
namespace Mine.Law
section
variable {P:Prog} {cf:Calls} {ρ:Env} {σ σ':Sig} {caps:List Nat} {body:Mine.E}
theorem sX {v:AV} (h0:σ[0]?=some .tab) (h:ev P cf (caps.map fun c=>(ρ[c]?).getD none) body σ=.ok v σ'):ev P cf ρ (.tried caps body) σ=.ok v σ':=by
 show (match (σ[0]?:Option MO) with | some .tab=>(match ev P cf (caps.map fun c=>(ρ[c]?).getD none) body σ with | .ok v σ'=>R.ok v σ' | .err c σ'=>(match cX c with | some w=>.ok (.str w) σ' | none=>.stuck) | .stuck=>.stuck) | _=>.stuck)=_
 exact re h0 (re h rfl)
theorem jb {c:Nat} (h0:σ[0]?=some .tab) (hc:c≤3) (h:ev P cf (caps.map fun c=>(ρ[c]?).getD none) body σ=.err c σ'):ev P cf ρ (.tried caps body) σ=.ok (.str (word c)) σ':=by
 show (match (σ[0]?:Option MO) with | some .tab=>(match ev P cf (caps.map fun c=>(ρ[c]?).getD none) body σ with | .ok v σ'=>R.ok v σ' | .err c σ'=>(match cX c with | some w=>.ok (.str w) σ' | none=>.stuck) | .stuck=>.stuck) | _=>.stuck)=_
 refine re h0 (re h ?_)
 dsimp only
 exact re (Mz hc) rfl
theorem zB {r:Res} (h0:σ[0]?=some .tab) (hb:∀ e,r=.bad e→e≤2) (h:ev P cf (caps.map fun c=>(ρ[c]?).getD none) body σ=O9 σ r):ev P cf ρ (.tried caps body) σ=.ok (lA r) σ:=by
 cases r with
 | found k=>exact sX h0 h
 | bad e=>exact jb h0 (by have:=hb e rfl;exact szl this rfl) h
theorem MJ {R:List Row} {ps:List (List Nat)} (h0:σ[0]?=some .tab) (h:ev P cf (caps.map fun c=>(ρ[c]?).getD none) body σ=Cu R σ ps):ev P cf ρ (.tried caps body) σ=.ok (iM R ps) σ:=by
 unfold Cu at h
 unfold iM
 cases q:(ps.isEmpty || dots (lastOf ps)) with
 | true =>
   rw [q] at h
   exact jb h0 (by decide) h
 | false =>
   rw [q,if_neg (by decide)] at h
   refine re (if_neg (by decide)) ?_
   have hb:=Gh R 8 ps.dropLast true 0 0
   change ∀ e,(b7 R true ps.dropLast).1=.bad e→e≤2 at hb
   generalize (b7 R true ps.dropLast).1=r at h hb
   cases r with
   | bad e=>exact jb h0 (by have:=hb e rfl;exact szl this rfl) h
   | found k =>
     dsimp only at h ⊢
     by_cases s1:sOf R k=1
     · rw [if_pos s1] at h ⊢
       exact sX h0 h
     · rw [if_neg s1] at h ⊢
       exact jb h0 (by decide) h
end
theorem nG (s:List Nat):eF (.str s) (.str s)=some true:=by
 show some (s == s)=_
 exact re (beq_self_eq_true ..) rfl
theorem Jk (i:Int):eF (.int i) (.int i)=some true:=by
 show some (i == i)=_
 exact re (beq_self_eq_true ..) rfl
theorem yc (r:Res):eF (lA r) (lA r)=some true:=by
 cases r with
 | found h=>exact Jk _
 | bad e=>exact nG _
theorem Jl (r q:Res):∃ b,eF (lA r) (lA q)=some b:=by
 cases r<;>cases q<;>exact ⟨_,rfl⟩
theorem Cv (R:List Row) (ps:List (List Nat)):eF (iM R ps) (iM R ps)=some true:=by
 unfold iM
 split
 · exact nG _
 · cases (b7 R true ps.dropLast).1 with
   | bad e=>exact nG _
   | found k =>
     dsimp only
     split
     · show some (((k + 1:Nat):Int) == ((k + 1:Nat):Int) && ((lastOf ps == lastOf ps) && true))=_
       refine re (beq_self_eq_true ..) (re (beq_self_eq_true ..) ?_);rfl
     · exact nG _
theorem Cw {σ:Sig} {x y:AV} {b:Bool} (h:eF x y=some b):cmpop σ .ne x y=some (!b):=by
 show (eF x y).map (!·)=_
 refine re h ?_;rfl
section
variable {R:List Row} (G:Good R) {v:AV} (V:VOk v R) {d:Nat}
include G V
theorem Cy {path further:List Nat} (hp:path.length≤13) (hf:further.length≤13) (np:∀ p∈partsOf path,p∈names) (nf:∀ p∈partsOf further,p∈names) (lp:(partsOf path).length≤5) (lf:(partsOf further).length≤5) :
   run PR (d + 12) 49 [v,aB R,.str path,.str further] [.tab]=.ok (.bool true) [.tab]:=by
 have h0:0 < R.length:=(List.getElem?_eq_some_iff.mp G.root).1
 have hl:=G.len
 have hb:∀ fo ps e,(b7 R fo ps).1=.bad e→e≤2:=fun fo ps e h=>Gh R 8 ps fo 0 0 e h
 have hw:=fun fo=>walked G V (path:=path) (d:=d + 3) (fo:=fo) (by exact szl hp rfl) np (by exact szl lp rfl) [.tab]
 have hd:=fun fo=>Mx G (path:=path) (fo:=fo) (by exact szl hp rfl) d [.tab]
 have hA:=Jj G V (path:=path) (d:=d + 2) (by exact szl hp rfl) np (by exact szl lp rfl) [.tab]
 have hL:=Gd G (path:=path) (by exact szl hp rfl) np (by exact szl lp rfl) d [.tab]
 have e1:partsOf (path++[47]++further)=partsOf path++partsOf further:=by exact re (List.append_assoc ..) (re List.singleton_append (re (o8 ..) rfl))
 have hw2:=walked G V (path:=path++[47]++further) (d:=d + 3) (fo:=false) (by simp only [List.length_append,List.length_cons,List.length_nil];exact szl (Nat.add_le_add (Nat.succ_le_succ hp) hf) rfl) (by
   refine re e1 ?_
   intro p h
   rcases List.mem_append.mp h with h | h
   · exact np p h
   · exact nf p h) (by refine re e1 (re List.length_append ?_);exact szl (Nat.add_le_add lp lf) rfl) [.tab]
 rw [e1] at hw2
 refine o01 (followed G 8 path true 0 0 (d + 1) [.tab] (by exact szl hp rfl) h0 (by decide) (by decide)) fun f1 f2=>?_
 rw [sU] at f1 f2
 change aD _ _ _ _=.ok (nj (b7 R true (partsOf path))) _ at f1
 change ∀ h,(b7 R true (partsOf path)).1=.found h→h < R.length∧0≤(b7 R true (partsOf path)).2∧(b7 R true (partsOf path)).2≤8 at f2
 have T:∀ fo x5 x6 x7,ex PR (run PR (d + 11)) (.iff (.cmp (.tried [0,2,4] (.call 29 [(.v 0),(.k (.int 1)),(.v 1),(.v 2)])) [.ne] [(.call 47 [(.v 1),(.v 2),(.v 4)])]) [(.ret (.k (.bool false)))] []) [some v,some (aB R),some (.str path),some (.str further),some (.bool fo),x5,x6,x7] [.tab]=.ok (.nxt [some v,some (aB R),some (.str path),some (.str further),some (.bool fo),x5,x6,x7]) [.tab] :=
   fun fo x5 x6 x7=>aR (v:=.bool false) (aL (zB rfl (hb fo _) (aJ rfl (hw fo))) (aJ rfl (hd fo)) (Cw (yc _))) rfl rfl
 have s1:ex PR (run PR (d + 11)) (.fr (.n 4) .of (.tup [(.k (.bool true)),(.k (.bool false))]) [(.iff (.cmp (.tried [0,2,4] (.call 29 [(.v 0),(.k (.int 1)),(.v 1),(.v 2)])) [.ne] [(.call 47 [(.v 1),(.v 2),(.v 4)])]) [(.ret (.k (.bool false)))] [])]) [some v,some (aB R),some (.str path),some (.str further),none,none,none,none] [.tab]=.ok (.nxt [some v,some (aB R),some (.str path),some (.str further),some (.bool false),none,none,none]) [.tab] :=
   m7 (src:=.tuple [.bool true,.bool false]) rfl ((qM (N:=199) rfl rfl (ak (T true none none none) rfl)).trans ((qM (N:=198) rfl rfl (ak (T false none none none) rfl)).trans (Gb (N:=197) rfl)))
 have s2:ex PR (run PR (d + 11)) (.iff (.cmp (.tried [0,2] (.call 30 [(.v 0),(.k (.int 1)),(.v 1)])) [.ne] [(.call 48 [(.v 1),(.v 2)])]) [(.ret (.k (.bool false)))] []) [some v,some (aB R),some (.str path),some (.str further),some (.bool false),none,none,none] [.tab]=.ok (.nxt [some v,some (aB R),some (.str path),some (.str further),some (.bool false),none,none,none]) [.tab] :=
   aR (v:=.bool false) (aL (MJ rfl (aJ rfl hA)) (aJ rfl hL) (Cw (Cv R _))) rfl rfl
 have hc:=fun ρ=>jG (P:=PR) (cf:=run PR (d + 11)) (ρ:=ρ) (σ:=[.tab]) (x:=3) (nm:=Str.ofString "part") (path:=further)
 have ra:=fun h m=>My G (p:=partsOf path) (q:=partsOf further) (h:=h) (m:=m) (by exact szl lp rfl) (by exact szl lf rfl)
 have hb2:=hb false (partsOf path++partsOf further)
 generalize (b7 R false (partsOf path++partsOf further)).1=r2 at hw2 ra hb2
 have t3:=fun x5 x6 x7=>zB (P:=PR) (ρ:=[some v,some (aB R),some (.str path),some (.str further),some (.bool false),x5,x6,x7]) (σ:=[.tab]) (caps:=[0,2,3]) rfl hb2 (aJ (es:=[(.v 0),(.k (.int 1)),(.bin .add (.bin .add (.v 1) (.k (.str [47]))) (.v 2)),(.k (.bool false))]) (aP rfl (aP rfl (aP (aQ (x:=.str (path++[47])) (y:=.str further) (aQ (x:=.str path) (y:=.str [47]) rfl rfl (add_str (by simp only [List.length_cons,List.length_nil];exact szt hp rfl))) rfl (add_str (by simp only [List.length_append,List.length_cons,List.length_nil];exact szl (Nat.add_le_add (Nat.succ_le_succ hp) hf) rfl))) rfl))) hw2)
 generalize b7 R true (partsOf path)=x at f1 f2 ra
 obtain ⟨r1,m⟩:=x
 change (exs PR (run PR (d + 11)) jB.body [some v,some (aB R),some (.str path),some (.str further),none,none,none,none] [.tab]).bind bh=_
 have B:∀ {cs:List C} {X:Mine.R Fl},exs PR (run PR (d + 11)) cs [some v,some (aB R),some (.str path),some (.str further),some (.bool false),some (pJ r1),some (.int m),none] [.tab]=X→exs PR (run PR (d + 11)) ((.fr (.n 4) .of (.tup [(.k (.bool true)),(.k (.bool false))]) [(.iff (.cmp (.tried [0,2,4] (.call 29 [(.v 0),(.k (.int 1)),(.v 1),(.v 2)])) [.ne] [(.call 47 [(.v 1),(.v 2),(.v 4)])]) [(.ret (.k (.bool false)))] [])]) :: (.iff (.cmp (.tried [0,2] (.call 30 [(.v 0),(.k (.int 1)),(.v 1)])) [.ne] [(.call 48 [(.v 1),(.v 2)])]) [(.ret (.k (.bool false)))] []) :: (.asgt [5,6] (.call 46 [(.v 1),(.k (.int 0)),(.v 2),(.k (.bool true)),(.k (.int 0))])) :: cs) [some v,some (aB R),some (.str path),some (.str further),none,none,none,none] [.tab]=X :=
   fun h=>ak s1 (ak s2 (ak (d7 (aJ rfl f1) rfl) h))
 cases r1 with
 | bad e=>exact aO (B (aX (aR (v:=.bool true) (oZ (p:=true) (q:=true) (bH (vs:=[.str (word e)]) rfl rfl) fun h=>(by cases h)) rfl (aX (aY rfl)))))
 | found h =>
   refine o02 (f2 h rfl) fun g1 _ g3=>?_
   have g3:m≤8:=g3
   have t4:ev PR (run PR (d + 11)) [some v,some (aB R),some (.str path),some (.str further),some (.bool false),some (.int h),some (.int m),none] (.bo false [(.bi .isstr [(.v 5)]),(.cmp (.slc (.v 3) (.k .none) (.k (.int 1))) [.eq] [(.k (.str [47]))])]) [.tab]=.ok (.bool (jH further)) [.tab]:=oZ (p:=false) (bH (vs:=[.int h]) rfl rfl) fun _=>aL (gU (x:=.str further) (y:=.none) (w:=.int 1) rfl rfl rfl uf) (y:=.str [47]) rfl eq_str
   cases ha:jH further with
   | true =>
     rw [ha] at t4
     exact aO (B (aX (aR t4 rfl (aX (aY rfl)))))
   | false =>
     rw [ha] at t4
     refine o01 (followed G 8 further false h m (d + 1) [.tab] (by exact szl hf rfl) g1 (by exact Nat.le_add_left _ _) g3) fun k1 k2=>?_
     have es:bu h further=h:=by unfold bu;refine re ha ?_;rfl
     rw [es] at k1 k2
     have ra:=fun q=>ra h m q rfl g3
     generalize bJ R (dh R 8) false (partsOf further) h m=y at k1 k2 ra
     obtain ⟨r,m'⟩:=y
     have s5:=bc (x:=7) (bC (P:=PR) (a:=.call 46 [(.v 1),(.v 5),(.v 3),(.k (.bool false)),(.v 6)]) (b:=.k (.int 0)) (ρ:=[some v,some (aB R),some (.str path),some (.str further),some (.bool false),some (.int h),some (.int m),none]) (σ:=[.tab]) (y:=.int 0) (z:=pJ r) (aJ rfl k1) rfl rfl)
     have t6:ev PR (run PR (d + 11)) [some v,some (aB R),some (.str path),some (.str further),some (.bool false),some (.int h),some (.int m),some (pJ r)] (.ife (.bi .isstr [(.v 7)]) (.v 7) (.bin .add (.v 7) (.k (.int 1)))) [.tab]=.ok (lA r) [.tab]:=by
       cases r with
       | found k=>exact dU (v:=.bool false) (bH (vs:=[.int k]) rfl rfl) rfl (inc (by have:=(k2 k rfl).1;exact szl (Nat.le_of_lt (Nat.le_trans this hl)) rfl) rfl)
       | bad e=>exact dU (v:=.bool true) (bH (vs:=[.str (word e)]) rfl rfl) rfl rfl
     refine o10 (Jl r2 r) fun b hbq=>?_
     have hfin:(b || (partsOf further).isEmpty)=true:=by
       cases hq:partsOf further with
       | nil=>exact re List.isEmpty_nil (re (Bool.or_true ..) rfl)
       | cons a l =>
         have:r2=r:=ra (by refine re hq ?_;exact List.cons_ne_nil _ _)
         rw [this,yc] at hbq
         cases hbq
         rfl
     refine aO (B (ak (aR t4 rfl rfl) (ak s5 (aX (aY ((oZ (p:=b) (q:=(partsOf further).isEmpty) (aL (o:=.eq) (t3 _ _ _) t6 hbq) fun _=>aL (x:=.list ((partsOf further).map .str)) (y:=.list []) (hc _ rfl (by exact szl hf rfl)) rfl (xX (fun _=>rfl) _ _)).trans (by exact re hfin rfl)))))))
end
end Mine.Law
end
section
open PySem
namespace Mine.Law
theorem qN {α:Type} {g:α→AV} (h:∀ a,bN (g a)=true):∀ l:List α,bR (l.map g)=true
 | []=>rfl
 | a :: l=>by
   show (bN (g a) && bR (l.map g))=true
   refine re (h a) (re (qN h l) ?_);rfl
theorem Jm {σ:Sig} {i:Nat} {xs:List AV} (h0:σ[i]?=some (.list xs)) (h:xs.length≤1048576) (j:Nat):aU σ .enum (.loc i) j=some ((xs[j]?).map fun x=>.tuple [.int j,x]):=by
 show (items σ (.loc i)).bind _=_
 have:items σ (.loc i)=some xs:=by
   show (match σ[i]? with | some (.list xs)=>some xs | _=>none)=_
   exact re h0 rfl
 refine re this ?_
 show (if sizeOk xs.length=true then _ else _)=_
 refine re (aN h) ?_
 rfl
noncomputable def eU (R:List Row) (s:Nat):List Nat:=(List.range R.length).filter fun k=>sOf R k == s
theorem u9 (R:List Row) (s:Nat) (y:Nat→AV):((List.range R.length).flatMap fun j=>if (((R[j]?).map fun r=>r.s == s).getD false)=true then [y j] else [])=(eU R s).map y:=by
 refine re (gm ..) ?_
 unfold eU
 congr 1
 refine List.filter_congr fun j hj=>?_
 rw [List.mem_range] at hj
 unfold sOf
 refine re (List.getElem?_eq_getElem hj) ?_
 rfl
theorem yd {R:List Row} {s k:Nat} (h:k∈eU R s):∃ r,R[k]?=some r∧r.s=s:=by
 refine o01 (List.mem_filter.mp h) fun h1 h2=>?_
 rw [List.mem_range] at h1
 refine ⟨R[k],List.getElem?_eq_getElem h1,?_⟩
 unfold sOf at h2
 rw [List.getElem?_eq_getElem h1] at h2
 exact beq_iff_eq.mp h2
theorem uo {P:Prog} {cf:Calls} {ρ:Env} {σ:Sig} {R:List Row} {s:Nat} {own:List Str} {caps:List Nat} {src:AV} {it elt:Mine.E} {y:Nat→AV} {ext:Env} (hl:R.length≤100) (ho:own.map (fun _=>(none:Option AV))++(caps.map fun c=>(ρ[c]?).getD none)=none :: none :: ext) (h:ev P cf ρ it σ=.ok src σ) (hi:∀ j,aU σ .enum src j=some (((R.map aZ)[j]?).map fun x=>.tuple [.int j,x])) (hy:∀ (j:Nat) (r:Row),R[j]?=some r→r.s=s→ev P cf (some (.int j) :: some (aZ r) :: ext) elt σ=.ok (y j) σ) :
   ev P cf ρ (.comp own caps (.tu [0,1]) elt .enum it [(.cmp (.sub (.v 1) (.k (.int 0))) [.eq] [(.k (.int s))])]) σ=.ok (.list ((eU R s).map y)) σ:=by
 rw [iK (n:=R.length) (b:=fun j=>((R[j]?).map fun r=>r.s == s).getD false) (y:=y) h (by exact szt hl rfl) (by rw [hi,List.getElem?_eq_none (by rw [bO];exact Nat.le_refl _)];rfl) (fun j hj=>?_),u9]
 have hr:R[j]?=some R[j]:=List.getElem?_eq_getElem hj
 refine ⟨_,_,by rw [hi,List.getElem?_map,hr];rfl,by rw [ho];rfl,?_,fun q=>?_⟩
 · rw [hr]
   show (ev P cf _ (.cmp (.sub (.v 1) (.k (.int 0))) [.eq] [(.k (.int s))]) σ).bind _=_
   rw [aL (x:=.int (R[j]).s) (y:=.int s) (bC (x:=aZ R[j]) (y:=.int 0) rfl rfl rfl) rfl eq_int,dB]
   show (match some ((R[j]).s == s) with | some true=>_ | some false=>_ | none=>_)=Mine.R.ok ((R[j]).s == s) σ
   cases (R[j]).s == s<;>rfl
 · rw [hr] at q
   exact hy j _ hr (beq_iff_eq.mp q)
theorem Good.push {R:List Row} (G:Good R) {s f c:Nat} {tx:List Nat} (hl:R.length≤8) (hs:s≤2) (hf:∃ r,R[f]?=some r∧r.s=1) (hc:c∈abc) (ht:∃ x:Int,tx=dK x 3∨tx=[]) (hn:children R f [c]=[]):Good (R++[⟨s,f,[c],tx⟩]):=by
 have h0:0 < R.length:=(List.getElem?_eq_some_iff.mp G.root).1
 have hfl:f < R.length:=by
   refine o11 hf fun r hr _=>?_
   exact (List.getElem?_eq_some_iff.mp hr).1
 have old:∀ {k:Nat} {r:Row},R[k]?=some r→(R++[⟨s,f,[c],tx⟩])[k]?=some r:=fun {k r} h=>by refine re (List.getElem?_append_left (List.getElem?_eq_some_iff.mp h).1) ?_;exact h
 have cs:∀ {k:Nat} {r:Row},(R++[⟨s,f,[c],tx⟩])[k]?=some r→R[k]?=some r∨k=R.length∧r=⟨s,f,[c],tx⟩:=fun {k r} h=>by
   rcases Nat.lt_or_ge k R.length with q | q
   · left;rw [List.getElem?_append_left q] at h;exact h
   · right
     have hk:=(List.getElem?_eq_some_iff.mp h).1
     rw [List.length_append,List.length_singleton] at hk
     have:k=R.length:=by exact Nat.le_antisymm (Nat.le_of_lt_succ hk) q
     subst this
     rw [List.getElem?_append_right (Nat.le_refl _),Nat.sub_self] at h
     cases h
     exact ⟨rfl,rfl⟩
 have nk:∀ (k:Nat) (r:Row),R[k]?=some r→0 < k→r.p=f→r.nm=[c]→False:=fun k r hr hk h1 h2=>by
   have:k∈children R f [c]:=gG.mpr ⟨r,hr,hk,h1,h2⟩
   rw [hn] at this
   cases this
 exact {
   len:=by refine re List.length_append (re List.length_singleton ?_);exact szt hl rfl
   root:=old G.root
   srt:=fun k r h=>by
     rcases cs h with h | ⟨_,rfl⟩
     · exact G.srt k r h
     · exact hs
   par:=fun k r h hk=>by
     rcases cs h with h | ⟨rfl,rfl⟩
     · exact G.par k r h hk
     · exact hfl
   fold:=fun k r h=>by
     rcases cs h with h | ⟨_,rfl⟩
     · refine o11 (G.fold k r h) fun q hq e=>?_
       exact ⟨q,old hq,e⟩
     · refine o11 hf fun q hq e=>?_
       exact ⟨q,old hq,e⟩
   nm:=fun k r h hk=>by
     rcases cs h with h | ⟨_,rfl⟩
     · exact G.nm k r h hk
     · exact ⟨c,hc,rfl⟩
   tx:=fun k r h=>by
     rcases cs h with h | ⟨_,rfl⟩
     · exact G.tx k r h
     · exact ht
   uniq:=fun j k r q h1 h2 hj hk e1 e2=>by
     rcases cs h1 with h1 | ⟨a1,rfl⟩<;>rcases cs h2 with h2 | ⟨a2,rfl⟩
     · exact G.uniq j k r q h1 h2 hj hk e1 e2
     · exact (nk j r h1 hj e1 e2).elim
     · exact (nk k q h2 hk e1.symm e2.symm).elim
     · exact re a1 (re a2 rfl) }
theorem Good.start:Good [⟨1,0,[],[]⟩]:=by
 have cs:∀ {k:Nat} {r:Row},([⟨1,0,[],[]⟩]:List Row)[k]?=some r→k=0∧r=⟨1,0,[],[]⟩:=fun {k r} h=>by
   match k,h with
   | 0,h=>cases h;exact ⟨rfl,rfl⟩
 exact {
   len:=by decide
   root:=rfl
   srt:=fun k r h=>by refine re ((cs h).2) ?_;decide
   par:=fun k r h hk=>by rw [(cs h).1] at hk;cases hk
   fold:=fun k r h=>by refine re ((cs h).2) ?_;exact ⟨_,rfl,rfl⟩
   nm:=fun k r h hk=>by rw [(cs h).1] at hk;cases hk
   tx:=fun k r h=>by refine re ((cs h).2) ?_;exact ⟨0,.inr rfl⟩
   uniq:=fun j k r q h1 h2 hj _ _ _=>by rw [(cs h1).1] at hj;cases hj }
end Mine.Law
end
section
open PySem
namespace Mine.Law
theorem Gj {σ:Sig} (R:List Row) (n:Nat) (hn:2≤n):(R.map aZ).mapM (bA σ n)=some (R.map aZ) :=
 o7 (fun x hx n hn=>by
   obtain ⟨r,_,rfl⟩:=List.mem_map.mp hx
   match n,hn with
   | n + 2,_=>rfl) n hn
theorem Gk {R:List Row} {f:Nat} {nm:List Nat} (hl:R.length≤9) (d:Nat):aD (run PR (d + 1)) [.list (R.map aZ)] 44 [.loc 0,.int f,.str nm]=.ok (ue (children R f nm)) [.list (R.map aZ)]:=by
 have hb:bA [.list (R.map aZ)] fj (.loc 0)=some (aB R):=by
   show ((R.map aZ).mapM (bA _ 5)).map AV.list=_
   refine re (Gj R 5 (by decide)) ?_
   rfl
 have hm:[AV.loc 0,.int f,.str nm].mapM (bA [.list (R.map aZ)] fj)=some [aB R,.int f,.str nm]:=by
   refine re List.mapM_cons (re hb ?_)
   rfl
 show (match [AV.loc 0,.int f,.str nm].mapM (bA [.list (R.map aZ)] fj) with | some bs=>ir true [.list (R.map aZ)] (run PR (d + 1) 44 bs []) | none=>Mine.R.stuck)=_
 refine re hm ?_
 dsimp only
 refine re (uX (by exact szl hl rfl) d []) ?_
 cases children R f nm<;>rfl
noncomputable abbrev ye:List C:=[(.asg 3 (.call 41 [(.v 0),(.v 2)])),(.asg 4 (.comp [Str.ofString "at",Str.ofString "row"] [] (.tu [0,1]) (.v 0) .enum (.v 1) [(.cmp (.sub (.v 1) (.k (.int 0))) [.eq] [(.k (.int 1))])])),(.asgt [5,6] (.tup [(.sub (.lst false [(.k (.int 1)),(.k (.int 2)),(.k (.int 2)),(.k (.int 0)),(.k (.int 1))]) (.bin .mod (.v 3) (.k (.int 5)))),(.sub (.lst false [(.k (.str [97])),(.k (.str [98])),(.k (.str [99]))]) (.bin .mod (.bin .fdiv (.v 3) (.k (.int 5))) (.k (.int 3))))])),(.asg 7 (.sub (.v 4) (.bin .mod (.bin .fdiv (.v 3) (.k (.int 15))) (.bi .len [(.v 4)])))),(.iff (.cmp (.call 44 [(.v 1),(.v 7),(.v 6)]) [.is] [(.k .none)]) [(.ex (.bm .append (.v 1) [(.tup [(.v 5),(.v 7),(.v 6),(.ife (.cmp (.v 5) [.eq] [(.k (.int 2))]) (.call 42 [(.bin .fdiv (.v 3) (.k (.int 60))),(.k (.int 3))]) (.k (.str [])))])]))] [])]
noncomputable def qO:List Nat:=[1,2,2,0,1]
theorem pick {α:Type} {g:α→AV} {l:List α} {y:Int} {k:Nat} (h:k < l.length) (e:y=k) (hl:l.length≤100) (σ:Sig):dJ σ (.list (l.map g)) (.int y)=some (g l[k]):=by
 rw [e,gB (by rw [List.length_map];exact szl hl rfl),List.getElem?_map,List.getElem?_eq_getElem h]
 rfl
theorem ph (x:Int) {most:Nat} (h0:0 < most) (h1:most≤5) (d:Nat) (σ:Sig):aD (run PR (d + 1)) σ 42 [.int x,.int most]=.ok (.str (dK x most)) σ:=bD rfl (I3 h0 h1 d) rfl
theorem cell_call {l:List Int} (hl:l.length≤63) {k:Nat} (hk:k≤10) (d:Nat) (σ:Sig):aD (run PR (d + 1)) σ 41 [.list (l.map .int),.int k]=.ok (.int (cellOf l k)) σ :=
 bD (σ':=[]) (by show (bR (l.map AV.int) && true)=true;rw [qN fun _=>rfl];rfl) (IV hl hk d []) rfl
theorem Gl {l:List Int} (hl:l.length≤63) {j:Nat} (hj:j < 8) {R:List Row} (G:Good R) (hR:R.length≤8) (d:Nat) (x3 x4 x5 x6 x7:Option AV) :
   ∃ R' y3 y4 y5 y6 y7,Good R'∧R'.length≤R.length + 1∧exs PR (run PR (d + 1)) ye [some (.list (l.map .int)),some (.loc 0),some (.int j),x3,x4,x5,x6,x7] [.list (R.map aZ)]=.ok (.nxt [some (.list (l.map .int)),some (.loc 0),some (.int j),y3,y4,y5,y6,y7]) [.list (R'.map aZ)]:=by
 have s1:=bc (x:=3) (aJ (P:=PR) (ρ:=[some (.list (l.map .int)),some (.loc 0),some (.int j),x3,x4,x5,x6,x7]) (σ:=[.list (R.map aZ)]) (es:=[(.v 0),(.v 2)]) (f:=41) rfl (cell_call hl (k:=j) (by exact szl (Nat.le_of_lt hj) rfl) d _))
 generalize cellOf l j=x at s1
 have s2:=bc (x:=4) (uo (P:=PR) (cf:=run PR (d + 1)) (ρ:=[some (.list (l.map .int)),some (.loc 0),some (.int j),some (.int x),x4,x5,x6,x7]) (σ:=[.list (R.map aZ)]) (R:=R) (s:=1) (own:=[Str.ofString "at",Str.ofString "row"]) (caps:=[]) (src:=.loc 0) (it:=.v 1) (elt:=.v 0) (y:=fun k=>.int k) (ext:=[]) (by exact szl hR rfl) rfl rfl (fun j=>Jm rfl (by refine re (bO ..) ?_;exact szl hR rfl) j) fun j r _ _=>rfl)
 have hF:0 < (eU R 1).length:=List.length_pos_of_mem (a:=0) (List.mem_filter.mpr ⟨List.mem_range.mpr (List.getElem?_eq_some_iff.mp G.root).1,by unfold sOf;refine re G.root ?_;rfl⟩)
 have hF2:(eU R 1).length≤R.length:=Nat.le_trans (List.length_filter_le _ _) (by refine re List.length_range ?_;exact Nat.le_refl _)
 have hF3:=fun k=>@yd R 1 k
 generalize eU R 1=F at s2 hF hF2 hF3
 refine o11 (dG x (m:=5) (by decide)) fun k5 h5 e5=>?_
 refine o11 (dG (x.fdiv 5) (m:=3) (by decide)) fun k3 h3 e3=>?_
 refine o11 (dG (x.fdiv 15) hF) fun kf hf ef=>?_
 have l5:k5 < qO.length:=h5
 have l3:k3 < abc.length:=h3
 have s3:ex PR (run PR (d + 1)) (.asgt [5,6] (.tup [(.sub (.lst false [(.k (.int 1)),(.k (.int 2)),(.k (.int 2)),(.k (.int 0)),(.k (.int 1))]) (.bin .mod (.v 3) (.k (.int 5)))),(.sub (.lst false [(.k (.str [97])),(.k (.str [98])),(.k (.str [99]))]) (.bin .mod (.bin .fdiv (.v 3) (.k (.int 5))) (.k (.int 3))))])) [some (.list (l.map .int)),some (.loc 0),some (.int j),some (.int x),some (.list (F.map fun (k:Nat)=>.int k)),x5,x6,x7] [.list (R.map aZ)]
    =.ok (.nxt [some (.list (l.map .int)),some (.loc 0),some (.int j),some (.int x),some (.list (F.map fun (k:Nat)=>.int k)),some (.int (qO[k5]:Nat)),some (.str [abc[k3]]),x7]) [.list (R.map aZ)] :=
   d7 (vs:=[.int (qO[k5]:Nat),.str [abc[k3]]]) (eO (aP (bC (x:=.list (qO.map fun (k:Nat)=>.int k)) rfl (aQ (x:=.int x) (y:=.int 5) rfl rfl (bmod (by decide) (by decide))) (pick (g:=fun (k:Nat)=>.int k) l5 e5 (by decide) _)) (bz (bC (x:=.list (abc.map fun c=>.str [c])) rfl (aQ (y:=.int 3) (aQ (x:=.int x) (y:=.int 5) rfl rfl (o4 (by decide) (by decide))) rfl (bmod (by decide) (by decide))) (pick (g:=fun c=>.str [c]) l3 e3 (by decide) _))))) rfl
 have hs:qO[k5]≤2:=by
   have:∀ s∈qO,s≤2:=by decide
   exact this _ (List.getElem_mem l5)
 have hc:abc[k3]∈abc:=List.getElem_mem l3
 generalize qO[k5]=s at s3 hs
 generalize abc[k3]=c at s3 hc
 have s4:=bc (x:=7) (bC (P:=PR) (cf:=run PR (d + 1)) (a:=.v 4) (b:=.bin .mod (.bin .fdiv (.v 3) (.k (.int 15))) (.bi .len [(.v 4)])) (ρ:=[some (.list (l.map .int)),some (.loc 0),some (.int j),some (.int x),some (.list (F.map fun (k:Nat)=>.int k)),some (.int s),some (.str [c]),x7]) (σ:=[.list (R.map aZ)]) (x:=.list (F.map fun (k:Nat)=>.int k)) rfl (aQ (aQ (x:=.int x) (y:=.int 15) rfl rfl (o4 (by decide) (by decide))) (bH (vs:=[.list (F.map fun (k:Nat)=>.int k)]) rfl (len_list (by refine re (List.length_map ..) ?_;exact szl (Nat.le_trans hF2 hR) rfl))) (bmod (by refine re (List.length_map ..) ?_;exact inz hF) (by refine re (List.length_map ..) ?_;exact szl (Nat.le_trans hF2 hR) rfl))) (pick (g:=fun (k:Nat)=>.int k) hf (by refine re (List.length_map ..) ?_;exact ef) (by exact szl (Nat.le_trans hF2 hR) rfl) _))
 have hm:=hF3 _ (List.getElem_mem hf)
 generalize F[kf]=f at s4 hm
 have t5:=aL (P:=PR) (o:=.is) (b:=.k .none) (aJ (P:=PR) (ρ:=[some (.list (l.map .int)),some (.loc 0),some (.int j),some (.int x),some (.list (F.map fun (k:Nat)=>.int k)),some (.int s),some (.str [c]),some (.int f)]) (σ:=[.list (R.map aZ)]) (es:=[(.v 1),(.v 7),(.v 6)]) (f:=44) rfl (Gk G.len d)) (y:=.none) rfl rfl
 cases hch:children R f [c] with
 | cons k t =>
   rw [hch] at t5
   exact ⟨R,_,_,_,_,_,G,Nat.le_succ _,ak s1 (ak s2 (ak s3 (ak s4 (ak (aR (v:=.bool false) t5 rfl rfl) rfl))))⟩
 | nil =>
   rw [hch] at t5
   have t6:ev PR (run PR (d + 1)) [some (.list (l.map .int)),some (.loc 0),some (.int j),some (.int x),some (.list (F.map fun (k:Nat)=>.int k)),some (.int s),some (.str [c]),some (.int f)] (.ife (.cmp (.v 5) [.eq] [(.k (.int 2))]) (.call 42 [(.bin .fdiv (.v 3) (.k (.int 60))),(.k (.int 3))]) (.k (.str []))) [.list (R.map aZ)]=.ok (.str (if s=2 then dK (x.fdiv 60) 3 else [])) [.list (R.map aZ)]:=by
     refine dU (v:=.bool ((s:Int) == 2)) (q:=((s:Int) == 2)) (aL (x:=.int s) (y:=.int 2) rfl rfl eq_int) rfl ?_
     by_cases q:s=2
     · refine re q ?_
       exact aJ (aP (aQ (x:=.int x) (y:=.int 60) rfl rfl (o4 (by decide) (by decide))) rfl) (ph _ (by decide) (by decide) d _)
     · refine re (if_neg q) (re (show ((s:Int) == 2)=false from beq_eq_false_iff_ne.mpr (by lia)) ?_)
       rfl
   generalize htx:(if s=2 then dK (x.fdiv 60) 3 else [])=tx at t6
   have ht:∃ x:Int,tx=dK x 3∨tx=[]:=by
     refine rf htx ?_
     by_cases q:s=2
     · refine re (if_pos q) ?_;exact ⟨_,.inl rfl⟩
     · refine re (if_neg q) ?_;exact ⟨0,.inr rfl⟩
   have s6:ex PR (run PR (d + 1)) (.ex (.bm .append (.v 1) [(.tup [(.v 5),(.v 7),(.v 6),(.ife (.cmp (.v 5) [.eq] [(.k (.int 2))]) (.call 42 [(.bin .fdiv (.v 3) (.k (.int 60))),(.k (.int 3))]) (.k (.str [])))])])) [some (.list (l.map .int)),some (.loc 0),some (.int j),some (.int x),some (.list (F.map fun (k:Nat)=>.int k)),some (.int s),some (.str [c]),some (.int f)] [.list (R.map aZ)]=.ok (.nxt [some (.list (l.map .int)),some (.loc 0),some (.int j),some (.int x),some (.list (F.map fun (k:Nat)=>.int k)),some (.int s),some (.str [c]),some (.int f)]) [.list ((R++[(⟨s,f,[c],tx⟩:Row)]).map aZ)]:=by
     refine re List.map_append ?_
     exact dR (j8 (x:=.loc 0) rfl rfl (bz (eO (aP rfl (aP rfl (aP rfl (bz t6)))))) (app_list (i:=0) (xs:=R.map aZ) rfl (by refine re (bO ..) ?_;exact szl hR rfl)))
   exact ⟨R++[⟨s,f,[c],tx⟩],_,_,_,_,_,G.push hR hs hm hc ht hch,by refine re List.length_append ?_;exact Nat.le_refl _,ak s1 (ak s2 (ak s3 (ak s4 (ak (aR (v:=.bool true) t5 rfl (ak s6 rfl)) rfl))))⟩
theorem Jo {l:List Int} (hl:l.length≤63) (d:Nat) (σ:Sig):∃ R,Good R∧aD (run PR (d + 2)) σ 43 [.list (l.map .int)]=.ok (aB R) σ:=by
 obtain ⟨ρ',σ',h,R,x2,x3,x4,x5,x6,x7,G,hR,e1,e2⟩:=jk (xs:=List.range 8) (e:=fun _ (k:Nat)=>.int k) (at_:=fun σ j=>aU σ .rng (.int 8) j) (tgt:=.n 2) (body:=fun ρ σ=>exs PR (run PR (d + 1)) ye ρ σ)
   (Inv:=fun j ρ σ=>∃ R x2 x3 x4 x5 x6 x7,Good R∧R.length≤j + 1∧ρ=[some (.list (l.map .int)),some (.loc 0),x2,x3,x4,x5,x6,x7]∧σ=[.list (R.map aZ)])
   (fun σ j=>by
     rw [show (8:Int)=((8:Nat):Int) from rfl,sH (by decide)]
     by_cases q:j < 8
     · rw [if_pos q,List.getElem?_range q];rfl
     · rw [if_neg q,List.getElem?_eq_none (by rw [List.length_range];exact Nat.le_of_lt_succ (Nat.lt_of_not_le q))];rfl) (fun j k ρ σ hk hi=>by
     obtain ⟨R,x2,x3,x4,x5,x6,x7,G,hR,rfl,rfl⟩:=hi
     have hj:j < 8:=by
       have:=(List.getElem?_eq_some_iff.mp hk).1
       rwa [List.length_range] at this
     rw [List.getElem?_range hj] at hk
     cases hk
     obtain ⟨R',y3,y4,y5,y6,y7,G',hR',h⟩:=Gl hl hj G (by exact Nat.le_trans hR hj) d x3 x4 x5 x6 x7
     exact ⟨_,_,_,rfl,h,R',_,y3,y4,y5,y6,y7,G',by exact Nat.le_trans hR' (Nat.succ_le_succ hR),rfl,rfl⟩) 8 turns 0 [some (.list (l.map .int)),some (.loc 0),none,none,none,none,none,none] [.list ([⟨1,0,[],[]⟩].map aZ)] rfl (by unfold turns;exact Nat.le_add_left _ _) ⟨[⟨1,0,[],[]⟩],none,none,none,none,none,none,Good.start,by decide,rfl,rfl⟩
 subst e1 e2
 refine ⟨R,G,bD (v:=.loc 0) (σ':=[.list (R.map aZ)]) (by show (bR (l.map AV.int) && true)=true;rw [qN fun _=>rfl];rfl) ?_ ?_⟩
 · have s0:ex PR (run PR (d + 1)) (.asg 1 (.lst true [(.tup [(.k (.int 1)),(.k (.int 0)),(.k (.str [])),(.k (.str []))])])) [some (.list (l.map .int)),none,none,none,none,none,none,none] []=.ok (.nxt [some (.list (l.map .int)),some (.loc 0),none,none,none,none,none,none]) [.list ([(⟨1,0,[],[]⟩:Row)].map aZ)]:=rfl
   change (exs PR (run PR (d + 1)) pR.body [some (.list (l.map .int)),none,none,none,none,none,none,none] []).bind bh=_
   exact aO (ak s0 (ak (m7 (b:=ye) rfl h) (aX (aY rfl))))
 · show ((R.map aZ).mapM (bA _ 5)).map AV.list=_
   rw [Gj R 5 (by decide)]
   rfl
end Mine.Law
end
section
open PySem
namespace Mine.Law
noncomputable def kd (L:List Nat) (g:Nat→AV):List (Int×AV):=L.map fun i=>(((i + 1:Nat):Int),g i)
noncomputable def upd {α:Type} (g:Nat→α) (i:Nat) (v:α):Nat→α:=fun k=>if k=i then v else g k
theorem uq {a b:Nat}:(((a + 1:Nat):Int) == ((b + 1:Nat):Int))=(a == b):=by
 rw [dB]
 exact Bool.eq_iff_iff.mpr (by simp)
theorem kd_new {L:List Nat} {g:Nat→AV} {i:Nat} {v:AV} (h:i∉L):dictPut (kd L g) ((i + 1:Nat):Int) v=kd L g++[(((i + 1:Nat):Int),v)]:=by
 induction L with
 | nil=>rfl
 | cons a L ih =>
   show (if (((a + 1:Nat):Int) == ((i + 1:Nat):Int))=true then _ else _ :: dictPut (kd L g) _ v)=_
   rw [uq,if_neg (by simpa using fun e=>h (by rw [e];exact List.mem_cons_self)),ih fun m=>h (List.mem_cons_of_mem _ m)]
   rfl
theorem Pb {L:List Nat} {g:Nat→AV} {i:Nat} {v:AV} (h:i∈L) (hn:L.Nodup):dictPut (kd L g) ((i + 1:Nat):Int) v=kd L (upd g i v):=by
 induction L with
 | nil=>cases h
 | cons a L ih =>
   show (if (((a + 1:Nat):Int) == ((i + 1:Nat):Int))=true then _ else _ :: dictPut (kd L g) _ v)=_
   refine re uq ?_
   by_cases e:a=i
   · subst e
     refine re (if_pos (by simp)) ?_
     show _=(_,upd g a v a) :: kd L (upd g a v)
     have:kd L (upd g a v)=kd L g:=List.map_congr_left fun k hk=>by
       have:k≠a:=fun e=>(List.nodup_cons.mp hn).1 (by refine rf e ?_;exact hk)
       unfold upd
       exact re (if_neg this) rfl
     refine re this ?_
     unfold upd
     refine re (if_pos rfl) ?_
     rfl
   · refine re (if_neg (by simpa using e)) (re (ih ((List.mem_cons.mp h).resolve_left fun q=>e q.symm) (List.nodup_cons.mp hn).2) ?_)
     show _=(_,upd g i v a) :: kd L (upd g i v)
     unfold upd
     exact re (if_neg e) rfl
theorem sY {L:List Nat} {g:Nat→AV} {i:Nat} (h:i∈L):dictGet (kd L g) ((i + 1:Nat):Int)=some (g i)∧(kd L g).any (·.1 == ((i + 1:Nat):Int))=true:=by
 induction L with
 | nil=>cases h
 | cons a L ih =>
   unfold dictGet at ih ⊢
   show ((((((a + 1:Nat):Int),g a) :: kd L g).find? (·.1 == ((i + 1:Nat):Int))).map (·.2)=some (g i))∧((((a + 1:Nat):Int) == ((i + 1:Nat):Int)) || (kd L g).any (·.1 == ((i + 1:Nat):Int)))=true
   refine re (List.find?_cons) (re uq ?_)
   by_cases e:a=i
   · subst e
     refine re (beq_self_eq_true ..) ?_
     exact ⟨rfl,rfl⟩
   · refine re (beq_eq_false_iff_ne.mpr e) ?_
     exact ih ((List.mem_cons.mp h).resolve_left fun q=>e q.symm)
theorem zE {L:List Nat} {g:Nat→AV} (h:∀ i,bN (g i)=true):jR (kd L g)=true:=by
 induction L with
 | nil=>rfl
 | cons a L ih =>
   show (bN (g a) && jR (kd L g))=true
   refine re (h a) (re ih ?_);rfl
theorem zF (n:Nat) (g:Nat→AV):kd (List.range (n + 1)) g=kd (List.range n) g++[(((n + 1:Nat):Int),g n)]:=by
 unfold kd
 refine re List.range_succ (re List.map_append ?_)
 rfl
theorem Gm {α:Type} (n i:Nat) (D:Nat→α) (x:α):((List.range n).map D).set i x=(List.range n).map (upd D i x):=by
 refine List.ext_getElem? fun k=>?_
 rw [List.getElem?_set,List.getElem?_map,List.getElem?_map,List.length_map,List.length_range]
 unfold upd
 by_cases h:k < n
 · rw [List.getElem?_range h]
   by_cases e:i=k
   · subst e;rw [if_pos rfl,if_pos h];simp
   · rw [if_neg e];simp [Ne.symm e]
 · rw [List.getElem?_eq_none (by rw [List.length_range];exact Nat.le_of_lt_succ (Nat.lt_of_not_le h))]
   by_cases e:i=k
   · subst e;rw [if_pos rfl,if_neg h];rfl
   · rw [if_neg e];rfl
theorem MK {α:Type} (l:List α) (x y:α):(l++[x]).set l.length y=l++[y]:=by
 induction l with
 | nil=>rfl
 | cons a l ih=>exact congrArg (a :: ·) ih
theorem MN {α:Type} (l:List α) (x:α):(l++[x])[l.length]?=some x:=by simp
noncomputable def pK:AV:=.inst 3 [(16,.int 16),(17,.int 32),(18,.int 32),(19,.int 4),(14,.int 4),(20,.int 4),(21,.int 2),(22,.int 128),(23,.int 192),(24,.int 160),(25,.int 128)]
noncomputable def vw (n:Nat):MO:=.inst 5 [(13,pK),(14,.loc 1),(0,.loc 2),(15,.int n)]
noncomputable def dno (kind most:Int) (z:List Nat):MO:=.inst 4 [(9,.int kind),(10,.int 128),(11,.int most),(12,.bytes z)]
theorem zG {σ:Sig} {i c f:Nat} {fs:List (Nat×AV)} {v:AV} (h:σ[i]?=some (.inst c fs)) (hf:(dj c f && decide (fs.length≤50))=true):setattr σ (.loc i) f v=some (σ.set i (.inst c (fu fs f v))):=by
 show (match σ[i]? with | some (.inst C fs)=>(if (dj C f && decide (fs.length≤50))=true then some (σ.set i (.inst C (fu fs f v))) else none) | _=>none)=_
 refine re h ?_
 exact if_pos hf
theorem MP {σ:Sig} {i c f:Nat} {fs:List (Nat×AV)} {v:AV} (h:σ[i]?=some (.inst c fs)) (hf:dj c f=true) (hv:dM fs f=some v):getattr σ (.loc i) f=some v:=by
 show (match σ[i]? with | some (.inst C fs)=>(if dj C f=true then dM fs f else none) | _=>none)=_
 refine re h ?_
 exact (if_pos hf).trans hv
theorem Gn {σ:Sig} {kind:Int} {z:List Nat} (d:Nat):run PR (d + 1) 34 [.loc σ.length,.int kind,.int 128,.bytes z] (σ++[.inst 4 []])=.ok .none (σ++[dno kind (-1) z]):=by
 have st:∀ (fs:List (Nat×AV)) (f:Nat) (x:AV) (e:Mine.E) (ρ:Env),ρ[0]?=some (some (.loc σ.length))→(dj 4 f && decide (fs.length≤50))=true→ev PR (run PR d) ρ e (σ++[.inst 4 fs])=.ok x (σ++[.inst 4 fs])→ex PR (run PR d) (.seta (.v 0) f e) ρ (σ++[.inst 4 fs])=.ok (.nxt ρ) (σ++[.inst 4 (fu fs f x)]):=fun fs f x e ρ h0 hf h=>by
   have:=sG (f:=f) h (e_v h0) (zG (MN σ _) hf)
   rw [MK] at this
   exact this
 change (exs PR (run PR d) kJ.body [some (.loc σ.length),some (.int kind),some (.int 128),some (.bytes z)] (σ++[.inst 4 []])).bind bh=_
 exact iI (ak (st _ _ (.int kind) _ _ rfl rfl rfl) (ak (st _ _ (.int 128) _ _ rfl rfl rfl) (ak (st _ _ (.int (-1)) _ _ rfl rfl rfl) (ak (st _ _ (.bytes z) _ _ rfl rfl rfl) rfl))))
theorem yf {σ:Sig} {l n:Nat} {es:List (Int×AV)} {k:Int} {v:AV} (h:σ[l]?=some (.dict n es)) (hn:n≤1000):setitem σ (.loc l) (.int k) v=some (σ.set l (.dict (n + 1) (dictPut es k v))):=by
 show (match σ[l]? with | some (.dict n es)=>(if sizeOk n=true then some (σ.set l (.dict (n + 1) (dictPut es k v))) else none) | _=>none)=_
 refine re h ?_
 exact if_pos (aN (by exact szl hn rfl))
theorem Qw {P:Prog} {cf:Calls} {ρ:Env} {C f:Nat} {es:List Mine.E} {vs:List AV} {σ σ' σ'':Sig} (h:evs P cf ρ es σ=.ok vs σ') (hi:P.init C=some f) (hr:cf f (.loc σ'.length :: vs) (σ'++[.inst C []])=.ok .none σ''):ev P cf ρ (.new false C es) σ=.ok (.loc σ'.length) σ'':=by
 show (evs P cf ρ es σ).bind _=_
 refine re h (re bOk ?_)
 refine re hi ?_
 dsimp only
 refine re (if_neg (by decide)) (re hr ?_)
 rfl
noncomputable def lc (i:Nat):AV:=.loc (i + 3)
noncomputable abbrev st (n c1:Nat) (ds:List (Int×AV)) (c2:Nat) (os:List (Int×AV)) (dns:Sig):Sig:=vw n :: .dict c1 ds :: .dict c2 os :: dns
theorem Qx {n c1 c2:Nat} {dns:Sig} {B:Nat→List Nat} {kind:Int} {z:List Nat} (hd:dns.length=n) (hB:B n=[]) (hn:n≤100) (h1:c1≤1000) (h2:c2≤1000) (hk:1≤kind) (d:Nat) :
   run PR (d + 2) 38 [.loc 0,.int kind,.int 128,.bytes z] (st n c1 (kd (List.range n) lc) c2 (kd (List.range n) fun i=>.bytes (B i)) dns)=.ok (.int (n + 1:Nat)) (st (n + 1) (c1 + 1) (kd (List.range (n + 1)) lc) (c2 + 1) (kd (List.range (n + 1)) fun i=>.bytes (B i)) (dns++[dno kind (-1) z])):=by
 have nm:n∉List.range n:=fun h=>by rw [List.mem_range] at h;exact Nat.not_le_of_lt h (Nat.le_refl _)
 rw [zF,zF,hB,← kd_new (v:=lc n) nm,← kd_new (g:=fun i=>.bytes (B i)) (v:=.bytes []) nm]
 change (exs PR (run PR (d + 1)) n7.body [some (.loc 0),some (.int kind),some (.int 128),some (.bytes z)] _).bind bh=_
 have t1:∀ σ:Sig,ev PR (run PR (d + 1)) [some (.loc 0),some (.int kind),some (.int 128),some (.bytes z)] (.bo false [(.cmp (.v 1) [.lt] [(.k (.int 1))]),(.cmp (.v 2) [.lt] [(.k (.int 1))])]) σ=.ok (.bool false) σ:=fun σ =>
   (oZ (p:=false) (q:=false) ((aL (x:=.int kind) (y:=.int 1) rfl rfl BV).trans (by rw [fQ (by exact Int.not_lt_of_ge hk)])) fun _=>rfl)
 have s2:ex PR (run PR (d + 1)) (.seta (.v 0) 15 (.bin .add (.attr (.v 0) 15) (.k (.int 1)))) [some (.loc 0),some (.int kind),some (.int 128),some (.bytes z)] (st n c1 (kd (List.range n) lc) c2 (kd (List.range n) fun i=>.bytes (B i)) dns)=.ok (.nxt [some (.loc 0),some (.int kind),some (.int 128),some (.bytes z)]) (st (n + 1) c1 (kd (List.range n) lc) c2 (kd (List.range n) fun i=>.bytes (B i)) dns) :=
   sG (v:=.int (n + 1:Nat)) (x:=.loc 0) (aQ (x:=.int n) (y:=.int 1) (cR (x:=.loc 0) rfl rfl) rfl (jy (aK (by exact szt hn rfl)) (aK (by decide)))) rfl rfl
 have s3:ex PR (run PR (d + 1)) (.seti (.attr (.v 0) 14) (.attr (.v 0) 15) (.new false 4 [(.v 1),(.v 2),(.bi .bytes [(.v 3)])])) [some (.loc 0),some (.int kind),some (.int 128),some (.bytes z)] (st (n + 1) c1 (kd (List.range n) lc) c2 (kd (List.range n) fun i=>.bytes (B i)) dns)=.ok (.nxt [some (.loc 0),some (.int kind),some (.int 128),some (.bytes z)]) (st (n + 1) (c1 + 1) (dictPut (kd (List.range n) lc) ((n + 1:Nat):Int) (lc n)) c2 (kd (List.range n) fun i=>.bytes (B i)) (dns++[dno kind (-1) z])):=by
   refine xr (v:=lc n) (x:=.loc 1) (k:=.int (n + 1:Nat)) (σ₁:=st (n + 1) c1 (kd (List.range n) lc) c2 (kd (List.range n) fun i=>.bytes (B i)) (dns++[dno kind (-1) z])) ?_ rfl rfl (yf rfl h1)
   have:=Qw (P:=PR) (ρ:=[some (.loc 0),some (.int kind),some (.int 128),some (.bytes z)]) (C:=4) (es:=[(.v 1),(.v 2),(.bi .bytes [(.v 3)])]) (σ:=st (n + 1) c1 (kd (List.range n) lc) c2 (kd (List.range n) fun i=>.bytes (B i)) dns) (aP rfl (aP rfl (bz (bH (vs:=[.bytes z]) rfl rfl)))) rfl (Gn d)
   rw [show lc n=.loc (st (n + 1) c1 (kd (List.range n) lc) c2 (kd (List.range n) fun i=>.bytes (B i)) dns).length by rw [← hd];rfl]
   exact this
 exact aO (ak (aR (t1 _) rfl rfl) (ak s2 (ak s3 (ak (xr (v:=.bytes []) (x:=.loc 2) (k:=.int (n + 1:Nat)) rfl rfl rfl (yf rfl h2)) (aX (aY rfl))))))
end Mine.Law
end
section
open PySem
namespace Mine.Law
noncomputable def ST (K:Nat→Int) (Z:Nat→List Nat) (n c1 c2:Nat) (B:Nat→List Nat) (M:Nat→Int):Sig:=st n c1 (kd (List.range n) lc) c2 (kd (List.range n) fun i=>.bytes (B i)) ((List.range n).map fun i=>dno (K i) (M i) (Z i))
noncomputable def gZ (bs:List Nat):List Nat:=if bs=[] then [] else bs++List.replicate (128 - bs.length) 0
theorem lC {σ:Sig} {i f:Nat} {v:AV} {P:Prog} {cf:Calls} {ρ:Env} {x:Nat} (h:ρ[x]?=some (some (.loc i))) (hv:getattr σ (.loc i) f=some v):ev P cf ρ (.attr (.v x) f) σ=.ok v σ:=cR (x:=.loc i) (e_v h) hv
section
variable {K:Nat→Int} {Z:Nat→List Nat} {n c1 c2 i:Nat} {B:Nat→List Nat} {M:Nat→Int} (hi:i < n)
include hi
theorem zH (d:Nat):run PR (d + 1) 36 [.loc 0,.int (i + 1:Nat)] (ST K Z n c1 c2 B M)=.ok (lc i) (ST K Z n c1 c2 B M):=by
 refine o01 (sY (g:=lc) (List.mem_range.mpr hi)) fun g1 g2=>?_
 change (exs PR (run PR d) iu.body [some (.loc 0),some (.int (i + 1:Nat))] _).bind bh=_
 refine aO<|ak (aR (v:=.bool false) (aL (y:=.loc 1) rfl (lC rfl rfl) ?_) rfl rfl)<|aX<|aY<|bC (x:=.loc 1) (y:=.int (i + 1:Nat)) (lC rfl rfl) rfl g1
 show (some ((kd (List.range n) lc).any (·.1 == ((i + 1:Nat):Int)))).map (!·)=some false
 refine re g2 ?_
 rfl
theorem Cz:(ST K Z n c1 c2 B M)[i + 3]?=some (dno (K i) (M i) (Z i)):=by
 show ((List.range n).map fun i=>dno (K i) (M i) (Z i))[i]?=_
 refine re (List.getElem?_map) (re (List.getElem?_range hi) ?_)
 rfl
theorem Qy (hn:n≤9) (h2:c2≤1000) {bs:List Nat} (h0:bs≠[]) (hb:bs.length≤128) (d:Nat):run PR (d + 2) 39 [.loc 0,.int (i + 1:Nat),.bytes bs] (ST K Z n c1 c2 B M)=.ok .none (ST K Z n c1 (c2 + 1) (upd B i (gZ bs)) (upd M i 0)):=by
 have hp:=List.length_pos_iff.mpr h0
 have g3:=Pb (g:=fun i=>.bytes (B i)) (v:=.bytes (gZ bs)) (List.mem_range.mpr hi) List.nodup_range
 have e1:upd (fun i=>AV.bytes (B i)) i (.bytes (gZ bs))=fun k=>.bytes (upd B i (gZ bs) k):=by
   funext k
   unfold upd
   split<;>rfl
 rw [e1] at g3
 have ep:gZ bs=bs++List.replicate (128 - bs.length) 0:=if_neg h0
 change (exs PR (run PR (d + 1)) n8.body [some (.loc 0),some (.int (i + 1:Nat)),some (.bytes bs),none,none] _).bind bh=_
 have t10:∀ {B M c2} {x4:Option AV},ev PR (run PR (d + 1)) [some (.loc 0),some (.int (i + 1:Nat)),some (.bytes bs),some (lc i),x4] (.attr (.v 3) 10) (ST K Z n c1 c2 B M)=.ok (.int 128) (ST K Z n c1 c2 B M):=fun {B M c2 x4}=>cR (x:=lc i) rfl (MP (Cz hi) rfl rfl)
 have s2:ex PR (run PR (d + 1)) (.asg 4 (.call 33 [(.bi .len [(.v 2)]),(.attr (.v 3) 10)])) [some (.loc 0),some (.int (i + 1:Nat)),some (.bytes bs),some (lc i),none] (ST K Z n c1 c2 B M)=.ok (.nxt [some (.loc 0),some (.int (i + 1:Nat)),some (.bytes bs),some (lc i),some (.int 128)]) (ST K Z n c1 c2 B M):=by
   refine bc (aJ (aP (bH (vs:=[.bytes bs]) rfl (len_bytes (by exact szl hb rfl))) (bz t10)) (bD (v:=.int 128) (σ':=[]) rfl ?_ rfl))
   change (exs PR (run PR d) qZ.body [some (.int bs.length),some (.int 128)] []).bind bh=_
   refine aO (aX (aY (aQ (x:=.int 1) (y:=.int 128) (aQ (x:=.int (bs.length + 128 - 1)) (y:=.int 128) (aQ (x:=.int (bs.length + 128)) (y:=.int 1) (aQ (x:=.int bs.length) (y:=.int 128) rfl rfl (jy (aK (by exact szt hb rfl)) (aK (by decide)))) rfl (xx (aK (by exact szt (Nat.add_le_add hb (Nat.le_refl _)) rfl)) (aK (by decide)))) rfl ?_) rfl rfl)))
   refine re (o4 (by decide) (by decide)) (re (Int.fdiv_eq_ediv_of_nonneg _ (by decide)) ?_)
   congr 2
   exact QD hp hb
 have s3:ex PR (run PR (d + 1)) (.seti (.attr (.v 0) 0) (.v 1) (.bin .add (.v 2) (.bi .bytes [(.bin .sub (.v 4) (.bi .len [(.v 2)]))]))) [some (.loc 0),some (.int (i + 1:Nat)),some (.bytes bs),some (lc i),some (.int 128)] (ST K Z n c1 c2 B M)=.ok (.nxt [some (.loc 0),some (.int (i + 1:Nat)),some (.bytes bs),some (lc i),some (.int 128)]) (ST K Z n c1 (c2 + 1) (upd B i (gZ bs)) M):=by
   refine xr (v:=.bytes (gZ bs)) (x:=.loc 2) (k:=.int (i + 1:Nat)) (aQ (x:=.bytes bs) rfl (bH (bz (aQ (x:=.int 128) rfl (bH (vs:=[.bytes bs]) rfl (len_bytes (by exact szl hb rfl))) (xx (aK (by decide)) (aK (by exact szt hb rfl))))) (if_pos ?_)) ?_) (lC rfl rfl) rfl ((yf (n:=c2) (es:=kd (List.range n) fun i=>.bytes (B i)) rfl h2).trans ?_)
   · refine re (Bool.and_eq_true ..) (re decide_eq_true_eq (re decide_eq_true_eq ?_));exact Jr hb (ile (Nat.le_add_left _ _))
   · refine re (show ((128:Int) - bs.length).toNat=128 - bs.length by exact Js hb) (re ep ?_)
     exact if_pos (aN (by refine re List.length_replicate ?_;exact szl (Nat.add_le_add hb (Nat.sub_le _ _)) rfl))
   · refine re g3 ?_;rfl
 refine iI (ak (bc (bM (x:=.loc 0) rfl rfl rfl (zH hi d))) (ak s2 (ak s3 (ak (sG (v:=.int 0) (x:=lc i) (aQ (x:=.int 1) (y:=.int 1) (aQ (x:=.int 128) (y:=.int 128) rfl t10 rfl) rfl rfl) rfl ((zG (Cz hi) rfl).trans ?_)) rfl))))
 show some (st n c1 (kd (List.range n) lc) (c2 + 1) _ (((List.range n).map fun i=>dno (K i) (M i) (Z i)).set i (dno (K i) 0 (Z i))))=some (st n c1 (kd (List.range n) lc) (c2 + 1) _ ((List.range n).map fun k=>dno (K k) (upd M i 0 k) (Z k)))
 refine re (Gm ..) ?_
 congr 5
 funext k
 unfold upd
 by_cases q:k=i
 · subst q;exact re (if_pos rfl) (re (if_pos rfl) rfl)
 · exact re (if_neg q) (re (if_neg q) rfl)
theorem MT (hn:n≤9) (h2:c2≤1000) (hB:B i=[]) {bs:List Nat} (hb:bs.length≤128) (d:Nat):∃ c2' M',c2'≤c2 + 1∧run PR (d + 3) 40 [.loc 0,.int (i + 1:Nat),.int 0,.bytes bs] (ST K Z n c1 c2 B M)=.ok .none (ST K Z n c1 c2' (upd B i (gZ bs)) M'):=by
 have s1:∀ {x4:Option AV},ex PR (run PR (d + 2)) (.ex (.meth true (.v 0) 5 [(.v 1)])) [some (.loc 0),some (.int (i + 1:Nat)),some (.int 0),some (.bytes bs),x4] (ST K Z n c1 c2 B M)=.ok (.nxt [some (.loc 0),some (.int (i + 1:Nat)),some (.int 0),some (.bytes bs),x4]) (ST K Z n c1 c2 B M):=fun {x4}=>dR (bM (x:=.loc 0) rfl rfl rfl (zH hi (d + 1)))
 have t2:ev PR (run PR (d + 2)) [some (.loc 0),some (.int (i + 1:Nat)),some (.int 0),some (.bytes bs),none] (.cmp (.bi .len [(.v 3)]) [.gt] [(.k (.int 0))]) (ST K Z n c1 c2 B M)=.ok (.bool (decide ((0:Int) < bs.length))) (ST K Z n c1 c2 B M):=aL (bH (vs:=[.bytes bs]) rfl (len_bytes (by exact szl hb rfl))) (y:=.int 0) rfl gt_int
 by_cases h0:bs=[]
 · refine ⟨c2,M,Nat.le_succ _,?_⟩
   have e:upd B i (gZ bs)=B:=by
     funext k
     unfold upd gZ
     by_cases q:k=i
     · subst q;exact re (if_pos rfl) (re (if_pos h0) (re hB rfl))
     · exact re (if_neg q) rfl
   refine re e ?_
   subst h0
   change (exs PR (run PR (d + 2)) iw.body [some (.loc 0),some (.int (i + 1:Nat)),some (.int 0),some (.bytes []),none] _).bind bh=_
   exact iI (ak s1 (ak (aR (v:=.bool false) rfl rfl rfl) (ak (aR t2 rfl rfl) rfl)))
 · have hp:=List.length_pos_iff.mpr h0
   rw [pH (by exact ile hp)] at t2
   refine ⟨c2 + 1,upd M i 0,Nat.le_refl _,?_⟩
   have g1:=(sY (L:=List.range n) (g:=fun i=>.bytes (B i)) (List.mem_range.mpr hi)).1
   have to:∀ {x4:Option AV},ev PR (run PR (d + 2)) [some (.loc 0),some (.int (i + 1:Nat)),some (.int 0),some (.bytes bs),x4] (.sub (.attr (.v 0) 0) (.v 1)) (ST K Z n c1 c2 B M)=.ok (.bytes []) (ST K Z n c1 c2 B M):=fun {x4}=>bC (x:=.loc 2) (y:=.int (i + 1:Nat)) (lC rfl rfl) rfl (g1.trans (by exact re hB rfl))
   have s3:=bc (x:=4) (aQ (P:=PR) (o:=.add) (a:=.sub (.attr (.v 0) 0) (.v 1)) (b:=.bi .bytes [(.bi .max [(.k (.int 0)),(.bin .sub (.v 2) (.bi .len [(.sub (.attr (.v 0) 0) (.v 1))]))])]) (z:=.bytes []) (to (x4:=none)) (bH (bz (bH (aP rfl (bz (aQ (x:=.int 0) (y:=.int 0) rfl (bH (bz to) rfl) rfl))) (r:=.ok (.int 0) (ST K Z n c1 c2 B M)) rfl)) rfl) rfl)
   have hsl:slice (.bytes []) (.int (0 + (bs.length:Int))) .none=some (.bytes []):=by
     show ((if small (0 + (bs.length:Int))=true then some (some (0 + (bs.length:Int))) else none).bind fun l=>sliceOf l none (.bytes []))=_
     refine re (if_pos (aK (by exact szt (Nat.add_le_add (Nat.le_refl _) hb) rfl))) ?_
     show some (AV.bytes (cut [] (some (0 + (bs.length:Int))) none))=_
     unfold cut
     simp
   change (exs PR (run PR (d + 2)) iw.body [some (.loc 0),some (.int (i + 1:Nat)),some (.int 0),some (.bytes bs),none] _).bind bh=_
   refine iI (ak s1 (ak (aR (v:=.bool false) rfl rfl rfl) (ak (aR t2 rfl (ak s3 (ak (dR (bM (x:=.loc 0) rfl rfl (aP rfl (bz (aQ (x:=.bytes bs) (y:=.bytes []) (z:=.bytes bs) (aQ (x:=.bytes []) (y:=.bytes bs) (z:=.bytes bs) rfl (bH (vs:=[.bytes bs]) rfl rfl) (if_pos (aN (by simp only [List.length_nil];exact szl (Nat.add_le_add (Nat.le_refl _) hb) rfl)))) (gU (x:=.bytes []) (y:=.int (0 + (bs.length:Int))) (w:=.none) rfl (aQ (x:=.int 0) rfl (bH (vs:=[.bytes bs]) rfl (len_bytes (by exact szl hb rfl))) (jy (aK (by decide)) (aK (by exact szt hb rfl)))) rfl hsl) ?_))) (Qy hi hn h2 h0 hb d))) rfl))) rfl)))
   exact (if_pos (aN (by simp only [List.length_nil];exact szl hb rfl))).trans (by exact re (List.append_nil ..) rfl)
end
end Mine.Law
end
section
open PySem
namespace Mine.Law
theorem M3 {α β:Type} {f:α→Option β} {g:α→List β} {l:List α} (h:∀ x∈l,g x=(f x).toList):l.flatMap g=l.filterMap f:=by
 induction l with
 | nil=>rfl
 | cons a l ih =>
   refine re List.flatMap_cons (re List.filterMap_cons (re (h a List.mem_cons_self) (re (ih fun x hx=>h x (List.mem_cons_of_mem _ hx)) ?_)))
   cases f a<;>rfl
theorem yP {σ:Sig} {l:List (Nat×Nat)} (h3:l.length≤3) (hn:(l.map fun p=>[p.1]).Nodup):builtin σ .sorted [.list (l.map cP)]=.ok (.list ((dC l).map cP)) σ:=by
 have hp:pairs? (l.map cP)=some (l.map uh):=by
   clear h3 hn
   induction l with
   | nil=>rfl
   | cons p l ih =>
     show (pairs? (l.map cP)).map (([p.1],(p.2:Int)) :: ·)=_
     refine re ih ?_;rfl
 show (match pairs? (l.map cP) with | some ps=>(if (decide (ps.length≤3) && decide (ps.map Prod.fst).Nodup)=true then R.ok (AV.list ((cW ps).map fun (p:List Nat×Int)=>AV.tuple [.str p.1,.int p.2])) σ else .stuck) | none=>.stuck)=_
 refine re hp ?_
 dsimp only
 rw [if_pos (by
   refine re (Bool.and_eq_true ..) (re decide_eq_true_eq (re decide_eq_true_eq (re (List.length_map ..) (re List.map_map ?_))))
   exact ⟨h3,hn⟩),← yM,List.map_map]
 rfl
noncomputable def kindOf (R:List Row) (i:Nat):Int:=if sOf R i=1 then 9 else 8
noncomputable def zOf (R:List Row) (i:Nat):List Nat:=zb (sOf R i) (tOf R i).length (pOf R i + 1)
noncomputable def raw (R:List Row) (i:Nat):List Nat:=if sOf R i=1 then block (dC (own R i)) else tOf R i
noncomputable abbrev yg:List C:=[(.asg 6 (.call 22 [(.new true 2 [(.v 2),(.k (.int 420)),(.bi .len [(.v 5)]),(.k (.int 1)),(.bin .add (.v 3) (.k (.int 1))),(.k (.int 1)),(.k (.int 1))])])),(.ex (.meth true (.v 1) 7 [(.ife (.cmp (.v 2) [.eq] [(.k (.int 1))]) (.g (Str.ofString "FOLDER") 9) (.g (Str.ofString "FILE") 8)),(.k (.int 128)),(.v 6)]))]
noncomputable abbrev J2:Mine.E:=.comp [Str.ofString "k",Str.ofString "one"] [7] (.tu [0,1]) (.tup [(.sub (.v 1) (.k (.int 2))),(.bin .add (.bin .mul (.k (.int 4)) (.bin .add (.v 0) (.k (.int 1)))) (.sub (.v 1) (.k (.int 0))))]) .enum (.v 0) [(.bo true [(.cmp (.v 0) [.gt] [(.k (.int 0))]),(.cmp (.sub (.v 1) (.k (.int 1))) [.eq] [(.v 2)])])]
noncomputable abbrev yh:List C:=[(.iff (.cmp (.sub (.v 8) (.k (.int 0))) [.eq] [(.k (.int 1))]) [(.asg 9 J2),(.ex (.meth true (.v 1) 9 [(.bin .add (.v 7) (.k (.int 1))),(.k (.int 0)),(.call 14 [(.k (.int 9)),(.bi .sorted [(.v 9)]),(.k (.int 128))])]))] [(.ex (.meth true (.v 1) 9 [(.bin .add (.v 7) (.k (.int 1))),(.k (.int 0)),(.bi .bytes [(.comp [Str.ofString "sign"] [] (.n 0) (.bi .ord [(.v 0)]) .of (.sub (.v 8) (.k (.int 3))) [])])]))])]
section
variable {R:List Row} (G:Good R)
include G
theorem Pg (d:Nat) {j:Nat} {r:Row} (hr:R[j]?=some r) (x4 x6 x7 x8 x9:Option AV):∃ y6,exs PR (run PR (d + 3)) yg [some (aB R),some (.loc 0),some (.int r.s),some (.int r.p),x4,some (.str r.tx),x6,x7,x8,x9] (ST (kindOf R) (zOf R) j j j (fun _=>[]) fun _=>-1)=.ok (.nxt [some (aB R),some (.loc 0),some (.int r.s),some (.int r.p),x4,some (.str r.tx),y6,x7,x8,x9]) (ST (kindOf R) (zOf R) (j + 1) (j + 1) (j + 1) (fun _=>[]) fun _=>-1):=by
 have tl:=G.tl hr
 have sl:=G.srt j r hr
 have pl:=G.pl hr
 have jl:=G.lt hr
 have es:sOf R j=r.s:=by unfold sOf;refine re hr ?_;rfl
 have ez:zOf R j=zb r.s r.tx.length (r.p + 1):=by unfold zOf sOf tOf pOf;refine re hr ?_;rfl
 have ha:=Qx (n:=j) (c1:=j) (c2:=j) (dns:=(List.range j).map fun i=>dno (kindOf R i) (-1) (zOf R i)) (B:=fun _=>[]) (kind:=kindOf R j) (z:=zOf R j) (by exact re (List.length_map ..) (re List.length_range rfl)) rfl (by exact szl (Nat.le_of_lt jl) rfl) (by exact szl (Nat.le_of_lt jl) rfl) (by exact szl (Nat.le_of_lt jl) rfl) (by unfold kindOf;split<;>decide) (d + 1)
 have e1:st (j + 1) (j + 1) (kd (List.range (j + 1)) lc) (j + 1) (kd (List.range (j + 1)) fun i=>.bytes []) (((List.range j).map fun i=>dno (kindOf R i) (-1) (zOf R i))++[dno (kindOf R j) (-1) (zOf R j)])=ST (kindOf R) (zOf R) (j + 1) (j + 1) (j + 1) (fun _=>[]) fun _=>-1:=by
   unfold ST
   refine re List.range_succ (re List.map_append ?_)
   rfl
 rw [e1,ez] at ha
 have hz:∀ {σ:Sig},ev PR (run PR (d + 3)) [some (aB R),some (.loc 0),some (.int r.s),some (.int r.p),x4,some (.str r.tx),x6,x7,x8,x9] (.new true 2 [(.v 2),(.k (.int 420)),(.bi .len [(.v 5)]),(.k (.int 1)),(.bin .add (.v 3) (.k (.int 1))),(.k (.int 1)),(.k (.int 1))]) σ=.ok (zn r.s r.tx.length (r.p + 1)) σ:=fun {σ}=>by
   have h:=aP (P:=PR) (cf:=run PR (d + 3)) (ρ:=[some (aB R),some (.loc 0),some (.int r.s),some (.int r.p),x4,some (.str r.tx),x6,x7,x8,x9]) (σ:=σ) (e:=.v 2) (es:=[(.k (.int 420)),(.bi .len [(.v 5)]),(.k (.int 1)),(.bin .add (.v 3) (.k (.int 1))),(.k (.int 1)),(.k (.int 1))]) rfl (aP rfl (aP (bH (vs:=[.str r.tx]) rfl (len_str (by exact szl tl rfl))) (aP rfl (aP (inc (h:=r.p) (by exact szl (Nat.le_of_lt pl) rfl) rfl) rfl))))
   show (evs PR (run PR (d + 3)) _ _ σ).bind _=_
   refine re h ?_
   rfl
 have t2:∀ {x6:Option AV} {σ:Sig},ev PR (run PR (d + 3)) [some (aB R),some (.loc 0),some (.int r.s),some (.int r.p),x4,some (.str r.tx),x6,x7,x8,x9] (.ife (.cmp (.v 2) [.eq] [(.k (.int 1))]) (.g (Str.ofString "FOLDER") 9) (.g (Str.ofString "FILE") 8)) σ=.ok (.int (kindOf R j)) σ:=fun {x6 σ}=>by
   refine dU (q:=r.s == 1) (aL (x:=.int r.s) (y:=.int (1:Nat)) rfl rfl (eq_int.trans (by exact re dB rfl))) rfl ?_
   unfold kindOf
   refine re es ?_
   by_cases q:r.s=1
   · refine re q ?_;rfl
   · refine re (if_neg q) (re (beq_eq_false_iff_ne.mpr q) ?_);rfl
 exact ⟨_,ak (bc (aJ (bz hz) (xO (by exact szt sl rfl) (by exact szt tl rfl) (by exact szt pl rfl) d _))) (ak (dR (bM (x:=.loc 0) rfl rfl (aP t2 (aP rfl rfl)) ha)) rfl)⟩
theorem M4 {j:Nat} {r:Row} (hr:R[j]?=some r):(raw R j).length≤128:=by
 have tl:=G.tl hr
 unfold raw
 split
 · refine re (jm (G.ents j)) ?_;exact Nat.le_refl _
 · unfold tOf
   refine re hr ?_
   show r.tx.length≤128
   exact szl tl rfl
theorem Ph {cf:Calls} {ρ:Env} {σ:Sig} {i:Nat} (h0:ρ[0]?=some (some (aB R))) (h7:ρ[7]?=some (some (.int i))):ev PR cf ρ J2 σ=.ok (.list ((own R i).map cP)) σ:=by
 have hl:=G.len
 rw [iK (n:=R.length) (b:=fun j=>((R[j]?).map fun r=>decide (0 < j) && r.p == i).getD false) (y:=fun j=>((R[j]?).map fun r=>AV.tuple [.str r.nm,.int (4 * (j + 1) + r.s:Nat)]).getD .none) (src:=aB R) (e_v h0) (by exact szt hl rfl) (by unfold aB;rw [fZ (by rw [bO];exact szl hl rfl),List.getElem?_eq_none (by rw [bO];exact Nat.le_refl _)];rfl) fun j hj=>?_]
 · unfold own
   rw [List.map_filterMap,M3 fun j hj=>?_]
   rw [List.mem_range] at hj
   have hr:R[j]?=some R[j]:=List.getElem?_eq_getElem hj
   unfold kid
   rw [hr]
   show (if (decide (0 < j) && (R[j]).p == i)=true then [AV.tuple [.str (R[j]).nm,.int (4 * (j + 1) + (R[j]).s:Nat)]] else [])=(Option.map cP (if (decide (0 < j) && (R[j]).p == i)=true then some (((R[j]).nm[0]?).getD 0,4 * (j + 1) + (R[j]).s) else none)).toList
   cases q:(decide (0 < j) && (R[j]).p == i) with
   | false=>rfl
   | true =>
     refine o11 (G.nm j _ hr (of_decide_eq_true (Bool.and_eq_true_iff.mp q).1)) fun c _ e=>?_
     rw [e];rfl
 · have hr:R[j]?=some R[j]:=List.getElem?_eq_getElem hj
   have sl:=G.srt j _ hr
   refine ⟨_,[some (.int j),some (aZ R[j]),some (.int i)],by unfold aB;rw [fZ (by rw [bO];exact szl hl rfl),List.getElem?_map,hr];rfl,by
     show target [none,none,(ρ[7]?).getD none] _ _=_
     rw [h7];rfl,?_,fun _=>?_⟩
   · rw [hr]
     show (ev PR cf _ _ σ).bind _=_
     rw [vG (p:=decide (0 < j)) (q:=(R[j]).p == i) ((aL (x:=.int j) (y:=.int 0) rfl rfl gt_int).trans (by rw [show decide ((0:Int) < j)=decide (0 < j) from decide_eq_decide.mpr Int.ofNat_le])) fun _=>(aL (bC (x:=aZ R[j]) (y:=.int 1) rfl rfl rfl) (y:=.int i) rfl eq_int).trans (by rw [dB])]
     show (match some (decide (0 < j) && (R[j]).p == i) with | some true=>_ | some false=>_ | none=>_)=Mine.R.ok (decide (0 < j) && (R[j]).p == i) σ
     cases decide (0 < j) && (R[j]).p == i<;>rfl
   · rw [hr]
     exact eO (aP (bC (x:=aZ R[j]) (y:=.int 2) rfl rfl rfl) (bz (aQ (x:=.int (4 * ((j:Int) + 1))) (y:=.int (R[j]).s) (aQ (x:=.int 4) (y:=.int ((j:Int) + 1)) rfl (aQ (x:=.int j) (y:=.int 1) rfl rfl (jy (aK (by exact szl (Nat.le_trans hj hl) rfl)) (aK (by decide)))) (O1 (aK (by decide)) (aK (by exact szt (Nat.le_trans hj hl) rfl)))) (bC (x:=aZ R[j]) (y:=.int 0) rfl rfl rfl) ((jy (aK (by exact szt (Nat.mul_le_mul_left _ (Nat.le_trans hj hl)) rfl)) (aK (by exact szt sl rfl))).trans (by congr 2)))))
theorem Pj (d:Nat) {j n c2:Nat} {r:Row} {B:Nat→List Nat} {M:Nat→Int} (hr:R[j]?=some r) (hn:n=R.length) (h2:c2≤100) (hB:B j=[]) (x2 x3 x4 x5 x6 x9:Option AV):∃ y9 c2' M',c2'≤c2 + 1∧exs PR (run PR (d + 4)) yh [some (aB R),some (.loc 0),x2,x3,x4,x5,x6,some (.int j),some (aZ r),x9] (ST (kindOf R) (zOf R) n n c2 B M)=.ok (.nxt [some (aB R),some (.loc 0),x2,x3,x4,x5,x6,some (.int j),some (aZ r),y9]) (ST (kindOf R) (zOf R) n n c2' (upd B j (gZ (raw R j))) M'):=by
 have hl:=G.len
 have tl:=G.tl hr
 have ts:=G.ts hr
 have jl:=G.lt hr
 have jn:j < n:=by rw [hn];exact (List.getElem?_eq_some_iff.mp hr).1
 have es:sOf R j=r.s:=by unfold sOf;rw [hr];rfl
 have et:tOf R j=r.tx:=by unfold tOf;rw [hr];rfl
 refine o21 (MT (K:=kindOf R) (Z:=zOf R) (n:=n) (c1:=n) (c2:=c2) (B:=B) (M:=M) jn (by exact eql hn hl) (by exact szl h2 rfl) hB (M4 G hr) (d + 1)) fun c2' M' hc hw=>?_
 have t1:ev PR (run PR (d + 4)) [some (aB R),some (.loc 0),x2,x3,x4,x5,x6,some (.int j),some (aZ r),x9] (.cmp (.sub (.v 8) (.k (.int 0))) [.eq] [(.k (.int 1))]) (ST (kindOf R) (zOf R) n n c2 B M)=.ok (.bool (r.s == 1)) (ST (kindOf R) (zOf R) n n c2 B M):=aL (bC (x:=aZ r) (y:=.int 0) rfl rfl rfl) (y:=.int (1:Nat)) rfl (eq_int.trans (by rw [dB]))
 by_cases q:r.s=1
 · have er:raw R j=block (dC (own R j)):=by unfold raw;rw [es,if_pos q]
   rw [beq_iff_eq.mpr q] at t1
   rw [er] at hw ⊢
   exact ⟨_,c2',M',hc,ak (aR t1 rfl (ak (bc (Ph G rfl rfl)) (ak (dR (bM (x:=.loc 0) rfl rfl (aP (inc (h:=j) (by exact szl (Nat.le_of_lt jl) rfl) rfl) (aP rfl (bz (aJ (aP rfl (aP (bH (vs:=[.list ((own R j).map cP)]) rfl (yP (G.own_3 j) (Jc _ (G.own_1 j)))) rfl)) (xP (G.ents j) d _))))) hw)) rfl))) rfl⟩
 · have er:raw R j=r.tx:=by unfold raw;rw [es,if_neg q,et]
   rw [beq_eq_false_iff_ne.mpr q] at t1
   rw [er] at hw ⊢
   have tc:ev PR (run PR (d + 4)) [some (aB R),some (.loc 0),x2,x3,x4,x5,x6,some (.int j),some (aZ r),x9] (.comp [Str.ofString "sign"] [] (.n 0) (.bi .ord [(.v 0)]) .of (.sub (.v 8) (.k (.int 3))) []) (ST (kindOf R) (zOf R) n n c2 B M)=.ok (.list (r.tx.map fun (c:Nat)=>.int c)) (ST (kindOf R) (zOf R) n n c2 B M):=by
     rw [iK (n:=r.tx.length) (b:=fun _=>true) (y:=fun j=>.int ((r.tx[j]?).getD 0:Nat)) (src:=.str r.tx) (bC (x:=aZ r) (y:=.int 3) rfl rfl rfl) (by exact szt tl rfl) ?_ fun k hk=>?_]
     · rw [jF (xs:=r.tx) (g:=fun c=>[.int c]) fun i x e=>by rw [e];rfl,← List.map_eq_flatMap]
     · show (if sizeOk (r.tx.map _).length=true then _ else _)=_
       rw [List.length_map,if_pos (aN (by exact szl tl rfl)),List.getElem?_map,List.getElem?_eq_none (Nat.le_refl _)]
       rfl
     · refine ⟨.str [r.tx[k]],[some (.str [r.tx[k]])],?_,rfl,rfl,fun _=>bH (vs:=[.str [r.tx[k]]]) rfl ?_⟩
       · show (if sizeOk (r.tx.map _).length=true then _ else _)=_
         rw [List.length_map,if_pos (aN (by exact szl tl rfl)),List.getElem?_map,List.getElem?_eq_getElem hk]
         rfl
       · rw [List.getElem?_eq_getElem hk]
         rfl
   refine ⟨x9,c2',M',hc,ak (aR t1 rfl (ak (dR (bM (x:=.loc 0) rfl rfl (aP (inc (h:=j) (by exact szl (Nat.le_of_lt jl) rfl) rfl) (aP rfl (bz (bH (bz tc) ?_)))) hw)) rfl)) rfl⟩
   have ho:∀ l:List Nat,(∀ c∈l,c < 128)→octets? (l.map fun (c:Nat)=>AV.int c)=some l:=fun l=>by
     induction l with
     | nil=>exact fun _=>rfl
     | cons c l ih =>
       intro h
       have:=h c List.mem_cons_self
       show ((if (decide (0≤(c:Int)) && decide ((c:Int) < 256))=true then some (c:Int).toNat else none).bind fun x=>(octets? (l.map fun (c:Nat)=>AV.int c)).map (x :: ·))=_
       rw [if_pos (by rw [Bool.and_eq_true,decide_eq_true_eq,decide_eq_true_eq];exact And.intro (Int.natCast_nonneg _) (ile (szl this rfl))),ih fun k hk=>h k (List.mem_cons_of_mem _ hk)]
       rfl
   show (match octets? (r.tx.map fun (c:Nat)=>AV.int c) with | some bs=>(if sizeOk bs.length=true then Mine.R.ok (AV.bytes bs) _ else .stuck) | none=>.stuck)=_
   rw [ho _ ts]
   exact if_pos (aN (by exact szl tl rfl))
end
end Mine.Law
end
section
open PySem
namespace Mine.Law
theorem ur {f:AV→Option AV} {g g':Nat→AV}:∀ {L:List Nat},(∀ i∈L,f (g i)=some (g' i))→(kd L g).mapM (fun p=>(f p.2).map (p.1,·))=some (kd L g')
 | [],_=>rfl
 | a :: L,h=>by
   show ((((a + 1:Nat):Int),g a) :: kd L g).mapM (fun p=>(f p.2).map (p.1,·))=_
   refine re List.mapM_cons (re (h a List.mem_cons_self) (re (ur fun i hi=>h i (List.mem_cons_of_mem _ hi)) ?_))
   rfl
noncomputable def dnA (kind most:Int) (z:List Nat):AV:=.inst 4 [(9,.int kind),(10,.int 128),(11,.int most),(12,.bytes z)]
noncomputable def Gq (K:Nat→Int) (Z:Nat→List Nat) (n:Nat) (B:Nat→List Nat) (M:Nat→Int):AV:=.inst 5 [(13,pK),(14,.dict (kd (List.range n) fun i=>dnA (K i) (M i) (Z i))),(0,.dict (kd (List.range n) fun i=>.bytes (B i))),(15,.int n)]
theorem Gr {K:Nat→Int} {Z:Nat→List Nat} {n c1 c2:Nat} {B:Nat→List Nat} {M:Nat→Int}:bA (ST K Z n c1 c2 B M) fj (.loc 0)=some (Gq K Z n B M):=by
 have h1:bA (ST K Z n c1 c2 B M) 5 (.loc 1)=some (.dict (kd (List.range n) fun i=>dnA (K i) (M i) (Z i))):=by
   show ((kd (List.range n) lc).mapM fun p=>(bA (ST K Z n c1 c2 B M) 4 p.2).map (p.1,·)).map AV.dict=_
   rw [ur (f:=bA (ST K Z n c1 c2 B M) 4) fun i hi=>?_]
   · rfl
   · have:=Cz (K:=K) (Z:=Z) (c1:=c1) (c2:=c2) (B:=B) (M:=M) (List.mem_range.mp hi)
     show ((ST K Z n c1 c2 B M)[i + 3]?).bind (zM (bA (ST K Z n c1 c2 B M) 3))=_
     refine re this ?_
     rfl
 have h2:bA (ST K Z n c1 c2 B M) 5 (.loc 2)=some (.dict (kd (List.range n) fun i=>.bytes (B i))):=by
   show ((kd (List.range n) fun i=>AV.bytes (B i)).mapM fun p=>(bA (ST K Z n c1 c2 B M) 4 p.2).map (p.1,·)).map AV.dict=_
   refine re (ur (f:=bA (ST K Z n c1 c2 B M) 4) (g':=fun i=>.bytes (B i)) fun i _=>rfl) ?_
   rfl
 show (([(13,pK),(14,.loc 1),(0,.loc 2),(15,.int n)]:List (Nat×AV)).mapM fun p=>(bA (ST K Z n c1 c2 B M) 5 p.2).map (p.1,·)).map (AV.inst 5)=_
 refine re List.mapM_cons (re List.mapM_cons (re List.mapM_cons (re h1 (re h2 ?_))))
 rfl
theorem vok {R:List Row} {B:Nat→List Nat} {M:Nat→Int} (G:Good R) (hB:∀ i,i < R.length→B i=gZ (raw R i)):VOk (Gq (kindOf R) (zOf R) R.length B M) R:=by
 refine ⟨⟨_,_,_,rfl,rfl,rfl,fun i r hr=>?_⟩,?_⟩
 · have hi:=(List.getElem?_eq_some_iff.mp hr).1
   refine o01 (sY (g:=fun i=>dnA (kindOf R i) (M i) (zOf R i)) (List.mem_range.mpr hi)) fun g1 g2=>?_
   refine o01 (sY (g:=fun i=>.bytes (B i)) (List.mem_range.mpr hi)) fun g3 _=>?_
   refine ⟨g2,⟨kindOf R i,M i,g1.trans ?_⟩,g3.trans ?_⟩
   · show some (dnA (kindOf R i) (M i) (zOf R i))=some (dn r (kindOf R i) (M i))
     unfold zOf sOf tOf pOf
     refine re hr ?_
     rfl
   · refine re (hB i hi) ?_
     congr 2
     unfold blk raw gZ sOf tOf
     refine re hr ?_
     show (if (if r.s=1 then _ else r.tx)=[] then [] else _)=_
     by_cases q:r.s=1
     · have hl:=jm (G.ents i)
       simp only [if_pos q,Option.map_some,Option.getD_some]
       refine re (if_neg (by intro e;rw [e] at hl;cases hl)) (re hl ?_)
       exact List.append_nil _
     · simp only [if_neg q,Option.map_some,Option.getD_some]
 · show (bN pK && (jR _ && (jR _ && (true && true))))=true
   refine re (zE fun i=>rfl) (re (zE fun i=>rfl) ?_)
   rfl
theorem Jp {R:List Row} (G:Good R) (d:Nat) (σ:Sig):∃ v,VOk v R∧aD (run PR (d + 5)) σ 45 [aB R]=.ok v σ:=by
 have hl:=G.len
 obtain ⟨ρ₁,σ₁,h1,x2,x3,x4,x5,x6,e1,e2⟩:=jk (xs:=R) (e:=fun _=>aZ) (at_:=fun σ j=>aU σ .of (aB R) j) (tgt:=.tu [2,3,4,5]) (body:=fun ρ σ=>exs PR (run PR (d + 4)) yg ρ σ)
   (Inv:=fun j ρ σ=>∃ x2 x3 x4 x5 x6,ρ=[some (aB R),some (.loc 0),x2,x3,x4,x5,x6,none,none,none]∧σ=ST (kindOf R) (zOf R) j j j (fun _=>[]) fun _=>-1)
   (fun σ j=>by unfold aB;rw [vH (by rw [bO];exact szl hl rfl),List.getElem?_map]) (fun j r ρ σ hr hi=>by
     obtain ⟨x2,x3,x4,x5,x6,rfl,rfl⟩:=hi
     refine o10 (Pg G (d + 1) hr (some (.str r.nm)) x6 none none none) fun y6 h=>?_
     exact ⟨_,_,_,rfl,h,_,_,_,_,y6,rfl,rfl⟩) R.length turns 0 [some (aB R),some (.loc 0),none,none,none,none,none,none,none,none] (ST (kindOf R) (zOf R) 0 0 0 (fun _=>[]) fun _=>-1) rfl (by unfold turns;exact szt hl rfl) ⟨none,none,none,none,none,rfl,rfl⟩
 subst e1 e2
 obtain ⟨ρ₂,σ₂,h2,x7,x8,x9,c2,B,M,e1,e2,hc,hB⟩:=jk (xs:=R) (e:=fun j r=>.tuple [.int j,aZ r]) (at_:=fun σ j=>aU σ .enum (aB R) j) (tgt:=.tu [7,8]) (body:=fun ρ σ=>exs PR (run PR (d + 4)) yh ρ σ)
   (Inv:=fun j ρ σ=>∃ x7 x8 x9 c2 B M,ρ=[some (aB R),some (.loc 0),x2,x3,x4,x5,x6,x7,x8,x9]∧σ=ST (kindOf R) (zOf R) R.length R.length c2 B M∧c2≤R.length + j∧∀ i,B i=if i < j then gZ (raw R i) else [])
   (fun σ j=>by unfold aB;rw [fZ (by rw [bO];exact szl hl rfl),List.getElem?_map,Option.map_map];rfl) (fun j r ρ σ hr hi=>by
     obtain ⟨x7,x8,x9,c2,B,M,rfl,rfl,hc,hB⟩:=hi
     have hj:=(List.getElem?_eq_some_iff.mp hr).1
     refine o31 (Pj G d (n:=R.length) (c2:=c2) (B:=B) (M:=M) hr rfl (szl (Nat.le_trans hc (Nat.add_le_add hl (Nat.le_of_lt (Nat.lt_of_lt_of_le hj hl)))) rfl) (by rw [hB];exact if_neg (Nat.lt_irrefl j)) x2 x3 x4 x5 x6 x9) fun y9 c2' M' hc' h=>?_
     refine ⟨_,_,_,rfl,h,_,_,y9,c2',_,M',rfl,rfl,by exact Nat.le_trans hc' (Nat.succ_le_succ hc),fun i=>?_⟩
     unfold upd
     by_cases q:i=j
     · rw [if_pos q,if_pos (by exact zJ q (Nat.le_refl _)),q]
     · rw [if_neg q,hB]
       by_cases q2:i < j
       · rw [if_pos q2,if_pos (by exact Nat.le_succ_of_le q2)]
       · rw [if_neg q2,if_neg (fun h=>(Nat.lt_or_eq_of_le (Nat.le_of_lt_succ h)).elim q2 q)]) R.length turns 0 [some (aB R),some (.loc 0),x2,x3,x4,x5,x6,none,none,none] (ST (kindOf R) (zOf R) R.length R.length R.length (fun _=>[]) fun _=>-1) rfl (by unfold turns;exact szt hl rfl) ⟨none,none,none,R.length,_,_,rfl,rfl,by exact Nat.le_refl _,fun i=>rfl⟩
 subst e1 e2
 refine ⟨_,vok G (M:=M) fun i hi=>(hB i).trans (if_pos hi),bD (v:=.loc 0) (σ':=ST (kindOf R) (zOf R) R.length R.length c2 B M) (by show (bN (aB R) && true)=true;rw [pg];rfl) ?_ Gr⟩
 have s0:ex PR (run PR (d + 4)) (.asg 1 (.new false 5 [(.new true 3 [])])) [some (aB R),none,none,none,none,none,none,none,none,none] []=.ok (.nxt [some (aB R),some (.loc 0),none,none,none,none,none,none,none,none]) (ST (kindOf R) (zOf R) 0 0 0 (fun _=>[]) fun _=>-1):=rfl
 change (exs PR (run PR (d + 4)) pU.body [some (aB R),none,none,none,none,none,none,none,none,none] []).bind bh=_
 exact aO (ak s0 (ak (m7 (b:=yg) rfl h1) (ak (m7 (b:=yh) rfl h2) (aX (aY rfl)))))
end Mine.Law
end
section
open PySem
namespace Mine.Law
theorem vd {α:Type} {g:α→AV} (h1:∀ a,eE (g a)=true) (h2:∀ a,isScalar (g a)=true) (h3:∀ a,eqB (g a) (g a)=true) (l:List α):eF (.list (l.map g)) (.list (l.map g))=some true:=by
 have e1:eE (.list (l.map g))=true:=o5 h1 l
 have e2:dI (.list (l.map g))=true:=by
   show (l.map g).all isScalar=true
   refine re List.all_map ?_;rewrite [List.all_eq_true]
   exact fun a _=>h2 a
 have e3:eqB (.list (l.map g)) (.list (l.map g))=true:=by
   show tB (l.map g) (l.map g)=true
   clear e1 e2
   induction l with
   | nil=>rfl
   | cons a l ih =>
     show (eqB (g a) (g a) && tB (l.map g) (l.map g))=true
     refine re (h3 ..) (re ih ?_);rfl
 unfold eF
 refine re e1 (re e2 (re e3 ?_))
 rfl
theorem M5 (l:List Nat) (x:Nat):((l.map fun (k:Nat)=>AV.int k).any fun y=>eqB y (.int x))=l.contains x:=by
 induction l with
 | nil=>rfl
 | cons a l ih =>
   show (((a:Int) == (x:Int)) || (l.map fun (k:Nat)=>AV.int k).any fun y=>eqB y (.int x))=_
   exact re ih (re List.contains_cons (re dB (re (BEq.comm (a:=x)) rfl)))
theorem Pk {σ:Sig} {i:Nat} {l:List Nat} {x:Nat} (h:σ[i]?=some (.list (l.map fun (k:Nat)=>AV.int k))):cmpop σ .isin (.int x) (.loc i)=some (l.contains x):=by
 show σ[i]?.bind (Gv x)=_
 refine re h ?_
 show (if (true && gJ (l.map fun (k:Nat)=>AV.int k))=true then some ((l.map fun (k:Nat)=>AV.int k).any fun y=>eqB y (.int x)) else none)=_
 rewrite [o5 (fun _=>rfl)];refine re (M5 ..) ?_
 rfl
noncomputable abbrev Pn:List C:=[(.ex (.bm .append (.v 5) [(.v 6)])),(.asg 6 (.sub (.sub (.v 1) (.v 6)) (.k (.int 1))))]
theorem M6 {R:List Row} (G:Good R) {cf:Calls} {a0 a2 a3 a4:Option AV}:∀ (n at_ N:Nat) (acc:List Nat),at_≤n→n < N→at_ < R.length→acc.length + n≤100 →
   cF (fun ρ σ=>(ev PR cf ρ (.cmp (.v 6) [.gt] [(.k (.int 0))]) σ).bind fun v σ=>Mine.R.of (truthy v) σ) (fun ρ σ=>exs PR cf Pn ρ σ) N [a0,some (aB R),a2,a3,a4,some (.loc 1),some (.int at_)] [.tab,.list (acc.map fun (k:Nat)=>.int k)]=.ok (.nxt [a0,some (aB R),a2,a3,a4,some (.loc 1),some (.int (0:Nat))]) [.tab,.list ((acc++up R n at_).map fun (k:Nat)=>.int k)]:=by
 have ht:∀ at_ σ,((ev PR cf [a0,some (aB R),a2,a3,a4,some (.loc 1),some (.int (at_:Nat))] (.cmp (.v 6) [.gt] [(.k (.int 0))]) σ).bind fun v σ=>Mine.R.of (truthy v) σ)=.ok (decide (0 < at_)) σ:=fun at_ σ=>by
   refine re (aL (x:=.int at_) (y:=.int 0) rfl rfl gt_int) ?_
   show Mine.R.ok (decide ((0:Int) < at_)) σ=_
   exact re (show decide ((0:Int) < at_)=decide (0 < at_) from decide_eq_decide.mpr Int.ofNat_le) rfl
 intro n
 induction n with
 | zero =>
   intro at_ N acc hn hN hat hl
   match N,hN with
   | N + 1,_ =>
     have:at_=0:=by exact Nat.le_antisymm hn (Nat.zero_le _)
     subst this
     exact re (lB (ht 0 _)) (re (show up R 0 0=[] from rfl) (re (List.append_nil ..) rfl))
 | succ n ih =>
   intro at_ N acc hn hN hat hl
   match N,hN with
   | N + 1,hN =>
     have hg:=G.len
     by_cases q:at_=0
     · subst q
       exact re (lB (ht 0 _)) (re (show up R (n + 1) 0=[] from rfl) (re (List.append_nil ..) rfl))
     · have ht:=ht at_ [.tab,.list (acc.map fun (k:Nat)=>.int k)]
       rw [decide_eq_true (show 0 < at_ by exact Nat.pos_of_ne_zero q)] at ht
       obtain ⟨r,hr⟩:∃ r,R[at_]?=some r:=⟨_,List.getElem?_eq_getElem hat⟩
       have ep:pOf R at_=r.p:=by unfold pOf;refine re hr ?_;rfl
       have hp:pOf R at_ < at_:=by rcases G.pow hat with h | h<;>lia
       have eu:up R (n + 1) at_=at_ :: up R n (pOf R at_):=if_neg q
       have s1:ex PR cf (.ex (.bm .append (.v 5) [(.v 6)])) [a0,some (aB R),a2,a3,a4,some (.loc 1),some (.int at_)] [.tab,.list (acc.map fun (k:Nat)=>.int k)]=.ok (.nxt [a0,some (aB R),a2,a3,a4,some (.loc 1),some (.int at_)]) [.tab,.list ((acc++[at_]).map fun (k:Nat)=>.int k)]:=by
         refine re List.map_append ?_
         exact dR (j8 (x:=.loc 1) rfl rfl rfl (app_list (i:=1) (xs:=acc.map fun (k:Nat)=>.int k) rfl (by refine re (List.length_map ..) ?_;exact szl (Nat.le_trans (Nat.le_add_right _ _) hl) rfl)))
       have s2:=bc (x:=6) (bC (P:=PR) (cf:=cf) (a:=.sub (.v 1) (.v 6)) (b:=.k (.int 1)) (ρ:=[a0,some (aB R),a2,a3,a4,some (.loc 1),some (.int at_)]) (σ:=[.tab,.list ((acc++[at_]).map fun (k:Nat)=>.int k)]) (x:=aZ r) (y:=.int 1) (z:=.int r.p) (bC (x:=aB R) (y:=.int at_) rfl rfl ((gB (by refine re (bO ..) ?_;exact szl hg rfl)).trans (by refine re (List.getElem?_map) (re hr ?_);rfl))) rfl rfl)
       have:=ih (pOf R at_) N (acc++[at_]) (by exact Nat.le_of_lt_succ (Nat.le_trans hp hn)) (by exact Nat.le_of_lt_succ hN) (G.par_lt hat) (by refine re List.length_append (re List.length_singleton ?_);exact rm0 (Nat.le_of_lt_succ hl) rfl)
       rw [ep] at this eu
       refine re (nF ht (.inl (ak s1 (ak s2 rfl)))) (re eu (re (show acc++at_ :: up R n r.p=acc++[at_]++up R n r.p by simp) ?_))
       exact this
theorem law {l:List Int} (hl:l.length≤63):∃ σ',run PR 40 50 [.list (l.map .int)] [.tab]=.ok (.bool true) σ'∧σ'[0]?=some .tab:=by
 refine o11 (Jo hl 37 [.tab]) fun R G hrows=>?_
 refine o11 (Jp G 34 [.tab]) fun v V hview=>?_
 have hg:=G.len
 have h0:0 < R.length:=(List.getElem?_eq_some_iff.mp G.root).1
 have p5:=ni (cellOf l 8) (most:=5) (by decide)
 have p4:=ni (cellOf l 9) (most:=4) (by decide)
 have hpr:=Cy G V (d:=27) (qK (cellOf l 8) (most:=5) (by decide) (by decide)) (qK (cellOf l 9) (most:=4) (by decide) (by decide)) p5.2 p4.2 (by exact Nat.le_of_lt p5.1) (by exact szl (Nat.le_of_lt p4.1) rfl)
 refine o11 (dG (cellOf l 10) h0) fun at_ hat eat=>?_
 let S:AV:=.list (l.map .int)
 have s0:∀ {a1 a2:Option AV},ex PR (run PR 39) (.asg 0 (.slc (.v 0) (.k .none) (.k (.int 63)))) [some S,a1,a2,none,none,none,none] [.tab]=.ok (.nxt [some S,a1,a2,none,none,none,none]) [.tab]:=fun {a1 a2}=>by
   refine bc (v:=S) (gU (x:=S) (y:=.none) (w:=.int 63) rfl rfl rfl ?_)
   show (if sizeOk (l.map AV.int).length=true then some (AV.list (((l.map AV.int).drop 0).take (clip (l.map AV.int).length 63 - 0))) else none)=_
   have:clip (l.map AV.int).length 63=l.length:=by
     unfold clip
     rw [if_neg (by decide),List.length_map]
     exact Pr hl
   rw [if_pos (aN (by rw [List.length_map];exact szl hl rfl)),this,List.drop_zero,Nat.sub_zero,List.take_of_length_le (by rw [List.length_map];exact Nat.le_refl _)]
 have s1:=bc (x:=1) (aJ (P:=PR) (ρ:=[some S,none,none,none,none,none,none]) (σ:=[.tab]) (f:=43) (es:=[.v 0]) rfl hrows)
 have s2:=bc (x:=2) (aJ (P:=PR) (ρ:=[some S,some (aB R),none,none,none,none,none]) (σ:=[.tab]) (f:=45) (es:=[.v 1]) rfl hview)
 have s3:ex PR (run PR 39) (.iff (.not (.calls 49 [(.v 2),(.v 1),(.call 42 [(.call 41 [(.v 0),(.k (.int 8))]),(.k (.int 5))]),(.call 42 [(.call 41 [(.v 0),(.k (.int 9))]),(.k (.int 4))])])) [(.ret (.k (.bool false)))] []) [some S,some (aB R),some v,none,none,none,none] [.tab]=.ok (.nxt [some S,some (aB R),some v,none,none,none,none]) [.tab] :=
   aR (v:=.bool false) (Qq (x:=.bool true) (Mi (aP rfl (aP rfl (aP (aJ (aP (aJ rfl (cell_call hl (k:=8) (by decide) 38 _)) rfl) (ph _ (most:=5) (by decide) (by decide) 38 _)) (bz (aJ (aP (aJ rfl (cell_call hl (k:=9) (by decide) 38 _)) rfl) (ph _ (most:=4) (by decide) (by decide) 38 _)))))) hpr) rfl) rfl rfl
 have c1:=uo (P:=PR) (cf:=run PR 39) (ρ:=[some S,some (aB R),some v,none,none,none,none]) (σ:=[.tab]) (R:=R) (s:=2) (own:=[Str.ofString "at",Str.ofString "row"]) (caps:=[2]) (src:=aB R) (it:=.v 1) (elt:=(.call 26 [(.v 2),(.bin .add (.v 0) (.k (.int 1)))])) (y:=fun k=>.str (tOf R k)) (ext:=[some v]) (by exact szl hg rfl) rfl rfl (fun j=>fZ (by rw [bO];exact szl hg rfl) j) fun j r hr hs=>by
   have hj:=(List.getElem?_eq_some_iff.mp hr).1
   have et:tOf R j=r.tx:=by unfold tOf;rw [hr];rfl
   rw [et]
   exact aJ (aP rfl (bz (inc (h:=j) (by exact szl (Nat.le_of_lt (Nat.le_trans hj hg)) rfl) rfl))) (p8 G V hr (by exact QB hs rfl) 33 _)
 have c2:ev PR (run PR 39) [some S,some (aB R),some v,none,none,none,none] (.comp [Str.ofString "row"] [] (.n 0) (.sub (.v 0) (.k (.int 3))) .of (.v 1) [(.cmp (.sub (.v 0) (.k (.int 0))) [.eq] [(.k (.int 2))])]) [.tab]=.ok (.list ((eU R 2).map fun k=>.str (tOf R k))) [.tab]:=by
   rw [mj (xs:=R) (e:=aZ) (b:=fun r=>r.s == 2) (y:=fun r=>.str r.tx) rfl (by exact szt hg rfl) fun r _=>⟨[some (aZ r)],rfl,?_,fun _=>bC (x:=aZ r) (y:=.int 3) rfl rfl rfl⟩,← u9,jF (xs:=R) (g:=fun r=>if (r.s == 2)=true then [.str r.tx] else []) fun i r hr=>?_]
   · rw [hr]
     show (if (r.s == 2)=true then [AV.str (tOf R i)] else [])=_
     unfold tOf
     rw [hr]
     rfl
   · show (ev PR (run PR 39) _ _ [.tab]).bind _=_
     rw [aL (x:=.int r.s) (y:=.int (2:Nat)) (bC (x:=aZ r) (y:=.int 0) rfl rfl rfl) rfl eq_int,dB]
     cases r.s == 2<;>rfl
 have e12:eF (.list ((eU R 2).map fun k=>.str (tOf R k))) (.list ((eU R 2).map fun k=>.str (tOf R k)))=some true:=vd (g:=fun k=>.str (tOf R k)) (fun _=>rfl) (fun _=>rfl) (fun k=>beq_self_eq_true (tOf R k)) _
 have s4:=aR (a:=[(.ret (.k (.bool false)))]) (b:=[]) (r:=.ok (.nxt [some S,some (aB R),some v,none,none,none,none]) [.tab]) (aL c1 c2 (Cw e12)) rfl rfl
 have hF:=fun k=>@yd R 1 k
 have hF2:(eU R 1).length≤R.length:=Nat.le_trans (List.length_filter_le _ _) (by rw [List.length_range];exact Nat.le_refl _)
 have c3:=uo (P:=PR) (cf:=run PR 39) (ρ:=[some S,some (aB R),some v,none,none,none,none]) (σ:=[.tab]) (R:=R) (s:=1) (own:=[Str.ofString "at",Str.ofString "row"]) (caps:=[]) (src:=aB R) (it:=.v 1) (elt:=.v 0) (y:=fun k=>.int k) (ext:=[]) (by exact szl hg rfl) rfl rfl (fun j=>fZ (by rw [bO];exact szl hg rfl) j) fun j r _ _=>rfl
 generalize eU R 1=F at c3 hF hF2
 have s5:ex PR (run PR 39) (.asgt [3,4,5] (.tup [(.comp [Str.ofString "at",Str.ofString "row"] [] (.tu [0,1]) (.v 0) .enum (.v 1) [(.cmp (.sub (.v 1) (.k (.int 0))) [.eq] [(.k (.int 1))])]),(.bin .mod (.call 41 [(.v 0),(.k (.int 10))]) (.bi .len [(.v 1)])),(.lst true [(.k (.int 0))])])) [some S,some (aB R),some v,none,none,none,none] [.tab]=.ok (.nxt [some S,some (aB R),some v,some (.list (F.map fun (k:Nat)=>.int k)),some (.int at_),some (.loc 1),none]) [.tab,.list (([0]:List Nat).map fun (k:Nat)=>.int k)] :=
   d7 (vs:=[.list (F.map fun (k:Nat)=>.int k),.int at_,.loc 1]) (eO (aP c3 (aP (aQ (aJ rfl (cell_call hl (k:=10) (by decide) 38 _)) (bH (vs:=[aB R]) rfl (len_list (by rw [bO];exact szl hg rfl))) ((bmod (by rw [bO];exact inz h0) (by rw [bO];exact szl hg rfl)).trans (by rw [bO,eat]))) rfl))) rfl
 have hu:=M6 G (cf:=run PR 39) (a0:=some S) (a2:=some v) (a3:=some (.list (F.map fun (k:Nat)=>.int k))) (a4:=some (.int at_)) 9 at_ 200 [0] (by exact Nat.le_of_lt (Nat.le_trans hat hg)) (by decide) hat (by decide)
 have c6:=mj (P:=PR) (cf:=run PR 39) (ρ:=[some S,some (aB R),some v,some (.list (F.map fun (k:Nat)=>.int k)),some (.int at_),some (.loc 1),some (.int (0:Nat))]) (σ:=[.tab,.list ((([0]:List Nat)++up R 9 at_).map fun (k:Nat)=>.int k)]) (xs:=F) (e:=fun (k:Nat)=>.int k) (own:=[Str.ofString "other"]) (caps:=[2,4]) (tgt:=.n 0) (it:=.v 3) (ifs:=[]) (elt:=(.call 31 [(.v 1),(.bin .add (.v 2) (.k (.int 1))),(.bin .add (.v 0) (.k (.int 1)))])) (b:=fun _=>true) (y:=fun k=>.bool (isUp R 9 at_ k)) rfl (by exact szt (Nat.le_trans hF2 hg) rfl) fun k hk=>by
   refine o11 (hF k hk) fun r hr _=>?_
   have hk:=(List.getElem?_eq_some_iff.mp hr).1
   exact ⟨[some (.int k),some v,some (.int at_)],rfl,rfl,fun _=>aJ (aP rfl (aP (inc (h:=at_) (by exact szl (Nat.le_of_lt (Nat.le_trans hat hg)) rfl) rfl) (bz (inc (h:=k) (by exact szl (Nat.le_of_lt (Nat.le_trans hk hg)) rfl) rfl)))) (Gi G V (d:=33) hat _)⟩
 have c7:=mj (P:=PR) (cf:=run PR 39) (ρ:=[some S,some (aB R),some v,some (.list (F.map fun (k:Nat)=>.int k)),some (.int at_),some (.loc 1),some (.int (0:Nat))]) (σ:=[.tab,.list ((([0]:List Nat)++up R 9 at_).map fun (k:Nat)=>.int k)]) (xs:=F) (e:=fun (k:Nat)=>.int k) (own:=[Str.ofString "other"]) (caps:=[5]) (tgt:=.n 0) (it:=.v 3) (ifs:=[]) (elt:=(.cmp (.v 0) [.isin] [(.v 1)])) (b:=fun _=>true) (y:=fun k=>.bool (isUp R 9 at_ k)) rfl (by exact szt (Nat.le_trans hF2 hg) rfl) fun k hk =>
   ⟨[some (.int k),some (.loc 1)],rfl,rfl,fun _=>aL (x:=.int k) (y:=.loc 1) rfl rfl ((Pk (l:=[0]++up R 9 at_) rfl).trans (by unfold isUp;rw [List.singleton_append,List.contains_cons]))⟩
 rw [gm] at c6 c7
 have s6:=aY (aL (o:=.eq) c6 c7 (vd (g:=fun k=>.bool (isUp R 9 at_ k)) (fun _=>rfl) (fun _=>rfl) (fun k=>beq_self_eq_true (isUp R 9 at_ k)) _))
 refine ⟨[.tab,.list ((([0]:List Nat)++up R 9 at_).map fun (k:Nat)=>.int k)],?_,rfl⟩
 change (exs PR (run PR 39) Jt.body [some S,none,none,none,none,none,none] [.tab]).bind bh=_
 exact aO (ak s0 (ak s1 (ak s2 (ak s3 (ak s4 (ak s5 (ak (bc rfl) (ak (sW hu) (aX s6)))))))))
end Mine.Law
end
open PySem PySem.W PyProof.Rows PySem.Calls
namespace Mine
theorem fin.tw4576743580672133640:True:=⟨⟩
theorem fin.tw2415902012162501839:True:=⟨⟩
theorem fin.tw14665711169546490834:True:=⟨⟩
theorem fin.tw9825859731914700964:True:=⟨⟩
theorem fin.tw8569027658895312972:True:=⟨⟩
theorem fin.tw3211687289105081006:True:=⟨⟩
theorem fin.tw11587955951900863698:True:=⟨⟩
theorem fin.tw17717364068325071970:True:=⟨⟩
theorem fin.tw1951045429614898598:True:=⟨⟩
theorem fin.tw423345284130997744:True:=⟨⟩
theorem fin.tw7930893340574950883:True:=⟨⟩
theorem fin.tw4312942655851389009:True:=⟨⟩
theorem fin.tw7193555501269276637:True:=⟨⟩
theorem fin.tw2409761835889866131:True:=⟨⟩
theorem fin.tw1195334901915552329:True:=⟨⟩
theorem fin.tw15688172546075569117:True:=⟨⟩
theorem fin.tw10194128795564708546:True:=⟨⟩
theorem fin.tw4209717502836232480:True:=⟨⟩
theorem fin.tw876206183137641144:True:=⟨⟩
theorem fin.tw12586190556516072552:True:=⟨⟩
theorem fin.tw11454252539852477091:True:=⟨⟩
theorem fin.tw7439575562449295702:True:=⟨⟩
theorem fin.tw16175276709679454751:True:=⟨⟩
theorem fin.tw7976502392129159676:True:=⟨⟩
theorem fin.tw16229209127682248589:True:=⟨⟩
theorem fin.tw2512408688544751470:True:=⟨⟩
theorem fin.tw17149882997012438147:True:=⟨⟩
theorem fin.tw7468727024169554154:True:=⟨⟩
theorem fin.tw17923595913812447142:True:=⟨⟩
theorem fin.tw6973266500810094378:True:=⟨⟩
theorem fin.tw3955986520655104412:True:=⟨⟩
theorem fin.tw17896612028031085017:True:=⟨⟩
theorem fin.tw428092273266315144:True:=⟨⟩
theorem fin.tw5805905742469029177:True:=⟨⟩
theorem fin.tw16906536467411238026:True:=⟨⟩
theorem fin.tw9659392335347125073:True:=⟨⟩
theorem fin.tw16510490156224867327:True:=⟨⟩
theorem fin.tw3199103547748192838:True:=⟨⟩
theorem fin.tw544173102793226557:True:=⟨⟩
theorem fin.tw4928979718650693569:True:=⟨⟩
theorem fin.tw1368195344287089692:True:=⟨⟩
theorem fin.tw220677088936066577:True:=⟨⟩
theorem fin.tw13119895379190043232:True:=⟨⟩
theorem fin.tw6058378993454661626:True:=⟨⟩
theorem fin.tw17416127249078093707:True:=⟨⟩
theorem fin.tw14793013804824869981:True:=⟨⟩
theorem fin.tw5285785234609935064:True:=⟨⟩
theorem fin.tw6341822008880759003:True:=⟨⟩
theorem fin.tw1992996095170833049:True:=⟨⟩
theorem fin.tw2067723777617599883:True:=⟨⟩
theorem fin.tw14449560505687523246:True:=⟨⟩
theorem fin.tw1544503264643628384:True:=⟨⟩
theorem fin.tw13199158710529813207:True:=⟨⟩
theorem fin.tw4395496475954998127:True:=⟨⟩
theorem fin.tw15566928917628492161:True:=⟨⟩
theorem fin.tw2277568627679802767:True:=⟨⟩
theorem fin.tw16252508478716706905:True:=⟨⟩
theorem fin.tw7830629276484211593:True:=⟨⟩
theorem fin.tw17430205856086898164:True:=⟨⟩
theorem fin.tw4588413851689716618:True:=⟨⟩
theorem fin.tw10852849658779182186:True:=⟨⟩
theorem fin.tw1128348596072947701:True:=⟨⟩
theorem fin.tw18295790063311454060:True:=⟨⟩
theorem fin.tw4180101509539245183:True:=⟨⟩
theorem fin.tw18004827428879835118:True:=⟨⟩
theorem fin.tw15309079848183770524:True:=⟨⟩
theorem fin.tw17130245016438642246:True:=⟨⟩
theorem fin.tw3112429581023547943:True:=⟨⟩
theorem fin.tw2462912638960843985:True:=⟨⟩
theorem fin.tw828056024939588000:True:=⟨⟩
theorem fin.tw13574545013463194659:True:=⟨⟩
theorem fin.tw5246096745964282443:True:=⟨⟩
theorem fin.tw13175226182763708026:True:=⟨⟩
theorem fin.tw4985728507212818316:True:=⟨⟩
theorem fin.tw5593514722818144331:True:=⟨⟩
theorem fin.tw16697164311477428650:True:=⟨⟩
theorem fin.tw16237762584071213788:True:=⟨⟩
theorem fin.tw4878226113927451544:True:=⟨⟩
theorem fin.tw6766378078585498003:True:=⟨⟩
theorem fin.tw16205109500356779066:True:=⟨⟩
theorem fin.tw7995362448368537469:True:=⟨⟩
theorem fin.tw5250828734511838712:True:=⟨⟩
theorem fin.tw7380833856163905736:True:=⟨⟩
theorem fin.tw5962627729488381771:True:=⟨⟩
theorem fin.tw7514471295317783743:True:=⟨⟩
theorem fin.tw12347537446847802165:True:=⟨⟩
theorem fin.tw3105451386036433885:True:=⟨⟩
theorem fin.tw6718411051458867188:True:=⟨⟩
theorem fin.tw10313180648002132564:True:=⟨⟩
theorem fin.tw10907391636593693970:True:=⟨⟩
theorem fin.tw803859442106103436:True:=⟨⟩
theorem fin.tw7692301277026442203:True:=⟨⟩
theorem fin.tw14075178694198228753:True:=⟨⟩
theorem fin.tw3939050589584296047:True:=⟨⟩
theorem fin.tw16934629359412608497:True:=⟨⟩
theorem fin.tw9297318355482256503:True:=⟨⟩
theorem fin.tw3287281679040846845:True:=⟨⟩
theorem fin.tw945457799607111265:True:=⟨⟩
theorem fin.tw17502855826952124057:True:=⟨⟩
theorem fin.tw4026100201820347962:True:=⟨⟩
theorem fin.tw8261031787919469916:True:=⟨⟩
theorem fin.tw15434440284735832900:True:=⟨⟩
theorem fin.tw10936777179133785780:True:=⟨⟩
theorem fin.tw9725021084223525626:True:=⟨⟩
theorem fin.tw3885313090954376144:True:=⟨⟩
theorem fin.tw14333544728242365436:True:=⟨⟩
theorem fin.tw3598329298470268980:True:=⟨⟩
theorem fin.tw14347400895652799225:True:=⟨⟩
theorem fin.tw15234240111613058569:True:=⟨⟩
theorem fin.tw13021059552284102479:True:=⟨⟩
theorem fin.tw1080700006314346644:True:=⟨⟩
theorem fin.tw7547296005191728479:True:=⟨⟩
theorem fin.tw3974152918291533672:True:=⟨⟩
theorem fin.tw9221430085559818832:True:=⟨⟩
theorem fin.tw10580198807604790814:True:=⟨⟩
theorem fin.tw1921391257341544841:True:=⟨⟩
theorem fin.tw9578429878718019509:True:=⟨⟩
theorem fin.tw15219631101029703214:True:=⟨⟩
theorem fin.tw3432132637015033673:True:=⟨⟩
theorem fin.tw9350873072053368622:True:=⟨⟩
theorem fin.tw3028926083550364057:True:=⟨⟩
theorem fin.tw4100293265295638779:True:=⟨⟩
theorem fin.tw15583698165555649274:True:=⟨⟩
theorem fin.tw14578271805448956485:True:=⟨⟩
theorem fin.tw5367151597262376332:True:=⟨⟩
theorem fin.tw5792265106169080782:True:=⟨⟩
theorem fin.tw4043148821406017626:True:=⟨⟩
theorem fin.tw11192643925408225281:True:=⟨⟩
theorem fin.tw2910385600587045654:True:=⟨⟩
theorem fin.tw10234915967203826555:True:=⟨⟩
theorem fin.tw6449190631224713292:True:=⟨⟩
theorem fin.tw14279960228734115912:True:=⟨⟩
theorem fin.tw15564276425815640635:True:=⟨⟩
theorem fin.tw982560976839675504:True:=⟨⟩
theorem fin.tw9363291351745731410:True:=⟨⟩
theorem fin.tw17186005699333237546:True:=⟨⟩
theorem fin.tw14679806638718605512:True:=⟨⟩
theorem fin.tw3998398428148030388:True:=⟨⟩
theorem fin.tw10782327089294195420:True:=⟨⟩
theorem fin.tw4326780796455107134:True:=⟨⟩
theorem fin.tw12847644182280273618:True:=⟨⟩
theorem fin.tw12946824338688289833:True:=⟨⟩
theorem fin.tw4719063310657182621:True:=⟨⟩
theorem fin.tw10818889477481085253:True:=⟨⟩
theorem fin.tw12711679700452659978:True:=⟨⟩
theorem fin.tw2603282792292808943:True:=⟨⟩
theorem fin.tw3810570522144960214:True:=⟨⟩
theorem fin.tw8416529770105884409:True:=⟨⟩
theorem fin.tw17201370528100623181:True:=⟨⟩
theorem fin.tw6144012678527597917:True:=⟨⟩
theorem fin.tw1422313219903470601:True:=⟨⟩
theorem fin.tw6498334528663615478:True:=⟨⟩
theorem fin.tw15551256590758128950:True:=⟨⟩
theorem fin.tw8643116662766533202:True:=⟨⟩
theorem fin.tw15201286185872193147:True:=⟨⟩
theorem fin.tw9746214513668125432:True:=⟨⟩
theorem fin.tw14541005305830221311:True:=⟨⟩
theorem fin.tw16503470079419688546:True:=⟨⟩
theorem fin.tw4040260094072895976:True:=⟨⟩
theorem fin.tw6577878126316647860:True:=⟨⟩
theorem fin.tw7786677914034681988:True:=⟨⟩
theorem fin.tw2789213428527533208:True:=⟨⟩
theorem fin.tw6848912972918003917:True:=⟨⟩
theorem fin.tw4218790737952374519:True:=⟨⟩
theorem fin.tw10998343915150870288:True:=⟨⟩
theorem fin.tw11401935216078446265:True:=⟨⟩
theorem fin.tw14567605960665976859:True:=⟨⟩
theorem fin.tw7613945582906998725:True:=⟨⟩
theorem fin.tw4924110625330727750:True:=⟨⟩
theorem fin.tw1088692219920020602:True:=⟨⟩
theorem fin.tw14134379338385194387:True:=⟨⟩
theorem fin.tw7613857476909055813:True:=⟨⟩
theorem fin.tw18105942590061964161:True:=⟨⟩
theorem fin.tw12135189313929291683:True:=⟨⟩
theorem fin.tw17570709534508481193:True:=⟨⟩
theorem fin.tw17041991840579044601:True:=⟨⟩
theorem fin.tw7890596953891613788:True:=⟨⟩
theorem fin.tw8119881530291889089:True:=⟨⟩
theorem fin.tw3222278782482380304:True:=⟨⟩
theorem fin.tw12669758225909598566:True:=⟨⟩
theorem fin.tw452785534982262242:True:=⟨⟩
theorem fin.tw17698704350827878285:True:=⟨⟩
theorem fin.tw2656788454239962097:True:=⟨⟩
theorem fin.tw6607577572179491035:True:=⟨⟩
theorem fin.tw1035503724928835527:True:=⟨⟩
theorem fin.tw11227884535216515135:True:=⟨⟩
theorem fin.tw6766580051018981234:True:=⟨⟩
theorem fin.tw15533503492667675913:True:=⟨⟩
theorem fin.tw5071919506433949198:True:=⟨⟩
theorem fin.tw9917203430921899224:True:=⟨⟩
theorem fin.tw17132207802985990308:True:=⟨⟩
theorem fin.tw8166985623705000286:True:=⟨⟩
theorem fin.tw8272817396058243321:True:=⟨⟩
theorem fin.tw14855157385224911753:True:=⟨⟩
theorem fin.tw12751662967071866640:True:=⟨⟩
theorem fin.tw9746901515087519452:True:=⟨⟩
theorem fin.tw3767311804947220896:True:=⟨⟩
theorem fin.tw14658254696389335927:True:=⟨⟩
theorem fin.tw2304379251839397102:True:=⟨⟩
theorem fin.tw3837020019201816242:True:=⟨⟩
theorem fin.tw15675102808854859970:True:=⟨⟩
theorem fin.tw1766193274316824492:True:=⟨⟩
theorem fin.tw5486226609284752418:True:=⟨⟩
theorem fin.tw17662344363894024548:True:=⟨⟩
theorem fin.tw2305881189932309285:True:=⟨⟩
theorem fin.tw6435670951450185984:True:=⟨⟩
theorem fin.tw15734922763202457661:True:=⟨⟩
theorem fin.tw14899709244077398024:True:=⟨⟩
theorem fin.tw1281744992317467088:True:=⟨⟩
theorem fin.tw4144819383078699286:True:=⟨⟩
theorem fin.tw3794220679723124481:True:=⟨⟩
theorem fin.tw5663504974038819100:True:=⟨⟩
theorem fin.tw2103456241558337223:True:=⟨⟩
theorem fin.tw12284014389350100970:True:=⟨⟩
theorem fin.tw8185091604740117843:True:=⟨⟩
theorem fin.tw5115476493328737885:True:=⟨⟩
theorem fin.tw5514125408013525434:True:=⟨⟩
theorem fin.tw8859252945841156987:True:=⟨⟩
theorem fin.tw3788772014149755174:True:=⟨⟩
theorem fin.tw11154830654865731599:True:=⟨⟩
theorem fin.tw12557769604369416430:True:=⟨⟩
theorem fin.tw14111491100615862519:True:=⟨⟩
theorem fin.tw15399907426655090358:True:=⟨⟩
theorem fin.tw9913140749668108558:True:=⟨⟩
theorem fin.tw17406136962360114138:True:=⟨⟩
theorem fin.tw4698916972681325765:True:=⟨⟩
theorem fin.tw8383791847781177783:True:=⟨⟩
theorem fin.tw17861066769153400444:True:=⟨⟩
theorem fin.tw15459455144867644326:True:=⟨⟩
theorem fin.tw16488607150827929282:True:=⟨⟩
theorem fin.tw17656766251404061198:True:=⟨⟩
theorem fin.tw7661832156752021035:True:=⟨⟩
theorem fin.tw8330952907988395303:True:=⟨⟩
theorem fin.tw16103849850496634939:True:=⟨⟩
theorem fin.tw16256441300576474876:True:=⟨⟩
theorem fin.tw7336344344812659824:True:=⟨⟩
theorem fin.tw8288733244629462318:True:=⟨⟩
theorem fin.tw12105171945263650130:True:=⟨⟩
theorem fin.tw5365794240242078838:True:=⟨⟩
theorem fin.tw17067295170570645592:True:=⟨⟩
theorem fin.tw12740692763255036000:True:=⟨⟩
theorem fin.tw3550807849831375056:True:=⟨⟩
theorem fin.tw14018533915963200917:True:=⟨⟩
theorem fin.tw13582292425324344769:True:=⟨⟩
theorem fin.tw16502652511500755:True:=⟨⟩
theorem fin.tw8919302590299486024:True:=⟨⟩
theorem fin.tw4598667867955821814:True:=⟨⟩
theorem fin.tw16115155874713506467:True:=⟨⟩
theorem fin.tw16798467561266328274:True:=⟨⟩
theorem fin.tw17570509445847580414:True:=⟨⟩
theorem fin.tw6531376189190222733:True:=⟨⟩
theorem fin.tw12239064139714945176:True:=⟨⟩
theorem fin.tw9747544060827109212:True:=⟨⟩
theorem fin.tw18373065035072037172:True:=⟨⟩
theorem fin.tw11897717083992391400:True:=⟨⟩
theorem fin.tw18176387895596863783:True:=⟨⟩
theorem fin.tw9722632081671974098:True:=⟨⟩
theorem fin.tw11039862389202566683:True:=⟨⟩
theorem fin.tw2824846461999071874:True:=⟨⟩
theorem fin.tw9437242357050131058:True:=⟨⟩
theorem fin.tw12741526300851653767:True:=⟨⟩
theorem fin.tw3314143786362844604:True:=⟨⟩
theorem fin.tw15741700470354863883:True:=⟨⟩
theorem fin.tw17821466097196317003:True:=⟨⟩
theorem fin.tw846297522682114974:True:=⟨⟩
theorem fin.tw17267618260052754613:True:=⟨⟩
theorem fin.tw2565351972500760935:True:=⟨⟩
theorem fin.tw10599938827571368224:True:=⟨⟩
theorem fin.tw8408514402456403777:True:=⟨⟩
theorem fin.tw16903924287465469464:True:=⟨⟩
theorem fin.tw10708223146118651492:True:=⟨⟩
theorem fin.tw8352470293576582857:True:=⟨⟩
theorem fin.tw17628183408451194143:True:=⟨⟩
theorem fin.tw6525817661751114472:True:=⟨⟩
theorem fin.tw10567028658651823492:True:=⟨⟩
theorem fin.tw7070210977369740762:True:=⟨⟩
theorem fin.tw7282745182861764756:True:=⟨⟩
theorem fin.tw13177410634674063896:True:=⟨⟩
theorem fin.tw16109372258727991565:True:=⟨⟩
theorem fin.tw18404063521330658252:True:=⟨⟩
theorem fin.tw1209720653154232198:True:=⟨⟩
theorem fin.tw5320702786494000081:True:=⟨⟩
theorem fin.tw16912196016219973028:True:=⟨⟩
theorem fin.tw6207176494656529804:True:=⟨⟩
theorem fin.tw1635022588487117616:True:=⟨⟩
theorem fin.tw2516017022742817472:True:=⟨⟩
theorem fin.tw8511326990415419460:True:=⟨⟩
theorem fin.tw18293562643322913751:True:=⟨⟩
theorem fin.tw14297971457927632359:True:=⟨⟩
theorem fin.tw7845872953664198349:True:=⟨⟩
theorem fin.tw7822013112032934038:True:=⟨⟩
theorem fin.tw14210890002308233579:True:=⟨⟩
theorem fin.tw6081921254191324426:True:=⟨⟩
theorem fin.tw3343445320678177929:True:=⟨⟩
theorem fin.tw18082680734076937219:True:=⟨⟩
theorem fin.tw17933470926392208243:True:=⟨⟩
theorem fin.tw9883050511414546368:True:=⟨⟩
theorem fin.tw3373110491918621954:True:=⟨⟩
theorem fin.tw17260493314774615805:True:=⟨⟩
theorem fin.tw7522001649326652513:True:=⟨⟩
theorem fin.tw8947099994592609211:True:=⟨⟩
theorem fin.tw1012361349325877821:True:=⟨⟩
theorem fin.tw4265850918314828415:True:=⟨⟩
theorem fin.tw7055459427971326715:True:=⟨⟩
theorem fin.tw500868675978126160:True:=⟨⟩
theorem fin.tw7348594602126897846:True:=⟨⟩
theorem fin.tw16908780153626456763:True:=⟨⟩
theorem fin.tw7636574776371312073:True:=⟨⟩
theorem fin.tw12868640280835112553:True:=⟨⟩
theorem fin.tw4640724917100965312:True:=⟨⟩
theorem fin.tw16958243865122950064:True:=⟨⟩
theorem fin.tw15679147809431531939:True:=⟨⟩
theorem fin.tw8004206274103572539:True:=⟨⟩
theorem fin.tw14139026862911339306:True:=⟨⟩
theorem fin.tw4013537778516871869:True:=⟨⟩
theorem fin.tw6454446336052903152:True:=⟨⟩
theorem fin.tw18255404467826089762:True:=⟨⟩
theorem fin.tw13469397999491448738:True:=⟨⟩
theorem fin.tw5106123347721008290:True:=⟨⟩
theorem fin.tw4759752924163587094:True:=⟨⟩
theorem fin.tw5266742908149448401:True:=⟨⟩
theorem fin.tw13295704053362595847:True:=⟨⟩
theorem fin.tw12355744275394475900:True:=⟨⟩
theorem fin.tw6815667921103612162:True:=⟨⟩
theorem fin.tw799341379326975648:True:=⟨⟩
theorem fin.tw2896703901015224195:True:=⟨⟩
theorem fin.tw17204297501091165112:True:=⟨⟩
theorem fin.tw7008622114716911220:True:=⟨⟩
theorem fin.tw3236217559460173300:True:=⟨⟩
theorem fin.tw14728723275428758510:True:=⟨⟩
theorem fin.tw15530151957754944063:True:=⟨⟩
theorem fin.tw17743408960866722510:True:=⟨⟩
theorem fin.tw11432402860279490204:True:=⟨⟩
theorem fin.tw6400248389586479577:True:=⟨⟩
theorem fin.tw2885147992704089249:True:=⟨⟩
theorem fin.tw5102460946473063141:True:=⟨⟩
theorem fin.tw8656503046869711584:True:=⟨⟩
theorem fin.tw12212933522069011988:True:=⟨⟩
theorem fin.tw15225332579556243176:True:=⟨⟩
theorem fin.tw11869342324683393730:True:=⟨⟩
theorem fin.tw888132650186811988:True:=⟨⟩
theorem fin.tw13870153662132920491:True:=⟨⟩
theorem fin.tw9643181986401743491:True:=⟨⟩
theorem fin.tw2236755162388048479:True:=⟨⟩
theorem fin.tw2117135873502361916:True:=⟨⟩
theorem fin.tw3008263204520378139:True:=⟨⟩
theorem fin.tw7028063314416541132:True:=⟨⟩
theorem fin.tw15094949803261831281:True:=⟨⟩
theorem fin.tw6968583824967984638:True:=⟨⟩
theorem fin.tw12149302876761508202:True:=⟨⟩
theorem fin.tw8289400949097046189:True:=⟨⟩
theorem fin.tw12237877928780879103:True:=⟨⟩
theorem fin.tw4124276233288881987:True:=⟨⟩
theorem fin.tw3906754673857718949:True:=⟨⟩
theorem fin.tw12809788781938459499:True:=⟨⟩
theorem fin.tw2711489104339610207:True:=⟨⟩
theorem fin.tw2976117146107443816:True:=⟨⟩
theorem fin.tw2086631506510373192:True:=⟨⟩
theorem fin.tw17719728818120068181:True:=⟨⟩
theorem fin.tw807531904560671035:True:=⟨⟩
theorem fin.tw13272504610945704091:True:=⟨⟩
theorem fin.tw373065315874586923:True:=⟨⟩
theorem fin.tw11936995450923721628:True:=⟨⟩
theorem fin.tw14109310954907245088:True:=⟨⟩
theorem fin.tw12464766053444552404:True:=⟨⟩
theorem fin.tw4424551920762525699:True:=⟨⟩
theorem fin.tw11325060847842403200:True:=⟨⟩
theorem fin.tw17465016565071970851:True:=⟨⟩
theorem fin.tw17449020081951674710:True:=⟨⟩
theorem fin.tw15205425988870721313:True:=⟨⟩
theorem fin.tw14856888987745899463:True:=⟨⟩
theorem fin.tw17974384156558142227:True:=⟨⟩
theorem fin.tw4806268862455609328:True:=⟨⟩
theorem fin.tw862447977868951606:True:=⟨⟩
theorem fin.tw2321816554428607280:True:=⟨⟩
theorem fin.tw4950403968356008110:True:=⟨⟩
theorem fin.tw891787732878383699:True:=⟨⟩
theorem fin.tw17637551073024348614:True:=⟨⟩
theorem fin.tw16867096813858660809:True:=⟨⟩
theorem fin.tw4891741927555548563:True:=⟨⟩
theorem fin.tw4170516301191304579:True:=⟨⟩
theorem fin.tw17347454772498655404:True:=⟨⟩
theorem fin.tw13326868189938593150:True:=⟨⟩
theorem fin.tw8053913732961167717:True:=⟨⟩
theorem fin.tw6232080684201472732:True:=⟨⟩
theorem fin.tw16708981103961760564:True:=⟨⟩
theorem fin.tw5741801548637672665:True:=⟨⟩
theorem fin.tw9357874355931990178:True:=⟨⟩
theorem fin.tw16307707646766795581:True:=⟨⟩
theorem fin.tw5372875611105449904:True:=⟨⟩
theorem fin.tw5796354222422608987:True:=⟨⟩
theorem fin.tw9735714214384596553:True:=⟨⟩
theorem fin.tw13278809456085556237:True:=⟨⟩
theorem fin.tw4879674094562380441:True:=⟨⟩
theorem fin.tw2021336271155450331:True:=⟨⟩
theorem fin.tw999798209818781672:True:=⟨⟩
theorem fin.tw17869975865946814897:True:=⟨⟩
theorem fin.tw8660049834305141905:True:=⟨⟩
theorem fin.tw6127190174262240918:True:=⟨⟩
theorem fin.tw6385529401280152062:True:=⟨⟩
theorem fin.tw14239432107786713131:True:=⟨⟩
theorem fin.tw16497079637816224013:True:=⟨⟩
theorem fin.tw3975253019698251321:True:=⟨⟩
theorem fin.tw4992356995671143779:True:=⟨⟩
theorem fin.tw1921165311934587177:True:=⟨⟩
theorem fin.tw2316539691658765527:True:=⟨⟩
theorem fin.tw7673907216620824102:True:=⟨⟩
theorem fin.tw7321584467024264148:True:=⟨⟩
theorem fin.tw2367325634123391141:True:=⟨⟩
theorem fin.tw5734618986648460908:True:=⟨⟩
theorem fin.tw13383306551100868464:True:=⟨⟩
theorem fin.tw18157943996522908948:True:=⟨⟩
theorem fin.tw2671655128345628175:True:=⟨⟩
theorem fin.tw5585719645790517573:True:=⟨⟩
theorem fin.tw7773504467932542270:True:=⟨⟩
theorem fin.tw14574801432027512755:True:=⟨⟩
theorem fin.tw13162651487661262736:True:=⟨⟩
theorem fin.tw6388184931127306564:True:=⟨⟩
theorem fin.tw13294311002278339166:True:=⟨⟩
theorem fin.tw13814004702073501669:True:=⟨⟩
theorem fin.tw114324938638158839:True:=⟨⟩
theorem fin.tw7278507554335971580:True:=⟨⟩
theorem fin.tw7803649310394182010:True:=⟨⟩
theorem fin.tw15279137341521000952:True:=⟨⟩
theorem fin.tw10469515968555745039:True:=⟨⟩
theorem fin.tw12612204703400128841:True:=⟨⟩
theorem fin.tw6566618420281934:True:=⟨⟩
theorem fin.tw1105837973531982728:True:=⟨⟩
theorem fin.tw17701328389417463424:True:=⟨⟩
theorem fin.tw12851234836949525663:True:=⟨⟩
theorem fin.tw16275787546110486726:True:=⟨⟩
theorem fin.tw18387650150990424433:True:=⟨⟩
theorem fin.tw6474043946942992101:True:=⟨⟩
theorem fin.tw10383673109516279431:True:=⟨⟩
theorem fin.tw5227809002895711924:True:=⟨⟩
theorem fin.tw13790858721211988464:True:=⟨⟩
theorem fin.tw12780881840741157306:True:=⟨⟩
theorem fin.tw3752056022367304142:True:=⟨⟩
theorem fin.tw12221555665107904926:True:=⟨⟩
theorem fin.tw5011121235533021005:True:=⟨⟩
theorem fin.tw15590172107835277464:True:=⟨⟩
theorem fin.tw8018989035897545986:True:=⟨⟩
theorem fin.tw3302319216010004292:True:=⟨⟩
theorem fin.tw3293696948919318046:True:=⟨⟩
theorem fin.tw1540340479561020840:True:=⟨⟩
theorem fin.tw9712136527352899355:True:=⟨⟩
theorem fin.tw12696600883282566439:True:=⟨⟩
theorem fin.tw12494888245299231016:True:=⟨⟩
theorem fin.tw8590288500278120515:True:=⟨⟩
theorem fin.tw7021976415091001641:True:=⟨⟩
theorem fin.tw15083174532876359662:True:=⟨⟩
theorem fin.tw13929302177132474383:True:=⟨⟩
theorem fin.tw12962497063298326498:True:=⟨⟩
theorem fin.tw11209750170652599755:True:=⟨⟩
theorem fin.tw12072802829135307789:True:=⟨⟩
theorem fin.tw8472697214298850164:True:=⟨⟩
theorem fin.tw757079261281740938:True:=⟨⟩
theorem fin.tw14431720936831517352:True:=⟨⟩
theorem fin.tw5293390819737331289:True:=⟨⟩
theorem fin.tw3263211703599914710:True:=⟨⟩
theorem fin.tw9524518906428321964:True:=⟨⟩
theorem fin.tw15049546695650249566:True:=⟨⟩
theorem fin.tw14786503066443513839:True:=⟨⟩
theorem fin.tw6113989636485653130:True:=⟨⟩
theorem fin.tw8370555248988390076:True:=⟨⟩
theorem fin.tw17971676594858020690:True:=⟨⟩
theorem fin.tw16192418988078311159:True:=⟨⟩
theorem fin.tw15149952090015108872:True:=⟨⟩
theorem fin.tw12977279227502587607:True:=⟨⟩
theorem fin.tw15373703851562958014:True:=⟨⟩
theorem fin.tw5402249366112354979:True:=⟨⟩
theorem fin.tw12718612220689870738:True:=⟨⟩
theorem fin.tw17801579834951734752:True:=⟨⟩
theorem fin.tw5820466710098277491:True:=⟨⟩
theorem fin.tw9544026089342320630:True:=⟨⟩
theorem fin.tw11040825799340251285:True:=⟨⟩
theorem fin.tw14836742988278344780:True:=⟨⟩
theorem fin.tw824797018042769846:True:=⟨⟩
theorem fin.tw3857263333814641470:True:=⟨⟩
theorem fin.tw9962418760945406050:True:=⟨⟩
theorem fin.tw15989303212955285315:True:=⟨⟩
theorem fin.tw15621619335703214680:True:=⟨⟩
theorem fin.tw15476544859757588837:True:=⟨⟩
theorem fin.tw11471956102464614933:True:=⟨⟩
theorem fin.tw7033882931294258662:True:=⟨⟩
theorem fin.tw10393886385942881009:True:=⟨⟩
theorem fin.tw1346022578215293949:True:=⟨⟩
theorem fin.tw15832999045522443761:True:=⟨⟩
theorem fin.tw11615019562542576733:True:=⟨⟩
theorem fin.tw895571856199123645:True:=⟨⟩
theorem fin.tw17220895691602665673:True:=⟨⟩
theorem fin.tw251868834278440796:True:=⟨⟩
theorem fin.tw8559517257967667466:True:=⟨⟩
theorem fin.tw7470013935711676318:True:=⟨⟩
theorem fin.tw12409915417874342407:True:=⟨⟩
theorem fin.tw3125960719983571848:True:=⟨⟩
theorem fin.tw17495881415371897999:True:=⟨⟩
theorem fin.tw8383268338085895543:True:=⟨⟩
theorem fin.tw15942684835789789487:True:=⟨⟩
theorem fin.tw17512474026176034454:True:=⟨⟩
theorem fin.tw10671828304227620169:True:=⟨⟩
theorem fin.tw12829507556594621215:True:=⟨⟩
theorem fin.tw14345562132136545540:True:=⟨⟩
theorem fin.tw10411508006071892022:True:=⟨⟩
theorem fin.tw8622160174418277736:True:=⟨⟩
theorem fin.tw5901363791540438844:True:=⟨⟩
theorem fin.tw3456623496861543869:True:=⟨⟩
theorem fin.tw3762306804915933987:True:=⟨⟩
theorem fin.tw11277597615667878183:True:=⟨⟩
theorem fin.tw8577089030196625639:True:=⟨⟩
theorem fin.tw7779959011674639804:True:=⟨⟩
theorem fin.tw13066358836101814915:True:=⟨⟩
theorem fin.tw8999559765510592377:True:=⟨⟩
theorem fin.tw1851104065163347196:True:=⟨⟩
theorem fin.tw15243534294739168615:True:=⟨⟩
theorem fin.tw16429022384663243119:True:=⟨⟩
theorem fin.tw10196768644732416780:True:=⟨⟩
theorem fin.tw9038226972742754082:True:=⟨⟩
theorem fin.tw11079828417688620724:True:=⟨⟩
theorem fin.tw4443050520305737185:True:=⟨⟩
theorem fin.tw4898026214463823928:True:=⟨⟩
theorem fin.tw11151619158091525091:True:=⟨⟩
theorem fin.tw9387745189664136937:True:=⟨⟩
theorem fin.tw380778119907437045:True:=⟨⟩
theorem fin.tw6634307039904815820:True:=⟨⟩
theorem fin.tw12118000046449163591:True:=⟨⟩
theorem fin.tw6068950659093879613:True:=⟨⟩
theorem fin.tw17963964198891936676:True:=⟨⟩
theorem fin.tw17784850919643140607:True:=⟨⟩
theorem fin.tw16375469754199864689:True:=⟨⟩
theorem fin.tw14814673180317915700:True:=⟨⟩
theorem fin.tw783483362715066742:True:=⟨⟩
theorem fin.tw10895054467252067526:True:=⟨⟩
theorem fin.tw520194297998822909:True:=⟨⟩
theorem fin.tw12171577908484138354:True:=⟨⟩
theorem fin.tw14468091648759818802:True:=⟨⟩
theorem fin.tw5230622158679508976:True:=⟨⟩
theorem fin.tw1535588207084551279:True:=⟨⟩
theorem fin.tw6846200578177281708:True:=⟨⟩
theorem fin.tw857469055436470443:True:=⟨⟩
theorem fin.tw5678346346211369953:True:=⟨⟩
theorem fin.tw14667941539000003185:True:=⟨⟩
theorem fin.tw6951216239237536575:True:=⟨⟩
theorem fin.tw13412572060209156058:True:=⟨⟩
theorem fin.tw17164383140453370395:True:=⟨⟩
theorem fin.tw12448240930570709186:True:=⟨⟩
theorem fin.tw670465573061467203:True:=⟨⟩
theorem fin.tw4868334931027891882:True:=⟨⟩
theorem fin.tw2537931557510868981:True:=⟨⟩
theorem fin.tw7830602891274557492:True:=⟨⟩
theorem fin.tw9445451236469955387:True:=⟨⟩
theorem fin.tw8331973007464152698:True:=⟨⟩
theorem fin.tw8614737586434602478:True:=⟨⟩
theorem fin.tw3810338749695602999:True:=⟨⟩
theorem fin.tw16771295499568265973:True:=⟨⟩
theorem fin.tw10939691994893167182:True:=⟨⟩
theorem fin.tw16584127079891442865:True:=⟨⟩
theorem fin.tw3863403702602939814:True:=⟨⟩
theorem fin.tw11462241541112437924:True:=⟨⟩
theorem fin.tw15815952407149668801:True:=⟨⟩
theorem fin.tw9509447333196811905:True:=⟨⟩
theorem fin.tw7684487725183542926:True:=⟨⟩
theorem fin.tw4145619633490157487:True:=⟨⟩
theorem fin.tw6878024787957991413:True:=⟨⟩
theorem fin.tw5555312102172926907:True:=⟨⟩
theorem fin.tw12833947400113492166:True:=⟨⟩
theorem fin.tw3268265519342814607:True:=⟨⟩
theorem fin.tw16401934584784274106:True:=⟨⟩
theorem fin.tw8269367382603917829:True:=⟨⟩
theorem fin.tw7675655780812522254:True:=⟨⟩
theorem fin.tw13158425560686309300:True:=⟨⟩
theorem fin.tw480829909506669009:True:=⟨⟩
theorem fin.tw16530489862217454893:True:=⟨⟩
theorem fin.tw16145351769185666540:True:=⟨⟩
theorem fin.tw6380807493870290408:True:=⟨⟩
theorem fin.tw333583748066197110:True:=⟨⟩
theorem fin.tw1666694428299288667:True:=⟨⟩
theorem fin.tw4329306826757983850:True:=⟨⟩
theorem fin.tw13523910257889291827:True:=⟨⟩
theorem fin.tw12996517811204074000:True:=⟨⟩
theorem fin.tw9260378047223084069:True:=⟨⟩
theorem fin.tw10696652717036330658:True:=⟨⟩
theorem fin.tw2775396313129547428:True:=⟨⟩
theorem fin.tw6485783843944922600:True:=⟨⟩
theorem fin.tw3558005061807245919:True:=⟨⟩
theorem fin.tw7844069586390513008:True:=⟨⟩
theorem fin.tw4570111826955561243:True:=⟨⟩
theorem fin.tw17362494058136835672:True:=⟨⟩
theorem fin.tw5679570950571409650:True:=⟨⟩
theorem fin.tw1976505206021243879:True:=⟨⟩
theorem fin.tw5647864574477489665:True:=⟨⟩
theorem fin.tw15144710454662140524:True:=⟨⟩
theorem fin.tw10874316729293906858:True:=⟨⟩
theorem fin.tw7249652514872940865:True:=⟨⟩
theorem fin.tw1903126291601959907:True:=⟨⟩
theorem fin.tw14943911441677524827:True:=⟨⟩
theorem fin.tw15238337123492228519:True:=⟨⟩
theorem fin.tw10699407837109476802:True:=⟨⟩
theorem fin.tw11906472874536768445:True:=⟨⟩
theorem fin.tw4613182775407389354:True:=⟨⟩
theorem fin.tw11414674201277728305:True:=⟨⟩
theorem fin.tw8896352889252549814:True:=⟨⟩
theorem fin.tw13925877587632400325:True:=⟨⟩
theorem fin.tw11298980531735778240:True:=⟨⟩
theorem fin.tw11953781441336167498:True:=⟨⟩
theorem fin.tw1580780407708033493:True:=⟨⟩
theorem fin.tw1397303283331804279:True:=⟨⟩
theorem fin.tw18164189302063226315:True:=⟨⟩
theorem fin.tw8126443298418566877:True:=⟨⟩
theorem fin.tw17109930996152030393:True:=⟨⟩
theorem fin.tw16570786720924097770:True:=⟨⟩
theorem fin.tw13269335036638107504:True:=⟨⟩
theorem fin.tw1014637456484912126:True:=⟨⟩
theorem fin.tw1202912048536075021:True:=⟨⟩
theorem fin.tw10925335251469727208:True:=⟨⟩
theorem fin.tw7267163888087337239:True:=⟨⟩
theorem fin.tw7929640520542984453:True:=⟨⟩
theorem fin.tw884059145510264010:True:=⟨⟩
theorem fin.tw2441168790927817222:True:=⟨⟩
theorem fin.tw17911201065640838737:True:=⟨⟩
theorem fin.tw3004984022683251337:True:=⟨⟩
theorem fin.tw1613116972386908190:True:=⟨⟩
theorem fin.tw7177338460636591580:True:=⟨⟩
theorem fin.tw13718649260633737024:True:=⟨⟩
theorem fin.tw8399098705505230059:True:=⟨⟩
theorem fin.tw16269368082590959529:True:=⟨⟩
theorem fin.tw5897612983314593646:True:=⟨⟩
theorem fin.tw5776136370200156792:True:=⟨⟩
theorem fin.tw8465276812761224699:True:=⟨⟩
theorem fin.tw8668149382578428375:True:=⟨⟩
theorem fin.tw4754365596532378047:True:=⟨⟩
theorem fin.tw16285329926789087883:True:=⟨⟩
theorem fin.tw1344375218359569892:True:=⟨⟩
theorem fin.tw4788878847521262168:True:=⟨⟩
theorem fin.tw10875463905939285979:True:=⟨⟩
theorem fin.tw14245171486683049214:True:=⟨⟩
theorem fin.tw10242451874928486539:True:=⟨⟩
theorem fin.tw9059937348426287209:True:=⟨⟩
theorem fin.tw12869217540446652890:True:=⟨⟩
theorem fin.tw15069271281064182630:True:=⟨⟩
theorem fin.tw1819255440876223710:True:=⟨⟩
theorem fin.tw8088732932480780420:True:=⟨⟩
theorem fin.tw17197158672614542318:True:=⟨⟩
theorem fin.tw6455845175183424153:True:=⟨⟩
theorem fin.tw6214469639950668122:True:=⟨⟩
theorem fin.tw12876116671307685997:True:=⟨⟩
set_option Elab.async true
theorem fin:PySem.Challenge.rw_pb0587_01.Holds:=by
 w_on
 o_law
 k_head
 (case hw=>w_witness2)
 refine Fe rfl (fun P=>?_) (fun l hl=>Law.law hl)
 exact { cls:=by kernel_rfl,fns:=by kernel_rfl,inits:=by kernel_rfl,meths:=by kernel_rfl,excs:=by kernel_rfl,keep:=by kernel_rfl,hd:=by kernel_rfl,fnb:=by kernel_rfl,
         chk:=fun f hf=>range_all (n:=51) (by kernel_rfl) hf,
         b1:=fun a S=>by kernel_rfl,b2:=fun a b S=>by kernel_rfl,b3:=fun a b c S=>by kernel_rfl,b4:=fun a b c d S=>by kernel_rfl,b5:=fun a b c d e S=>by kernel_rfl,b8:=fun a b c d e f g h S=>by kernel_rfl,
         lits:=⟨by kernel_rfl,by kernel_rfl,by kernel_rfl,by kernel_rfl⟩,
         tb:=by kernel_rfl,xb:=by kernel_rfl,tf:=by kernel_rfl,xf:=by kernel_rfl,ta:=fun a=>by kernel_rfl,xa:=fun a v=>by kernel_rfl,nt:=by kernel_rfl,gl:=by kernel_rfl }
end Mine
theorem PySem.Challenge.cw_pb0587_01_holds : PySem.Challenge.rw_pb0587_01.Holds :=
 Mine.fin
